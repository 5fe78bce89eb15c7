import PyProof.Rows.All
import HandS.ForMost
import HandS.ForExc
import HandS.IsInst
import HandS.SortInts
import HandS.DictComp
import HandS.Wide
import HandS.WideBits
import HandS.Style
import HandS.Deep
import KE.KSorted
import HandS.ExcOwn
import HandS.Small
import HandS.Zip
import HandS.Conv
import HandS.OwnEq
import HandS.WordsExc
import HandS.Ends
import PySem.Challenge.RW_sparecells_k03_whole_recipes
set_option Elab.async false
set_option linter.all false
/-! A small language of our own: values by number, syntax without places, a deterministic evaluator. -/
namespace SL
open PySem

/-- values: an object by its number -/
inductive AV where
  | non | bl (b : Bool) | int (i : Int) | str (x : Str) | ref (n : Nat) | ty (x : String) | glob (x : Str)
  deriving DecidableEq, Inhabited
abbrev AKey := Sum Int Str
/-- objects -/
inductive AO where
  | lst (xs : List AV) | fro (xs : List AV) | tup (xs : List AV) | dic (kvs : List (AKey × AV)) | ins (C : Str) (fs : List (Str × AV)) | exc (C : Str) (fs : List (Str × AV))
  /-- a dict that keeps what has been counted for a row of masks -/
  | memo (ms : List Int) (kvs : List (AKey × AV))
  deriving Inhabited
abbrev AH := List AO
abbrev ASt := List (Option AV)
/-- what an evaluation gives -/
inductive R (α : Type) where
  | ok (a : α) (h : AH) | exc (C : Str) (fs : List (Str × AV)) (h : AH) | bad
/-- what a statement gives -/
inductive Fl where
  | nx (σ : ASt) (h : AH) | rt (v : AV) (h : AH) | bk (σ : ASt) (h : AH) | ct (σ : ASt) (h : AH) | exc (C : Str) (fs : List (Str × AV)) (σ : ASt) (h : AH) | bad
def R.bind {α β : Type} (r : R α) (f : α → AH → R β) : R β := match r with
  | .ok a h => f a h
  | .exc C fs h => .exc C fs h
  | .bad => .bad
theorem R.bind_assoc {α β γ : Type} (r : R α) (f : α → AH → R β) (g : β → AH → R γ) : (r.bind f).bind g = r.bind fun a h => (f a h).bind g := by
  cases r <;> rfl
def R.toFl {α : Type} (r : R α) (σ : ASt) (f : α → AH → Fl) : Fl := match r with
  | .ok a h => f a h
  | .exc C fs h => .exc C fs σ h
  | .bad => .bad
def Fl.next (r : Fl) (f : ASt → AH → Fl) : Fl := match r with
  | .nx σ h => f σ h
  | r => r
/-- where no exception may come -/
def R.calm {α : Type} (r : R α) : R α := match r with
  | .ok a h => .ok a h
  | _ => .bad
def R.opt {α : Type} (o : Option α) (h : AH) : R α := match o with
  | some a => .ok a h
  | none => .bad

inductive Blt where
  | len | sum | max | min | all | any | list | tuple | dict | sorted | int | range | enumerate | zip | isinstance
  deriving DecidableEq, Inhabited
inductive Mth where
  | append | pop | index | insert | extend | count | get | update | remove | clear | bit_length | join | split
  deriving DecidableEq, Inhabited
/-- syntax -/
inductive T where
  | non | bl (b : Bool) | int (i : Int) | str (x : Str)
  | var (i : Nat) | glob (x : Str) | ty (x : String)
  | bin (op : Operator) (a b : T) | neg (a : T) | inv (a : T) | nt (a : T)
  | and (a b : T) | or (a b : T)
  | cmp (op : CmpOp) (a b : T) | chain (op op' : CmpOp) (a b c : T)
  | ite (c a b : T)
  | lst (es : T) | tup (es : T) | dic (es : T)
  | callF (f : Str) (es : T) | callC (C : Str) (es : T) | callB (f : Blt) (es : T)
  | meth (o : T) (m : Mth) (es : T) | methO (o : T) (m : Str) (es : T)
  | fld (o : T) (x : Str)
  | ix (a b : T) | slc (a lo hi : T) | rev (a : T) | lrange (es : T)
  | comp (elt tg it cond : T) (own : List Nat)
  | comp2 (elt tg it cond tg1 it1 cond1 : T) (own own1 : List Nat)
  | dcomp (k v tg it cond : T) (own : List Nat)
  | dcomp2 (k v tg it cond tg1 it1 cond1 : T) (own own1 : List Nat)
  | nil | cons (e es : T) | star (e es : T)
  | skip | pSome (e : T)
  -- tests
  | tAnd (a b : T) | tOr (a b : T) | tNot (a : T) | tVal (e : T) | tYes
  -- what is walked
  | iSeq (e : T) | iRng1 (es : T) | iRng2 (es : T) | iEnm (e : T) | iZip (a b : T)
  -- targets
  | tName (i : Nat) | tTup (ts : T) | tSub (o i : T) | tFld (o : T) (x : Str)
  | expr (e : T) | ret (e : T) | asg (tg e : T) | aug (i : Nat) (op : Operator) (e : T)
  | iff (c a b : T) | for (tg it b : T) | whl (c b : T) | raise (C : Str) (es : T) | tryAs (b : T) (C : Str) (i : Nat) (s : T)
  | done | seq (a b : T) | brk | cont | par (is : List Nat) (es : T)
  deriving Inhabited

/-- a def: its slots, its parameters, its body -/
structure FD where
  nS : Nat
  ps : Nat
  body : T
/-- a class of one's own: its maker, its methods -/
structure CD where
  init : Option Str
  meth : List (Str × Str)
  flds : List Str
  deriving Inhabited
/-- err: an exception's class: none: no field; some x: made of one argument, which is None if it is left out, kept in the field x -/
structure Env where
  fns : Str → Option FD
  cls : Str → Option CD
  err : Str → Option (Option Str)
  sub : Str → Str → Option Bool
  subB : Str → String → Option Bool
  subT : String → Str → Option Bool

/-! ### values -/
def truth (h : AH) : AV → Option Bool
  | .non => some false
  | .bl b => some b
  | .int i => some (i != 0)
  | .str x => if x.length ≤ sizeLine then some ((x.length : Int) != 0) else none
  | .ref n => match h[n]? with
    | some (.lst xs) => some (!xs.isEmpty)
    | some (.tup xs) => some (!xs.isEmpty)
    | some (.dic kvs) => some (!kvs.isEmpty)
    | _ => none
  | _ => none
def R.new (o : AO) (h : AH) : R AV := .ok (.ref h.length) (h ++ [o])
def newLst (xs : List AV) (h : AH) : R AV := if xs.length ≤ sizeLine then R.new (.lst xs) h else .bad
def newTup (xs : List AV) (h : AH) : R AV := if xs.length ≤ sizeLine then R.new (.tup xs) h else .bad
def tupOf (h : AH) : AV → Option (List AV)
  | .ref n => match h[n]? with
    | some (.tup xs) => some xs
    | _ => none
  | _ => none
def lstOf (h : AH) : AV → Option (List AV)
  | .ref n => match h[n]? with
    | some (.lst xs) => some xs
    | some (.fro xs) => some xs
    | _ => none
  | _ => none
def keyOf : AV → Option AKey
  | .int i => some (.inl i)
  | .str x => some (.inr x)
  | _ => none
def keyV : AKey → AV
  | .inl i => .int i
  | .inr x => .str x
def valK (kvs : List (AKey × AV)) (k : AKey) : Option AV := (kvs.find? fun kv => decide (kv.1 = k)).map (·.2)
def putK (kvs : List (AKey × AV)) (k : AKey) (v : AV) : List (AKey × AV) :=
  if (kvs.any fun kv => decide (kv.1 = k)) = true then kvs.map (fun kv => if kv.1 = k then (kv.1, v) else kv) else kvs ++ [(k, v)]
/-- data, as far as lists and tuples of scalars reach -/
def toD : Nat → AH → AV → Option PyData
  | _, _, .non => some .none
  | _, _, .bl b => some (.bool b)
  | _, _, .int i => some (.int i)
  | _, _, .str x => some (.str x)
  | 0, _, .ref _ => none
  | k + 1, h, .ref n => match h[n]? with
    | some (.lst xs) => (xs.mapM (toD k h)).map .list
    | some (.tup xs) => (xs.mapM (toD k h)).map .tuple
    | _ => none
  | _, _, .ty _ => none
  | _, _, .glob _ => none
def eqA (h : AH) (x y : AV) : Option Bool := match toD 40 h x, toD 40 h y with
  | some d, some e => if SeqAt.shaped d = true ∧ SeqAt.shaped e = true then some (PyData.eqv d e) else none
  | _, _ => none
def scalar : AV → Bool
  | .non => true | .bl _ => true | .int _ => true | .str _ => true | _ => false
def inA (h : AH) (x : AV) (y : AV) : Option Bool := match y with
  | .ref n => match h[n]? with
    | some (.dic kvs) => (keyOf x).map fun k => (valK kvs k).isSome
    | some (.memo _ kvs) => (keyOf x).map fun k => (valK kvs k).isSome
    | _ => match toD 40 h x, toD 40 h (.ref n) with
      | some d, some (.list ds) => if SeqAt.shaped d = true ∧ SeqAt.shaped (.list ds) = true then some (ds.any fun z => PyData.eqv z d) else none
      | _, _ => none
  | _ => none
def intsOf : List AV → Option (List Int)
  | [] => some []
  | .int i :: r => (intsOf r).map (i :: ·)
  | _ :: _ => none
def boolsOf : List AV → Option (List Bool)
  | [] => some []
  | .bl i :: r => (boolsOf r).map (i :: ·)
  | _ :: _ => none
def CMulB (i j : Int) : Bool := (decide (-(2 ^ 64) < i) && decide (i < 2 ^ 64)) || (decide (-(2 ^ 64) < j) && decide (j < 2 ^ 64))
def binA (op : Operator) (x y : AV) (h : AH) : R AV := match x, y with
  | .int i, .int j => match op with
    | .Add => .ok (.int (i + j)) h
    | .Sub => .ok (.int (i - j)) h
    | .Mult => if CMulB i j = true then .ok (.int (i * j)) h else .bad
    | .FloorDiv => if 0 < j ∧ j < 1073741824 then .ok (.int (i / j)) h else .bad
    | .Mod => if 0 < j then .ok (.int (i % j)) h else .bad
    | .Pow => if 0 ≤ j ∧ (Builtin.Int.intBits i : Int) * j ≤ 2 ^ 27 then .ok (.int (i ^ j.toNat)) h else .bad
    | .LShift => if 0 ≤ j ∧ j ≤ 1000000 ∧ i.natAbs < 2 ^ 64 then .ok (.int (i * 2 ^ j.toNat)) h else .bad
    | .RShift => if 0 ≤ j then .ok (.int (i / 2 ^ j.toNat)) h else .bad
    | .BitAnd => .ok (.int (Builtin.bitAnd i j)) h
    | .BitOr => .ok (.int (Builtin.bitOr i j)) h
    | .BitXor => .ok (.int (Builtin.bitXor i j)) h
    | _ => .bad
  | .ref n, .ref m => match op, h[n]?, h[m]? with
    | .Add, some (.lst xs), some (.lst ys) => newLst (xs ++ ys) h
    | _, _, _ => .bad
  | .ref n, .int k => match op, h[n]? with
    | .Mult, some (.lst xs) => if -(2 ^ 63) ≤ k ∧ k < 2 ^ 63 then newLst (List.replicate k.toNat xs).flatten h else .bad
    | _, _ => .bad
  | .str i, .str j => match op with
    | .Add => if i.length + j.length ≤ sizeLine then .ok (.str (i ++ j)) h else .bad
    | _ => .bad
  | _, _ => .bad
def augA (op : Operator) (x y : AV) (h : AH) : R AV := match x, y with
  | .int _, .int _ => binA op x y h
  | .str _, .str _ => binA op x y h
  | _, _ => .bad
def negA (x : AV) (h : AH) : R AV := match x with
  | .int i => .ok (.int (-i)) h
  | _ => .bad
def invA (x : AV) (h : AH) : R AV := match x with
  | .int i => .ok (.int (Builtin.bitNot i)) h
  | _ => .bad
def cmpA (op : CmpOp) (x y : AV) (h : AH) : R AV := match op with
  | .Eq => R.opt ((eqA h x y).map .bl) h
  | .NotEq => R.opt ((eqA h x y).map fun b => .bl (!b)) h
  | .Lt => match x, y with
    | .int i, .int j => .ok (.bl (decide (i < j))) h
    | _, _ => .bad
  | .LtE => match x, y with
    | .int i, .int j => .ok (.bl (decide (i ≤ j))) h
    | _, _ => .bad
  | .Gt => match x, y with
    | .int i, .int j => .ok (.bl (decide (j < i))) h
    | _, _ => .bad
  | .GtE => match x, y with
    | .int i, .int j => .ok (.bl (decide (j ≤ i))) h
    | _, _ => .bad
  | .Is => match y with
    | .non => .ok (.bl (decide (x = .non))) h
    | _ => .bad
  | .IsNot => match y with
    | .non => .ok (.bl (!decide (x = .non))) h
    | _ => .bad
  | .In => R.opt ((inA h x y).map .bl) h
  | .NotIn => R.opt ((inA h x y).map fun b => .bl (!b)) h
/-- the type of a value, by a word: a built-in class or one of one's own -/
inductive Ty where
  | b (n : String) | own (C : Str)
  deriving DecidableEq
def tyOf (G : Env) (h : AH) : AV → Option Ty
  | .non => some (.b "NoneType")
  | .bl _ => some (.b "bool")
  | .int _ => some (.b "int")
  | .str _ => some (.b "str")
  | .ref n => match h[n]? with
    | some (.lst _) => some (.b "list")
    | some (.tup _) => some (.b "tuple")
    | some (.dic _) => some (.b "dict")
    | some (.ins C _) => if (G.cls C).isSome = true then some (.own C) else none
    | _ => none
  | _ => none
def isOne (G : Env) (t : Ty) (c : AV) : Option Bool := match c with
  | .ty n => match t with
    | .b m => L2.kitB m n
    | .own C => G.subB C n
  | .glob D => match t with
    | .b m => G.subT m D
    | .own C => G.sub C D
  | _ => none
def isAny (G : Env) (t : Ty) : List AV → Option Bool
  | [] => some false
  | c :: cs => match isOne G t c, isAny G t cs with
    | some b, some d => some (b || d)
    | _, _ => none
def cutA (xs : List AV) (lo hi : Option Int) : List AV := (xs.drop (HT.sIx xs.length 0 lo)).take (HT.sIx xs.length xs.length hi - HT.sIx xs.length 0 lo)
def slcA (x : AV) (lo hi : Option Int) (h : AH) : R AV := match lstOf h x with
  | some xs => newLst (cutA xs lo hi) h
  | none => .bad
def revA (x : AV) (h : AH) : R AV := match lstOf h x with
  | some xs => newLst xs.reverse h
  | none => .bad
def ixA (x y : AV) (h : AH) : R AV := match x, y with
  | .ref n, .int i => match h[n]? with
    | some (.lst xs) => R.opt (L2.atI xs i) h
    | some (.tup xs) => R.opt (L2.atI xs i) h
    | some (.dic kvs) => R.opt (valK kvs (.inl i)) h
    | some (.memo _ kvs) => R.opt (valK kvs (.inl i)) h
    | _ => .bad
  | .ref n, .str x => match h[n]? with
    | some (.dic kvs) => R.opt (valK kvs (.inr x)) h
    | _ => .bad
  | _, _ => .bad
def insI (a : Int) : List Int → List Int
  | [] => [a]
  | b :: r => if a ≤ b then a :: b :: r else b :: insI a r
def isort (l : List Int) : List Int := l.foldr insI []
def pairsOf (h : AH) : List AV → Option (List (AKey × AV))
  | [] => some []
  | .ref n :: r => match h[n]? with
    | some (.tup [k, v]) => match keyOf k, pairsOf h r with
      | some k, some q => some ((k, v) :: q)
      | _, _ => none
    | _ => none
  | _ :: _ => none
def keyInts (kvs : List (AKey × AV)) : Option (List Int) := intsOf (kvs.map fun kv => keyV kv.1)
/-! ### built-in functions and types, by values -/
def lenA (v : AV) (h : AH) : R AV := match v with
  | .ref n => match h[n]? with
    | some (.lst xs) => .ok (.int xs.length) h
    | some (.fro xs) => .ok (.int xs.length) h
    | some (.tup xs) => .ok (.int xs.length) h
    | some (.dic kvs) => .ok (.int kvs.length) h
    | _ => .bad
  | .str x => if x.length ≤ sizeLine then .ok (.int x.length) h else .bad
  | _ => .bad
def sumA (v : AV) (h : AH) : R AV := match (lstOf h v).bind intsOf with
  | some ns => .ok (.int ns.sum) h
  | none => .bad
def allA (v : AV) (h : AH) : R AV := match (lstOf h v).bind boolsOf with
  | some bs => .ok (.bl (bs.all id)) h
  | none => .bad
def anyA (v : AV) (h : AH) : R AV := match (lstOf h v).bind boolsOf with
  | some bs => .ok (.bl (bs.any id)) h
  | none => .bad
def listA (v : AV) (h : AH) : R AV := match v with
  | .ref n => match h[n]? with
    | some (.lst xs) => newLst xs h
    | some (.fro xs) => newLst xs h
    | some (.tup xs) => newLst xs h
    | some (.dic kvs) => newLst (kvs.map fun kv => keyV kv.1) h
    | _ => .bad
  | _ => .bad
def tupleA (v : AV) (h : AH) : R AV := match v with
  | .ref n => match h[n]? with
    | some (.lst xs) => newTup xs h
    | some (.tup _) => .ok (.ref n) h
    | _ => .bad
  | _ => .bad
def mergeKs (kvs : List (AKey × AV)) : List (AKey × AV) := kvs.foldl (fun acc kv => putK acc kv.1 kv.2) []
def dictA (v : AV) (h : AH) : R AV := match lstOf h v with
  | some xs => match pairsOf h xs with
    | some kvs => R.new (.dic (mergeKs kvs)) h
    | none => .bad
  | none => .bad
def sortedA (v : AV) (h : AH) : R AV := match v with
  | .ref n => match h[n]? with
    | some (.lst xs) => match intsOf xs with
      | some ns => R.new (.lst ((isort ns).map .int)) h
      | none => .bad
    | some (.dic kvs) => match keyInts kvs with
      | some ns => if ns.length < 64 then R.new (.lst ((isort ns).map .int)) h else .bad
      | none => .bad
    | _ => .bad
  | _ => .bad
def intA (v : AV) (h : AH) : R AV := match v with
  | .int i => .ok (.int i) h
  | .bl b => .ok (.int (if b then 1 else 0)) h
  | _ => .bad
def maxA (v w : AV) (h : AH) : R AV := match v, w with
  | .int i, .int j => .ok (.int (if j > i then j else i)) h
  | _, _ => .bad
def minA (v w : AV) (h : AH) : R AV := match v, w with
  | .int i, .int j => .ok (.int (if j < i then j else i)) h
  | _, _ => .bad
def isiA (G : Env) (x c : AV) (h : AH) : R AV := match tyOf G h x with
  | some t => match c with
    | .ref n => match h[n]? with
      | some (.tup cs) => R.opt ((isAny G t cs).map .bl) h
      | _ => .bad
    | c => R.opt ((isOne G t c).map .bl) h
  | none => .bad
def bltA (G : Env) (f : Blt) (vs : List AV) (h : AH) : R AV := match vs with
  | [v] => match f with
    | .len => lenA v h
    | .sum => sumA v h
    | .all => allA v h
    | .any => anyA v h
    | .list => listA v h
    | .tuple => tupleA v h
    | .dict => dictA v h
    | .sorted => sortedA v h
    | .int => intA v h
    | _ => .bad
  | [v, w] => match f with
    | .max => maxA v w h
    | .min => minA v w h
    | .isinstance => isiA G v w h
    | _ => .bad
  | _ => .bad
/-- methods of built-in types, by values -/
def recvOk (m : Mth) (o : AV) (h : AH) : Bool := match o with
  | .ref n => match h[n]?, m with
    | some (.lst _), .append => true
    | some (.lst _), .pop => true
    | _, _ => false
  | .int _ => match m with
    | .bit_length => true
    | _ => false
  | _ => false
def mthA (m : Mth) (o : AV) (vs : List AV) (h : AH) : R AV := match o with
  | .ref n => match h[n]?, m, vs with
    | some (.lst xs), .append, [v] => if xs.length < sizeLine then .ok .non (h.set n (.lst (xs ++ [v]))) else .bad
    | some (.lst xs), .pop, [] => match xs[xs.length - 1]? with
      | some y => .ok y (h.set n (.lst xs.dropLast))
      | none => .bad
    | _, _, _ => .bad
  | .int i => match m, vs with
    | .bit_length, [] => .ok (.int (Builtin.Int.intBits i : Nat)) h
    | _, _ => .bad
  | _ => .bad
/-! ### what is walked -/
inductive It where
  | lsq (n : Nat) | tsq (n : Nat) | rng (lo : Int) (k : Nat) | enm (n : Nat) | zip (n m : Nat) | zipT (n m : Nat)
def zipAt (xs ys : List AV) (i : Nat) (h : AH) : Option (AV × AH) := match xs[i]?, ys[i]? with
  | some x, some y => some (.ref h.length, h ++ [.tup [x, y]])
  | _, _ => none
/-- none: no walk; some none: at its end -/
def itNext (it : It) (i : Nat) (h : AH) : Option (Option (AV × AH)) := match it with
  | .lsq n => (lstOf h (.ref n)).map fun xs => xs[i]?.map fun x => (x, h)
  | .tsq n => (tupOf h (.ref n)).map fun xs => xs[i]?.map fun x => (x, h)
  | .rng lo k => some (if i < k then some (.int (lo + i), h) else none)
  | .enm n => (lstOf h (.ref n)).map fun xs => xs[i]?.map fun x => (.ref h.length, h ++ [.tup [.int i, x]])
  | .zip n m => match lstOf h (.ref n), lstOf h (.ref m) with
    | some xs, some ys => some (zipAt xs ys i h)
    | _, _ => none
  | .zipT n m => match tupOf h (.ref n), tupOf h (.ref m) with
    | some xs, some ys => some (zipAt xs ys i h)
    | _, _ => none
def rng1A (vs : List AV) (h : AH) : R It := match vs with
  | [.int j] => if -(2 ^ 62) ≤ j ∧ j < 2 ^ 62 then .ok (.rng 0 j.toNat) h else .bad
  | _ => .bad
def rng2A (vs : List AV) (h : AH) : R It := match vs with
  | [.int i, .int j] => if -(2 ^ 62) ≤ i ∧ i < 2 ^ 62 ∧ -(2 ^ 62) ≤ j ∧ j < 2 ^ 62 then .ok (.rng i (j - i).toNat) h else .bad
  | _ => .bad
def wipe (σ : ASt) : List Nat → ASt
  | [] => σ
  | v :: vs => (wipe σ vs).set v none
def bigW : Nat := 1000000000000

/-- for -/
def forL (it : It) (tg : AV → ASt → AH → R ASt) (body : ASt → AH → Fl) : Nat → Nat → ASt → AH → Fl
  | 0, _, _, _ => .bad
  | f + 1, i, σ, h => match itNext it i h with
    | none => .bad
    | some none => .nx σ h
    | some (some (v, h1)) => (tg v σ h1).toFl σ fun σ1 h2 => match body σ1 h2 with
      | .nx σ2 h3 => forL it tg body f (i + 1) σ2 h3
      | .ct σ2 h3 => forL it tg body f (i + 1) σ2 h3
      | .bk σ2 h3 => .nx σ2 h3
      | r => r
/-- while -/
def whlL (c : ASt → AH → R Bool) (body : ASt → AH → Fl) : Nat → ASt → AH → Fl
  | 0, _, _ => .bad
  | f + 1, σ, h => (c σ h).toFl σ fun b h1 => if b = true then (match body σ h1 with
      | .nx σ2 h3 => whlL c body f σ2 h3
      | .ct σ2 h3 => whlL c body f σ2 h3
      | .bk σ2 h3 => .nx σ2 h3
      | r => r) else .nx σ h1
/-- a comprehension's loop; put: what a turn's value does -/
def compL (it : It) (turn : AV → AH → R Unit) : Nat → Nat → AH → R Unit
  | 0, _, _ => .bad
  | f + 1, i, h => match itNext it i h with
    | none => .bad
    | some none => .ok () h
    | some (some (v, h1)) => (turn v h1).bind fun _ h2 => compL it turn f (i + 1) h2
def putLst (D : Nat) (v : AV) (h : AH) : R Unit := match h[D]? with
  | some (.lst xs) => if xs.length < sizeLine then .ok () (h.set D (.lst (xs ++ [v]))) else .bad
  | _ => .bad
def putDic (D : Nat) (k v : AV) (h : AH) : R Unit := match h[D]?, keyOf k with
  | some (.dic kvs), some k => if kvs.length < sizeLine then .ok () (h.set D (.dic (putK kvs k v))) else .bad
  | _, _ => .bad
def putFld (fs : List (Str × AV)) (x : Str) (v : AV) : List (Str × AV) := match fs with
  | [] => [(x, v)]
  | (y, u) :: r => if y = x then (y, v) :: r else (y, u) :: putFld r x v

/-- the masks that stand in a list -/
def masksOf (h : AH) : AV → Option (List Int)
  | .ref k => match h[k]? with
    | some (.lst bs) => intsOf bs
    | _ => none
  | _ => none
/-- an empty dict that becomes the field `known` beside `bits` is told by the masks from then on: a word of this language alone -/
def gst (x : Str) (v : AV) (fs : List (Str × AV)) (h : AH) : AH := if x = "known" then (match v with
  | .ref m => match h[m]? with
    | some (.dic []) => (match (fs.lookup ("bits" : Str)).bind (masksOf h) with
      | some ns => h.set m (.memo ns [])
      | none => h)
    | _ => h
  | _ => h) else h

def eqOwn (G : Env) (h : AH) (x : AV) : Option Str := match x with
  | .ref n => match h[n]? with
    | some (.ins C _) => (G.cls C).bind fun cd => (cd.meth.lookup ("__eq__" : Str)).filter fun g => (G.fns g).isSome
    | _ => none
  | _ => none
/-- what an own == is asked about -/
def eqMate (h : AH) (x y : AV) : Bool := match y with
  | .non => true
  | .bl _ => true
  | .int _ => true
  | .str _ => true
  | .ref m => match h[m]? with
    | some (.lst _) => true
    | some (.fro _) => true
    | some (.tup _) => true
    | some (.dic _) => true
    | some (.ins D _) => (match x with
      | .ref n => (match h[n]? with
        | some (.ins C _) => decide (C = D)
        | _ => false)
      | _ => false)
    | _ => false
  | _ => false
/-- the calls of the level below -/
structure Calls where
  fn : Str → List AV → AH → R AV
  lo : Str → List AV → AH → R AV

def asgAll (tgs : List (AV → ASt → AH → R ASt)) (vs : List AV) (σ : ASt) (h : AH) : R ASt := match tgs, vs with
  | [], [] => .ok σ h
  | t :: ts, v :: vs => (t v σ h).bind fun σ1 h1 => asgAll ts vs σ1 h1
  | _, _ => .bad
def hasFld (G : Env) (C x : Str) : Bool := match G.cls C with
  | some cd => cd.flds.contains x
  | none => false
def fldOf (G : Env) (o : AV) (x : Str) (h : AH) : R AV := match o with
  | .ref n => match h[n]? with
    | some (.ins C fs) => if hasFld G C x = true then R.opt (fs.lookup x) h else .bad
    | _ => .bad
  | _ => .bad

/-- a comparison, of objects with an own == too -/
def cmpG (G : Env) (c : Calls) (op : CmpOp) (x y : AV) (h : AH) : R AV := match op with
  | .Eq => match eqOwn G h x with
    | some g => if eqMate h x y = true then (c.lo g [x, y] h).calm.bind fun v h1 => match v with
      | .bl b => .ok (.bl b) h1
      | _ => .bad else .bad
    | none => cmpA .Eq x y h
  | .NotEq => match eqOwn G h x with
    | some g => if eqMate h x y = true then (c.lo g [x, y] h).calm.bind fun v h1 => match v with
      | .bl b => .ok (.bl (!b)) h1
      | _ => .bad else .bad
    | none => cmpA .NotEq x y h
  | op => cmpA op x y h
mutual
/-- expressions -/
def evE (G : Env) (c : Calls) : T → ASt → AH → R AV
  | .non, _, h => .ok .non h
  | .bl b, _, h => .ok (.bl b) h
  | .int i, _, h => .ok (.int i) h
  | .str x, _, h => .ok (.str x) h
  | .var i, σ, h => match σ[i]? with
    | some (some v) => .ok v h
    | _ => .bad
  | .glob x, _, h => .ok (.glob x) h
  | .ty x, _, h => .ok (.ty x) h
  | .bin op a b, σ, h => (evE G c a σ h).bind fun x h1 => (evE G c b σ h1).bind fun y h2 => binA op x y h2
  | .neg a, σ, h => (evE G c a σ h).bind fun x h1 => negA x h1
  | .inv a, σ, h => (evE G c a σ h).bind fun x h1 => invA x h1
  | .nt a, σ, h => (evE G c a σ h).bind fun x h1 => match x with
    | .bl b => .ok (.bl (!b)) h1
    | _ => .bad
  | .and a b, σ, h => (evE G c a σ h).bind fun x h1 => match x with
    | .bl true => evE G c b σ h1
    | .bl false => .ok (.bl false) h1
    | _ => .bad
  | .or a b, σ, h => (evE G c a σ h).bind fun x h1 => match x with
    | .bl true => .ok (.bl true) h1
    | .bl false => evE G c b σ h1
    | _ => .bad
  | .cmp op a b, σ, h => (evE G c a σ h).bind fun x h1 => (evE G c b σ h1).bind fun y h2 => cmpG G c op x y h2
  | .chain op op' a b d, σ, h => (evE G c a σ h).bind fun x h1 => (evE G c b σ h1).bind fun y h2 => (cmpG G c op x y h2).bind fun z h3 => match z with
    | .bl true => (evE G c d σ h3).bind fun w h4 => cmpG G c op' y w h4
    | .bl false => .ok (.bl false) h3
    | _ => .bad
  | .ite t a b, σ, h => (evT G c t σ h).bind fun k h1 => if k = true then evE G c a σ h1 else evE G c b σ h1
  | .lst es, σ, h => (evA G c es σ h).bind fun vs h1 => newLst vs h1
  | .tup es, σ, h => (evA G c es σ h).bind fun vs h1 => newTup vs h1
  | .dic es, σ, h => (evA G c es σ h).bind fun vs h1 => match vs with
    | [] => R.new (.dic []) h1
    | _ => .bad
  | .callF f es, σ, h => (evA G c es σ h).bind fun vs h1 => c.fn f vs h1
  | .callC C es, σ, h => match G.cls C with
    | some cd => match cd.init with
      | some g => if (G.fns g).isSome = true then (evA G c es σ h).bind fun vs h1 => (c.lo g (.ref h1.length :: vs) (h1 ++ [.ins C []])).bind fun v h2 => match v with
        | .non => .ok (.ref h1.length) h2
        | _ => .bad else .bad
      | none => .bad
    | none => .bad
  | .lrange es, σ, h => (evA G c es σ h).bind fun vs h1 => match vs with
    | [.int j] => if -(2 ^ 62) ≤ j ∧ j < 1000000 then newLst ((List.range j.toNat).map fun i => .int ((i : Nat) : Int)) h1 else .bad
    | [.int i, .int j] => if -(2 ^ 62) ≤ i ∧ i < 2 ^ 62 ∧ -(2 ^ 62) ≤ j ∧ j < 2 ^ 62 ∧ j - i < 1000000 then newLst ((List.range (j - i).toNat).map fun (k : Nat) => .int (i + (k : Int))) h1 else .bad
    | _ => .bad
  | .callB f es, σ, h => (evA G c es σ h).bind fun vs h1 => bltA G f vs h1
  | .meth o m es, σ, h => (evE G c o σ h).bind fun x h1 => if recvOk m x h1 = true then (evA G c es σ h1).bind fun vs h2 => mthA m x vs h2 else .bad
  | .methO o m es, σ, h => (evE G c o σ h).bind fun x h1 => match x with
    | .ref n => match h1[n]? with
      | some (.ins C fs) => match (G.cls C).bind fun cd => cd.meth.lookup m with
        | some g => if (fs.lookup m).isNone = true ∧ (G.fns g).isSome = true then (evA G c es σ h1).bind fun vs h2 => c.fn g (x :: vs) h2 else .bad
        | none => .bad
      | _ => .bad
    | _ => .bad
  | .fld o x, σ, h => (evE G c o σ h).bind fun v h1 => fldOf G v x h1
  | .ix a b, σ, h => (evE G c a σ h).bind fun x h1 => (evE G c b σ h1).bind fun y h2 => ixA x y h2
  | .slc a lo hi, σ, h => (evE G c a σ h).bind fun x h1 => (evP G c lo σ h1).bind fun l h2 => (evP G c hi σ h2).bind fun u h3 => slcA x l u h3
  | .rev a, σ, h => (evE G c a σ h).bind fun x h1 => revA x h1
  | .comp elt tg it cond own, σ, h => (evI G c it σ h).bind fun J h1 =>
      (compL J (fun v h2 => (evG G c tg v (wipe σ own) h2).bind fun σ2 h3 => (evT G c cond σ2 h3).bind fun b h4 =>
        if b = true then (evE G c elt σ2 h4).bind fun y h5 => putLst h1.length y h5 else .ok () h4) bigW 0 (h1 ++ [.lst []])).calm.bind fun _ h6 => .ok (.ref h1.length) h6
  | .comp2 elt tg it cond tg1 it1 cond1 own own1, σ, h => (evI G c it σ h).bind fun J h1 =>
      (compL J (fun v h2 => (evG G c tg v (wipe σ own) h2).bind fun σ2 h3 => (evT G c cond σ2 h3).bind fun b h4 =>
        if b = true then (evI G c it1 (wipe σ2 own1) h4).bind fun J1 h5 => compL J1 (fun v1 h6 => (evG G c tg1 v1 (wipe σ2 own1) h6).bind fun σ3 h7 => (evT G c cond1 σ3 h7).bind fun b1 h8 =>
          if b1 = true then (evE G c elt σ3 h8).bind fun y h9 => putLst h1.length y h9 else .ok () h8) bigW 0 h5 else .ok () h4) bigW 0 (h1 ++ [.lst []])).calm.bind fun _ h6 => .ok (.ref h1.length) h6
  | .dcomp k e tg it cond own, σ, h => (evI G c it σ h).bind fun J h1 =>
      (compL J (fun v h2 => (evG G c tg v (wipe σ own) h2).bind fun σ2 h3 => (evT G c cond σ2 h3).bind fun b h4 =>
        if b = true then (evE G c k σ2 h4).bind fun y h5 => (evE G c e σ2 h5).bind fun z h6 => putDic h1.length y z h6 else .ok () h4) bigW 0 (h1 ++ [.dic []])).calm.bind fun _ h6 => .ok (.ref h1.length) h6
  | .dcomp2 k e tg it cond tg1 it1 cond1 own own1, σ, h => (evI G c it σ h).bind fun J h1 =>
      (compL J (fun v h2 => (evG G c tg v (wipe σ own) h2).bind fun σ2 h3 => (evT G c cond σ2 h3).bind fun b h4 =>
        if b = true then (evI G c it1 (wipe σ2 own1) h4).bind fun J1 h5 => compL J1 (fun v1 h6 => (evG G c tg1 v1 (wipe σ2 own1) h6).bind fun σ3 h7 => (evT G c cond1 σ3 h7).bind fun b1 h8 =>
          if b1 = true then (evE G c k σ3 h8).bind fun y h9 => (evE G c e σ3 h9).bind fun z h10 => putDic h1.length y z h10 else .ok () h8) bigW 0 h5 else .ok () h4) bigW 0 (h1 ++ [.dic []])).calm.bind fun _ h6 => .ok (.ref h1.length) h6
  | _, _, _ => .bad
/-- the ends of a slice -/
def evP (G : Env) (c : Calls) : T → ASt → AH → R (Option Int)
  | .skip, _, h => .ok none h
  | .pSome e, σ, h => (evE G c e σ h).bind fun x h1 => match x with
    | .int i => .ok (some i) h1
    | _ => .bad
  | _, _, _ => .bad
/-- tests -/
def evT (G : Env) (c : Calls) : T → ASt → AH → R Bool
  | .tAnd a b, σ, h => (evT G c a σ h).bind fun k h1 => if k = true then evT G c b σ h1 else .ok false h1
  | .tOr a b, σ, h => (evT G c a σ h).bind fun k h1 => if k = true then .ok true h1 else evT G c b σ h1
  | .tNot a, σ, h => (evT G c a σ h).bind fun k h1 => .ok (!k) h1
  | .tYes, _, h => .ok true h
  | .tVal t, σ, h => (evE G c t σ h).bind fun x h1 => R.opt (truth h1 x) h1
  | _, _, _ => .bad
/-- arguments -/
def evA (G : Env) (c : Calls) : T → ASt → AH → R (List AV)
  | .nil, _, h => .ok [] h
  | .cons e es, σ, h => (evE G c e σ h).bind fun v h1 => (evA G c es σ h1).bind fun vs h2 => .ok (v :: vs) h2
  | _, _, _ => .bad
/-- what a for walks -/
def evI (G : Env) (c : Calls) : T → ASt → AH → R It
  | .iRng1 es, σ, h => (evA G c es σ h).bind fun vs h1 => rng1A vs h1
  | .iRng2 es, σ, h => (evA G c es σ h).bind fun vs h1 => rng2A vs h1
  | .iEnm e, σ, h => (evE G c e σ h).bind fun v h1 => match v with
    | .ref n => match lstOf h1 (.ref n) with
      | some _ => .ok (.enm n) h1
      | none => .bad
    | _ => .bad
  | .iZip e e', σ, h => (evE G c e σ h).bind fun v h1 => (evE G c e' σ h1).bind fun v' h2 => match v, v' with
    | .ref n, .ref m => match lstOf h2 (.ref n), lstOf h2 (.ref m) with
      | some _, some _ => .ok (.zip n m) h2
      | _, _ => match tupOf h2 (.ref n), tupOf h2 (.ref m) with
        | some _, some _ => .ok (.zipT n m) h2
        | _, _ => .bad
    | _, _ => .bad
  | .iSeq t, σ, h => (evE G c t σ h).bind fun v h1 => match v with
    | .ref n => match h1[n]? with
      | some (.lst _) => .ok (.lsq n) h1
      | some (.fro _) => .ok (.lsq n) h1
      | some (.tup _) => .ok (.tsq n) h1
      | _ => .bad
    | _ => .bad
  | _, _, _ => .bad
/-- targets -/
def evG (G : Env) (c : Calls) : T → AV → ASt → AH → R ASt
  | .tName i, v, σ, h => .ok (σ.set i (some v)) h
  | .tTup ts, v, σ, h => match v with
    | .ref n => match h[n]? with
      | some (.tup vs) => evGs G c ts vs σ h
      | _ => .bad
    | _ => .bad
  | .tSub o i, v, σ, h => (evE G c o σ h).bind fun x h1 => (evE G c i σ h1).bind fun y h2 => match x with
    | .ref n => match h2[n]?, y with
      | some (.lst xs), .int k => match L2.ixN xs.length k with
        | some j => .ok σ (h2.set n (.lst (xs.set j v)))
        | none => .bad
      | some (.dic kvs), k => match keyOf k with
        | some k => if kvs.length < sizeLine then .ok σ (h2.set n (.dic (putK kvs k v))) else .bad
        | none => .bad
      | some (.memo ms kvs), k => match keyOf k with
        | some k => if kvs.length < sizeLine then .ok σ (h2.set n (.memo ms (putK kvs k v))) else .bad
        | none => .bad
      | _, _ => .bad
    | _ => .bad
  | .tFld o x, v, σ, h => (evE G c o σ h).bind fun y h1 => match y with
    | .ref n => match h1[n]? with
      | some (.ins C fs) => if fs.length < 100 ∧ hasFld G C x = true then .ok σ (gst x v fs (h1.set n (.ins C (putFld fs x v)))) else .bad
      | _ => .bad
    | _ => .bad
  | _, _, _, _ => .bad
def evGs (G : Env) (c : Calls) : T → List AV → ASt → AH → R ASt
  | .nil, [], σ, h => .ok σ h
  | .cons t ts, v :: vs, σ, h => (evG G c t v σ h).calm.bind fun σ1 h1 => (evGs G c ts vs σ1 h1).calm
  | _, _, _, _ => .bad
end
/-- what an exception's object holds -/
def excFs (G : Env) (C : Str) (vs : List AV) : Option (List (Str × AV)) := match G.err C, vs with
  | some none, [] => some []
  | some (some x), [v] => some [(x, v)]
  | some (some x), [] => some [(x, .non)]
  | _, _ => none
def setAll (σ : ASt) : List Nat → List AV → ASt
  | i :: is, v :: vs => setAll (σ.set i (some v)) is vs
  | _, _ => σ
/-- statements -/
def evS (G : Env) (c : Calls) : T → ASt → AH → Fl
  | .done, σ, h => .nx σ h
  | .seq a b, σ, h => (evS G c a σ h).next fun σ1 h1 => evS G c b σ1 h1
  | .expr e, σ, h => (evE G c e σ h).toFl σ fun _ h1 => .nx σ h1
  | .ret e, σ, h => (evE G c e σ h).toFl σ fun v h1 => .rt v h1
  | .asg tg e, σ, h => (evE G c e σ h).toFl σ fun v h1 => (evG G c tg v σ h1).toFl σ fun σ1 h2 => .nx σ1 h2
  | .aug i op e, σ, h => match σ[i]? with
    | some (some x) => (evE G c e σ h).toFl σ fun y h1 => (augA op x y h1).toFl σ fun z h2 => .nx (σ.set i (some z)) h2
    | _ => .bad
  | .iff t a b, σ, h => (evT G c t σ h).toFl σ fun k h1 => if k = true then evS G c a σ h1 else evS G c b σ h1
  | .for tg it b, σ, h => (evI G c it σ h).toFl σ fun J h1 => forL J (evG G c tg) (evS G c b) bigW 0 σ h1
  | .whl t b, σ, h => whlL (evT G c t) (evS G c b) bigW σ h
  | .raise C es, σ, h => (evA G c es σ h).toFl σ fun vs h1 => match excFs G C vs with
    | some fs => .exc C fs σ h1
    | none => .bad
  | .tryAs b C i s, σ, h => match evS G c b σ h with
    | .exc D fs σ1 h1 => if G.sub D C = some true then (match evS G c s (σ1.set i (some (.ref h1.length))) (h1 ++ [.exc D fs]) with
      | .nx σ2 h2 => .nx (σ2.set i none) h2
      | .bk σ2 h2 => .bk (σ2.set i none) h2
      | .ct σ2 h2 => .ct (σ2.set i none) h2
      | .exc _ _ _ _ => .bad
      | r => r) else .exc D fs σ1 h1
    | r => r
  | .par ks es, σ, h => (evA G c es σ h).toFl σ fun vs h1 => if vs.length = ks.length then .nx (setAll σ ks vs) h1 else .bad
  | .brk, σ, h => .bk σ h
  | .cont, σ, h => .ct σ h
  | _, _, _ => .bad
def start (n : Nat) (vs : List AV) : ASt := vs.map some ++ List.replicate (n - vs.length) none
/-- a def's call, its own calls by c -/
def callS (G : Env) (c : Calls) (f : Str) (vs : List AV) (h : AH) : R AV := match G.fns f with
  | some fd => if vs.length = fd.ps then (match evS G c fd.body (start fd.nS vs) h with
    | .nx _ h1 => .ok .non h1
    | .rt v h1 => .ok v h1
    | .exc C fs _ h1 => .exc C fs h1
    | _ => .bad) else .bad
  | none => .bad
/-- .. at most d calls deep -/
def callD (G : Env) : Nat → Str → List AV → AH → R AV
  | 0, _, _, _ => .bad
  | 1, f, vs, h => callS G ⟨fun _ _ _ => .bad, fun _ _ _ => .bad⟩ f vs h
  | d + 2, f, vs, h => callS G ⟨callD G (d + 1), callD G d⟩ f vs h
/-- the calls at depth d -/
def cD (G : Env) : Nat → Calls
  | 0 => ⟨fun _ _ _ => .bad, fun _ _ _ => .bad⟩
  | d + 1 => ⟨callD G (d + 1), callD G d⟩
theorem callD_zero (G : Env) (f : Str) (vs : List AV) (h : AH) : callD G 0 f vs h = .bad := by simp only [callD]
theorem callD_succ (G : Env) (d : Nat) (f : Str) (vs : List AV) (h : AH) : callD G (d + 1) f vs h = callS G (cD G d) f vs h := by
  cases d with
  | zero => simp only [callD, cD]
  | succ d => simp only [callD, cD]
theorem cD_fn (G : Env) (d : Nat) (f : Str) (vs : List AV) (h : AH) : (cD G d).fn f vs h = callD G d f vs h := by
  cases d with
  | zero => simp only [cD, callD]
  | succ d => simp only [cD]
theorem cD_lo (G : Env) (d : Nat) (f : Str) (vs : List AV) (h : AH) : (cD G d).lo f vs h = callD G (d - 1) f vs h := by
  cases d with
  | zero => rw [show (0 : Nat) - 1 = 0 from rfl]; simp only [cD, callD]
  | succ d => simp only [cD, Nat.add_sub_cancel]
end SL

set_option Elab.async false
set_option linter.all false
set_option maxRecDepth 100000
set_option maxHeartbeats 4000000
/-! The evaluator over the hand layer: how values, objects, slots stand for one another. -/
namespace SL
open PySem PySem.Spec L2
open PyProof.Rows hiding St
open PySem.W (Frag)

variable (AD : Str → Option Addr)
def toV (ρ : List Addr) : AV → Option V
  | .non => some .non
  | .bl b => some (.bl b)
  | .int i => some (.int i)
  | .str x => some (.str x)
  | .ref n => (ρ[n]?).map .ref
  | .ty x => some (.ty x)
  | .glob x => (AD x).map .ref
def VR (ρ : List Addr) (v : AV) (x : V) : Prop := toV AD ρ v = some x
def VsR (ρ : List Addr) : List AV → List V → Prop := Paired (VR AD ρ)
def KsR (ρ : List Addr) : List (AKey × AV) → List (Key × V) → Prop := Paired fun p q => p.1 = q.1 ∧ VR AD ρ p.2 q.2
def FsR (ρ : List Addr) : List (Str × AV) → List (Str × V) → Prop := Paired fun p q => p.1 = q.1 ∧ VR AD ρ p.2 q.2
def OR (ρ : List Addr) (H : Hp) (a : Addr) : AO → Prop
  | .lst xs => ∃ ys, H a = some (.lst ys) ∧ VsR AD ρ xs ys
  | .fro xs => ∃ o ys, H a = some (.frz o (.lst ys)) ∧ VsR AD ρ xs ys
  | .tup xs => ∃ ys, H a = some (.tup ys) ∧ VsR AD ρ xs ys
  | .dic kvs => ∃ ks, H a = some (.dK ks) ∧ KsR AD ρ kvs ks
  | .ins C fs => ∃ Ca dx gs, AD C = some Ca ∧ H a = some (.ins Ca dx gs) ∧ FsR AD ρ fs gs
  | .exc _ _ => False
  | .memo _ kvs => ∃ ks, H a = some (.dK ks) ∧ KsR AD ρ kvs ks
structure Rep (ρ : List Addr) (h : AH) (H : Hp) : Prop where
  len : ρ.length = h.length
  nd : ρ.Nodup
  ob : ∀ (i : Nat) o, h[i]? = some o → ∃ a, ρ[i]? = some a ∧ OR AD ρ H a o
def SR (ρ : List Addr) (σ : ASt) (σV : St) : Prop := σ.length = σV.length ∧ ∀ (i : Nat) v, σ[i]? = some (some v) → ∃ x, σV[i]? = some (some x) ∧ VR AD ρ v x
variable {AD}
section
variable {ρ ρ' : List Addr} {h : AH} {H : Hp}
theorem VR.mono {v : AV} {x : V} (q : VR AD ρ v x) (e : ρ <+: ρ') : VR AD ρ' v x := by
  cases v with
  | ref n =>
    simp only [VR, toV] at *
    cases hn : ρ[n]? with
    | none => rw [hn] at q; cases q
    | some a =>
      rw [hn] at q
      obtain ⟨t, rfl⟩ := e
      have : (ρ ++ t)[n]? = some a := by
        rw [List.getElem?_append_left (List.getElem?_eq_some_iff.mp hn).1]; exact hn
      rw [this]; exact q
  | _ => exact q
theorem VsR.mono {vs : List AV} {xs : List V} (q : VsR AD ρ vs xs) (e : ρ <+: ρ') : VsR AD ρ' vs xs := Paired.mapP q fun _ _ r => r.mono e
theorem KsR.mono {vs : List (AKey × AV)} {xs : List (Key × V)} (q : KsR AD ρ vs xs) (e : ρ <+: ρ') : KsR AD ρ' vs xs := Paired.mapP q fun _ _ r => ⟨r.1, r.2.mono e⟩
theorem FsR.mono {vs : List (Str × AV)} {xs : List (Str × V)} (q : FsR AD ρ vs xs) (e : ρ <+: ρ') : FsR AD ρ' vs xs := Paired.mapP q fun _ _ r => ⟨r.1, r.2.mono e⟩
theorem SR.mono {σ : ASt} {σV : St} (q : SR AD ρ σ σV) (e : ρ <+: ρ') : SR AD ρ' σ σV := ⟨q.1, fun i v r => let ⟨x, a, b⟩ := q.2 i v r; ⟨x, a, b.mono e⟩⟩
theorem OR.mono {a : Addr} {o : AO} (q : OR AD ρ H a o) (e : ρ <+: ρ') : OR AD ρ' H a o := by
  cases o with
  | lst xs => obtain ⟨ys, h1, h2⟩ := q; exact ⟨ys, h1, h2.mono e⟩
  | fro xs => obtain ⟨o, ys, h1, h2⟩ := q; exact ⟨o, ys, h1, h2.mono e⟩
  | tup xs => obtain ⟨ys, h1, h2⟩ := q; exact ⟨ys, h1, h2.mono e⟩
  | dic xs => obtain ⟨ys, h1, h2⟩ := q; exact ⟨ys, h1, h2.mono e⟩
  | ins C fs => obtain ⟨Ca, dx, gs, h0, h1, h2⟩ := q; exact ⟨Ca, dx, gs, h0, h1, h2.mono e⟩
  | exc C fs => exact q
  | memo ms xs => obtain ⟨ys, h1, h2⟩ := q; exact ⟨ys, h1, h2.mono e⟩
theorem OR.some {a : Addr} {o : AO} (q : OR AD ρ H a o) : ∃ u, H a = Option.some u := by
  cases o with
  | lst xs => obtain ⟨ys, h1, h2⟩ := q; exact ⟨_, h1⟩
  | fro xs => obtain ⟨o, ys, h1, h2⟩ := q; exact ⟨_, h1⟩
  | tup xs => obtain ⟨ys, h1, h2⟩ := q; exact ⟨_, h1⟩
  | dic xs => obtain ⟨ys, h1, h2⟩ := q; exact ⟨_, h1⟩
  | ins C fs => obtain ⟨Ca, dx, gs, h0, h1, h2⟩ := q; exact ⟨_, h1⟩
  | exc C fs => exact q.elim
  | memo ms xs => obtain ⟨ys, h1, h2⟩ := q; exact ⟨_, h1⟩
theorem OR.same {H' : Hp} {a : Addr} {o : AO} (q : OR AD ρ H a o) (e : H' a = H a) : OR AD ρ H' a o := by
  cases o <;> simp only [OR, e] at * <;> exact q
theorem Rep.at (r : Rep AD ρ h H) {i : Nat} {o : AO} (e : h[i]? = some o) : ∃ a, ρ[i]? = some a ∧ OR AD ρ H a o := r.ob i o e
theorem Rep.mem (r : Rep AD ρ h H) {a : Addr} (m : a ∈ ρ) : ∃ u, H a = some u := by
  obtain ⟨i, hi, rfl⟩ := List.getElem_of_mem m
  have hh : i < h.length := by rw [← r.len]; exact hi
  obtain ⟨a, h1, h2⟩ := r.ob i h[i] (List.getElem?_eq_getElem hh)
  rw [List.getElem?_eq_getElem hi] at h1; cases h1
  exact h2.some
/-- a new object -/
theorem Rep.new (r : Rep AD ρ h H) {p : Addr} {ho : HO} {o : AO} (hp : H p = none) (q : OR AD ρ (upd H p ho) p o) : Rep AD (ρ ++ [p]) (h ++ [o]) (upd H p ho) := by
  have np : p ∉ ρ := fun m => by obtain ⟨u, e⟩ := r.mem m; rw [hp] at e; cases e
  refine ⟨by simp [r.len], ?_, fun i o' e => ?_⟩
  · rw [List.nodup_append]
    refine ⟨r.nd, by simp, fun a ha b hb => ?_⟩
    simp at hb; subst hb; exact fun z => np (z ▸ ha)
  · by_cases hi : i < h.length
    · rw [List.getElem?_append_left hi] at e
      obtain ⟨a, h1, h2⟩ := r.ob i o' e
      refine ⟨a, by rw [List.getElem?_append_left (by rw [r.len]; exact hi)]; exact h1, ?_⟩
      have na : a ≠ p := fun z => np (z ▸ List.mem_of_getElem? h1)
      exact (h2.same (upd_ne na)).mono ⟨[p], rfl⟩
    · have hi2 : i = h.length := by
        have := (List.getElem?_eq_some_iff.mp e).1
        simp at this; omega
      subst hi2
      rw [List.getElem?_append_right (Nat.le_refl _)] at e
      simp at e; subst e
      refine ⟨p, by rw [← r.len, List.getElem?_append_right (Nat.le_refl _)]; simp, q.mono ⟨[p], rfl⟩⟩
/-- the same object by another word -/
theorem Rep.word (r : Rep AD ρ h H) {n : Nat} {o o' : AO} (hn : h[n]? = some o) (w : ∀ a, OR AD ρ H a o → OR AD ρ H a o') : Rep AD ρ (h.set n o') H := by
  refine ⟨by simp [r.len], r.nd, fun i o2 e => ?_⟩
  by_cases hi : i = n
  · subst hi
    rw [List.getElem?_set_self (List.getElem?_eq_some_iff.mp hn).1] at e
    cases e
    obtain ⟨a, h1, h2⟩ := r.ob i o hn
    exact ⟨a, h1, w a h2⟩
  · rw [List.getElem?_set_ne (Ne.symm hi)] at e
    exact r.ob i o2 e
theorem Rep.gst (r : Rep AD ρ h H) {x : Str} {v : AV} {fs : List (Str × AV)} : Rep AD ρ (SL.gst x v fs h) H := by
  unfold SL.gst
  split
  · split
    · split
      · rename_i hm
        split
        · exact r.word hm fun a q => q
        · exact r
      · exact r
    · exact r
  · exact r
/-- an object changed -/
theorem Rep.set (r : Rep AD ρ h H) {n : Nat} {a : Addr} {ho : HO} {o : AO} (hn : ρ[n]? = some a) (q : OR AD ρ (upd H a ho) a o) : Rep AD ρ (h.set n o) (upd H a ho) := by
  have hlt : n < ρ.length := (List.getElem?_eq_some_iff.mp hn).1
  refine ⟨by simp [r.len], r.nd, fun i o' e => ?_⟩
  by_cases hi : i = n
  · subst hi
    rw [List.getElem?_set_self (by rw [← r.len]; exact hlt)] at e
    cases e
    exact ⟨a, hn, q⟩
  · rw [List.getElem?_set_ne (Ne.symm hi)] at e
    obtain ⟨b, h1, h2⟩ := r.ob i o' e
    refine ⟨b, h1, h2.same (upd_ne ?_)⟩
    rintro rfl
    obtain ⟨hi1, e1⟩ := List.getElem?_eq_some_iff.mp h1
    obtain ⟨hi2, e2⟩ := List.getElem?_eq_some_iff.mp hn
    exact hi ((List.getElem_inj r.nd).mp (e1.trans e2.symm))
theorem Rep.last (r : Rep AD ρ h H) (p : Addr) : VR AD (ρ ++ [p]) (.ref h.length) (.ref p) := by
  simp only [VR, toV]
  rw [← r.len, List.getElem?_append_right (Nat.le_refl _)]; simp
end

/-! ### what an evaluation tells of a run -/
def ExR (ρ : List Addr) (C : Str) (fs : List (Str × AV)) (H : Hp) (cls : Value) (d : Option Addr) : Prop :=
  ∃ Ca dd gs, AD C = some Ca ∧ cls = .ref Ca ∧ d = some dd ∧ H dd = some (.xd gs) ∧ FsR AD ρ fs gs
section
variable {α β : Type}
def Post (AD : Str → Option Addr) (X : Cx) (ρ : List Addr) (σV : St) (r : R α) (rel : List Addr → α → β → Prop) (Q : β → Hp → Prop) : Prop := match r with
  | .ok a h => ∀ ρ' H' b, ρ <+: ρ' → Rep AD ρ' h H' → rel ρ' a b → Q b H'
  | .exc C fs h => ∃ W, Takes X W ∧ ∀ ρ' H' cls d, ρ <+: ρ' → Rep AD ρ' h H' → ExR (AD := AD) ρ' C fs H' cls d → W cls d σV H'
  | .bad => False
variable {X : Cx} {ρ ρ' : List Addr} {σV : St}
theorem Post.mono {r : R α} {rel : List Addr → α → β → Prop} {Q : β → Hp → Prop} (p : Post AD X ρ σV r rel Q) (e : ρ <+: ρ') : Post AD X ρ' σV r rel Q := by
  cases r with
  | ok a h => exact fun ρ2 H' b e2 => p ρ2 H' b (e.trans e2)
  | exc C fs h => obtain ⟨W, t, p⟩ := p; exact ⟨W, t, fun ρ2 H' c d e2 => p ρ2 H' c d (e.trans e2)⟩
  | bad => exact p
theorem Post.weak {r : R α} {rel : List Addr → α → β → Prop} {Q Q' : β → Hp → Prop} (p : Post AD X ρ σV r rel Q) (w : ∀ b H, Q b H → Q' b H) : Post AD X ρ σV r rel Q' := by
  cases r with
  | ok a h => exact fun ρ2 H' b e r q => w _ _ (p ρ2 H' b e r q)
  | exc C fs h => exact p
  | bad => exact p
theorem Post.step {γ δ : Type} {r : R α} {f : α → AH → R γ} {rel0 : List Addr → α → β → Prop} {rel : List Addr → γ → δ → Prop} {Q : δ → Hp → Prop} {Q' : β → Hp → Prop} (p : Post AD X ρ σV (r.bind f) rel Q)
    (w : ∀ ρ1 h1 a b H1, ρ <+: ρ1 → Rep AD ρ1 h1 H1 → rel0 ρ1 a b → Post AD X ρ1 σV (f a h1) rel Q → Q' b H1) : Post AD X ρ σV r rel0 Q' := by
  cases r with
  | ok a h => exact fun ρ1 H1 b e r q => w ρ1 h a b H1 e r q (Post.mono p e)
  | exc C fs h => exact p
  | bad => exact p
end
section
variable {X : Cx}
def tE (AD : Str → Option Addr) (G : Env) (c : Calls) (X : Cx) (t : T) : TE := fun σV H Q => ∃ ρ σ h, Rep AD ρ h H ∧ SR AD ρ σ σV ∧ Post AD X ρ σV (evE G c t σ h) (VR AD) Q
def tT (AD : Str → Option Addr) (G : Env) (c : Calls) (X : Cx) (t : T) : TT := fun σV H Q => ∃ ρ σ h, Rep AD ρ h H ∧ SR AD ρ σ σV ∧ Post AD X ρ σV (evT G c t σ h) (fun _ a b => a = b) Q
def tAr (AD : Str → Option Addr) (G : Env) (c : Calls) (X : Cx) (t : T) : TA := fun σV H Q => ∃ ρ σ h, Rep AD ρ h H ∧ SR AD ρ σ σV ∧ Post AD X ρ σV (evA G c t σ h) (VsR AD) Q
section
variable {G : Env} {c : Calls} {ρ : List Addr} {h : AH} {H : Hp} {σ : ASt} {σV : St} {γ δ : Type} {rel : List Addr → γ → δ → Prop} {Q : δ → Hp → Prop}
theorem tE.step {t : T} {f : AV → AH → R γ} {Q' : VK} (r : Rep AD ρ h H) (q : SR AD ρ σ σV) (p : Post AD X ρ σV ((evE G c t σ h).bind f) rel Q)
    (w : ∀ ρ1 h1 v x H1, ρ <+: ρ1 → Rep AD ρ1 h1 H1 → SR AD ρ1 σ σV → VR AD ρ1 v x → Post AD X ρ1 σV (f v h1) rel Q → Q' x H1) : tE AD G c X t σV H Q' :=
  ⟨ρ, σ, h, r, q, Post.step p fun ρ1 h1 v x H1 e r1 q1 p1 => w ρ1 h1 v x H1 e r1 (q.mono e) q1 p1⟩
theorem tT.step {t : T} {f : Bool → AH → R γ} {Q' : Bool → Hp → Prop} (r : Rep AD ρ h H) (q : SR AD ρ σ σV) (p : Post AD X ρ σV ((evT G c t σ h).bind f) rel Q)
    (w : ∀ ρ1 h1 v H1, ρ <+: ρ1 → Rep AD ρ1 h1 H1 → SR AD ρ1 σ σV → Post AD X ρ1 σV (f v h1) rel Q → Q' v H1) : tT AD G c X t σV H Q' :=
  ⟨ρ, σ, h, r, q, Post.step p fun ρ1 h1 v x H1 e r1 q1 p1 => by subst q1; exact w ρ1 h1 v H1 e r1 (q.mono e) p1⟩
theorem tAr.step {t : T} {f : List AV → AH → R γ} {Q' : List V → Hp → Prop} (r : Rep AD ρ h H) (q : SR AD ρ σ σV) (p : Post AD X ρ σV ((evA G c t σ h).bind f) rel Q)
    (w : ∀ ρ1 h1 v x H1, ρ <+: ρ1 → Rep AD ρ1 h1 H1 → SR AD ρ1 σ σV → VsR AD ρ1 v x → Post AD X ρ1 σV (f v h1) rel Q → Q' x H1) : tAr AD G c X t σV H Q' :=
  ⟨ρ, σ, h, r, q, Post.step p fun ρ1 h1 v x H1 e r1 q1 p1 => w ρ1 h1 v x H1 e r1 (q.mono e) q1 p1⟩
end
theorem PE.weak {e : Expr} {t t' : TE} (h : PE X e t) (w : ∀ σ H Q, t' σ H Q → t σ H Q) : PE X e t' := ⟨fun pins s σ H Q I q => h.run pins s σ H Q I (w σ H Q q)⟩
theorem PT.weak {e : Expr} {t t' : TT} (h : PT X e t) (w : ∀ σ H Q, t' σ H Q → t σ H Q) : PT X e t' := ⟨fun pins s σ H Q I q => h.run pins s σ H Q I (w σ H Q q)⟩
theorem PW.weak {e : Expr} {t t' : TT} (h : PW X e t) (w : ∀ σ H Q, t' σ H Q → t σ H Q) : PW X e t' := ⟨fun wh pins s σ H Q I q => h.run wh pins s σ H Q I (w σ H Q q)⟩
theorem PA.weak {e : List Expr} {t t' : TA} (h : PA X e t) (w : ∀ σ H Q, t' σ H Q → t σ H Q) : PA X e t' := ⟨fun pos pins s σ H Q I q => h.run pos pins s σ H Q I (w σ H Q q)⟩
theorem PS.weak {e : Stmt} {t t' : TS} (h : PS X e t) (w : ∀ D σ H, t' D σ H → t D σ H) : PS X e t' := ⟨fun pins s σ H D I q => h.run pins s σ H D I (w D σ H q)⟩
theorem PSs.weak {e : List Stmt} {t t' : TS} (h : PSs X e t) (w : ∀ D σ H, t' D σ H → t D σ H) : PSs X e t' := ⟨fun pins s σ H D I q => h.run pins s σ H D I (w D σ H q)⟩
end

/-! ### operators by values -/
/-- what an operation on values, by its evaluator, asks -/
def rV2 (AD : Str → Option Addr) (X : Cx) (f : AV → AV → AH → R AV) : R2 := fun x y H Q => ∃ ρ h v w σV, Rep AD ρ h H ∧ VR AD ρ v x ∧ VR AD ρ w y ∧ Post AD X ρ σV (f v w h) (VR AD) Q
def rV1 (AD : Str → Option Addr) (X : Cx) (f : AV → AH → R AV) : V → Hp → VK → Prop := fun x H Q => ∃ ρ h v σV, Rep AD ρ h H ∧ VR AD ρ v x ∧ Post AD X ρ σV (f v h) (VR AD) Q
section
variable {X : Cx} {G : Env} {c : Calls} {ea eb ec : Expr} {a b d : T} {pos : Pos}
theorem s_bin {op : Operator} (ho : OpR X (binaryOp op) (rV2 AD X (binA op))) (ha : PE X ea (tE AD G c X a)) (hb : PE X eb (tE AD G c X b)) : PE X (.BinOp ea op eb pos) (tE AD G c X (.bin op a b)) := by
  refine PE.weak (pe_op ho ha hb) fun σ H Q ⟨ρ, sg, h, r, q, p⟩ => ?_
  rw [evE] at p
  exact tE.step r q p fun ρ1 h1 v x H1 e1 r1 q1 v1 p1 => tE.step r1 q1 p1 fun ρ2 h2 w y H2 e2 r2 q2 w2 p2 => ⟨ρ2, h2, v, w, _, r2, v1.mono e2, w2, p2⟩
end

/-! ### reading values -/
section
variable {ρ : List Addr} {h : AH} {H : Hp} {x : V}
theorem vr_non (q : VR AD ρ .non x) : x = .non := (Option.some.inj q).symm
theorem vr_bl {b : Bool} (q : VR AD ρ (.bl b) x) : x = .bl b := (Option.some.inj q).symm
theorem vr_int {i : Int} (q : VR AD ρ (.int i) x) : x = .int i := (Option.some.inj q).symm
theorem vr_str {i : Str} (q : VR AD ρ (.str i) x) : x = .str i := (Option.some.inj q).symm
theorem vr_ty {i : String} (q : VR AD ρ (.ty i) x) : x = .ty i := (Option.some.inj q).symm
theorem vr_glob {i : Str} (q : VR AD ρ (.glob i) x) : ∃ a, AD i = some a ∧ x = .ref a := by
  simp only [VR, toV, Option.map_eq_some_iff] at q
  obtain ⟨a, h1, h2⟩ := q; exact ⟨a, h1, h2.symm⟩
theorem vr_ref {n : Nat} (q : VR AD ρ (.ref n) x) : ∃ a, ρ[n]? = some a ∧ x = .ref a := by
  simp only [VR, toV, Option.map_eq_some_iff] at q
  obtain ⟨a, h1, h2⟩ := q; exact ⟨a, h1, h2.symm⟩
theorem Rep.ref (r : Rep AD ρ h H) {n : Nat} {o : AO} (q : VR AD ρ (.ref n) x) (e : h[n]? = some o) : ∃ a, ρ[n]? = some a ∧ x = .ref a ∧ OR AD ρ H a o := by
  obtain ⟨a, h1, rfl⟩ := vr_ref q
  obtain ⟨b, h2, h3⟩ := r.ob n o e
  rw [h1] at h2; cases h2
  exact ⟨a, h1, rfl, h3⟩
theorem vsr_append {vs ws : List AV} {xs ys : List V} : VsR AD ρ vs xs → VsR AD ρ ws ys → VsR AD ρ (vs ++ ws) (xs ++ ys)
  | .nil, q => q
  | .cons a r, q => .cons a (vsr_append r q)
theorem vsr_get {vs : List AV} {xs : List V} (q : VsR AD ρ vs xs) {i : Nat} {v : AV} (e : vs[i]? = some v) : ∃ x, xs[i]? = some x ∧ VR AD ρ v x := by
  induction q generalizing i with
  | nil => simp at e
  | cons a r ih =>
    cases i with
    | zero => simp at e; subst e; exact ⟨_, rfl, a⟩
    | succ i => exact ih (by simpa using e)
theorem vsr_none {vs : List AV} {xs : List V} (q : VsR AD ρ vs xs) {i : Nat} (e : vs[i]? = none) : xs[i]? = none := by
  have := q.length
  rw [List.getElem?_eq_none_iff] at *; omega
theorem vsr_take {vs : List AV} {xs : List V} (q : VsR AD ρ vs xs) (n : Nat) : VsR AD ρ (vs.take n) (xs.take n) := by
  induction q generalizing n with
  | nil => cases n <;> exact .nil
  | cons a r ih => cases n with
    | zero => exact .nil
    | succ n => exact .cons a (ih n)
theorem vsr_drop {vs : List AV} {xs : List V} (q : VsR AD ρ vs xs) (n : Nat) : VsR AD ρ (vs.drop n) (xs.drop n) := by
  induction q generalizing n with
  | nil => cases n <;> exact .nil
  | cons a r ih => cases n with
    | zero => exact .cons a r
    | succ n => exact ih n
theorem vsr_set {vs : List AV} {xs : List V} (q : VsR AD ρ vs xs) {v : AV} {x : V} (r : VR AD ρ v x) (n : Nat) : VsR AD ρ (vs.set n v) (xs.set n x) := by
  induction q generalizing n with
  | nil => exact .nil
  | cons a s ih => cases n with
    | zero => exact .cons r s
    | succ n => exact .cons a (ih n)
theorem vsr_rev {vs : List AV} {xs : List V} (q : VsR AD ρ vs xs) : VsR AD ρ vs.reverse xs.reverse := by
  induction q with
  | nil => exact .nil
  | cons a r ih => rw [List.reverse_cons, List.reverse_cons]; exact vsr_append ih (.cons a .nil)
theorem vsr_rep {vs : List AV} {xs : List V} (q : VsR AD ρ vs xs) (n : Nat) : VsR AD ρ (List.replicate n vs).flatten (List.replicate n xs).flatten := by
  induction n with
  | zero => exact .nil
  | succ n ih => simp only [List.replicate_succ, List.flatten_cons]; exact vsr_append q ih
theorem vsr_ints {vs : List AV} {xs : List V} (q : VsR AD ρ vs xs) : ∀ {ns : List Int}, intsOf vs = some ns → xs = ns.map V.int := by
  induction q with
  | nil => intro ns e; cases e; rfl
  | @cons v x l1 l2 a r ih =>
    intro ns e
    cases v with
    | int i =>
      simp only [intsOf, Option.map_eq_some_iff] at e
      obtain ⟨ms, e1, rfl⟩ := e
      rw [ih e1, vr_int a]; rfl
    | _ => cases e
theorem vsr_bools {vs : List AV} {xs : List V} (q : VsR AD ρ vs xs) : ∀ {ns : List Bool}, boolsOf vs = some ns → xs = ns.map V.bl := by
  induction q with
  | nil => intro ns e; cases e; rfl
  | @cons v x l1 l2 a r ih =>
    intro ns e
    cases v with
    | bl i =>
      simp only [boolsOf, Option.map_eq_some_iff] at e
      obtain ⟨ms, e1, rfl⟩ := e
      rw [ih e1, vr_bl a]; rfl
    | _ => cases e
theorem vsr_of_ints (ns : List Int) : VsR AD ρ (ns.map .int) (ns.map V.int) := by
  induction ns with
  | nil => exact .nil
  | cons a r ih => exact .cons rfl ih
theorem Rep.lst (r : Rep AD ρ h H) (K : Frag) {v : AV} {xs : List AV} (q : VR AD ρ v x) (e : lstOf h v = some xs) : ∃ a ys, x = .ref a ∧ SqL K H a ys ∧ VsR AD ρ xs ys := by
  cases v with
  | ref n =>
    simp only [lstOf] at e
    split at e
    · rename_i ys hn; cases e
      obtain ⟨a, _, rfl, zs, h1, h2⟩ := r.ref q hn
      exact ⟨a, zs, rfl, .inl (.inl h1), h2⟩
    · rename_i ys hn; cases e
      obtain ⟨a, _, rfl, o, zs, h1, h2⟩ := r.ref q hn
      exact ⟨a, zs, rfl, .inl (.inr ⟨o, h1⟩), h2⟩
    · cases e
  | _ => cases e
theorem Rep.tupl (r : Rep AD ρ h H) (K : Frag) {v : AV} {xs : List AV} (q : VR AD ρ v x) (e : tupOf h v = some xs) : ∃ a ys, x = .ref a ∧ SqT K H a ys ∧ VsR AD ρ xs ys := by
  cases v with
  | ref n =>
    simp only [tupOf] at e
    split at e
    · rename_i ys hn; cases e
      obtain ⟨a, _, rfl, zs, h1, h2⟩ := r.ref q hn
      exact ⟨a, zs, rfl, .inl (.inl h1), h2⟩
    · cases e
  | _ => cases e
/-- what follows a new list, a new tuple -/
theorem post_lst {X : Cx} {σV : St} {xs : List AV} {ys : List V} {Q : VK} (r : Rep AD ρ h H) (q : VsR AD ρ xs ys) (p : Post AD X ρ σV (newLst xs h) (VR AD) Q) : ys.length ≤ sizeLine ∧ ∀ p, H p = none → Q (.ref p) (upd H p (.lst ys)) := by
  unfold newLst at p
  split at p
  · rename_i hl
    refine ⟨by rw [← q.length]; exact hl, fun a ha => ?_⟩
    exact p _ _ _ ⟨[a], rfl⟩ (r.new ha ⟨ys, upd_same, q⟩) (r.last a)
  · exact p.elim
theorem post_tup {X : Cx} {σV : St} {xs : List AV} {ys : List V} {Q : VK} (r : Rep AD ρ h H) (q : VsR AD ρ xs ys) (p : Post AD X ρ σV (newTup xs h) (VR AD) Q) : ys.length ≤ sizeLine ∧ ∀ p, H p = none → Q (.ref p) (upd H p (.tup ys)) := by
  unfold newTup at p
  split at p
  · rename_i hl
    refine ⟨by rw [← q.length]; exact hl, fun a ha => ?_⟩
    exact p _ _ _ ⟨[a], rfl⟩ (r.new ha ⟨ys, upd_same, q⟩) (r.last a)
  · exact p.elim
theorem post_val {X : Cx} {σV : St} {v : AV} {Q : VK} (r : Rep AD ρ h H) (p : Post AD X ρ σV (.ok v h) (VR AD) Q) {x : V} (q : VR AD ρ v x) : Q x H := p ρ H x (List.prefix_refl _) r q
end
end SL

set_option Elab.async false
set_option linter.all false
set_option maxRecDepth 100000
set_option maxHeartbeats 4000000
/-! The evaluator over the hand layer: operators, comparisons. -/
namespace SL
open PySem PySem.Spec L2
open PyProof.Rows hiding St
open PySem.W (Frag)
variable {AD : Str → Option Addr} {X : Cx}

theorem op_powX : OpR X (binaryOp .Pow) (rI (fun i j => 0 ≤ j ∧ (Builtin.Int.intBits i : Int) * j ≤ 2 ^ 27) fun i j => .int (i ^ j.toNat)) := opI fun _ _ _ _ _ _ _ hc q => pow_int hc.1 hc.2 q
theorem cmul_of {i j : Int} (h : CMulB i j = true) : CMul i j := by
  simp only [CMulB, Bool.or_eq_true, Bool.and_eq_true, decide_eq_true_eq] at h
  exact h
theorem ob_int {op : Operator} {C : Int → Int → Prop} {g : Int → Int → Int} (ho : OpR X (binaryOp op) (rI C fun i j => .int (g i j)))
    (hb : ∀ i j h, binA op (.int i) (.int j) h = .bad ∨ (C i j ∧ binA op (.int i) (.int j) h = .ok (.int (g i j)) h))
    (hn : ∀ v w h, (∀ i j, ¬ (v = .int i ∧ w = .int j)) → binA op v w h = .bad) : OpR X (binaryOp op) (rV2 AD X (binA op)) := by
  intro pins s σ H x y v u Q I rx ry ⟨ρ, h, a, b, σV, r, va, vb, p⟩
  by_cases hi : ∃ i j, a = .int i ∧ b = .int j
  · obtain ⟨i, j, rfl, rfl⟩ := hi
    obtain rfl := vr_int va
    obtain rfl := vr_int vb
    rcases hb i j h with e | ⟨hc, e⟩
    · rw [e] at p; exact p.elim
    · rw [e] at p
      exact ho pins s σ H _ _ v u Q I rx ry ⟨i, j, rfl, rfl, hc, post_val r p rfl⟩
  · rw [hn a b h (fun i j z => hi ⟨i, j, z⟩)] at p
    exact p.elim
theorem rI0_rI {f : Value → Value → Sem Value} {g : Int → Int → V} (h : OpR X f (rI0 g)) : OpR X f (rI (fun _ _ => True) g) := fun pins s σ H x y v u Q I rx ry ⟨i, j, e1, e2, _, q⟩ => h pins s σ H x y v u Q I rx ry ⟨i, j, e1, e2, q⟩
theorem sb_sub : OpR X (binaryOp .Sub) (rV2 AD X (binA .Sub)) := ob_int (rI0_rI op_sub) (fun _ _ _ => .inr ⟨trivial, rfl⟩) fun v w h n => by
  cases v <;> cases w <;> first | rfl | (exact absurd ⟨rfl, rfl⟩ (n _ _)) | (simp only [binA] <;> split <;> simp_all)
theorem sb_fdiv : OpR X (binaryOp .FloorDiv) (rV2 AD X (binA .FloorDiv)) := ob_int op_fdiv (fun i j h => by
  by_cases c : 0 < j ∧ j < 1073741824
  · exact .inr ⟨c, by simp only [binA, if_pos c]⟩
  · exact .inl (by simp only [binA, if_neg c])) fun v w h n => by
  cases v <;> cases w <;> first | rfl | (exact absurd ⟨rfl, rfl⟩ (n _ _)) | (simp only [binA] <;> split <;> simp_all)
theorem sb_mod : OpR X (binaryOp .Mod) (rV2 AD X (binA .Mod)) := ob_int op_mod (fun i j h => by
  by_cases c : 0 < j
  · exact .inr ⟨c, by simp only [binA, if_pos c]⟩
  · exact .inl (by simp only [binA, if_neg c])) fun v w h n => by
  cases v <;> cases w <;> first | rfl | (exact absurd ⟨rfl, rfl⟩ (n _ _)) | (simp only [binA] <;> split <;> simp_all)
theorem sb_pow : OpR X (binaryOp .Pow) (rV2 AD X (binA .Pow)) := ob_int op_powX (fun i j h => by
  by_cases c : 0 ≤ j ∧ (Builtin.Int.intBits i : Int) * j ≤ 2 ^ 27
  · exact .inr ⟨c, by simp only [binA, if_pos c]⟩
  · exact .inl (by simp only [binA, if_neg c])) fun v w h n => by
  cases v <;> cases w <;> first | rfl | (exact absurd ⟨rfl, rfl⟩ (n _ _)) | (simp only [binA] <;> split <;> simp_all)
theorem sb_shl : OpR X (binaryOp .LShift) (rV2 AD X (binA .LShift)) := ob_int op_shl (fun i j h => by
  by_cases c : 0 ≤ j ∧ j ≤ 1000000 ∧ i.natAbs < 2 ^ 64
  · exact .inr ⟨c, by simp only [binA, if_pos c]⟩
  · exact .inl (by simp only [binA, if_neg c])) fun v w h n => by
  cases v <;> cases w <;> first | rfl | (exact absurd ⟨rfl, rfl⟩ (n _ _)) | (simp only [binA] <;> split <;> simp_all)
theorem sb_shr : OpR X (binaryOp .RShift) (rV2 AD X (binA .RShift)) := ob_int op_shr (fun i j h => by
  by_cases c : 0 ≤ j
  · exact .inr ⟨c, by simp only [binA, if_pos c]⟩
  · exact .inl (by simp only [binA, if_neg c])) fun v w h n => by
  cases v <;> cases w <;> first | rfl | (exact absurd ⟨rfl, rfl⟩ (n _ _)) | (simp only [binA] <;> split <;> simp_all)
theorem sb_and : OpR X (binaryOp .BitAnd) (rV2 AD X (binA .BitAnd)) := ob_int (rI0_rI op_and) (fun _ _ _ => .inr ⟨trivial, rfl⟩) fun v w h n => by
  cases v <;> cases w <;> first | rfl | (exact absurd ⟨rfl, rfl⟩ (n _ _)) | (simp only [binA] <;> split <;> simp_all)
theorem sb_or : OpR X (binaryOp .BitOr) (rV2 AD X (binA .BitOr)) := ob_int (rI0_rI op_or) (fun _ _ _ => .inr ⟨trivial, rfl⟩) fun v w h n => by
  cases v <;> cases w <;> first | rfl | (exact absurd ⟨rfl, rfl⟩ (n _ _)) | (simp only [binA] <;> split <;> simp_all)
theorem sb_xor : OpR X (binaryOp .BitXor) (rV2 AD X (binA .BitXor)) := ob_int (rI0_rI op_xor) (fun _ _ _ => .inr ⟨trivial, rfl⟩) fun v w h n => by
  cases v <;> cases w <;> first | rfl | (exact absurd ⟨rfl, rfl⟩ (n _ _)) | (simp only [binA] <;> split <;> simp_all)
/-- + of ints, lists, texts -/
theorem sb_add : OpR X (binaryOp .Add) (rV2 AD X (binA .Add)) := by
  intro pins s σ H x y v u Q I rx ry ⟨ρ, h, a, b, σV, r, va, vb, p⟩
  cases a with
  | int i =>
    cases b with
    | int j =>
      obtain rfl := vr_int va
      obtain rfl := vr_int vb
      exact op_add pins s σ H _ _ v u Q I rx ry ⟨i, j, rfl, rfl, post_val r p rfl⟩
    | _ => exact p.elim
  | str i =>
    cases b with
    | str j =>
      obtain rfl := vr_str va
      obtain rfl := vr_str vb
      simp only [binA] at p
      split at p
      · rename_i hl
        exact op_add_str pins s σ H _ _ v u Q I rx ry ⟨i, j, rfl, rfl, hl, post_val r p rfl⟩
      · exact p.elim
    | _ => exact p.elim
  | ref n =>
    cases b with
    | ref m =>
      simp only [binA] at p
      split at p
      · rename_i xs ys _ h1 h2
        obtain ⟨a, _, rfl, us, e1, q1⟩ := r.ref va h1
        obtain ⟨b, _, rfl, ws, e2, q2⟩ := r.ref vb h2
        obtain ⟨hl, hq⟩ := post_lst r (vsr_append q1 q2) p
        exact op_cat pins s σ H _ _ v u Q I rx ry ⟨a, b, us, ws, rfl, rfl, e1, e2, by rw [List.length_append] at hl; exact hl, hq⟩
      · exact p.elim
    | int j => simp only [binA] at p; exact p.elim
    | _ => exact p.elim
  | _ => exact p.elim
/-- * of ints, of a list and an int -/
theorem sb_mul : OpR X (binaryOp .Mult) (rV2 AD X (binA .Mult)) := by
  intro pins s σ H x y v u Q I rx ry ⟨ρ, h, a, b, σV, r, va, vb, p⟩
  cases a with
  | int i =>
    cases b with
    | int j =>
      obtain rfl := vr_int va
      obtain rfl := vr_int vb
      simp only [binA] at p
      split at p
      · rename_i hl
        exact op_mul pins s σ H _ _ v u Q I rx ry ⟨i, j, rfl, rfl, cmul_of hl, post_val r p rfl⟩
      · exact p.elim
    | _ => exact p.elim
  | ref n =>
    cases b with
    | int k =>
      simp only [binA] at p
      split at p
      · rename_i xs _ h1
        split at p
        · rename_i hk
          obtain ⟨a, _, rfl, us, e1, q1⟩ := r.ref va h1
          obtain rfl := vr_int vb
          obtain ⟨hl, hq⟩ := post_lst r (vsr_rep q1 k.toNat) p
          exact op_rep pins s σ H _ _ v u Q I rx ry ⟨a, k, us, rfl, rfl, e1, hk.1, hk.2, by
            simp only [List.length_flatten, List.map_replicate, List.sum_replicate_nat] at hl
            rw [Nat.mul_comm]; exact hl, hq⟩
        · exact p.elim
      · exact p.elim
    | ref m => simp only [binA] at p; exact p.elim
    | _ => exact p.elim
  | str i => cases b <;> exact p.elim
  | _ => exact p.elim
theorem sb_none {op : Operator} (h : op = .MatMult ∨ op = .Div) : OpR X (binaryOp op) (rV2 AD X (binA op)) := by
  intro pins s σ H x y v u Q I rx ry ⟨ρ, h, a, b, σV, r, va, vb, p⟩
  exfalso
  rcases ‹op = .MatMult ∨ op = .Div› with rfl | rfl <;> (cases a <;> cases b <;> simp only [binA] at p <;> first | exact p.elim | (split at p <;> simp_all))
theorem sb_all (op : Operator) : OpR X (binaryOp op) (rV2 AD X (binA op)) := by
  cases op with
  | Add => exact sb_add
  | Sub => exact sb_sub
  | Mult => exact sb_mul
  | MatMult => exact sb_none (.inl rfl)
  | Div => exact sb_none (.inr rfl)
  | Mod => exact sb_mod
  | Pow => exact sb_pow
  | LShift => exact sb_shl
  | RShift => exact sb_shr
  | BitOr => exact sb_or
  | BitXor => exact sb_xor
  | BitAnd => exact sb_and
  | FloorDiv => exact sb_fdiv
theorem su_neg : UnR X (unaryOp .USub) (rV1 AD X negA) := by
  intro pins s σ H x v Q I rx ⟨ρ, h, a, σV, r, va, p⟩
  cases a with
  | int i => obtain rfl := vr_int va; exact un_neg pins s σ H _ v Q I rx ⟨i, rfl, post_val r p rfl⟩
  | _ => exact p.elim
theorem su_inv : UnR X (unaryOp .Invert) (rV1 AD X invA) := by
  intro pins s σ H x v Q I rx ⟨ρ, h, a, σV, r, va, p⟩
  cases a with
  | int i => obtain rfl := vr_int va; exact un_inv pins s σ H _ v Q I rx ⟨i, rfl, post_val r p rfl⟩
  | _ => exact p.elim
/-- name op= e -/
theorem sa_all (op : Operator) : OpR X (inplaceOp op) (rV2 AD X (augA op)) := by
  intro pins s σ H x y v u Q I rx ry ⟨ρ, h, a, b, σV, r, va, vb, p⟩
  cases a with
  | int i =>
    cases b with
    | int j =>
      obtain rfl := vr_int va
      obtain rfl := vr_int vb
      simp only [augA] at p
      have fin : ∀ {C : Int → Int → Prop} {g : Int → Int → Int}, OpR X (inplaceOp op) (rI C fun i j => .int (g i j)) → C i j → Q (.int (g i j)) H → wpAny (model X.prog X.w) X.A (inplaceOp op v u) (EP X pins σ Q) X.xe s :=
        fun ho hc q => ho pins s σ H _ _ v u Q I rx ry ⟨i, j, rfl, rfl, hc, q⟩
      have fin0 : ∀ {g : Int → Int → Int}, OpR X (inplaceOp op) (rI0 fun i j => .int (g i j)) → Q (.int (g i j)) H → wpAny (model X.prog X.w) X.A (inplaceOp op v u) (EP X pins σ Q) X.xe s :=
        fun ho q => ho pins s σ H _ _ v u Q I rx ry ⟨i, j, rfl, rfl, q⟩
      cases op <;> simp only [binA] at p
      case Add => exact fin0 iop_add (post_val r p rfl)
      case Sub => exact fin0 iop_sub (post_val r p rfl)
      case BitAnd => exact fin0 iop_and (post_val r p rfl)
      case BitOr => exact fin0 iop_or (post_val r p rfl)
      case BitXor => exact fin0 iop_xor (post_val r p rfl)
      case Mult => split at p
                   · rename_i hl; exact fin iop_mul (cmul_of hl) (post_val r p rfl)
                   · exact p.elim
      case FloorDiv => split at p
                       · rename_i hl; exact fin iop_fdiv hl (post_val r p rfl)
                       · exact p.elim
      case Mod => split at p
                  · rename_i hl; exact fin iop_mod hl (post_val r p rfl)
                  · exact p.elim
      case LShift => split at p
                     · rename_i hl; exact fin iop_shl hl (post_val r p rfl)
                     · exact p.elim
      case RShift => split at p
                     · rename_i hl; exact fin iop_shr hl (post_val r p rfl)
                     · exact p.elim
      case Pow => split at p
                  · rename_i hl; exact fin (g := fun i j => i ^ j.toNat) (C := fun i j => 0 ≤ j ∧ (Builtin.Int.intBits i : Int) * j ≤ 2 ^ 27) (opI fun _ _ _ _ _ _ _ hc q => ipow_int hc.1 hc.2 q) hl (post_val r p rfl)
                  · exact p.elim
      all_goals exact p.elim
    | _ => exact p.elim
  | str i =>
    cases b with
    | str j =>
      obtain rfl := vr_str va
      obtain rfl := vr_str vb
      simp only [augA] at p
      cases op <;> simp only [binA] at p
      case Add => split at p
                  · rename_i hl; exact iop_add_str pins s σ H _ _ v u Q I rx ry ⟨i, j, rfl, rfl, hl, post_val r p rfl⟩
                  · exact p.elim
      all_goals exact p.elim
    | _ => exact p.elim
  | ref n => cases b <;> exact p.elim
  | _ => exact p.elim

/-! ### comparisons -/
/-- enough room for == of nested data -/
def RoomU (X : Cx) : Prop := X.A.units + 65 < cLine
theorem dp_all {ρ : List Addr} {h : AH} {H : Hp} {K : Frag} {k : Nat} (ih : ∀ v x d, VR AD ρ v x → toD k h v = some d → Dp K H x d) : ∀ {xs : List AV} {ys : List V} {ds : List PyData}, VsR AD ρ xs ys → xs.mapM (toD k h) = some ds → DpAll K H ys ds := by
  intro xs ys ds q
  induction q generalizing ds with
  | nil => intro e; simp at e; subst e; exact .nil
  | cons a r ih2 =>
    intro e
    rw [List.mapM_cons] at e
    simp only [Option.bind_eq_bind, Option.bind_eq_some_iff, Option.pure_def, Option.some.injEq] at e
    obtain ⟨d, e1, ds', e2, rfl⟩ := e
    exact .cons (ih _ _ _ a e1) (ih2 e2)
theorem dp_of {ρ : List Addr} {h : AH} {H : Hp} {K : Frag} (r : Rep AD ρ h H) : ∀ (k : Nat) v x d, VR AD ρ v x → toD k h v = some d → Dp K H x d := by
  intro k
  induction k with
  | zero =>
    intro v x d q e
    cases v with
    | non => cases e; obtain rfl := vr_non q; exact .non
    | bl b => cases e; obtain rfl := vr_bl q; exact .bl b
    | int b => cases e; obtain rfl := vr_int q; exact .int b
    | str b => cases e; obtain rfl := vr_str q; exact .str b
    | _ => cases e
  | succ k ih =>
    intro v x d q e
    cases v with
    | non => cases e; obtain rfl := vr_non q; exact .non
    | bl b => cases e; obtain rfl := vr_bl q; exact .bl b
    | int b => cases e; obtain rfl := vr_int q; exact .int b
    | str b => cases e; obtain rfl := vr_str q; exact .str b
    | ref n =>
      simp only [toD] at e
      split at e
      · rename_i xs hn
        simp only [Option.map_eq_some_iff] at e
        obtain ⟨ds, e1, rfl⟩ := e
        obtain ⟨a, _, rfl, ys, h1, h2⟩ := r.ref q hn
        exact .lst (.inl (.inl h1)) (dp_all ih h2 e1)
      · rename_i xs hn
        simp only [Option.map_eq_some_iff] at e
        obtain ⟨ds, e1, rfl⟩ := e
        obtain ⟨a, _, rfl, ys, h1, h2⟩ := r.ref q hn
        exact .tup (.inl (.inl h1)) (dp_all ih h2 e1)
      · cases e
    | _ => cases e
theorem eqA_dp {ρ : List Addr} {h : AH} {H : Hp} {K : Frag} (r : Rep AD ρ h H) {v w : AV} {x y : V} {b : Bool} (q1 : VR AD ρ v x) (q2 : VR AD ρ w y) (e : eqA h v w = some b) :
    ∃ d e, Dp K H x d ∧ Dp K H y e ∧ SeqAt.shaped d = true ∧ SeqAt.shaped e = true ∧ b = PyData.eqv d e := by
  unfold eqA at e
  split at e
  · rename_i d d' h1 h2
    split at e
    · rename_i hs
      cases e
      exact ⟨d, d', dp_of r _ _ _ _ q1 h1, dp_of r _ _ _ _ q2 h2, hs.1, hs.2, rfl⟩
    · cases e
  · cases e
theorem post_opt {α β : Type} {ρ : List Addr} {σV : St} {o : Option α} {f : α → β} {h : AH} {γ : Type} {rel : List Addr → β → γ → Prop} {Q : γ → Hp → Prop} (p : Post AD X ρ σV (R.opt (o.map f) h) rel Q) : ∃ a, o = some a ∧ Post AD X ρ σV (.ok (f a) h) rel Q := by
  cases o with
  | none => exact p.elim
  | some a => exact ⟨a, rfl, p⟩
theorem ksr_find {ρ : List Addr} {kvs : List (AKey × AV)} {ks : List (Key × V)} (q : KsR AD ρ kvs ks) (k : AKey) : (∀ v, valK kvs k = some v → ∃ x, valV ks k = some x ∧ VR AD ρ v x) ∧ (valK kvs k = none → valV ks k = none) := by
  induction q with
  | nil => exact ⟨fun v e => by simp [valK] at e, fun _ => rfl⟩
  | @cons p1 p2 l1 l2 a r ih =>
    unfold valK valV at *
    rw [List.find?_cons, List.find?_cons, ← a.1]
    by_cases c : p1.1 = k
    · simp only [c, decide_true]
      exact ⟨fun v e => by simp at e; subst e; exact ⟨_, rfl, a.2⟩, fun e => by simp at e⟩
    · simp only [c, decide_false]
      exact ih
theorem key_of {ρ : List Addr} {v : AV} {x : V} {k : AKey} (q : VR AD ρ v x) (e : keyOf v = some k) : x = kV k := by
  cases v with
  | int i => cases e; exact vr_int q
  | str i => cases e; exact vr_str q
  | _ => cases e
theorem sc_eq (hu : RoomU X) : OpR X (compareOp .Eq) (rV2 AD X (cmpA .Eq)) := by
  intro pins s σ H x y v u Q I rx ry ⟨ρ, h, a, b, σV, r, va, vb, p⟩
  simp only [cmpA] at p
  obtain ⟨c, e, p⟩ := post_opt p
  obtain ⟨d, d', h1, h2, s1, s2, rfl⟩ := eqA_dp (K := X.K) r va vb e
  exact op_eqD (by unfold RoomU at hu; omega) pins s σ H _ _ v u Q I rx ry ⟨d, d', h1, h2, s1, s2, post_val r p rfl⟩
theorem sc_ne (hu : RoomU X) : OpR X (compareOp .NotEq) (rV2 AD X (cmpA .NotEq)) := by
  intro pins s σ H x y v u Q I rx ry ⟨ρ, h, a, b, σV, r, va, vb, p⟩
  simp only [cmpA] at p
  obtain ⟨c, e, p⟩ := post_opt p
  obtain ⟨d, d', h1, h2, s1, s2, rfl⟩ := eqA_dp (K := X.K) r va vb e
  exact op_neD (by unfold RoomU at hu; omega) pins s σ H _ _ v u Q I rx ry ⟨d, d', h1, h2, s1, s2, post_val r p rfl⟩
theorem sc_int {op : CmpOp} {g : Int → Int → Bool} (ho : OpR X (compareOp op) (rI0 fun i j => .bl (g i j))) (hb : ∀ i j h, cmpA op (.int i) (.int j) h = .ok (.bl (g i j)) h)
    (hn : ∀ v w h, (∀ i j, ¬ (v = .int i ∧ w = .int j)) → cmpA op v w h = .bad) : OpR X (compareOp op) (rV2 AD X (cmpA op)) := by
  intro pins s σ H x y v u Q I rx ry ⟨ρ, h, a, b, σV, r, va, vb, p⟩
  by_cases hi : ∃ i j, a = .int i ∧ b = .int j
  · obtain ⟨i, j, rfl, rfl⟩ := hi
    obtain rfl := vr_int va
    obtain rfl := vr_int vb
    rw [hb] at p
    exact ho pins s σ H _ _ v u Q I rx ry ⟨i, j, rfl, rfl, post_val r p rfl⟩
  · rw [hn a b h (fun i j z => hi ⟨i, j, z⟩)] at p
    exact p.elim
theorem sc_is : OpR X (compareOp .Is) (rV2 AD X (cmpA .Is)) := by
  intro pins s σ H x y v u Q I rx ry ⟨ρ, h, a, b, σV, r, va, vb, p⟩
  cases b with
  | non =>
    obtain rfl := vr_non vb
    have e : decide (x = V.non) = decide (a = AV.non) := by
      cases a with
      | non => obtain rfl := vr_non va; rfl
      | bl i => obtain rfl := vr_bl va; rfl
      | int i => obtain rfl := vr_int va; rfl
      | str i => obtain rfl := vr_str va; rfl
      | ty i => obtain rfl := vr_ty va; rfl
      | ref i => obtain ⟨_, _, rfl⟩ := vr_ref va; rfl
      | glob i => obtain ⟨_, _, rfl⟩ := vr_glob va; rfl
    exact op_isN pins s σ H _ _ v u Q I rx ry ⟨rfl, by rw [e]; exact post_val r p rfl⟩
  | _ => exact p.elim
theorem sc_isnot : OpR X (compareOp .IsNot) (rV2 AD X (cmpA .IsNot)) := by
  intro pins s σ H x y v u Q I rx ry ⟨ρ, h, a, b, σV, r, va, vb, p⟩
  cases b with
  | non =>
    obtain rfl := vr_non vb
    have e : decide (x = V.non) = decide (a = AV.non) := by
      cases a with
      | non => obtain rfl := vr_non va; rfl
      | bl i => obtain rfl := vr_bl va; rfl
      | int i => obtain rfl := vr_int va; rfl
      | str i => obtain rfl := vr_str va; rfl
      | ty i => obtain rfl := vr_ty va; rfl
      | ref i => obtain ⟨_, _, rfl⟩ := vr_ref va; rfl
      | glob i => obtain ⟨_, _, rfl⟩ := vr_glob va; rfl
    exact op_notN pins s σ H _ _ v u Q I rx ry ⟨rfl, by rw [e]; exact post_val r p rfl⟩
  | _ => exact p.elim
/-- what `in` tells of a run -/
theorem inA_cases {ρ : List Addr} {h : AH} {H : Hp} {K : Frag} (r : Rep AD ρ h H) {v w : AV} {x y : V} {b : Bool} (q1 : VR AD ρ v x) (q2 : VR AD ρ w y) (e : inA h v w = some b) :
    (∃ a ks k, y = .ref a ∧ H a = some (.dK ks) ∧ x = kV k ∧ b = (valV ks k).isSome) ∨
    (∃ d ds, Dp K H x d ∧ Dp K H y (.list ds) ∧ SeqAt.shaped d = true ∧ SeqAt.shaped (.list ds) = true ∧ b = (ds.any fun z => PyData.eqv z d)) := by
  cases w with
  | ref n =>
    simp only [inA] at e
    split at e
    · rename_i kvs hn
      simp only [Option.map_eq_some_iff] at e
      obtain ⟨k, hk, rfl⟩ := e
      obtain ⟨a, _, rfl, ks, h1, h2⟩ := r.ref q2 hn
      refine .inl ⟨a, ks, k, rfl, h1, key_of q1 hk, ?_⟩
      obtain ⟨f1, f2⟩ := ksr_find h2 k
      cases hv : valK kvs k with
      | none => rw [f2 hv]; rfl
      | some v => obtain ⟨z, hz, _⟩ := f1 v hv; rw [hz]; rfl
    · rename_i ms kvs hn
      simp only [Option.map_eq_some_iff] at e
      obtain ⟨k, hk, rfl⟩ := e
      obtain ⟨a, _, rfl, ks, h1, h2⟩ := r.ref q2 hn
      refine .inl ⟨a, ks, k, rfl, h1, key_of q1 hk, ?_⟩
      obtain ⟨f1, f2⟩ := ksr_find h2 k
      cases hv : valK kvs k with
      | none => rw [f2 hv]; rfl
      | some v => obtain ⟨z, hz, _⟩ := f1 v hv; rw [hz]; rfl
    · split at e
      · rename_i d ds h1 h2
        split at e
        · rename_i hs
          cases e
          exact .inr ⟨d, ds, dp_of r _ _ _ _ q1 h1, dp_of r _ _ _ _ q2 h2, hs.1, hs.2, rfl⟩
        · cases e
      · cases e
  | _ => cases e
theorem sc_in (hu : RoomU X) : OpR X (compareOp .In) (rV2 AD X (cmpA .In)) := by
  intro pins s σ H x y v u Q I rx ry ⟨ρ, h, a, b, σV, r, va, vb, p⟩
  simp only [cmpA] at p
  obtain ⟨c, e, p⟩ := post_opt p
  rcases inA_cases (K := X.K) r va vb e with ⟨d, ks, k, rfl, h1, rfl, rfl⟩ | ⟨d, ds, h1, h2, s1, s2, rfl⟩
  · cases (show u = Value.ref d from ry)
    exact d_in (by unfold RoomU at hu; omega) I (.inl ⟨ks, k, .inl h1, rfl, rfl⟩) rx fun s' I' => ⟨.bl _, H, I', rfl, post_val r p rfl⟩
  · exact op_inD hu pins s σ H _ _ v u Q I rx ry ⟨d, ds, h1, h2, s1, s2, post_val r p rfl⟩
theorem sc_notin (hu : RoomU X) : OpR X (compareOp .NotIn) (rV2 AD X (cmpA .NotIn)) := by
  intro pins s σ H x y v u Q I rx ry ⟨ρ, h, a, b, σV, r, va, vb, p⟩
  simp only [cmpA] at p
  obtain ⟨c, e, p⟩ := post_opt p
  rcases inA_cases (K := X.K) r va vb e with ⟨d, ks, k, rfl, h1, rfl, rfl⟩ | ⟨d, ds, h1, h2, s1, s2, rfl⟩
  · cases (show u = Value.ref d from ry)
    exact d_notIn (by unfold RoomU at hu; omega) I (.inl ⟨ks, k, .inl h1, rfl, rfl⟩) rx fun s' I' => ⟨.bl _, H, I', rfl, post_val r p rfl⟩
  · exact op_notInD hu pins s σ H _ _ v u Q I rx ry ⟨d, ds, h1, h2, s1, s2, post_val r p rfl⟩
theorem sc_all (hu : RoomU X) (op : CmpOp) : OpR X (compareOp op) (rV2 AD X (cmpA op)) := by
  cases op with
  | Eq => exact sc_eq hu
  | NotEq => exact sc_ne hu
  | Lt => exact sc_int op_lt (fun _ _ _ => rfl) fun v w h n => by cases v <;> cases w <;> first | rfl | exact absurd ⟨rfl, rfl⟩ (n _ _)
  | LtE => exact sc_int op_le (fun _ _ _ => rfl) fun v w h n => by cases v <;> cases w <;> first | rfl | exact absurd ⟨rfl, rfl⟩ (n _ _)
  | Gt => exact sc_int op_gt (fun _ _ _ => rfl) fun v w h n => by cases v <;> cases w <;> first | rfl | exact absurd ⟨rfl, rfl⟩ (n _ _)
  | GtE => exact sc_int op_ge (fun _ _ _ => rfl) fun v w h n => by cases v <;> cases w <;> first | rfl | exact absurd ⟨rfl, rfl⟩ (n _ _)
  | Is => exact sc_is
  | IsNot => exact sc_isnot
  | In => exact sc_in hu
  | NotIn => exact sc_notin hu

/-! ### truth -/
theorem s_truth : TruR X (fun x H Q => ∃ ρ h v b, Rep AD ρ h H ∧ VR AD ρ v x ∧ truth h v = some b ∧ Q b H) := by
  intro pins s σ H x v Q I rx ⟨ρ, h, a, b, r, va, e, q⟩
  refine tru_ok pins s σ H x v Q I rx ⟨b, ?_, q⟩
  cases a with
  | non => cases e; obtain rfl := vr_non va; rfl
  | bl i => cases e; obtain rfl := vr_bl va; rfl
  | int i => cases e; obtain rfl := vr_int va; rfl
  | str i =>
    obtain rfl := vr_str va
    simp only [truth] at e
    split at e
    · rename_i hl; cases e; exact ⟨hl, rfl⟩
    · cases e
  | ref n =>
    have em : ∀ {xs : List AV} {ys : List V}, VsR AD ρ xs ys → (!xs.isEmpty) = !ys.isEmpty := fun q => by cases q <;> rfl
    simp only [truth] at e
    split at e
    · rename_i xs hn; cases e
      obtain ⟨a, _, rfl, ys, h1, h2⟩ := r.ref va hn
      exact .inl ⟨ys, .inl (.inl h1), em h2⟩
    · rename_i xs hn; cases e
      obtain ⟨a, _, rfl, ys, h1, h2⟩ := r.ref va hn
      exact .inr (.inl ⟨ys, .inl (.inl h1), em h2⟩)
    · rename_i xs hn; cases e
      obtain ⟨a, _, rfl, ys, h1, h2⟩ := r.ref va hn
      exact .inr (.inr ⟨ys, h1, by cases h2 <;> rfl⟩)
    · cases e
  | _ => cases e
end SL

set_option Elab.async false
set_option linter.all false
set_option maxRecDepth 100000
set_option maxHeartbeats 4000000
/-! The evaluator over the hand layer: built-in functions, subscripts, methods, fields. -/
namespace SL
open PySem PySem.Spec L2
open PyProof.Rows hiding St
open PySem.W (Frag)
variable {AD : Str → Option Addr} {X : Cx} {G : Env}

theorem insI_perm (a : Int) : ∀ l, (insI a l).Perm (a :: l)
  | [] => .refl _
  | b :: r => by
    unfold insI
    split
    · exact .refl _
    · exact (List.Perm.cons b (insI_perm a r)).trans (List.Perm.swap a b r)
theorem isort_perm : ∀ l, (isort l).Perm l
  | [] => .refl _
  | a :: l => (insI_perm a (isort l)).trans (List.Perm.cons a (isort_perm l))
theorem insI_sorted (a : Int) : ∀ l, l.Pairwise (· ≤ ·) → (insI a l).Pairwise (· ≤ ·)
  | [], _ => by simp [insI]
  | b :: r, h => by
    have h' := List.pairwise_cons.mp h
    unfold insI
    split
    · rename_i c
      refine List.pairwise_cons.mpr ⟨fun x hx => ?_, h⟩
      rcases List.mem_cons.mp hx with rfl | hx
      · exact c
      · exact Int.le_trans c (h'.1 x hx)
    · rename_i c
      refine List.pairwise_cons.mpr ⟨fun x hx => ?_, insI_sorted a r h'.2⟩
      rcases List.mem_cons.mp ((insI_perm a r).mem_iff.mp hx) with rfl | hx
      · omega
      · exact h'.1 x hx
theorem isort_sorted : ∀ l, (isort l).Pairwise (· ≤ ·)
  | [] => by simp [isort]
  | a :: l => insI_sorted a _ (isort_sorted l)
theorem sorted_same : ∀ {l m : List Int}, l.Perm m → l.Pairwise (· ≤ ·) → m.Pairwise (· ≤ ·) → l = m
  | [], m, p, _, _ => by rw [List.nil_perm.mp p]
  | a :: l, [], p, _, _ => absurd p (by simp)
  | a :: l, b :: m, p, h, k => by
    have h' := List.pairwise_cons.mp h
    have k' := List.pairwise_cons.mp k
    have e : a = b := by
      have ha : a ∈ b :: m := p.mem_iff.mp List.mem_cons_self
      have hb : b ∈ a :: l := p.mem_iff.mpr List.mem_cons_self
      rcases List.mem_cons.mp ha with r | ha
      · exact r
      · rcases List.mem_cons.mp hb with r | hb
        · exact r.symm
        · have := k'.1 a ha; have := h'.1 b hb; omega
    subst e
    rw [sorted_same (List.Perm.cons_inv p) h'.2 k'.2]

/-- what a built-in, by its evaluator, asks -/
def rB (AD : Str → Option Addr) (X : Cx) (f : List AV → AH → R AV) : List V → Hp → VK → Prop := fun xs H Q => ∃ ρ h vs σV, Rep AD ρ h H ∧ VsR AD ρ vs xs ∧ Post AD X ρ σV (f vs h) (VR AD) Q
theorem vsr1 {ρ : List Addr} {v : AV} {xs : List V} (q : VsR AD ρ [v] xs) : ∃ x, xs = [x] ∧ VR AD ρ v x := by
  cases q with
  | cons a r => cases r; exact ⟨_, rfl, a⟩
theorem vsr2 {ρ : List Addr} {v w : AV} {xs : List V} (q : VsR AD ρ [v, w] xs) : ∃ x y, xs = [x, y] ∧ VR AD ρ v x ∧ VR AD ρ w y := by
  cases q with
  | cons a r => cases r with
    | cons b r => cases r; exact ⟨_, _, rfl, a, b⟩
theorem kv_keyV {ρ : List Addr} : ∀ {kvs : List (AKey × AV)} {ks : List (Key × V)}, KsR AD ρ kvs ks → VsR AD ρ (kvs.map fun kv => keyV kv.1) (ks.map fun kv => kV kv.1)
  | _, _, .nil => .nil
  | (k, v) :: _, (k', x) :: _, .cons p r => .cons (by
      have e : k = k' := p.1
      subst e
      cases k <;> rfl) (kv_keyV r)
/-- a built-in of one argument -/
theorem cb_one {u : Value} {f : Blt} {g : AV → AH → R AV} (hf : ∀ vs h, bltA G f vs h = match vs with
    | [v] => g v h
    | _ => .bad) (hg : ∀ (pins : List (Addr × Obj)) (s : Shared) (σ : St) (H : Hp) (x : V) (us : List Value) (Q : VK) (ρ : List Addr) (h : AH) (v : AV) (σV : St), Inv X pins σ H s → Vals [x] us → Rep AD ρ h H → VR AD ρ v x → Post AD X ρ σV (g v h) (VR AD) Q →
      wpAny (model X.prog X.w) X.A (call u us) (EP X pins σ Q) X.xe s) : CallR X u (rB AD X (bltA G f)) := by
  intro pins s σ H xs us Q I r ⟨ρ, h, vs, σV, rp, q, p⟩
  rw [hf] at p
  split at p
  · obtain ⟨x, rfl, q1⟩ := vsr1 q
    exact hg pins s σ H x us Q ρ h _ σV I r rp q1 p
  · exact p.elim
theorem cb_two {u : Value} {f : Blt} {g : AV → AV → AH → R AV} (hf : ∀ vs h, bltA G f vs h = match vs with
    | [v, w] => g v w h
    | _ => .bad) (hg : ∀ (pins : List (Addr × Obj)) (s : Shared) (σ : St) (H : Hp) (x y : V) (us : List Value) (Q : VK) (ρ : List Addr) (h : AH) (v w : AV) (σV : St), Inv X pins σ H s → Vals [x, y] us → Rep AD ρ h H → VR AD ρ v x → VR AD ρ w y → Post AD X ρ σV (g v w h) (VR AD) Q →
      wpAny (model X.prog X.w) X.A (call u us) (EP X pins σ Q) X.xe s) : CallR X u (rB AD X (bltA G f)) := by
  intro pins s σ H xs us Q I r ⟨ρ, h, vs, σV, rp, q, p⟩
  rw [hf] at p
  split at p
  · obtain ⟨x, y, rfl, q1, q2⟩ := vsr2 q
    exact hg pins s σ H x y us Q ρ h _ _ σV I r rp q1 q2 p
  · exact p.elim
theorem cb_len : CallR X (.builtin "len") (rB AD X (bltA G .len)) := by
  refine cb_one (g := lenA) (by intro vs h; rcases vs with _ | ⟨a, _ | ⟨b, _ | ⟨c, l⟩⟩⟩ <;> rfl) ?_
  intro pins s σ H x us Q ρ h v σV I r rp q1 p
  cases v with
  | ref n =>
    simp only [lenA] at p
    split at p
    · rename_i zs hn
      obtain ⟨a, _, rfl, ys, h1, h2⟩ := rp.ref q1 hn
      exact call_len_seq pins s σ H _ us Q I r ⟨a, ys, rfl, .inl (.inl (.inl h1)), by rw [← Paired.length h2]; exact post_val rp p rfl⟩
    · rename_i zs hn
      obtain ⟨a, _, rfl, o, ys, h1, h2⟩ := rp.ref q1 hn
      exact call_len_seq pins s σ H _ us Q I r ⟨a, ys, rfl, .inl (.inl (.inr ⟨o, h1⟩)), by rw [← Paired.length h2]; exact post_val rp p rfl⟩
    · rename_i zs hn
      obtain ⟨a, _, rfl, ys, h1, h2⟩ := rp.ref q1 hn
      exact call_len_seq pins s σ H _ us Q I r ⟨a, ys, rfl, .inr (.inl (.inl h1)), by rw [← Paired.length h2]; exact post_val rp p rfl⟩
    · rename_i zs hn
      obtain ⟨a, _, rfl, ys, h1, h2⟩ := rp.ref q1 hn
      exact call_lenD pins s σ H _ us Q I r ⟨a, ys, rfl, h1, by rw [← Paired.length h2]; exact post_val rp p rfl⟩
    · exact p.elim
  | str z =>
    obtain rfl := vr_str q1
    simp only [lenA] at p
    split at p
    · rename_i hl
      exact call_len_str pins s σ H _ us Q I r ⟨z, rfl, hl, post_val rp p rfl⟩
    · exact p.elim
  | _ => exact p.elim
theorem cb_sum (hc : X.calm = true) : CallR X (.builtin "sum") (rB AD X (bltA G .sum)) := by
  refine cb_one (g := sumA) (by intro vs h; rcases vs with _ | ⟨a, _ | ⟨b, _ | ⟨c, l⟩⟩⟩ <;> rfl) ?_
  intro pins s σ H x us Q ρ h v σV I r rp q1 p
  simp only [sumA] at p
  split at p
  · rename_i ns e
    obtain ⟨zs, e1, e2⟩ := Option.bind_eq_some_iff.mp e
    obtain ⟨a, ys, rfl, h1, h2⟩ := rp.lst X.K q1 e1
    have := vsr_ints h2 e2
    subst this
    exact cr_sum hc pins s σ H _ us Q I r ⟨a, ns, rfl, h1, post_val rp p rfl⟩
  · exact p.elim
theorem cb_all (hc : X.calm = true) : CallR X (.builtin "all") (rB AD X (bltA G .all)) := by
  refine cb_one (g := allA) (by intro vs h; rcases vs with _ | ⟨a, _ | ⟨b, _ | ⟨c, l⟩⟩⟩ <;> rfl) ?_
  intro pins s σ H x us Q ρ h v σV I r rp q1 p
  simp only [allA] at p
  split at p
  · rename_i ns e
    obtain ⟨zs, e1, e2⟩ := Option.bind_eq_some_iff.mp e
    obtain ⟨a, ys, rfl, h1, h2⟩ := rp.lst X.K q1 e1
    have := vsr_bools h2 e2
    subst this
    exact cr_all hc pins s σ H _ us Q I r ⟨a, ns, rfl, h1, post_val rp p rfl⟩
  · exact p.elim
theorem cb_any (hc : X.calm = true) : CallR X (.builtin "any") (rB AD X (bltA G .any)) := by
  refine cb_one (g := anyA) (by intro vs h; rcases vs with _ | ⟨a, _ | ⟨b, _ | ⟨c, l⟩⟩⟩ <;> rfl) ?_
  intro pins s σ H x us Q ρ h v σV I r rp q1 p
  simp only [anyA] at p
  split at p
  · rename_i ns e
    obtain ⟨zs, e1, e2⟩ := Option.bind_eq_some_iff.mp e
    obtain ⟨a, ys, rfl, h1, h2⟩ := rp.lst X.K q1 e1
    have := vsr_bools h2 e2
    subst this
    exact cr_any hc pins s σ H _ us Q I r ⟨a, ns, rfl, h1, post_val rp p rfl⟩
  · exact p.elim
theorem cb_int : CallR X (.type "int") (rB AD X (bltA G .int)) := by
  refine cb_one (g := intA) (by intro vs h; rcases vs with _ | ⟨a, _ | ⟨b, _ | ⟨c, l⟩⟩⟩ <;> rfl) ?_
  intro pins s σ H x us Q ρ h v σV I r rp q1 p
  cases v with
  | int i => obtain rfl := vr_int q1; exact call_int1 pins s σ H _ us Q I r (.inl ⟨i, rfl, post_val rp p rfl⟩)
  | bl i => obtain rfl := vr_bl q1; exact call_int1 pins s σ H _ us Q I r (.inr ⟨i, rfl, post_val rp p rfl⟩)
  | _ => exact p.elim
theorem cb_list (hc : X.calm = true) : CallR X (.type "list") (rB AD X (bltA G .list)) := by
  refine cb_one (g := listA) (by intro vs h; rcases vs with _ | ⟨a, _ | ⟨b, _ | ⟨c, l⟩⟩⟩ <;> rfl) ?_
  intro pins s σ H x us Q ρ h v σV I r rp q1 p
  cases v with
  | ref n =>
    simp only [listA] at p
    split at p
    · rename_i zs hn
      obtain ⟨a, _, rfl, ys, h1, h2⟩ := rp.ref q1 hn
      exact call_list_of pins s σ H _ us Q I r ⟨a, ys, rfl, .inl (.inl (.inl h1)), (post_lst rp h2 p).2⟩
    · rename_i zs hn
      obtain ⟨a, _, rfl, o, ys, h1, h2⟩ := rp.ref q1 hn
      exact call_list_of pins s σ H _ us Q I r ⟨a, ys, rfl, .inl (.inl (.inr ⟨o, h1⟩)), (post_lst rp h2 p).2⟩
    · rename_i zs hn
      obtain ⟨a, _, rfl, ys, h1, h2⟩ := rp.ref q1 hn
      exact call_list_of pins s σ H _ us Q I r ⟨a, ys, rfl, .inr (.inl (.inl h1)), (post_lst rp h2 p).2⟩
    · rename_i zs hn
      obtain ⟨a, _, rfl, ys, h1, h2⟩ := rp.ref q1 hn
      exact call_listD hc pins s σ H _ us Q I r ⟨a, ys, rfl, .inl h1, (post_lst rp (kv_keyV h2) p).2⟩
    · exact p.elim
  | _ => exact p.elim
theorem cb_tuple : CallR X (.type "tuple") (rB AD X (bltA G .tuple)) := by
  refine cb_one (g := tupleA) (by intro vs h; rcases vs with _ | ⟨a, _ | ⟨b, _ | ⟨c, l⟩⟩⟩ <;> rfl) ?_
  intro pins s σ H x us Q ρ h v σV I r rp q1 p
  cases v with
  | ref n =>
    simp only [tupleA] at p
    split at p
    · rename_i zs hn
      obtain ⟨a, _, rfl, ys, h1, h2⟩ := rp.ref q1 hn
      exact call_tuple_of pins s σ H _ us Q I r ⟨a, ys, rfl, .inl ⟨.inl (.inl h1), (post_tup rp h2 p).2⟩⟩
    · rename_i zs hn
      obtain ⟨a, _, rfl, ys, h1, h2⟩ := rp.ref q1 hn
      exact call_tuple_of pins s σ H _ us Q I r ⟨a, ys, rfl, .inr ⟨.inl (.inl h1), post_val rp p q1⟩⟩
    · exact p.elim
  | _ => exact p.elim
theorem ksr_put {ρ : List Addr} {kvs : List (AKey × AV)} {ks : List (Key × V)} (q : KsR AD ρ kvs ks) (k : AKey) {v : AV} {x : V} (r : VR AD ρ v x) : KsR AD ρ (putK kvs k v) (L2.putK ks k x) := by
  have any : (kvs.any fun kv => decide (kv.1 = k)) = (ks.any fun kv => decide (kv.1 = k)) := by
    induction q with
    | nil => rfl
    | cons a r ih => simp only [List.any_cons, ih, a.1]
  have mp : KsR AD ρ (kvs.map (fun kv => if kv.1 = k then (kv.1, v) else kv)) (ks.map (fun kv => if kv.1 = k then (kv.1, x) else kv)) := by
    clear any
    induction q with
    | nil => exact .nil
    | @cons p1 p2 l1 l2 a s ih =>
      simp only [List.map_cons]
      refine .cons ?_ ih
      rw [← a.1]
      split
      · exact ⟨rfl, r⟩
      · exact a
  have sn : KsR AD ρ (kvs ++ [(k, v)]) (ks ++ [(k, x)]) := by
    clear any mp
    induction q with
    | nil => exact .cons ⟨rfl, r⟩ .nil
    | cons a s ih => exact .cons a ih
  unfold putK L2.putK
  rw [any]
  split
  · exact mp
  · exact sn
theorem ksr_merge {ρ : List Addr} {more : List (AKey × AV)} {ms : List (Key × V)} (q : KsR AD ρ more ms) : ∀ {kvs : List (AKey × AV)} {ks : List (Key × V)}, KsR AD ρ kvs ks → KsR AD ρ (more.foldl (fun acc kv => putK acc kv.1 kv.2) kvs) (L2.mergeK ks ms) := by
  induction q with
  | nil => intro _ _ r; exact r
  | @cons p1 p2 l1 l2 a s ih =>
    intro kvs ks r
    have e := ksr_put r p1.1 a.2
    refine ih (ks := L2.putK ks p2.1 p2.2) ?_
    rw [← a.1]; exact e
theorem pairs_rep {ρ : List Addr} {h : AH} {H : Hp} {K : Frag} (rp : Rep AD ρ h H) : ∀ {xs : List AV} {ys : List V} {kvs : List (AKey × AV)}, VsR AD ρ xs ys → pairsOf h xs = some kvs →
    ∃ ps ks, ys = ps.map V.ref ∧ KsR AD ρ kvs ks ∧ Paired (fun p kv => SqT K H p [kV kv.1, kv.2]) ps ks := by
  intro xs ys kvs q
  induction q generalizing kvs with
  | nil => intro e; cases e; exact ⟨[], [], rfl, .nil, .nil⟩
  | @cons v x l1 l2 a s ih =>
    intro e
    cases v with
    | ref n =>
      simp only [pairsOf] at e
      split at e
      · rename_i k v hn
        split at e
        · rename_i k' q' hk hq
          cases e
          obtain ⟨ps, ks, rfl, r1, r2⟩ := ih hq
          obtain ⟨b, _, rfl, ys, h1, h2⟩ := rp.ref a hn
          obtain ⟨y1, y2, rfl, v1, v2⟩ := vsr2 h2
          obtain rfl := key_of v1 hk
          exact ⟨b :: ps, (k', y2) :: ks, rfl, .cons ⟨rfl, v2⟩ r1, .cons (.inl (.inl h1)) r2⟩
        · cases e
      · cases e
    | _ => cases e
theorem cb_dict (hc : X.calm = true) : CallR X (.type "dict") (rB AD X (bltA G .dict)) := by
  refine cb_one (g := dictA) (by intro vs h; rcases vs with _ | ⟨a, _ | ⟨b, _ | ⟨c, l⟩⟩⟩ <;> rfl) ?_
  intro pins s σ H x us Q ρ h v σV I r rp q1 p
  simp only [dictA] at p
  split at p
  · rename_i xs e
    split at p
    · rename_i kvs e2
      obtain ⟨a, ys, rfl, h1, h2⟩ := rp.lst X.K q1 e
      obtain ⟨ps, ks, rfl, r1, r2⟩ := pairs_rep (K := X.K) rp h2 e2
      exact call_dictP hc pins s σ H _ us Q I r ⟨a, ps, ks, rfl, h1, r2, fun b hb => p _ _ _ ⟨[b], rfl⟩ (rp.new hb ⟨_, upd_same, ksr_merge r1 .nil⟩) (rp.last b)⟩
    · exact p.elim
  · exact p.elim
theorem ksr_ints {ρ : List Addr} {kvs : List (AKey × AV)} {ks : List (Key × V)} (q : KsR AD ρ kvs ks) : ∀ {ns : List Int}, keyInts kvs = some ns → ks.map (·.1) = ns.map Sum.inl := by
  unfold keyInts
  induction q with
  | nil => intro ns e; cases e; rfl
  | @cons p1 p2 l1 l2 a s ih =>
    intro ns e
    obtain ⟨k, v⟩ := p1
    obtain ⟨k', x⟩ := p2
    have ek : k = k' := a.1
    subst ek
    cases k with
    | inl i =>
      simp only [List.map_cons, keyV, intsOf, Option.map_eq_some_iff] at e
      obtain ⟨ms, e1, rfl⟩ := e
      simp only [List.map_cons, ih e1]
    | inr y => cases e
theorem cb_sorted (hc : X.calm = true) : CallR X (.builtin "sorted") (rB AD X (bltA G .sorted)) := by
  refine cb_one (g := sortedA) (by intro vs h; rcases vs with _ | ⟨a, _ | ⟨b, _ | ⟨c, l⟩⟩⟩ <;> rfl) ?_
  intro pins s σ H x us Q ρ h v σV I r rp q1 p
  cases v with
  | ref n =>
    simp only [sortedA] at p
    have fin : ∀ (ns ns' : List Int) (b : Addr), ns'.Perm ns → ns'.Pairwise (· ≤ ·) → H b = none → Post AD X ρ σV (R.new (.lst ((isort ns).map .int)) h) (VR AD) Q → Q (.ref b) (upd H b (.lst (ns'.map V.int))) := fun ns ns' b p1 p2 hb p => by
      have e : ns' = isort ns := sorted_same (p1.trans (isort_perm ns).symm) p2 (isort_sorted ns)
      subst e
      exact p _ _ _ ⟨[b], rfl⟩ (rp.new hb ⟨_, upd_same, vsr_of_ints _⟩) (rp.last b)
    split at p
    · rename_i zs hn
      split at p
      · rename_i ns e
        obtain ⟨a, _, rfl, ys, h1, h2⟩ := rp.ref q1 hn
        have := vsr_ints h2 e
        subst this
        exact cr_sortedI pins s σ H _ us Q I r ⟨a, ns, rfl, .inl (.inl h1), fun ns' b p1 p2 hb => fin ns ns' b p1 p2 hb p⟩
      · exact p.elim
    · rename_i zs hn
      split at p
      · rename_i ns e
        split at p
        · rename_i hl
          obtain ⟨a, _, rfl, ys, h1, h2⟩ := rp.ref q1 hn
          exact call_sortedDI hc pins s σ H _ us Q I r ⟨a, ys, ns, rfl, .inl h1, ksr_ints h2 e, hl, fun ns' b p1 p2 hb => fin ns ns' b p1 p2 hb p⟩
        · exact p.elim
      · exact p.elim
    · exact p.elim
  | _ => exact p.elim
theorem cb_max (hc : X.calm = true) : CallR X (.builtin "max") (rB AD X (bltA G .max)) := by
  refine cb_two (g := maxA) (by intro vs h; rcases vs with _ | ⟨a, _ | ⟨b, _ | ⟨c, l⟩⟩⟩ <;> rfl) ?_
  intro pins s σ H x y us Q ρ h v w σV I r rp q1 q2 p
  cases v with
  | int i => cases w with
    | int j =>
      obtain rfl := vr_int q1
      obtain rfl := vr_int q2
      exact call_max2 hc pins s σ H _ us Q I r ⟨i, j, rfl, post_val rp p rfl⟩
    | _ => exact p.elim
  | _ => exact p.elim
theorem cb_min (hc : X.calm = true) : CallR X (.builtin "min") (rB AD X (bltA G .min)) := by
  refine cb_two (g := minA) (by intro vs h; rcases vs with _ | ⟨a, _ | ⟨b, _ | ⟨c, l⟩⟩⟩ <;> rfl) ?_
  intro pins s σ H x y us Q ρ h v w σV I r rp q1 q2 p
  cases v with
  | int i => cases w with
    | int j =>
      obtain rfl := vr_int q1
      obtain rfl := vr_int q2
      exact call_min2 hc pins s σ H _ us Q I r ⟨i, j, rfl, post_val rp p rfl⟩
    | _ => exact p.elim
  | _ => exact p.elim
end SL

set_option Elab.async false
set_option linter.all false
set_option maxRecDepth 100000
set_option maxHeartbeats 4000000
/-! The evaluator over the hand layer: isinstance, subscripts, slices, methods, fields. -/
namespace SL
open PySem PySem.Spec L2
open PyProof.Rows hiding St
open PySem.W (Frag)

/-- what the classes of the text bear -/
structure ClsOk (AD : Str → Option Addr) (G : Env) (K : Frag) : Prop where
  cl : ∀ C cd Ca, G.cls C = some cd → AD C = some Ca → Cls K Ca ∧ PySem.W.findIn K (.ref Ca) "__class__" = some (some (.builtin "object.__class__")) ∧
    PySem.W.specialIn K (.builtin "object.__class__") "__get__" = some (some (.builtin "getset_descriptor.__get__")) ∧ PySem.W.takesIn K (.builtin "object.__class__") = some true ∧ PySem.W.mroIn K Ca (.type "object") = some true
  fl : ∀ C cd Ca x, G.cls C = some cd → AD C = some Ca → cd.flds.contains x = true → NoAttr K Ca x
  sub : ∀ C D Ca Da b, G.sub C D = some b → AD C = some Ca → AD D = some Da → PySem.W.kitOne K (.ref Ca) (.ref Da) = some b
  subB : ∀ C n Ca b, G.subB C n = some b → AD C = some Ca → PySem.W.kitOne K (.ref Ca) (.type n) = some b
  subT : ∀ n D Da b, G.subT n D = some b → AD D = some Da → PySem.W.kitOne K (.type n) (.ref Da) = some b
  eq : ∀ C cd g Ca a, G.cls C = some cd → cd.meth.lookup ("__eq__" : Str) = some g → (G.fns g).isSome = true → AD C = some Ca → AD g = some a →
    PySem.W.findIn K (.ref Ca) "__eq__" = some (some (.ref a)) ∧ PySem.W.isFn K (.ref a) = true ∧ PySem.W.findIn K (.ref Ca) "__ne__" = some (some (.builtin "object.__ne__"))

variable {AD : Str → Option Addr} {X : Cx} {G : Env}
/-- a type's word and the library's value -/
def TyV (AD : Str → Option Addr) : Ty → Value → Prop
  | .b n, u => u = .type n
  | .own C, u => ∃ Ca, AD C = some Ca ∧ u = .ref Ca
theorem fsr_len {ρ : List Addr} {fs : List (Str × AV)} {gs : List (Str × V)} (q : FsR AD ρ fs gs) : fs.length = gs.length := Paired.length q
theorem fsr_look {ρ : List Addr} {fs : List (Str × AV)} {gs : List (Str × V)} (q : FsR AD ρ fs gs) (x : Str) : (∀ v, fs.lookup x = some v → ∃ y, gs.lookup x = some y ∧ VR AD ρ v y) ∧ (fs.lookup x = none → gs.lookup x = none) := by
  induction q with
  | nil => exact ⟨fun v e => by simp at e, fun _ => rfl⟩
  | @cons p1 p2 l1 l2 a r ih =>
    obtain ⟨k, v⟩ := p1
    obtain ⟨k', y⟩ := p2
    have ek : k = k' := a.1
    subst ek
    rw [List.lookup_cons, List.lookup_cons]
    cases hb : x == k with
    | true => exact ⟨fun v' e => by simp at e; subst e; exact ⟨_, rfl, a.2⟩, fun e => by simp at e⟩
    | false => exact ih
theorem fsr_put {ρ : List Addr} {fs : List (Str × AV)} {gs : List (Str × V)} (q : FsR AD ρ fs gs) (x : Str) {v : AV} {y : V} (r : VR AD ρ v y) : FsR AD ρ (putFld fs x v) (putF x y gs) := by
  induction q with
  | nil => exact .cons ⟨rfl, r⟩ .nil
  | @cons p1 p2 l1 l2 a s ih =>
    obtain ⟨k, u⟩ := p1
    obtain ⟨k', z⟩ := p2
    have ek : k = k' := a.1
    subst ek
    simp only [putFld, putF]
    by_cases c : k = x
    · rw [if_pos c, if_pos c]; exact .cons ⟨rfl, r⟩ s
    · rw [if_neg c, if_neg c]; exact .cons a ih
theorem tyx_of (O : ClsOk AD G X.K) {ρ : List Addr} {h : AH} {H : Hp} (rp : Rep AD ρ h H) {v : AV} {x : V} {t : Ty} (q : VR AD ρ v x) (e : tyOf G h v = some t) : ∃ u, TyV AD t u ∧ TyX X.K H x u := by
  cases v with
  | non => cases e; obtain rfl := vr_non q; exact ⟨_, rfl, .base .non⟩
  | bl b => cases e; obtain rfl := vr_bl q; exact ⟨_, rfl, .base (.bl b)⟩
  | int b => cases e; obtain rfl := vr_int q; exact ⟨_, rfl, .base (.int b)⟩
  | str b => cases e; obtain rfl := vr_str q; exact ⟨_, rfl, .base (.str b)⟩
  | ref n =>
    simp only [tyOf] at e
    split at e
    · rename_i xs hn; cases e
      obtain ⟨a, _, rfl, ys, h1, h2⟩ := rp.ref q hn
      exact ⟨_, rfl, .base (.lst h1)⟩
    · rename_i xs hn; cases e
      obtain ⟨a, _, rfl, ys, h1, h2⟩ := rp.ref q hn
      exact ⟨_, rfl, .base (.tup h1)⟩
    · rename_i xs hn; cases e
      obtain ⟨a, _, rfl, ys, h1, h2⟩ := rp.ref q hn
      exact ⟨_, rfl, .base (.dK h1)⟩
    · rename_i C fs hn
      split at e
      · rename_i hcl
        cases e
        obtain ⟨a, _, rfl, Ca, dx, gs, h0, h1, h2⟩ := rp.ref q hn
        obtain ⟨cd, hc⟩ := Option.isSome_iff_exists.mp hcl
        obtain ⟨o1, o2, o3, o4, o5⟩ := O.cl C cd Ca hc h0
        exact ⟨_, ⟨Ca, h0, rfl⟩, .base (.ins h1 o1 o2 o3 o4 o5)⟩
      · cases e
    · cases e
  | _ => cases e
theorem kit_one (O : ClsOk AD G X.K) {ρ : List Addr} {t : Ty} {u : Value} {c : AV} {y : V} {b : Bool} (ht : TyV AD t u) (q : VR AD ρ c y) (e : isOne G t c = some b) : ∃ w, ClsV y w ∧ PySem.W.kitOne X.K u w = some b := by
  cases c with
  | ty n =>
    obtain rfl := vr_ty q
    refine ⟨.type n, .ty n, ?_⟩
    cases t with
    | b m => cases (show u = _ from ht); exact kit_ty e
    | own C => obtain ⟨Ca, h0, rfl⟩ := ht; exact O.subB C n Ca b e h0
  | glob D =>
    obtain ⟨Da, h1, rfl⟩ := vr_glob q
    refine ⟨.ref Da, .own Da, ?_⟩
    cases t with
    | b m => cases (show u = _ from ht); exact O.subT m D Da b e h1
    | own C => obtain ⟨Ca, h0, rfl⟩ := ht; exact O.sub C D Ca Da b e h0 h1
  | _ => cases e
theorem kit_any (O : ClsOk AD G X.K) {ρ : List Addr} {t : Ty} {u : Value} (ht : TyV AD t u) : ∀ {cs : List AV} {ys : List V} {b : Bool}, VsR AD ρ cs ys → isAny G t cs = some b → ∃ ws, Paired ClsV ys ws ∧ PySem.W.kitAny X.K u ws = some b := by
  intro cs
  induction cs with
  | nil => intro ys b q e; cases q; cases e; exact ⟨[], .nil, rfl⟩
  | cons c cs ih =>
    intro ys b q e
    cases q with
    | cons q1 q2 =>
      simp only [isAny] at e
      split at e
      · rename_i b1 b2 h1 h2
        cases e
        obtain ⟨w, k1, k2⟩ := kit_one O ht q1 h1
        obtain ⟨ws, k3, k4⟩ := ih q2 h2
        refine ⟨w :: ws, .cons k1 k3, kitAny_cons k2 (fun z => ?_) (fun z => by rw [z]; rfl)⟩
        rw [z]; exact k4
      · cases e
theorem cb_isi (O : ClsOk AD G X.K) : CallR X (.builtin "isinstance") (rB AD X (bltA G .isinstance)) := by
  refine cb_two (g := isiA G) (by intro vs h; rcases vs with _ | ⟨a, _ | ⟨b, _ | ⟨c, l⟩⟩⟩ <;> rfl) ?_
  intro pins s σ H x y us Q ρ h v w σV I r rp q1 q2 p
  unfold isiA at p
  split at p
  · rename_i t ht
    obtain ⟨u, k1, k2⟩ := tyx_of O rp q1 ht
    split at p
    · rename_i n
      split at p
      · rename_i cs hn
        obtain ⟨b, e, p⟩ := post_opt p
        obtain ⟨a, _, rfl, ys, h1, h2⟩ := rp.ref q2 hn
        obtain ⟨ws, k3, k4⟩ := kit_any O k1 h2 e
        exact call_isiT pins s σ H _ us Q I r ⟨x, a, ys, u, ws, b, rfl, h1, k3, k2, k4, post_val rp p rfl⟩
      · exact p.elim
    · obtain ⟨b, e, p⟩ := post_opt p
      obtain ⟨z, k3, k4⟩ := kit_one O k1 q2 e
      exact call_isi pins s σ H _ us Q I r ⟨x, y, u, z, b, rfl, k3, k2, k4, post_val rp p rfl⟩
  · exact p.elim

/-! ### subscripts -/
theorem vsr_at {ρ : List Addr} {xs : List AV} {ys : List V} (q : VsR AD ρ xs ys) {i : Int} {v : AV} (e : atI xs i = some v) : ∃ y, atI ys i = some y ∧ VR AD ρ v y := by
  unfold atI at *
  rw [← Paired.length q]
  obtain ⟨j, h1, h2⟩ := Option.bind_eq_some_iff.mp e
  obtain ⟨y, h3, h4⟩ := vsr_get q h2
  exact ⟨y, by rw [h1]; exact h3, h4⟩
theorem vr_kV {ρ : List Addr} {v : AV} {x : V} {k : AKey} (q : VR AD ρ v x) (e : keyV k = v) : x = kV k := by
  subst e
  cases k with
  | inl i => exact vr_int q
  | inr z => exact vr_str q
theorem ix_dict (hu : RoomU X) : IxR X (fun x y H Q => ∃ a ks k v, x = .ref a ∧ H a = some (.dK ks) ∧ y = kV k ∧ valV ks k = some v ∧ Q v H) := by
  intro value slice pins s σ H x y v u Q I rx ry ⟨a, ks, k, z, ex, h1, ey, e, q⟩ hs
  subst ex
  cases (show v = Value.ref a from rx)
  have g : DGet H a y (some z) := .inl ⟨ks, k, .inl h1, ey, e.symm⟩
  exact tail_any (dict_typeIs I g) PySem.F.slot_dict_getitem.lookup (d_getItem (by unfold RoomU at hu; omega) I g ry fun w' s3 I3 rw' => ⟨z, H, I3, rw', q⟩) hs
theorem six (hu : RoomU X) : IxR X (rV2 AD X ixA) := by
  intro value slice pins s σ H x y v u Q I rx ry ⟨ρ, h, a, b, σV, rp, va, vb, p⟩ hs
  cases a with
  | ref n =>
    cases b with
    | int i =>
      obtain rfl := vr_int vb
      simp only [ixA] at p
      have opt : ∀ {o : Option AV}, Post AD X ρ σV (R.opt o h) (VR AD) Q → ∃ z, o = some z ∧ Post AD X ρ σV (.ok z h) (VR AD) Q := fun {o} p => by
        cases o with
        | none => exact p.elim
        | some z => exact ⟨z, rfl, p⟩
      split at p
      · rename_i zs hn
        obtain ⟨c, _, rfl, ys, h1, h2⟩ := rp.ref va hn
        obtain ⟨z, e, p⟩ := opt p
        obtain ⟨w, e1, e2⟩ := vsr_at h2 e
        exact ix_list value slice pins s σ H _ _ v u Q I rx ry ⟨c, ys, i, w, rfl, rfl, .inl (.inl h1), e1, post_val rp p e2⟩ hs
      · rename_i zs hn
        obtain ⟨c, _, rfl, ys, h1, h2⟩ := rp.ref va hn
        obtain ⟨z, e, p⟩ := opt p
        obtain ⟨w, e1, e2⟩ := vsr_at h2 e
        exact ix_tup value slice pins s σ H _ _ v u Q I rx ry ⟨c, ys, i, w, rfl, rfl, .inl (.inl h1), e1, post_val rp p e2⟩ hs
      · rename_i zs hn
        obtain ⟨c, _, rfl, ys, h1, h2⟩ := rp.ref va hn
        obtain ⟨z, e, p⟩ := opt p
        obtain ⟨w, e1, e2⟩ := (ksr_find h2 (.inl i)).1 z e
        exact ix_dict hu value slice pins s σ H _ _ v u Q I rx ry ⟨c, ys, .inl i, w, rfl, h1, rfl, e1, post_val rp p e2⟩ hs
      · rename_i ms zs hn
        obtain ⟨c, _, rfl, ys, h1, h2⟩ := rp.ref va hn
        obtain ⟨z, e, p⟩ := opt p
        obtain ⟨w, e1, e2⟩ := (ksr_find h2 (.inl i)).1 z e
        exact ix_dict hu value slice pins s σ H _ _ v u Q I rx ry ⟨c, ys, .inl i, w, rfl, h1, rfl, e1, post_val rp p e2⟩ hs
      · exact p.elim
    | str i =>
      obtain rfl := vr_str vb
      simp only [ixA] at p
      split at p
      · rename_i zs hn
        obtain ⟨c, _, rfl, ys, h1, h2⟩ := rp.ref va hn
        cases e : valK zs (.inr i) with
        | none => rw [e] at p; exact p.elim
        | some z =>
          rw [e] at p
          obtain ⟨w, e1, e2⟩ := (ksr_find h2 (.inr i)).1 z e
          exact ix_dict hu value slice pins s σ H _ _ v u Q I rx ry ⟨c, ys, .inr i, w, rfl, h1, rfl, e1, post_val rp p e2⟩ hs
      · exact p.elim
    | _ => exact p.elim
  | _ => cases b <;> exact p.elim
theorem vsr_cut {ρ : List Addr} {xs : List AV} {ys : List V} (q : VsR AD ρ xs ys) (lo hi : Option Int) : VsR AD ρ (cutA xs lo hi) (cutV ys lo hi) := by
  unfold cutA cutV
  rw [← Paired.length q]
  exact vsr_take (vsr_drop q _) _
/-- a slice, by its evaluator -/
def rSl (AD : Str → Option Addr) (X : Cx) : V → Option Int → Option Int → Hp → VK → Prop := fun x lo hi H Q => ∃ ρ h v σV, Rep AD ρ h H ∧ VR AD ρ v x ∧ Post AD X ρ σV (slcA v lo hi h) (VR AD) Q
theorem ssl : SlR X (rSl AD X) := by
  intro pins s σ H x v vl vu lo hi sl Q I rx hs pl pu ⟨ρ, h, a, σV, rp, va, p⟩
  unfold slcA at p
  split at p
  · rename_i xs e
    obtain ⟨c, ys, rfl, h1, h2⟩ := rp.lst X.K va e
    exact sl_list pins s σ H _ v vl vu lo hi sl Q I rx hs pl pu ⟨c, ys, rfl, h1, (post_lst rp (vsr_cut h2 lo hi) p).2⟩
  · exact p.elim

/-! ### methods of lists, of ints -/
/-- a method, by its evaluator -/
def rM (AD : Str → Option Addr) (X : Cx) (m : Mth) : V → List V → Hp → VK → Prop := fun x xs H Q => ∃ ρ h n vs σV, Rep AD ρ h H ∧ VR AD ρ (.ref n) x ∧ VsR AD ρ vs xs ∧ Post AD X ρ σV (mthA m (.ref n) vs h) (VR AD) Q
theorem sm_append : MtR X "list.append" (rM AD X .append) := by
  intro pins s σ H x xs v us Q I rx rs hz
  obtain ⟨ρ, h, n, vs, σV, rp, va, vb, p⟩ := hz
  simp only [mthA] at p
  split at p
  · rename_i zs y hn _
    split at p
    · rename_i hl
      obtain ⟨c, hc, rfl, ws, h1, h2⟩ := rp.ref va hn
      obtain ⟨z, rfl, q1⟩ := vsr1 vb
      refine mt_append pins s σ H _ _ v us Q I rx rs ⟨c, ws, z, rfl, rfl, h1, by rw [← Paired.length h2]; exact hl, ?_⟩
      exact p _ _ _ (List.prefix_refl _) (rp.set hc ⟨_, upd_same, vsr_append h2 (.cons q1 .nil)⟩) rfl
    · exact p.elim
  · exact absurd ‹Mth.append = Mth.pop› (by decide)
  · exact p.elim
theorem vsr_dropLast {ρ : List Addr} {xs : List AV} {ys : List V} (q : VsR AD ρ xs ys) : VsR AD ρ xs.dropLast ys.dropLast := by
  rw [List.dropLast_eq_take, List.dropLast_eq_take, ← Paired.length q]
  exact vsr_take q _
theorem sm_pop : MtR X "list.pop" (rM AD X .pop) := by
  intro pins s σ H x xs v us Q I rx rs hz
  obtain ⟨ρ, h, n, vs, σV, rp, va, vb, p⟩ := hz
  simp only [mthA] at p
  split at p
  · exact absurd ‹Mth.pop = Mth.append› (by decide)
  · rename_i zs hn _
    cases vb
    split at p
    · rename_i y e
      obtain ⟨c, hc, rfl, ws, h1, h2⟩ := rp.ref va hn
      obtain ⟨z, e1, e2⟩ := vsr_get h2 e
      refine mt_pop pins s σ H _ _ v us Q I rx rs ⟨c, ws, z, rfl, rfl, h1, by rw [← Paired.length h2]; exact e1, ?_⟩
      exact p _ _ _ (List.prefix_refl _) (rp.set hc ⟨_, upd_same, vsr_dropLast h2⟩) e2
    · exact p.elim
  · exact p.elim
end SL

set_option Elab.async false
set_option linter.all false
/-! From the text's own syntax to the small language: names to places, by fuel. -/
namespace SL
open PySem

/-- the module's own defs and classes -/
structure CE where
  funs : List Str
  clss : List Str
/-- where an expression stands: the scope, the names whose cells are made here, the slots -/
structure Ctx where
  sc : Scope
  fn : Str → Bool
  N : List Str
def tyTab : List (Str × String) := [("int", "int"), ("bool", "bool"), ("str", "str"), ("list", "list"), ("tuple", "tuple"), ("dict", "dict")]
def bltTab : List (Str × Blt) := [("len", .len), ("sum", .sum), ("max", .max), ("min", .min), ("all", .all), ("any", .any), ("list", .list), ("tuple", .tuple), ("dict", .dict), ("sorted", .sorted), ("int", .int), ("isinstance", .isinstance)]
def itTab : List Str := ["range", "enumerate", "zip"]
def mthTab : List (Str × Mth) := [("append", .append), ("pop", .pop)]
def isGlob (κ : Ctx) (x : Str) : Bool := decide (κ.sc.names.lookup x = some .globalImplicit) && !(x == ("__debug__" : Str)) && !(x == ("__name__" : Str))
def isOwn (κ : Ctx) (x : Str) : Bool := (match κ.sc.names.lookup x with
  | some .local => true
  | some .cell => true
  | some .free => true
  | _ => false) && !(x == ("__debug__" : Str)) && !(x == ("__classdict__" : Str))
def slotOf (κ : Ctx) (x : Str) : Option Nat := κ.N.idxOf? x
def nameT (Γ : CE) (κ : Ctx) (x : Str) : Option T :=
  if isOwn κ x then (slotOf κ x).map .var
  else if isGlob κ x then (if Γ.funs.contains x || Γ.clss.contains x then some (.glob x) else (tyTab.lookup x).map .ty)
  else none
/-- a name that is stored here -/
def storeT (κ : Ctx) (x : Str) : Option Nat := match κ.sc.names.lookup x with
  | some .local => slotOf κ x
  | some .cell => if κ.fn x then slotOf κ x else none
  | _ => none
def notStar : Expr → Bool
  | .Starred _ _ => false
  | _ => true
def plainIx : Expr → Bool
  | .Slice _ _ _ _ => false
  | _ => true
def isSuper : Expr → Bool
  | .Call (.Name x _) [] [] _ => x == ("super" : Str)
  | _ => false
def ownOf (κ : Ctx) (sc : Scope) : List (Str × Nat) := sc.names.filterMap fun (x, k) => match k with
  | .local => (slotOf κ x).map fun i => (x, i)
  | .cell => (slotOf κ x).map fun i => (x, i)
  | _ => none
def blkCtx (κ : Ctx) (sc : Scope) : Ctx := { sc := L2.relS sc κ.sc, fn := fun x => sc.names.lookup x == some .cell, N := κ.N }
/-- the slots of a target -/
def tgSlots : T → Option (List Nat)
  | .tName i => some [i]
  | .tTup ts => tgSlots ts
  | .nil => some []
  | .cons a b => match tgSlots a, tgSlots b with
    | some x, some y => some (x ++ y)
    | _, _ => none
  | _ => none
def tgIn (own : List Nat) (t : T) : Bool := match tgSlots t with
  | some l => l.all fun i => own.contains i
  | none => false
def fewArgs (es : List Expr) : Bool := decide (es.length < 28) && es.all notStar

/-- what is known of the parts -/
structure Rc where
  e : Ctx → Expr → Option T
  t : Ctx → Expr → Option T
  i : Ctx → Expr → Expr → Option T
  g : Ctx → Expr → Option T
def constT : Const → T
  | .none => .non
  | .bool b => .bl b
  | .int i => .int i
  | .str x => .str x
  | _ => .skip
/-- arguments, targets -/
def argsT (f : Expr → Option T) : List Expr → Option T
  | [] => some .nil
  | e :: es => if notStar e = true then (f e).bind fun a => (argsT f es).map fun b => .cons a b else none
def endT (f : Expr → Option T) : Option Expr → Option T
  | none => some .skip
  | some e => (f e).map .pSome
def unT (f : Expr → Option T) (op : UnaryOp) (a : Expr) : Option T := match op with
  | .Not => (f a).map .nt
  | .USub => (f a).map .neg
  | .Invert => (f a).map .inv
  | .UAdd => some .skip
def boolT (f : Expr → Option T) (op : BoolOp) (es : List Expr) (pos : Pos) : Option T := match es with
  | [] => some .skip
  | [a] => f a
  | a :: b :: r => (f a).bind fun x => (f (.BoolOp op (b :: r) pos)).map fun y => match op with
    | .And => .and x y
    | .Or => .or x y
def cmpT (f : Expr → Option T) (a : Expr) (ops : List CmpOp) (cs : List Expr) : Option T := match ops, cs with
  | [op], [b] => if behindInMarks op b = false then (f a).bind fun x => (f b).map fun y => .cmp op x y else some .skip
  | [op, op'], [b, d] => if lastMarks [op, op'] [b, d] = false then (f a).bind fun x => (f b).bind fun y => (f d).map fun z => .chain op op' x y z else some .skip
  | _, _ => some .skip
def isRange (κ : Ctx) (Γ : CE) : Expr → Bool
  | .Call (.Name g _) [_] [] _ => decide (g = ("range" : Str)) && isGlob κ g && !(Γ.funs.contains g) && !(Γ.clss.contains g)
  | .Call (.Name g _) [_, _] [] _ => decide (g = ("range" : Str)) && isGlob κ g && !(Γ.funs.contains g) && !(Γ.clss.contains g)
  | _ => false
def rangeArgs : Expr → List Expr
  | .Call _ as _ _ => as
  | _ => []
def callT (Γ : CE) (κ : Ctx) (f : Expr → Option T) (fn : Expr) (as : List Expr) (pos : Pos) : Option T := match fn with
  | .Name x _ => if isGlob κ x = true ∧ fewArgs as = true then
      (if Γ.funs.contains x then (argsT f as).map (.callF x)
      else if Γ.clss.contains x then (argsT f as).map (.callC x)
      else match bltTab.lookup x with
        | some b => (match as with
          | [] => some .skip
          | [a] => if b = .list ∧ isRange κ Γ a = true then (argsT f (rangeArgs a)).map .lrange else (argsT f [a]).map (.callB b)
          | a :: b' :: r => (argsT f (a :: b' :: r)).map (.callB b))
        | none => some .skip) else some .skip
  | .Attribute o m apos => if fewArgs as = true ∧ isSuper o = false ∧ apos.endLine = pos.line then
      (match as with
      | [] => if m = ("bit_length" : Str) then (f o).map fun o => .meth o .bit_length .nil
        else if m = ("pop" : Str) then (f o).map fun o => .meth o .pop .nil
        else (f o).map fun o => .methO o m .nil
      | e :: es => if m = ("append" : Str) then (f o).bind fun o => (argsT f (e :: es)).map fun es => .meth o .append es
        else (f o).bind fun o => (argsT f (e :: es)).map fun es => .methO o m es) else some .skip
  | _ => some .skip
def isMinus1 : Option Expr → Bool
  | some (.UnaryOp .USub (.Constant (.int 1) _ _) _) => true
  | _ => false
def subT (f : Expr → Option T) (a i : Expr) : Option T := match i with
  | .Slice none none st _ => if isMinus1 st = true then (f a).map .rev else match st with
    | none => (f a).map fun a => .slc a .skip .skip
    | _ => some .skip
  | .Slice lo hi none _ => (f a).bind fun a => (endT f lo).bind fun lo => (endT f hi).map fun hi => .slc a lo hi
  | .Slice _ _ _ _ => some .skip
  | _ => (f a).bind fun a => (f i).map fun i => .ix a i
/-- the tests of a comprehension -/
def ifsT (f : Expr → Option T) : List Expr → Option T
  | [] => some .tYes
  | [e] => f e
  | _ => none
def lcT (r : Rc) (κ : Ctx) (elt : Expr) (gs : List Comprehension) (sc : Scope) : Option T := if L2.blkC κ.N κ.sc sc (ownOf κ sc) = true then (match gs with
  | [⟨tg, iter, ifs, 0⟩] => (r.i κ tg iter).bind fun it => (r.g (blkCtx κ sc) tg).bind fun t => (ifsT (r.t (blkCtx κ sc)) ifs).bind fun c => (r.e (blkCtx κ sc) elt).bind fun e =>
      if tgIn ((ownOf κ sc).map (·.2)) t = true then some (.comp e t it c ((ownOf κ sc).map (·.2))) else none
  | [⟨tg, iter, ifs, 0⟩, ⟨tg1, iter1, ifs1, 0⟩] => (r.i κ tg iter).bind fun it => (r.g (blkCtx κ sc) tg).bind fun t => (ifsT (r.t (blkCtx κ sc)) ifs).bind fun c =>
      (r.i (blkCtx κ sc) tg1 iter1).bind fun it1 => (r.g (blkCtx κ sc) tg1).bind fun t1 => (ifsT (r.t (blkCtx κ sc)) ifs1).bind fun c1 => (r.e (blkCtx κ sc) elt).bind fun e =>
      if tgIn ((ownOf κ sc).map (·.2)) t = true ∧ tgIn ((ownOf κ sc).map (·.2)) t1 = true then some (.comp2 e t it c t1 it1 c1 ((ownOf κ sc).map (·.2)) ((tgSlots t1).getD [])) else none
  | _ => some .skip) else none
def dcT (r : Rc) (κ : Ctx) (k elt : Expr) (gs : List Comprehension) (sc : Scope) : Option T := if L2.blkC κ.N κ.sc sc (ownOf κ sc) = true then (match gs with
  | [⟨tg, iter, ifs, 0⟩] => (r.i κ tg iter).bind fun it => (r.g (blkCtx κ sc) tg).bind fun t => (ifsT (r.t (blkCtx κ sc)) ifs).bind fun c => (r.e (blkCtx κ sc) k).bind fun kt => (r.e (blkCtx κ sc) elt).bind fun e =>
      if tgIn ((ownOf κ sc).map (·.2)) t = true then some (.dcomp kt e t it c ((ownOf κ sc).map (·.2))) else none
  | [⟨tg, iter, ifs, 0⟩, ⟨tg1, iter1, ifs1, 0⟩] => (r.i κ tg iter).bind fun it => (r.g (blkCtx κ sc) tg).bind fun t => (ifsT (r.t (blkCtx κ sc)) ifs).bind fun c =>
      (r.i (blkCtx κ sc) tg1 iter1).bind fun it1 => (r.g (blkCtx κ sc) tg1).bind fun t1 => (ifsT (r.t (blkCtx κ sc)) ifs1).bind fun c1 => (r.e (blkCtx κ sc) k).bind fun kt => (r.e (blkCtx κ sc) elt).bind fun e =>
      if tgIn ((ownOf κ sc).map (·.2)) t = true ∧ tgIn ((ownOf κ sc).map (·.2)) t1 = true then some (.dcomp2 kt e t it c t1 it1 c1 ((ownOf κ sc).map (·.2)) ((tgSlots t1).getD [])) else none
  | _ => some .skip) else none
/-- expressions -/
def stepE (Γ : CE) (r : Rc) (κ : Ctx) (e : Expr) : Option T := match e with
  | .Constant c _ _ => some (constT c)
  | .Name x _ => (nameT Γ κ x).or (some .skip)
  | .BinOp a op b _ => (r.e κ a).bind fun a => (r.e κ b).map fun b => .bin op a b
  | .UnaryOp op a _ => unT (r.e κ) op a
  | .BoolOp op es pos => boolT (r.e κ) op es pos
  | .Compare a ops cs _ => cmpT (r.e κ) a ops cs
  | .IfExp t a b _ => (r.t κ t).bind fun t => (r.e κ a).bind fun a => (r.e κ b).map fun b => .ite t a b
  | .List es _ => (argsT (r.e κ) es).map .lst
  | .Tuple es _ _ => (argsT (r.e κ) es).map .tup
  | .Dict [] [] _ => some (.dic .nil)
  | .Call f as [] pos => callT Γ κ (r.e κ) f as pos
  | .Attribute o x _ => if isSuper o = false then (r.e κ o).map fun o => .fld o x else some .skip
  | .Subscript a i _ => subT (r.e κ) a i
  | .ListComp elt gs sc _ => lcT r κ elt gs sc
  | .DictComp k elt gs sc _ => dcT r κ k elt gs sc
  | _ => some .skip
def boolTT (f : Expr → Option T) (op : BoolOp) (es : List Expr) (pos : Pos) : Option T := match es with
  | [] => some .skip
  | [a] => f a
  | a :: b :: r => (f a).bind fun x => (f (.BoolOp op (b :: r) pos)).map fun y => match op with
    | .And => .tAnd x y
    | .Or => .tOr x y
/-- tests -/
def stepT (r : Rc) (κ : Ctx) (e : Expr) : Option T := match e with
  | .BoolOp op es pos => boolTT (r.t κ) op es pos
  | .UnaryOp .Not a _ => (r.t κ a).map .tNot
  | .Compare a ops cs _ => (cmpT (r.e κ) a ops cs).map .tVal
  | .Name _ _ => (r.e κ e).map .tVal
  | .Call _ _ _ _ => (r.e κ e).map .tVal
  | .Subscript _ _ _ => (r.e κ e).map .tVal
  | .Attribute _ _ _ => (r.e κ e).map .tVal
  | .BinOp _ _ _ _ => (r.e κ e).map .tVal
  | _ => some .skip
def isTup : Expr → Bool
  | .Tuple _ _ _ => true
  | _ => false
def isSet : Expr → Bool
  | .Set _ _ _ => true
  | _ => false
/-- what is walked -/
def stepI (Γ : CE) (r : Rc) (κ : Ctx) (tg e : Expr) : Option T := if isSet e = true then none else match e with
  | .Call (.Name f _) [a] [] _ => if isGlob κ f = true ∧ f = ("range" : Str) ∧ Γ.funs.contains f = false ∧ Γ.clss.contains f = false ∧ notStar a = true then (argsT (r.e κ) [a]).map .iRng1
        else if isGlob κ f = true ∧ f = ("enumerate" : Str) ∧ Γ.funs.contains f = false ∧ Γ.clss.contains f = false ∧ notStar a = true ∧ isTup tg = true then (r.e κ a).map .iEnm
        else (r.e κ e).map .iSeq
  | .Call (.Name f _) [a, b] [] _ => if isGlob κ f = true ∧ f = ("range" : Str) ∧ Γ.funs.contains f = false ∧ Γ.clss.contains f = false ∧ notStar a = true ∧ notStar b = true then (argsT (r.e κ) [a, b]).map .iRng2
        else if isGlob κ f = true ∧ f = ("zip" : Str) ∧ Γ.funs.contains f = false ∧ Γ.clss.contains f = false ∧ notStar a = true ∧ notStar b = true ∧ isTup tg = true then (r.e κ a).bind fun a => (r.e κ b).map fun b => .iZip a b
        else (r.e κ e).map .iSeq
  | _ => (r.e κ e).map .iSeq
/-- targets -/
def stepG (r : Rc) (κ : Ctx) (e : Expr) : Option T := match e with
  | .Name x _ => (storeT κ x).map .tName
  | .Tuple es _ _ => (argsT (r.g κ) es).map .tTup
  | .Subscript o i _ => if plainIx i = true then (r.e κ o).bind fun o => (r.e κ i).map fun i => .tSub o i else none
  | _ => none
def rc (Γ : CE) : Nat → Rc
  | 0 => ⟨fun _ _ => none, fun _ _ => none, fun _ _ _ => none, fun _ _ => none⟩
  | n + 1 => ⟨stepE Γ (rc Γ n), stepT (rc Γ n), stepI Γ (rc Γ n), stepG (rc Γ n)⟩
/-! ### statements -/
def isComp : Expr → Bool
  | .ListComp _ _ _ _ => true
  | .SetComp _ _ _ _ => true
  | .DictComp _ _ _ _ _ => true
  | _ => false
def isFunc (sc : Scope) : Bool := match sc.kind with
  | .function => true
  | _ => false
/-- is a comprehension's value stored before its block ends -/
def swapK (sc : Scope) (e : Expr) (y : Str) (py : Pos) : Bool := match e with
  | .ListComp _ _ s pos => (sc.names.lookup y == some .local) && (py.line == pos.line) && !(s.names.any fun (n, k) => n == y && (k == .local || k == .cell))
  | .SetComp _ _ s pos => (sc.names.lookup y == some .local) && (py.line == pos.line) && !(s.names.any fun (n, k) => n == y && (k == .local || k == .cell))
  | .DictComp _ _ _ s pos => (sc.names.lookup y == some .local) && (py.line == pos.line) && !(s.names.any fun (n, k) => n == y && (k == .local || k == .cell))
  | _ => false
/-- a, b = c, d: the names whose stores are swapped -/
def swN (sc : Scope) (ts : List Expr) : List Str := ts.filterMap fun
      | .Name id pos => if sc.names.lookup id == some .local && pos.line == (ts.head?.map (·.pos.line)).getD 0 then some id else none
      | _ => none
def swS (sc : Scope) (ts vs : List Expr) : Option (Option (List Str)) :=
  if (!(ts.length == 2 || ts.length == 3) || vs.length != ts.length) = true then some none
  else if (vs.any fun | .Starred .. => true | _ => false) = true then some none
  else if ((swN sc ts).length != ts.length || (swN sc ts).eraseDups.length != (swN sc ts).length) = true then some none
  else if vs.all (foldedForSure 8) = true then some none
  else if vs.all (constantsAlone 8) = true then none
  else some (some (swN sc ts))
def parT (r : Rc) (κ : Ctx) (ts vs : List Expr) (names : List Str) : Option T := match ts, vs, names with
  | [.Name x _, .Name y _], [a, b], [x', y'] => if x = x' ∧ y = y' ∧ κ.sc.names.lookup x = some .local ∧ κ.sc.names.lookup y = some .local then
      (slotOf κ x).bind fun i => (slotOf κ y).bind fun j => if i ≠ j then (argsT (r.e κ) [a, b]).map (.par [i, j]) else none else none
  | [.Name x _, .Name y _, .Name z _], [a, b, d], [x', y', z'] => if x = x' ∧ y = y' ∧ z = z' ∧ κ.sc.names.lookup x = some .local ∧ κ.sc.names.lookup y = some .local ∧ κ.sc.names.lookup z = some .local then
      (slotOf κ x).bind fun i => (slotOf κ y).bind fun j => (slotOf κ z).bind fun k => if i ≠ j ∧ i ≠ k ∧ j ≠ k then (argsT (r.e κ) [a, b, d]).map (.par [i, j, k]) else none else none
  | _, _, _ => none
def asgT (r : Rc) (κ : Ctx) (tg e : Expr) : Option T := match tg with
  | .Name x _ => (storeT κ x).bind fun i => (r.e κ e).map fun a => .asg (.tName i) a
  | .Tuple ts _ _ => (match e with
    | .Tuple vs _ _ => (match swS κ.sc ts vs with
      | some none => (r.g κ tg).bind fun t => (r.e κ e).map fun a => .asg t a
      | some (some names) => parT r κ ts vs names
      | none => some .skip)
    | _ => (r.g κ tg).bind fun t => (r.e κ e).map fun a => .asg t a)
  | .Attribute o x _ => (r.e κ o).bind fun o => (r.e κ e).map fun a => .asg (.tFld o x) a
  | .Subscript _ _ _ => (r.g κ tg).bind fun t => (r.e κ e).map fun a => .asg t a
  | _ => some .skip
def seqT (f : Stmt → Option T) : List Stmt → Option T
  | [] => some .done
  | s :: ss => (f s).bind fun a => (seqT f ss).map fun b => .seq a b
def stepS (r : Rc) (f : Stmt → Option T) (κ : Ctx) (s : Stmt) : Option T := match s with
  | .Pass _ => some .done
  | .Break _ => some .brk
  | .Continue _ => some .cont
  | .Return (some e) _ => (r.e κ e).map .ret
  | .Expr e _ => if isComp e = true then some .skip else (r.e κ e).map .expr
  | .Assign [tg] e _ => asgT r κ tg e
  | .AugAssign (.Name x _) op e _ => (storeT κ x).bind fun i => (r.e κ e).map fun a => .aug i op a
  | .If c a b _ => (r.t κ c).bind fun c => (seqT f a).bind fun a => (seqT f b).map fun b => .iff c a b
  | .For tg it b [] _ => (r.i κ tg it).bind fun i => (r.g κ tg).bind fun t => (seqT f b).map fun b => .for t i b
  | .While c b [] _ => (r.t κ c).bind fun c => (seqT f b).map fun b => .whl c b
  | _ => some .skip
def rs (r : Rc) (κ : Ctx) : Nat → Stmt → Option T
  | 0, _ => none
  | n + 1, s => stepS r (rs r κ n) κ s
end SL

set_option Elab.async false
set_option linter.all false
set_option maxRecDepth 100000
set_option maxHeartbeats 4000000
/-! The evaluator over the hand layer: expressions. -/
namespace SL
open PySem PySem.Spec L2
open PyProof.Rows hiding St
open PySem.W (Frag)

/-- what follows a call -/
def PostC (AD : Str → Option Addr) (ρ : List Addr) (r : R AV) (Q : VK) (E : XK) : Prop := match r with
  | .ok v h => ∀ ρ' H' x, ρ <+: ρ' → Rep AD ρ' h H' → VR AD ρ' v x → Q x H'
  | .exc C fs h => ∀ ρ' H' cls d, ρ <+: ρ' → Rep AD ρ' h H' → ExR (AD := AD) ρ' C fs H' cls d → E cls d H'
  | .bad => False
/-- a def's promise: what the evaluator says -/
def spD (AD : Str → Option Addr) (G : Env) (k n : Nat) (f : Str) : Sp := fun vs H Q E => vs.length = n ∧ ∃ ρ h avs, Rep AD ρ h H ∧ VsR AD ρ avs vs ∧ PostC AD ρ (callD G k f avs h) Q E
/-- what is asked of the place where code stands -/
structure Gd (AD : Str → Option Addr) (G : Env) (Γ : CE) (X : Cx) (κ : Ctx) (d : Nat) : Prop where
  sc : X.env.scope = κ.sc
  N : X.N = κ.N
  nd : κ.N.Nodup
  fn : ∀ x, κ.fn x = true → X.fn x = true
  calm : X.calm = true
  room : Room d X.A
  cls : ClsOk AD G X.K
  own : ∀ x, (Γ.funs.contains x || Γ.clss.contains x) = true → ∃ a, AD x = some a ∧ X.mg x = some (.ref a) ∧ PySem.W.keepIn X.K (.ref a) = true
  blt : ∀ x, (tyTab.any (fun p => p.1 == x) || bltTab.any (fun p => p.1 == x) || itTab.contains x) = true → X.mg x = none
  fns : ∀ k, k ≤ d → ∀ f fd, G.fns f = some fd → ∃ a data ps, AD f = some a ∧ Binds X.K data ps [] ∧ ps.length = fd.ps ∧ FnOk X.prog X.w X.K X.mg X.base (L2.CX X.prog X.w) k a data ps (spD AD G k fd.ps f)
  meth : ∀ C cd m g Ca a, G.cls C = some cd → cd.meth.lookup m = some g → AD C = some Ca → AD g = some a → Meth X.K Ca m a
  mkr : ∀ C cd g Ca a, G.cls C = some cd → cd.init = some g → AD C = some Ca → AD g = some a → Mk X.K Ca a
theorem Gd.gl {AD : Str → Option Addr} {G : Env} {Γ : CE} {X : Cx} {κ : Ctx} {d : Nat} (g : Gd AD G Γ X κ d) {x : Str} (h : isGlob κ x = true) : Gl X x ∧ (x == ("__debug__" : Str)) = false ∧ x ≠ "__name__" := by
  unfold isGlob at h
  simp only [Bool.and_eq_true, decide_eq_true_eq, Bool.not_eq_true'] at h
  refine ⟨?_, h.1.2, fun z => by subst z; simp at h⟩
  show X.env.scope.names.lookup x = _
  rw [g.sc]; exact h.1.1
theorem Gd.ru {AD : Str → Option Addr} {G : Env} {Γ : CE} {X : Cx} {κ : Ctx} {d : Nat} (g : Gd AD G Γ X κ d) : RoomU X := by
  have := g.room.un
  unfold RoomU; omega
section
variable {AD : Str → Option Addr} {X : Cx} {G : Env} {c : Calls} {ea eb ec : Expr} {a b d : T} {pos : Pos}
theorem tE.val {ρ : List Addr} {h : AH} {H : Hp} {v : AV} {x : V} {Q : VK} {σV : St} (r : Rep AD ρ h H) (p : Post AD X ρ σV (.ok v h) (VR AD) Q) (q : VR AD ρ v x) : Q x H := post_val r p q
theorem s_non {k : Nat} : PE X (.Constant .none k pos) (tE AD G c X .non) := PE.weak pe_non fun σ H Q ⟨ρ, sg, h, r, q, p⟩ => by
  rw [evE] at p; exact post_val r p rfl
theorem s_bl {k : Nat} {v : Bool} : PE X (.Constant (.bool v) k pos) (tE AD G c X (.bl v)) := PE.weak pe_bl fun σ H Q ⟨ρ, sg, h, r, q, p⟩ => by
  rw [evE] at p; exact post_val r p rfl
theorem s_int {k : Nat} {v : Int} : PE X (.Constant (.int v) k pos) (tE AD G c X (.int v)) := PE.weak pe_int fun σ H Q ⟨ρ, sg, h, r, q, p⟩ => by
  rw [evE] at p; exact post_val r p rfl
theorem s_str {k : Nat} {v : Str} : PE X (.Constant (.str v) k pos) (tE AD G c X (.str v)) := PE.weak pe_str fun σ H Q ⟨ρ, sg, h, r, q, p⟩ => by
  rw [evE] at p; exact post_val r p rfl
theorem s_var {i : Nat} {x : Str} (h : PE X (.Name x pos) (tVar i)) : PE X (.Name x pos) (tE AD G c X (.var i)) := PE.weak h fun σ H Q ⟨ρ, sg, h, r, q, p⟩ => by
  rw [evE] at p
  split at p
  · rename_i v e
    obtain ⟨x, h1, h2⟩ := q.2 i v e
    exact ⟨x, h1, post_val r p h2⟩
  · exact p.elim
theorem s_glob {x : Str} {a : Addr} (hg : Gl X x) (ha : AD x = some a) (hm : X.mg x = some (.ref a)) (hd : (x == ("__debug__" : Str)) = false) : PE X (.Name x pos) (tE AD G c X (.glob x)) :=
  PE.weak (pe_glob (v := .ref a) hg hm rfl hd) fun σ H Q ⟨ρ, sg, h, r, q, p⟩ => by
    rw [evE] at p
    exact post_val r p (by simp only [VR, toV, ha]; rfl)
theorem s_ty {x : Str} {n : String} (hg : Gl X x) (hm : X.mg x = none) (hv : bootBuiltins x = some (.type n)) (hn : x ≠ "__name__") (hd : (x == ("__debug__" : Str)) = false) : PE X (.Name x pos) (tE AD G c X (.ty n)) :=
  PE.weak (pe_bltn (v := .ty n) hg hm hv rfl hn hd) fun σ H Q ⟨ρ, sg, h, r, q, p⟩ => by
    rw [evE] at p
    exact post_val r p rfl
theorem s_neg (ha : PE X ea (tE AD G c X a)) : PE X (.UnaryOp .USub ea pos) (tE AD G c X (.neg a)) := PE.weak (pe_un su_neg ha) fun σ H Q ⟨ρ, sg, h, r, q, p⟩ => by
  rw [evE] at p
  exact tE.step r q p fun ρ1 h1 v x H1 e1 r1 q1 v1 p1 => ⟨ρ1, h1, v, _, r1, v1, p1⟩
theorem s_inv (ha : PE X ea (tE AD G c X a)) : PE X (.UnaryOp .Invert ea pos) (tE AD G c X (.inv a)) := PE.weak (pe_un su_inv ha) fun σ H Q ⟨ρ, sg, h, r, q, p⟩ => by
  rw [evE] at p
  exact tE.step r q p fun ρ1 h1 v x H1 e1 r1 q1 v1 p1 => ⟨ρ1, h1, v, _, r1, v1, p1⟩
theorem s_nt (ha : PE X ea (tE AD G c X a)) : PE X (.UnaryOp .Not ea pos) (tE AD G c X (.nt a)) := PE.weak (pe_not ha) fun σ H Q ⟨ρ, sg, h, r, q, p⟩ => by
  rw [evE] at p
  refine tE.step r q p fun ρ1 h1 v x H1 e1 r1 q1 v1 p1 => ?_
  cases v with
  | bl k => obtain rfl := vr_bl v1; exact ⟨k, rfl, post_val r1 p1 rfl⟩
  | _ => exact p1.elim
theorem s_and {r : List Expr} (ha : PE X ea (tE AD G c X a)) (hb : PE X (.BoolOp .And (eb :: r) pos) (tE AD G c X b)) : PE X (.BoolOp .And (ea :: eb :: r) pos) (tE AD G c X (.and a b)) := PE.weak (pe_and ha hb) fun σ H Q ⟨ρ, sg, h, r, q, p⟩ => by
  rw [evE] at p
  refine tE.step r q p fun ρ1 h1 v x H1 e1 r1 q1 v1 p1 => ?_
  cases v with
  | bl k =>
    obtain rfl := vr_bl v1
    refine ⟨k, rfl, ?_⟩
    cases k with
    | true => exact iteT ⟨ρ1, sg, h1, r1, q1, p1⟩
    | false => exact iteF (post_val r1 p1 rfl)
  | _ => exact p1.elim
theorem s_or {r : List Expr} (ha : PE X ea (tE AD G c X a)) (hb : PE X (.BoolOp .Or (eb :: r) pos) (tE AD G c X b)) : PE X (.BoolOp .Or (ea :: eb :: r) pos) (tE AD G c X (.or a b)) := PE.weak (pe_or ha hb) fun σ H Q ⟨ρ, sg, h, r, q, p⟩ => by
  rw [evE] at p
  refine tE.step r q p fun ρ1 h1 v x H1 e1 r1 q1 v1 p1 => ?_
  cases v with
  | bl k =>
    obtain rfl := vr_bl v1
    refine ⟨k, rfl, ?_⟩
    cases k with
    | true => exact iteT (post_val r1 p1 rfl)
    | false => exact iteF ⟨ρ1, sg, h1, r1, q1, p1⟩
  | _ => exact p1.elim
theorem s_ite (hc : PT X ec (tT AD G c X d)) (ha : PE X ea (tE AD G c X a)) (hb : PE X eb (tE AD G c X b)) : PE X (.IfExp ec ea eb pos) (tE AD G c X (.ite d a b)) := PE.weak (pe_ifExp hc ha hb) fun σ H Q ⟨ρ, sg, h, r, q, p⟩ => by
  rw [evE] at p
  refine tT.step r q p fun ρ1 h1 k H1 e1 r1 q1 p1 => ?_
  cases k with
  | true => exact iteT ⟨ρ1, sg, h1, r1, q1, p1⟩
  | false => exact iteF ⟨ρ1, sg, h1, r1, q1, p1⟩
theorem s_lst {es : List Expr} (ha : PA X es (tAr AD G c X a)) : PE X (.List es pos) (tE AD G c X (.lst a)) := PE.weak (pe_lst ha) fun σ H Q ⟨ρ, sg, h, r, q, p⟩ => by
  rw [evE] at p
  exact tAr.step r q p fun ρ1 h1 v x H1 e1 r1 q1 v1 p1 => post_lst r1 v1 p1
theorem s_tup {es : List Expr} {k : Nat} (ha : PA X es (tAr AD G c X a)) : PE X (.Tuple es k pos) (tE AD G c X (.tup a)) := PE.weak (pe_tup ha) fun σ H Q ⟨ρ, sg, h, r, q, p⟩ => by
  rw [evE] at p
  exact tAr.step r q p fun ρ1 h1 v x H1 e1 r1 q1 v1 p1 => post_tup r1 v1 p1
theorem s_dic0 : PE X (.Dict [] [] pos) (tE AD G c X (.dic .nil)) := PE.weak pe_dnewK fun σ H Q ⟨ρ, sg, h, r, q, p⟩ b hb => by
  rw [evE, evA] at p
  exact p _ _ _ ⟨[b], rfl⟩ (r.new hb ⟨[], upd_same, .nil⟩) (r.last b)
theorem s_nil : PA X [] (tAr AD G c X .nil) := PA.weak pa_nil fun σ H Q ⟨ρ, sg, h, r, q, p⟩ => by
  rw [evA] at p
  exact p ρ H [] (List.prefix_refl _) r .nil
theorem star_cons {e : Expr} (h : notStar e = true) (es : List Expr) (env : PySem.Env) : starEach (e :: es) env = (false, eval e env) :: starEach es env := by
  cases e <;> first | rfl | cases h
theorem s_cons {es : List Expr} (hs : notStar ea = true) (ha : PE X ea (tE AD G c X a)) (hb : PA X es (tAr AD G c X b)) : PA X (ea :: es) (tAr AD G c X (.cons a b)) := PA.weak (pa_cons ha hb (star_cons hs _ _)) fun σ H Q ⟨ρ, sg, h, r, q, p⟩ => by
  rw [evA] at p
  refine tE.step r q p fun ρ1 h1 v x H1 e1 r1 q1 v1 p1 => ?_
  refine tAr.step r1 q1 p1 fun ρ2 h2 vs xs H2 e2 r2 q2 v2 p2 => ?_
  exact p2 ρ2 H2 (x :: xs) (List.prefix_refl _) r2 (.cons (v1.mono e2) v2)
theorem noStar_any {pos : Pos} {env : PySem.Env} : ∀ {es : List Expr}, es.all notStar = true → (backTo pos (starEach es env)).any (·.1) = false
  | [], _ => rfl
  | e :: es, h => by
    simp only [List.all_cons, Bool.and_eq_true] at h
    rw [star_cons h.1]
    show (false || (backTo pos (starEach es env)).any (·.1)) = false
    rw [noStar_any h.2]; rfl
/-- e.x -/
theorem base_of {o : Expr} (h : isSuper o = false) (x : Str) (env : PySem.Env) (t : Sem Value) : attributeBase o x env t = t := by
  unfold attributeBase
  split
  · rename_i id p1 pos
    have hi : (id == ("super" : Str)) = false := h
    have hb : (id != "super" || x == "__class__" || env.kindOf "super" != some NameKind.globalImplicit || env.kindOf "__class__" != some NameKind.free) = true := by
      rw [show (id != ("super" : Str)) = true by rw [bne, hi]; rfl]; simp
    rw [if_pos hb]
  · rfl
theorem s_fld {x : Str} (O : ClsOk AD G X.K) (hs : isSuper ea = false) (ha : PE X ea (tE AD G c X a)) : PE X (.Attribute ea x pos) (tE AD G c X (.fld a x)) := PE.weak (pe_fld ha (base_of hs _ _ _)) fun σ H Q ⟨ρ, sg, h, r, q, p⟩ => by
  rw [evE] at p
  refine tE.step r q p fun ρ1 h1 v y H1 e1 r1 q1 v1 p1 => ?_
  cases v with
  | ref n =>
    simp only [fldOf] at p1
    split at p1
    · rename_i C fs hn
      split at p1
      · rename_i hf
        obtain ⟨a, _, rfl, Ca, dx, gs, h0, h2, h3⟩ := r1.ref v1 hn
        cases e : fs.lookup x with
        | none => rw [e] at p1; exact p1.elim
        | some w =>
          rw [e] at p1
          obtain ⟨z, f1, f2⟩ := (fsr_look h3 x).1 w e
          unfold hasFld at hf
          split at hf
          · rename_i cd hc
            exact ⟨a, Ca, dx, gs, z, rfl, h2, (O.cl C cd Ca hc h0).1, O.fl C cd Ca x hc h0 hf, f1, post_val r1 p1 f2⟩
          · cases hf
      · exact p1.elim
    · exact p1.elim
  | _ => exact p1.elim
theorem s_ix (hu : RoomU X) (hp : plainIx eb = true) (ha : PE X ea (tE AD G c X a)) (hb : PE X eb (tE AD G c X b)) : PE X (.Subscript ea eb pos) (tE AD G c X (.ix a b)) := PE.weak (pe_ix (six hu) ha hb (fun o i => by cases eb <;> first | rfl | cases hp)) fun σ H Q ⟨ρ, sg, h, r, q, p⟩ => by
  rw [evE] at p
  exact tE.step r q p fun ρ1 h1 v x H1 e1 r1 q1 v1 p1 => tE.step r1 q1 p1 fun ρ2 h2 w y H2 e2 r2 q2 w2 p2 => ⟨ρ2, h2, v, w, _, r2, v1.mono e2, w2, p2⟩
/-- the ends of a slice -/
def tP (AD : Str → Option Addr) (G : Env) (c : Calls) (X : Cx) (t : T) : TO := fun σV H Q => ∃ ρ σ h, Rep AD ρ h H ∧ SR AD ρ σ σV ∧ Post AD X ρ σV (evP G c t σ h) (fun _ a b => a = b) Q
theorem PO.weak {e : Option Expr} {t t' : TO} (h : PO X e t) (w : ∀ σ H Q, t' σ H Q → t σ H Q) : PO X e t' := ⟨fun pins s σ H Q I q => h.run pins s σ H Q I (w σ H Q q)⟩
theorem s_pno : PO X none (tP AD G c X .skip) := PO.weak po_none fun σ H Q ⟨ρ, sg, h, r, q, p⟩ => by
  rw [evP] at p
  exact p ρ H none (List.prefix_refl _) r rfl
theorem s_psome (ha : PE X ea (tE AD G c X a)) : PO X (some ea) (tP AD G c X (.pSome a)) := PO.weak (po_some ha) fun σ H Q ⟨ρ, sg, h, r, q, p⟩ => by
  rw [evP] at p
  refine tE.step r q p fun ρ1 h1 v x H1 e1 r1 q1 v1 p1 => ?_
  cases v with
  | int i => obtain rfl := vr_int v1; exact ⟨i, rfl, p1 ρ1 H1 _ (List.prefix_refl _) r1 rfl⟩
  | _ => exact p1.elim
theorem s_slc {lo hi : Option Expr} {p2 : Pos} (ha : PE X ea (tE AD G c X a)) (hb : PO X lo (tP AD G c X b)) (hd : PO X hi (tP AD G c X d)) : PE X (.Subscript ea (.Slice lo hi none p2) pos) (tE AD G c X (.slc a b d)) := PE.weak (pe_slice ssl ha hb hd) fun σ H Q ⟨ρ, sg, h, r, q, p⟩ => by
  rw [evE] at p
  refine tE.step r q p fun ρ1 h1 v x H1 e1 r1 q1 v1 p1 => ?_
  refine ⟨ρ1, sg, h1, r1, q1, Post.step p1 fun ρ2 h2 l l' H2 e2 r2 el p2 => ?_⟩
  subst el
  refine ⟨ρ2, sg, h2, r2, q1.mono e2, Post.step p2 fun ρ3 h3 u u' H3 e3 r3 eu p3 => ?_⟩
  subst eu
  exact ⟨ρ3, h3, v, _, r3, (v1.mono e2).mono e3, p3⟩
theorem s_rev {k : Nat} {p1 p2 p3 : Pos} (ha : PE X ea (tE AD G c X a)) : PE X (.Subscript ea (.Slice none none (some (.UnaryOp .USub (.Constant (.int 1) k p1) p2)) p3) pos) (tE AD G c X (.rev a)) := PE.weak (pe_revL ha) fun σ H Q ⟨ρ, sg, h, r, q, p⟩ => by
  rw [evE] at p
  refine tE.step r q p fun ρ1 h1 v x H1 e1 r1 q1 v1 p1 => ?_
  unfold revA at p1
  split at p1
  · rename_i xs e
    obtain ⟨c, ys, rfl, h1, h2⟩ := r1.lst X.K v1 e
    exact ⟨c, ys, rfl, h1, (post_lst r1 (vsr_rev h2) p1).2⟩
  · exact p1.elim
/-- a built-in -/
theorem s_blt {x : Str} {es : List Expr} {f : Blt} {u : Value} {p1 : Pos} (hc : CallR X u (rB AD X (bltA G f))) (hu : (∃ i, u = .builtin i) ∨ ∃ n, u = .type n) (hg : Gl X x) (hm : X.mg x = none) (hv : bootBuiltins x = some u) (hn : x ≠ "__name__") (hd : (x == ("__debug__" : Str)) = false)
    (hs : (ea :: es).all notStar = true) (ha : PA X (ea :: es) (tAr AD G c X a)) : PE X (.Call (.Name x p1) (ea :: es) [] pos) (tE AD G c X (.callB f a)) := by
  simp only [List.all_cons, Bool.and_eq_true] at hs
  have w : ∀ σ H Q, tE AD G c X (.callB f a) σ H Q → tCB (rB AD X (bltA G f)) (tAr AD G c X a) σ H Q := fun σ H Q ⟨ρ, sg, h, r, q, p⟩ => by
    rw [evE] at p
    exact tAr.step r q p fun ρ1 h1 v x H1 e1 r1 q1 v1 p1 => ⟨ρ1, h1, v, _, r1, v1, p1⟩
  rcases hu with ⟨i, rfl⟩ | ⟨n, rfl⟩
  · exact PE.weak (pe_callB hc hg hm hv ha hn hd (star_cons hs.1 _ _) (noStar_any hs.2)) w
  · exact PE.weak (pe_callTy hc hg hm hv ha hn hd (star_cons hs.1 _ _) (noStar_any hs.2)) w
end
end SL

set_option Elab.async false
set_option linter.all false
set_option maxRecDepth 100000
set_option maxHeartbeats 4000000
/-! The evaluator over the hand layer: calls. -/
namespace SL
open PySem PySem.Spec L2
open PyProof.Rows hiding St
open PySem.W (Frag)
section
variable {AD : Str → Option Addr} {X : Cx} {G : Env} {Γ : CE} {κ : Ctx} {n : Nat} {ea eb ec : Expr} {a b d : T} {pos : Pos}
/-- from what follows an evaluation to what follows the call -/
theorem postC_of {ρ : List Addr} {σV : St} {r : R AV} {Q : VK} (p : Post AD X ρ σV r (VR AD) Q) : ∃ W : WX, Takes X W ∧ PostC AD ρ r Q (WE W σV) := by
  cases r with
  | ok v h => exact ⟨_, takes0, p⟩
  | exc C fs h => obtain ⟨W, t, p⟩ := p; exact ⟨W, t, p⟩
  | bad => exact p.elim
/-- a def called with values -/
theorem run_fd (g : Gd AD G Γ X κ n) {k : Nat} (hk : k ≤ n) {f : Str} {avs : List AV} {vs : List V} {us : List Value} {ρ : List Addr} {h : AH} {H : Hp} {σ : St} {Q : VK} {pins : List (Addr × Obj)} {s : Shared} {fa : Addr} (ha : AD f = some fa)
    (I : Inv X pins σ H s) (rv : Vals vs us) (r : Rep AD ρ h H) (q : VsR AD ρ avs vs) (p : Post AD X ρ σ (callD G k f avs h) (VR AD) Q) : wpAny (model X.prog X.w) X.A (call (.ref fa) us) (EP X pins σ Q) X.xe s := by
  cases e : G.fns f with
  | none =>
    cases k with
    | zero => rw [callD_zero] at p; exact p.elim
    | succ k => rw [callD_succ] at p; simp only [callS, e] at p; exact p.elim
  | some fd =>
    obtain ⟨a, data, ps, h1, h2, h3, F⟩ := g.fns k hk f fd e
    rw [ha] at h1; cases h1
    obtain ⟨W, tk, p'⟩ := postC_of p
    refine run_fnS (E := WE W) F (g.room.mono hk) h2 (passAt tk σ) I rv ⟨?_, ρ, h, avs, r, q, p'⟩
    cases k with
    | zero => rw [callD_zero] at p; exact p.elim
    | succ k =>
      rw [callD_succ] at p; simp only [callS, e] at p
      split at p
      · rename_i hl; rw [← Paired.length q]; exact hl
      · exact p.elim
theorem s_callF {f : Str} {es : List Expr} {p1 : Pos} (g : Gd AD G Γ X κ n) (hg : isGlob κ f = true) (hf : Γ.funs.contains f = true) (hs : (ea :: es).all notStar = true) (ha : PA X (ea :: es) (tAr AD G (cD G n) X a)) :
    PE X (.Call (.Name f p1) (ea :: es) [] pos) (tE AD G (cD G n) X (.callF f a)) := by
  simp only [List.all_cons, Bool.and_eq_true] at hs
  obtain ⟨fa, h1, h2, h3⟩ := g.own f (by rw [hf]; rfl)
  obtain ⟨g1, g2, g3⟩ := g.gl hg
  refine ⟨fun pins s σ H Q I ⟨ρ, sg, h, r, q, p⟩ => ?_⟩
  rw [evE] at p
  simp only [cD_fn] at p
  refine wpAny_Call_Name_kw (ld_glob I g1 h2 ?_ g2)
  refine PySem.W.callWith_K (h₀ := X.base) I.ok.mod.kin h3 (thn (ha.run pos pins s σ H _ I (tAr.step r q p fun ρ1 h1 v x H1 e1 r1 q1 v1 p1 => (⟨ρ1, h1, v, r1, v1, p1⟩ : ∃ ρ1 h1 v, Rep AD ρ1 h1 H1 ∧ VsR AD ρ1 v x ∧ Post AD X ρ1 σ (callD G n f v h1) (VR AD) Q))) fun us s1 ⟨vs, H1, I1, rv, ρ1, h1', v, r1, v1, p1⟩ => ⟨I1.kIn, ?_⟩) (star_cons hs.1 _ _) (noStar_any hs.2)
  exact run_fd g (Nat.le_refl n) h1 I1 rv r1 v1 p1
theorem s_callF0 {f : Str} {p1 : Pos} (g : Gd AD G Γ X κ n) (hg : isGlob κ f = true) (hf : Γ.funs.contains f = true) : PE X (.Call (.Name f p1) [] [] pos) (tE AD G (cD G n) X (.callF f .nil)) := by
  obtain ⟨fa, h1, h2, h3⟩ := g.own f (by rw [hf]; rfl)
  obtain ⟨g1, g2, g3⟩ := g.gl hg
  refine ⟨fun pins s σ H Q I ⟨ρ, sg, h, r, q, p⟩ => ?_⟩
  rw [evE, evA] at p
  simp only [cD_fn] at p
  refine wpAny_Call_Name_kw (ld_glob I g1 h2 ?_ g2)
  exact PySem.W.callWith_K0 I.kIn h3 (run_fd g (Nat.le_refl n) h1 I .nil r .nil p)
/-- o.m(..) of an instance -/
theorem meth_at (g : Gd AD G Γ X κ n) {ρ : List Addr} {h : AH} {H : Hp} (r : Rep AD ρ h H) {i : Nat} {C : Str} {fs : List (Str × AV)} {x : V} {m gq : Str} (v : VR AD ρ (.ref i) x) (hn : h[i]? = some (.ins C fs)) (hm : ((G.cls C).bind fun cd => cd.meth.lookup m) = some gq) (hl : (fs.lookup m).isNone = true) (hA : ∃ fa, AD gq = some fa) :
    ∃ ad Ca dx gs fa, x = .ref ad ∧ H ad = some (.ins Ca dx gs) ∧ Cls X.K Ca ∧ Meth X.K Ca m fa ∧ gs.lookup m = none ∧ AD gq = some fa := by
  obtain ⟨ad, _, rfl, Ca, dx, gs, h0, h2, h3⟩ := r.ref v hn
  obtain ⟨cd, hc, hm'⟩ := Option.bind_eq_some_iff.mp hm
  obtain ⟨fa, hfa⟩ := hA
  exact ⟨ad, Ca, dx, gs, fa, rfl, h2, (g.cls.cl C cd Ca hc h0).1, g.meth C cd m gq Ca fa hc hm' h0 hfa, (fsr_look h3 m).2 (by simpa using hl), hfa⟩
theorem adr_of (g : Gd AD G Γ X κ n) {k : Nat} (hk : k ≤ n) {f : Str} {avs : List AV} {h : AH} {σ : St} {Q : VK} {ρ : List Addr} (p : Post AD X ρ σ (callD G k f avs h) (VR AD) Q) : ∃ fa, AD f = some fa := by
  cases e : G.fns f with
  | none =>
    cases k with
    | zero => rw [callD_zero] at p; exact p.elim
    | succ k => rw [callD_succ] at p; simp only [callS, e] at p; exact p.elim
  | some fd =>
    obtain ⟨a, data, ps, h1, h2, h3, F⟩ := g.fns k hk f fd e
    exact ⟨a, h1⟩
end
end SL

set_option Elab.async false
set_option linter.all false
set_option maxRecDepth 100000
set_option maxHeartbeats 4000000
/-! The evaluator over the hand layer: methods, new instances, comparisons, tests. -/
namespace SL
open PySem PySem.Spec L2
open PyProof.Rows hiding St
open PySem.W (Frag)
section
variable {AD : Str → Option Addr} {X : Cx} {G : Env} {Γ : CE} {κ : Ctx} {n : Nat} {ea eb ec : Expr} {a b d : T} {pos apos : Pos} {c : Calls}
theorem all_star {pos : Pos} {env : PySem.Env} : ∀ {es : List Expr}, es.all notStar = true → ((backTo pos (starEach es env)).all fun x => !x.1) = true
  | [], _ => rfl
  | e :: es, h => by
    simp only [List.all_cons, Bool.and_eq_true] at h
    rw [star_cons h.1]
    show (true && (backTo pos (starEach es env)).all fun x => !x.1) = true
    rw [all_star h.2]; rfl
theorem few_of {es : List Expr} {env : PySem.Env} (h : fewArgs es = true) : ((backTo pos (starEach es env)).all (fun x => !x.1) && (backToKw pos (keywordEach [] env)).all (fun x => x.1.isSome)
    && decide (es.length + ([] : List Keyword).length + (if ([] : List Keyword).isEmpty then 0 else 1) < 30)) = true := by
  unfold fewArgs at h
  simp only [Bool.and_eq_true, decide_eq_true_eq] at h
  rw [all_star h.2]
  show (true && true && decide (es.length + 0 + 0 < 30)) = true
  simp; omega
theorem ht_of {o : Expr} {m : Str} {es : List Expr} {env : PySem.Env} (hs : isSuper o = false) (hf : fewArgs es = true) (hl : apos.endLine = pos.line) : eval (.Call (.Attribute o m apos) es [] pos) env = (do
      let ov ← eval o env
      standAt apos.atName
      let (f, first) ← holding [ov] (getMethod ov m (do return (← importBound o env).getD true))
      callWith pos f first (backTo pos (starEach es env)) (backToKw pos (keywordEach [] env))) := by
  show (do
    let ov ← attributeBase o m env (eval o env)
    standAt apos.atName
    methodCall o m apos pos env ov (es.length + ([] : List Keyword).length) (backTo pos (starEach es env)) (backToKw pos (keywordEach [] env))) = _
  rw [base_of hs]
  have hform : methodCallForm (es.length + ([] : List Keyword).length) (backTo pos (starEach es env)) (backToKw pos (keywordEach [] env)) = true := by
    have := few_of (pos := pos) (env := env) hf
    simp only [Bool.and_eq_true, decide_eq_true_eq] at this
    unfold methodCallForm
    simp only [Bool.and_eq_true, decide_eq_true_eq]
    refine ⟨⟨this.1.1, this.1.2⟩, ?_⟩
    show es.length + 0 + 0 < 30
    have := this.2
    simp at this; omega
  have hpos : methodCallPos true o env apos pos = pure pos := by
    unfold methodCallPos
    rw [if_pos (by simp [hl])]
  simp only [methodCall, hform, calleeOf, hpos, if_true, pure_bind]
theorem s_methO {o : Expr} {m : Str} {es : List Expr} (g : Gd AD G Γ X κ n) (hs : isSuper o = false) (hf : fewArgs (ea :: es) = true) (hl : apos.endLine = pos.line) (ho : PE X o (tE AD G (cD G n) X a)) (ha : PA X (ea :: es) (tAr AD G (cD G n) X b)) :
    PE X (.Call (.Attribute o m apos) (ea :: es) [] pos) (tE AD G (cD G n) X (.methO a m b)) := by
  have hst : (ea :: es).all notStar = true := by unfold fewArgs at hf; simp only [Bool.and_eq_true] at hf; exact hf.2
  simp only [List.all_cons, Bool.and_eq_true] at hst
  refine ⟨fun pins s σ H Q I ⟨ρ, sg, h, r, q, p⟩ => ?_⟩
  rw [evE] at p
  refine methcall_of ho I (tE.step r q p fun ρ1 h1 v x H1 e1 r1 q1 v1 p1 => ?_) (ht_of hs hf hl)
  cases v with
  | ref i =>
    simp only at p1
    split at p1
    · rename_i C fs hn
      split at p1
      · rename_i gq hm
        split at p1
        · rename_i hlk
          simp only [cD_fn] at p1
          obtain ⟨fd, hfd⟩ := Option.isSome_iff_exists.mp hlk.2
          have hA : ∃ fa, AD gq = some fa := by
            obtain ⟨a, data, ps, h1, _⟩ := g.fns n (Nat.le_refl n) gq fd hfd
            exact ⟨a, h1⟩
          obtain ⟨ad, Ca, dx, gs, fa, rfl, f1, f2, f3, f4, f5⟩ := meth_at g r1 v1 hn hm hlk.1 hA
          refine ⟨ad, Ca, dx, gs, fa, rfl, f1, f2, f3, f4, fun s1 I1 => ?_⟩
          refine PySem.W.callWith_K (first := [.ref ad]) (h₀ := X.base) I1.ok.mod.kin f3.kp (thn (ha.run pos pins s1 σ H1 _ I1 (tAr.step r1 q1 p1 fun ρ2 h2 vs ys H2 e2 r2 q2 v2 p2 => (⟨ρ2, h2, vs, r2, v2, v1.mono e2, p2⟩ : ∃ ρ2 h2 vs, Rep AD ρ2 h2 H2 ∧ VsR AD ρ2 vs ys ∧ VR AD ρ2 (.ref i) (.ref ad) ∧ Post AD X ρ2 σ (callD G n gq (.ref i :: vs) h2) (VR AD) Q))) fun us s2 ⟨ys, H2, I2, rv, ρ2, h2, vs, r2, v2, v3, p2⟩ => ⟨I2.kIn, ?_⟩) (star_cons hst.1 _ _) (noStar_any hst.2)
          exact run_fd g (Nat.le_refl n) f5 (us := .ref ad :: us) (vs := .ref ad :: ys) I2 (.cons rfl rv) r2 (.cons v3 v2) p2
        · exact p1.elim
      · exact p1.elim
    · exact p1.elim
  | _ => exact p1.elim
theorem s_methO0 {o : Expr} {m : Str} (g : Gd AD G Γ X κ n) (hs : isSuper o = false) (hl : apos.endLine = pos.line) (ho : PE X o (tE AD G (cD G n) X a)) :
    PE X (.Call (.Attribute o m apos) [] [] pos) (tE AD G (cD G n) X (.methO a m .nil)) := by
  refine ⟨fun pins s σ H Q I ⟨ρ, sg, h, r, q, p⟩ => ?_⟩
  rw [evE] at p
  refine methcall_of ho I (tE.step r q p fun ρ1 h1 v x H1 e1 r1 q1 v1 p1 => ?_) (ht_of (es := []) hs rfl hl)
  cases v with
  | ref i =>
    simp only at p1
    split at p1
    · rename_i C fs hn
      split at p1
      · rename_i gq hm
        split at p1
        · rename_i hlk
          simp only [cD_fn, evA] at p1
          obtain ⟨fd, hfd⟩ := Option.isSome_iff_exists.mp hlk.2
          have hA : ∃ fa, AD gq = some fa := by
            obtain ⟨a, data, ps, h1, _⟩ := g.fns n (Nat.le_refl n) gq fd hfd
            exact ⟨a, h1⟩
          obtain ⟨ad, Ca, dx, gs, fa, rfl, f1, f2, f3, f4, f5⟩ := meth_at g r1 v1 hn hm hlk.1 hA
          refine ⟨ad, Ca, dx, gs, fa, rfl, f1, f2, f3, f4, fun s1 I1 => ?_⟩
          exact PySem.W.callWith_K0 (first := [.ref ad]) I1.kIn f3.kp (run_fd g (Nat.le_refl n) f5 (us := [.ref ad]) (vs := [.ref ad]) I1 (.cons rfl .nil) r1 (.cons v1 .nil) p1)
        · exact p1.elim
      · exact p1.elim
    · exact p1.elim
  | _ => exact p1.elim
/-- a new instance -/
theorem rep_made {ρ : List Addr} {h : AH} {H : Hp} (r : Rep AD ρ h H) {x dx Ca : Addr} {C : Str} (hx : H x = none) (hd : H dx = none) (ne : dx ≠ x) (hC : AD C = some Ca) :
    Rep AD (ρ ++ [x]) (h ++ [.ins C []]) (upd (upd H dx (.own x)) x (.ins Ca dx [])) := by
  have r0 : Rep AD ρ h (upd H dx (.own x)) := ⟨r.len, r.nd, fun i o e => by
    obtain ⟨a, h1, h2⟩ := r.ob i o e
    refine ⟨a, h1, h2.same (upd_ne ?_)⟩
    rintro rfl
    obtain ⟨u, hu⟩ := h2.some
    rw [hd] at hu; cases hu⟩
  exact r0.new (by rw [upd_ne (Ne.symm ne)]; exact hx) ⟨Ca, dx, [], hC, upd_same, .nil⟩
theorem run_mk (g : Gd AD G Γ X κ n) {C gq : Str} {cd : CD} {Ca : Addr} (hC : AD C = some Ca) (hc : G.cls C = some cd) (hi : cd.init = some gq) (hfn : (G.fns gq).isSome = true) {avs : List AV} {vs : List V} {us : List Value} {ρ : List Addr} {h : AH} {H : Hp} {σ : St} {Q : VK} {pins : List (Addr × Obj)} {s : Shared}
    (I : Inv X pins σ H s) (rv : Vals vs us) (r : Rep AD ρ h H) (q : VsR AD ρ avs vs)
    (p : Post AD X ρ σ ((callD G (n - 1) gq (.ref h.length :: avs) (h ++ [.ins C []])).bind fun v h2 => match v with
        | .non => .ok (.ref h.length) h2
        | _ => .bad) (VR AD) Q) : wpAny (model X.prog X.w) X.A (call (.ref Ca) us) (EP X pins σ Q) X.xe s := by
  obtain ⟨fd, hfd⟩ := Option.isSome_iff_exists.mp hfn
  cases n with
  | zero => rw [show (0 : Nat) - 1 = 0 from rfl, callD_zero] at p; exact p.elim
  | succ k =>
    rw [Nat.add_sub_cancel] at p
    obtain ⟨a, data, ps, h1, h2, h3, F⟩ := g.fns k (Nat.le_succ k) gq fd hfd
    have M : Mk X.K Ca a := g.mkr C cd gq Ca a hc hi hC h1
    have pl : ∃ W : WX, Takes X W ∧ ∀ x dx, H x = none → H dx = none → dx ≠ x → PostC AD (ρ ++ [x]) (callD G k gq (.ref h.length :: avs) (h ++ [.ins C []])) (fun v H2 => v = .non ∧ Q (.ref x) H2) (WE W σ) := by
      cases e : callD G k gq (.ref h.length :: avs) (h ++ [.ins C []]) with
      | ok v h2 =>
        rw [e] at p
        refine ⟨_, takes0, fun x dx hx hd ne ρ' H' y e2 r2 q2 => ?_⟩
        cases v with
        | non =>
          refine ⟨vr_non q2, p ρ' H' _ ((List.prefix_append ρ [x]).trans e2) r2 ?_⟩
          exact (r.last x).mono e2
        | _ => exact p.elim
      | exc D fs h2 =>
        rw [e] at p
        obtain ⟨W, t, p⟩ := p
        exact ⟨W, t, fun x dx hx hd ne ρ' H' cls dd e2 r2 q2 => p ρ' H' cls dd ((List.prefix_append ρ [x]).trans e2) r2 q2⟩
      | bad => rw [e] at p; exact p.elim
    obtain ⟨W, tk, pl⟩ := pl
    have hlen : (vs.length + 1) = fd.ps := by
      cases k with
      | zero =>
        rw [callD_zero] at p; exact p.elim
      | succ k =>
        rw [callD_succ] at p; simp only [callS, hfd] at p
        split at p
        · rename_i hl; rw [← hl, List.length_cons, Paired.length q]
        · exact p.elim
    -- as run_make, the wish about exceptions at these slots
    have hq : ∀ x dx, H x = none → H dx = none → dx ≠ x → spD AD G k fd.ps gq (.ref x :: vs) (upd (upd H dx (.own x)) x (.ins Ca dx [])) (fun v H2 => v = .non ∧ Q (.ref x) H2) (WE W σ) := fun x dx hx hd ne =>
      ⟨by rw [List.length_cons]; exact hlen, ρ ++ [x], h ++ [.ins C []], .ref h.length :: avs, rep_made r hx hd ne hC, .cons (r.last x) (q.mono (List.prefix_append ρ [x])), pl x dx hx hd ne⟩
    have hq0 := hq (s.heap.objs.size + 1) s.heap.objs.size (I.hok.fresh (Nat.le_succ _)) (I.hok.fresh (Nat.le_refl _)) (Nat.ne_of_lt (Nat.lt_succ_self _))
    have I2 := Inv.made (C := Ca) I
    have r2 : Vals (V.ref (s.heap.objs.size + 1) :: vs) (Value.ref (s.heap.objs.size + 1) :: us) := .cons rfl rv
    have hl : ((Value.ref (s.heap.objs.size + 1) :: us) ++ ([] : List Value)).length = ps.length := by
      have e := r2.length
      rw [F.len _ _ _ _ hq0] at e
      rw [List.append_nil]; exact e.symm
    refine wpAny_call (make_map (f := a) I.kIn M.makes M.init (beq_iff_eq.mp M.fn) (codeAny_mono (F.run _ X.stack _ _ ⟨Value.ref (s.heap.objs.size + 1) :: us, []⟩ (Value.ref (s.heap.objs.size + 1) :: us) _ _ (WE W σ) (g.room.make Ca us [])
      (I2.env0.make Ca us []) (by simpa using h2 _ (Value.ref (s.heap.objs.size + 1) :: us) I2.kIn hl) r2 hq0) fun r s' hq' => ?_))
    cases r with
    | error e => exact passAt tk σ pins _ _ e s' I2 hq'
    | ok fl =>
      cases fl with
      | ret u =>
        obtain ⟨v, H', I3, rv, ev, q3⟩ := I2.after hq'
        subst ev
        exact ⟨rv, ⟨V.ref (s.heap.objs.size + 1), H', I3, rfl, q3⟩⟩
      | next => exact False.elim hq'
      | brk => exact False.elim hq'
      | cont => exact False.elim hq'
theorem s_callC {f : Str} {es : List Expr} {p1 : Pos} (g : Gd AD G Γ X κ n) (hg : isGlob κ f = true) (hf : Γ.clss.contains f = true) (hs : (ea :: es).all notStar = true) (ha : PA X (ea :: es) (tAr AD G (cD G n) X a)) :
    PE X (.Call (.Name f p1) (ea :: es) [] pos) (tE AD G (cD G n) X (.callC f a)) := by
  simp only [List.all_cons, Bool.and_eq_true] at hs
  obtain ⟨fa, h1, h2, h3⟩ := g.own f (by rw [hf, Bool.or_true])
  obtain ⟨g1, g2, g3⟩ := g.gl hg
  refine ⟨fun pins s σ H Q I ⟨ρ, sg, h, r, q, p⟩ => ?_⟩
  rw [evE] at p
  split at p
  · rename_i cd hc
    split at p
    · rename_i gq hi
      split at p
      · rename_i hfn
        simp only [cD_lo] at p
        refine wpAny_Call_Name_kw (ld_glob I g1 h2 ?_ g2)
        refine PySem.W.callWith_K (h₀ := X.base) I.ok.mod.kin h3 (thn (ha.run pos pins s σ H _ I (tAr.step r q p fun ρ1 h1 v x H1 e1 r1 q1 v1 p1 => (⟨ρ1, h1, v, r1, v1, p1⟩ : ∃ ρ1 h1 v, Rep AD ρ1 h1 H1 ∧ VsR AD ρ1 v x ∧ Post AD X ρ1 σ ((callD G (n - 1) gq (.ref h1.length :: v) (h1 ++ [.ins f []])).bind fun v h2 => match v with
          | .non => .ok (.ref h1.length) h2
          | _ => .bad) (VR AD) Q))) fun us s1 ⟨vs, H1, I1, rv, ρ1, h1', v, r1, v1, p1⟩ => ⟨I1.kIn, ?_⟩) (star_cons hs.1 _ _) (noStar_any hs.2)
        exact run_mk g h1 hc hi hfn I1 rv r1 v1 p1
      · exact p.elim
    · exact p.elim
  · exact p.elim
theorem s_callC0 {f : Str} {p1 : Pos} (g : Gd AD G Γ X κ n) (hg : isGlob κ f = true) (hf : Γ.clss.contains f = true) : PE X (.Call (.Name f p1) [] [] pos) (tE AD G (cD G n) X (.callC f .nil)) := by
  obtain ⟨fa, h1, h2, h3⟩ := g.own f (by rw [hf, Bool.or_true])
  obtain ⟨g1, g2, g3⟩ := g.gl hg
  refine ⟨fun pins s σ H Q I ⟨ρ, sg, h, r, q, p⟩ => ?_⟩
  rw [evE] at p
  split at p
  · rename_i cd hc
    split at p
    · rename_i gq hi
      split at p
      · rename_i hfn
        simp only [cD_lo, evA] at p
        refine wpAny_Call_Name_kw (ld_glob I g1 h2 ?_ g2)
        exact PySem.W.callWith_K0 I.kIn h3 (run_mk g h1 hc hi hfn I .nil r .nil p)
      · exact p.elim
    · exact p.elim
  · exact p.elim
/-! ### methods of built-in types -/
theorem recv_lst {ρ : List Addr} {h : AH} {H : Hp} (rp : Rep AD ρ h H) {v : AV} {x : V} {m : Mth} (q : VR AD ρ v x) (hm : m = .append ∨ m = .pop) (e : recvOk m v h = true) : tyV X.K "list" x H ∧ ∃ i, v = .ref i := by
  cases v with
  | ref i =>
    simp only [recvOk] at e
    split at e
    · rename_i ys hn
      obtain ⟨a, _, rfl, zs, h1, h2⟩ := rp.ref q hn
      exact ⟨.inl ⟨rfl, zs, .inl (.inl h1)⟩, i, rfl⟩
    · rename_i ys hn
      obtain ⟨a, _, rfl, zs, h1, h2⟩ := rp.ref q hn
      exact ⟨.inl ⟨rfl, zs, .inl (.inl h1)⟩, i, rfl⟩
    · cases e
  | int i => rcases hm with rfl | rfl <;> cases e
  | _ => cases e
theorem s_append {o : Expr} {es : List Expr} (hs : isSuper o = false) (hf : fewArgs (ea :: es) = true) (hl : apos.endLine = pos.line) (ho : PE X o (tE AD G c X a)) (ha : PA X (ea :: es) (tAr AD G c X b)) :
    PE X (.Call (.Attribute o "append" apos) (ea :: es) [] pos) (tE AD G c X (.meth a .append b)) := by
  have hst : (ea :: es).all notStar = true := by unfold fewArgs at hf; simp only [Bool.and_eq_true] at hf; exact hf.2
  simp only [List.all_cons, Bool.and_eq_true] at hst
  refine PE.weak (pe_bm PySem.F.plainAttrs_list PySem.F.slot_list_append PySem.F.type_list_append (sm_append (AD := AD)) ho ha (base_of hs _ _ _) (few_of hf) (by simp [hl]) (star_cons hst.1 _ _) (noStar_any hst.2)) fun σ H Q ⟨ρ, sg, h, r, q, p⟩ => ?_
  rw [evE] at p
  refine tE.step r q p fun ρ1 h1 v x H1 e1 r1 q1 v1 p1 => ?_
  split at p1
  · rename_i hr
    obtain ⟨ty, i, rfl⟩ := recv_lst (X := X) r1 v1 (.inl rfl) hr
    exact ⟨ty, tAr.step r1 q1 p1 fun ρ2 h2 vs ys H2 e2 r2 q2 v2 p2 => ⟨ρ2, h2, i, vs, _, r2, v1.mono e2, v2, p2⟩⟩
  · exact p1.elim
theorem s_pop {o : Expr} (hs : isSuper o = false) (hl : apos.endLine = pos.line) (ho : PE X o (tE AD G c X a)) : PE X (.Call (.Attribute o "pop" apos) [] [] pos) (tE AD G c X (.meth a .pop .nil)) := by
  refine PE.weak (pe_bm0 PySem.F.plainAttrs_list PySem.F.slot_list_pop PySem.F.type_list_pop (sm_pop (AD := AD)) ho (base_of hs _ _ _) (by simp [hl])) fun σ H Q ⟨ρ, sg, h, r, q, p⟩ => ?_
  rw [evE] at p
  refine tE.step r q p fun ρ1 h1 v x H1 e1 r1 q1 v1 p1 => ?_
  split at p1
  · rename_i hr
    obtain ⟨ty, i, rfl⟩ := recv_lst (X := X) r1 v1 (.inr rfl) hr
    exact ⟨ty, ρ1, h1, i, [], _, r1, v1, .nil, p1⟩
  · exact p1.elim
theorem s_bits {o : Expr} (hs : isSuper o = false) (hl : apos.endLine = pos.line) (ho : PE X o (tE AD G c X a)) : PE X (.Call (.Attribute o "bit_length" apos) [] [] pos) (tE AD G c X (.meth a .bit_length .nil)) := by
  refine PE.weak (pe_bits ho (base_of hs _ _ _) (by simp [hl])) fun σ H Q ⟨ρ, sg, h, r, q, p⟩ => ?_
  rw [evE] at p
  refine tE.step r q p fun ρ1 h1 v x H1 e1 r1 q1 v1 p1 => ?_
  split at p1
  · rename_i hr
    cases v with
    | int i => obtain rfl := vr_int v1; exact ⟨i, rfl, post_val r1 p1 rfl⟩
    | ref i => simp only [recvOk] at hr; split at hr <;> first | (exact absurd ‹Mth.bit_length = Mth.append› (by decide)) | (exact absurd ‹Mth.bit_length = Mth.pop› (by decide)) | cases hr
    | _ => cases hr
  · exact p1.elim
/-! ### comparisons -/
theorem s_cmp {op : CmpOp} (ho : OpR X (compareOp op) (rV2 AD X (cmpG G c op))) (hm : behindInMarks op eb = false) (ha : PE X ea (tE AD G c X a)) (hb : PE X eb (tE AD G c X b)) : PE X (.Compare ea [op] [eb] pos) (tE AD G c X (.cmp op a b)) :=
  PE.weak (pe_cmpR ho ha hb hm) fun σ H Q ⟨ρ, sg, h, r, q, p⟩ => by
    rw [evE] at p
    exact tE.step r q p fun ρ1 h1 v x H1 e1 r1 q1 v1 p1 => tE.step r1 q1 p1 fun ρ2 h2 w y H2 e2 r2 q2 w2 p2 => ⟨ρ2, h2, v, w, _, r2, v1.mono e2, w2, p2⟩
/-- a comparison's answer is a bool -/
theorem cmpA_bl {op : CmpOp} {x y : AV} {h h' : AH} {v : AV} (e : cmpA op x y h = .ok v h') : ∃ k, v = .bl k := by
  have opt : ∀ {α : Type} {o : Option α} {f : α → AV}, (∀ a, ∃ k, f a = .bl k) → R.opt (o.map f) h = .ok v h' → ∃ k, v = .bl k := fun {α o f} hf e => by
    cases o with
    | none => cases e
    | some a => cases e; exact hf a
  cases op <;> simp only [cmpA] at e
  case Eq => exact opt (fun a => ⟨_, rfl⟩) e
  case NotEq => exact opt (fun a => ⟨_, rfl⟩) e
  case In => exact opt (fun a => ⟨_, rfl⟩) e
  case NotIn => exact opt (fun a => ⟨_, rfl⟩) e
  all_goals (split at e <;> first | (cases e; exact ⟨_, rfl⟩) | cases e)
theorem bind_ok {α β : Type} {r : R α} {f : α → AH → R β} {v : β} {h' : AH} (e : r.bind f = .ok v h') : ∃ a h1, r = .ok a h1 ∧ f a h1 = .ok v h' := by
  cases r with
  | ok a h1 => exact ⟨a, h1, rfl, e⟩
  | exc C fs h1 => cases e
  | bad => cases e
theorem cmpG_bl {op : CmpOp} {x y : AV} {h h' : AH} {v : AV} (e : cmpG G c op x y h = .ok v h') : ∃ k, v = .bl k := by
  cases op <;> simp only [cmpG] at e
  case Eq =>
    split at e
    · split at e
      · obtain ⟨a, h1, _, e⟩ := bind_ok e
        split at e
        · cases e; exact ⟨_, rfl⟩
        · cases e
      · cases e
    · exact cmpA_bl e
  case NotEq =>
    split at e
    · split at e
      · obtain ⟨a, h1, _, e⟩ := bind_ok e
        split at e
        · cases e; exact ⟨_, rfl⟩
        · cases e
      · cases e
    · exact cmpA_bl e
  all_goals exact cmpA_bl e
theorem post_bl {ρ : List Addr} {σV : St} {r : R AV} {Q : VK} (hb : ∀ v h', r = .ok v h' → ∃ k, v = .bl k) (p : Post AD X ρ σV r (VR AD) Q) : Post AD X ρ σV r (VR AD) (fun z H => (∃ k, z = .bl k) ∧ Q z H) := by
  cases r with
  | ok v h' =>
    obtain ⟨k, rfl⟩ := hb v h' rfl
    exact fun ρ' H' b e r q => ⟨⟨k, vr_bl q⟩, p ρ' H' b e r q⟩
  | exc C fs h => exact p
  | bad => exact p
theorem s_chain {op op' : CmpOp} {ed : Expr} {t : T} (ho : OpR X (compareOp op) (rV2 AD X (cmpG G c op))) (ho' : OpR X (compareOp op') (rV2 AD X (cmpG G c op'))) (hm : lastMarks [op, op'] [eb, ed] = false) (ha : PE X ea (tE AD G c X a)) (hb : PE X eb (tE AD G c X b)) (hd : PE X ed (tE AD G c X t)) :
    PE X (.Compare ea [op, op'] [eb, ed] pos) (tE AD G c X (.chain op op' a b t)) := PE.weak (pe_chain ho ho' ha hb hd hm) fun σ H Q ⟨ρ, sg, h, r, q, p⟩ => by
  rw [evE] at p
  refine tE.step r q p fun ρ1 h1 v x H1 e1 r1 q1 v1 p1 => tE.step r1 q1 p1 fun ρ2 h2 w y H2 e2 r2 q2 w2 p2 => ⟨ρ2, h2, v, w, _, r2, v1.mono e2, w2, Post.step p2 fun ρ3 h3 z zv H3 e3 r3 q3 p3 => ?_⟩
  cases z with
  | bl k =>
    obtain rfl := vr_bl q3
    refine ⟨k, rfl, ?_⟩
    cases k with
    | false => exact iteF (post_val r3 p3 rfl)
    | true => exact iteT (tE.step r3 (q2.mono e3) p3 fun ρ4 h4 u uv H4 e4 r4 q4 u4 p4 => ⟨ρ4, h4, w, u, _, r4, (w2.mono e3).mono e4, u4, p4⟩)
  | _ => exact p3.elim

/-! ### tests -/
theorem t_not (ha : PT X ea (tT AD G c X a)) : PT X (.UnaryOp .Not ea pos) (tT AD G c X (.tNot a)) := PT.weak (pt_not ha) fun σ H Q ⟨ρ, sg, h, r, q, p⟩ => by
  rw [evT] at p
  exact tT.step r q p fun ρ1 h1 k H1 e1 r1 q1 p1 => p1 ρ1 H1 _ (List.prefix_refl _) r1 rfl
theorem t_and1 (ha : PT X ea (tT AD G c X a)) : PW X (.BoolOp .And [ea] pos) (tT AD G c X a) := pw_and1 ha
theorem t_or1 (ha : PT X ea (tT AD G c X a)) : PW X (.BoolOp .Or [ea] pos) (tT AD G c X a) := pw_or1 ha
theorem t_and {r : List Expr} (ha : PT X ea (tT AD G c X a)) (hb : PW X (.BoolOp .And (eb :: r) pos) (tT AD G c X b)) : PW X (.BoolOp .And (ea :: eb :: r) pos) (tT AD G c X (.tAnd a b)) := PW.weak (pw_and ha hb) fun σ H Q ⟨ρ, sg, h, r, q, p⟩ => by
  rw [evT] at p
  refine tT.step r q p fun ρ1 h1 k H1 e1 r1 q1 p1 => ?_
  cases k with
  | true => exact iteT ⟨ρ1, sg, h1, r1, q1, p1⟩
  | false => exact iteF (p1 ρ1 H1 _ (List.prefix_refl _) r1 rfl)
theorem t_or {r : List Expr} (ha : PT X ea (tT AD G c X a)) (hb : PW X (.BoolOp .Or (eb :: r) pos) (tT AD G c X b)) : PW X (.BoolOp .Or (ea :: eb :: r) pos) (tT AD G c X (.tOr a b)) := PW.weak (pw_or ha hb) fun σ H Q ⟨ρ, sg, h, r, q, p⟩ => by
  rw [evT] at p
  refine tT.step r q p fun ρ1 h1 k H1 e1 r1 q1 p1 => ?_
  cases k with
  | true => exact iteT (p1 ρ1 H1 _ (List.prefix_refl _) r1 rfl)
  | false => exact iteF ⟨ρ1, sg, h1, r1, q1, p1⟩
theorem post_truth {ρ : List Addr} {σV : St} {h : AH} {v : AV} {Q : Bool → Hp → Prop} (p : Post AD X ρ σV (R.opt (truth h v) h) (fun _ a b => a = b) Q) {H : Hp} (r : Rep AD ρ h H) : ∃ k, truth h v = some k ∧ Q k H := by
  cases e : truth h v with
  | none => rw [e] at p; exact p.elim
  | some k => rw [e] at p; exact ⟨k, rfl, p ρ H k (List.prefix_refl _) r rfl⟩
theorem t_val (ha : PE X ea (tE AD G c X a)) (he : ∀ whole, isTrue ea X.env whole = (do let v ← whole; standAt ea.pos; holding [v] (truthy v))) : PT X ea (tT AD G c X (.tVal a)) := by
  refine ⟨fun pins s σ H Q I ⟨ρ, sg, h, r, q, p⟩ => ?_⟩
  rw [evT] at p
  refine isTrue_plain (thn (ha.run pins s σ H _ I (tE.step r q p fun ρ1 h1 v x H1 e1 r1 q1 v1 p1 => (⟨ρ1, h1, v, r1, v1, post_truth p1 r1⟩ : ∃ ρ1 h1 v, Rep AD ρ1 h1 H1 ∧ VR AD ρ1 v x ∧ ∃ k, truth h1 v = some k ∧ Q k H1))) fun v s1 ⟨x, H1, I1, rx, ρ1, h1, av, r1, v1, k, e, q1⟩ => ?_) (he _)
  exact s_truth pins s1 σ H1 x v Q I1 rx ⟨ρ1, h1, av, k, r1, v1, e, q1⟩
def BoolAt (AD : Str → Option Addr) (Q : Bool → Hp → Prop) (zv : V) (H : Hp) : Prop := ∃ ρ h z, Rep AD ρ h H ∧ VR AD ρ z zv ∧ ∃ k, truth h z = some k ∧ Q k H
theorem bool_at {Q : Bool → Hp → Prop} {z : V} {H : Hp} (hk : ∃ k, z = .bl k) (hz : BoolAt AD Q z H) : ∃ k, z = .bl k ∧ Q k H := by
  obtain ⟨k, ek⟩ := hk
  obtain ⟨ρ3, h3, zz, r3, q3, k', e, qk⟩ := hz
  subst ek
  refine ⟨k, rfl, ?_⟩
  cases zz with
  | bl j => have ej := vr_bl q3; cases ej; cases e; exact qk
  | int i => have := vr_int q3; cases this
  | str i => have := vr_str q3; cases this
  | non => have := vr_non q3; cases this
  | ref i => obtain ⟨_, _, this⟩ := vr_ref q3; cases this
  | ty i => have := vr_ty q3; cases this
  | glob i => obtain ⟨_, _, this⟩ := vr_glob q3; cases this
theorem t_cmp {op : CmpOp} (ho : OpR X (compareOp op) (rV2 AD X (cmpG G c op))) (hm : behindInMarks op eb = false) (ha : PE X ea (tE AD G c X a)) (hb : PE X eb (tE AD G c X b)) : PT X (.Compare ea [op] [eb] pos) (tT AD G c X (.tVal (.cmp op a b))) := PT.weak (pt_cmpR ho ha hb hm) fun σ H Q ⟨ρ, sg, h, r, q, p⟩ => by
  rw [evT, evE] at p
  simp only [R.bind_assoc] at p
  refine tE.step r q p fun ρ1 h1 v x H1 e1 r1 q1 v1 p1 => tE.step r1 q1 p1 fun ρ2 h2 w y H2 e2 r2 q2 w2 p2 => ⟨ρ2, h2, v, w, σ, r2, v1.mono e2, w2, ?_⟩
  exact Post.weak (post_bl (fun v h' e => cmpG_bl e) (Post.step p2 fun ρ3 h3 z zv H3 e3 r3 q3 p3 => (⟨ρ3, h3, z, r3, q3, post_truth p3 r3⟩ : BoolAt AD Q zv H3))) fun z H3 ⟨hk, hz⟩ => bool_at hk hz
theorem t_chain {op op' : CmpOp} {ed : Expr} {t : T} (ho : OpR X (compareOp op) (rV2 AD X (cmpG G c op))) (ho' : OpR X (compareOp op') (rV2 AD X (cmpG G c op'))) (hm : lastMarks [op, op'] [eb, ed] = false) (ha : PE X ea (tE AD G c X a)) (hb : PE X eb (tE AD G c X b)) (hd : PE X ed (tE AD G c X t)) :
    PT X (.Compare ea [op, op'] [eb, ed] pos) (tT AD G c X (.tVal (.chain op op' a b t))) := PT.weak (pt_chain ho ho' ha hb hd hm) fun σ H Q ⟨ρ, sg, h, r, q, p⟩ => by
  rw [evT, evE] at p
  simp only [R.bind_assoc] at p
  refine tE.step r q p fun ρ1 h1 v x H1 e1 r1 q1 v1 p1 => tE.step r1 q1 p1 fun ρ2 h2 w y H2 e2 r2 q2 w2 p2 => ⟨ρ2, h2, v, w, σ, r2, v1.mono e2, w2, Post.step p2 fun ρ3 h3 z zv H3 e3 r3 q3 p3 => ?_⟩
  cases z with
  | bl k =>
    obtain rfl := vr_bl q3
    refine ⟨k, rfl, ?_⟩
    cases k with
    | false => exact iteF ⟨false, rfl, p3 ρ3 H3 _ (List.prefix_refl _) r3 rfl⟩
    | true =>
      simp only [R.bind_assoc] at p3
      refine iteT (tE.step r3 (q2.mono e3) p3 fun ρ4 h4 u uv H4 e4 r4 q4 u4 p4 => ⟨ρ4, h4, w, u, σ, r4, (w2.mono e3).mono e4, u4, ?_⟩)
      exact Post.weak (post_bl (fun v h' e => cmpG_bl e) (Post.step p4 fun ρ5 h5 z zv H5 e5 r5 q5 p5 => (⟨ρ5, h5, z, r5, q5, post_truth p5 r5⟩ : BoolAt AD Q zv H5))) fun z H5 ⟨hk, hz⟩ => bool_at hk hz
  | _ => exact p3.elim
end
end SL

set_option Elab.async false
set_option linter.all false
set_option maxRecDepth 100000
set_option maxHeartbeats 4000000
/-! The evaluator over the hand layer: walks, targets, statements. -/
namespace SL
open PySem PySem.Spec L2
open PyProof.Rows hiding St
open PySem.W (Frag)
section
variable {AD : Str → Option Addr} {X : Cx} {G : Env} {Γ : CE} {κ : Ctx} {n : Nat} {ea eb ec : Expr} {a b d : T} {pos apos : Pos} {c : Calls}
/-! ### what is walked -/
/-- a walk of ours and the library's -/
def ItR (AD : Str → Option Addr) (ρ : List Addr) (it : It) (J : L2.It) : Prop :=
  ∀ ρ' h H i, ρ <+: ρ' → Rep AD ρ' h H → (itNext it i h = some none → J.stop i H) ∧
    ∀ v h', itNext it i h = some (some (v, h')) → J.go i H ∧ ∀ x H', J.yld i H x H' → ∃ ρ'', ρ' <+: ρ'' ∧ Rep AD ρ'' h' H' ∧ VR AD ρ'' v x
theorem ItR.mono {ρ ρ' : List Addr} {it : It} {J : L2.It} (q : ItR AD ρ it J) (e : ρ <+: ρ') : ItR AD ρ' it J := fun ρ2 h H i e2 r => q ρ2 h H i (e.trans e2) r
def tI (AD : Str → Option Addr) (G : Env) (c : Calls) (X : Cx) (t : T) : TI := fun σV H R => ∃ ρ σ h, Rep AD ρ h H ∧ SR AD ρ σ σV ∧ Post AD X ρ σV (evI G c t σ h) (ItR AD) R
theorem PI.weak {tg e : Expr} {t t' : TI} (h : PI X tg e t) (w : ∀ σ H R, t' σ H R → t σ H R) : PI X tg e t' := ⟨fun pins s σ H R I q => h.run pins s σ H R I (w σ H R q)⟩
theorem vsr_stop {ρ : List Addr} {xs : List AV} {ys : List V} (q : VsR AD ρ xs ys) {i : Nat} (e : xs[i]? = none) : ys.length ≤ i := by
  rw [← Paired.length q]; exact List.getElem?_eq_none_iff.mp e
theorem itr_rng {ρ : List Addr} {lo : Int} {k : Nat} : ItR AD ρ (.rng lo k) (Itr lo k) := fun ρ' h H i e r => by
  by_cases c : i < k
  · refine ⟨fun z => ?_, fun v h' z => ?_⟩
    · simp only [itNext, if_pos c] at z; cases z
    · simp only [itNext, if_pos c] at z; cases z
      exact ⟨c, fun x H' y => by obtain ⟨y1, y2⟩ := y; subst y1 y2; exact ⟨ρ', List.prefix_refl _, r, rfl⟩⟩
  · refine ⟨fun _ => Nat.le_of_not_lt c, fun v h' z => ?_⟩
    simp only [itNext, if_neg c] at z; cases z
theorem vref {ρ : List Addr} {n : Nat} {a : Addr} (e : ρ[n]? = some a) : VR AD ρ (.ref n) (.ref a) := by
  simp only [VR, toV, e]; rfl
theorem pre_at {ρ ρ' : List Addr} {n : Nat} {a : Addr} (e : ρ[n]? = some a) (p : ρ <+: ρ') : ρ'[n]? = some a := by
  obtain ⟨b, h1, h2⟩ := vr_ref ((vref (AD := fun _ => none) e).mono p)
  cases h2; exact h1
theorem itr_lsq {K : Frag} {ρ : List Addr} {n : Nat} {a : Addr} (e : ρ[n]? = some a) : ItR AD ρ (.lsq n) (Itl K a) := fun ρ' h H i p r => by
  have va := vref (AD := AD) (pre_at e p)
  simp only [itNext]
  cases hl : lstOf h (.ref n) with
  | none => exact ⟨(fun z => by cases z), (fun v h' z => by cases z)⟩
  | some xs =>
    obtain ⟨b, ys, eb, h1, h2⟩ := r.lst K va hl
    cases eb
    refine ⟨fun z => ?_, fun v h' z => ?_⟩
    · simp only [Option.map_some, Option.some.injEq, Option.map_eq_none_iff] at z
      exact ⟨ys, h1, vsr_stop h2 z⟩
    · simp only [Option.map_some, Option.some.injEq, Option.map_eq_some_iff, Prod.mk.injEq] at z
      obtain ⟨x, z1, rfl, rfl⟩ := z
      obtain ⟨y, y1, y2⟩ := vsr_get h2 z1
      refine ⟨⟨ys, y, h1, y1⟩, fun w H' q => ?_⟩
      obtain ⟨rfl, q⟩ := q
      have := q ys h1
      rw [y1] at this; cases this
      exact ⟨ρ', List.prefix_refl _, r, y2⟩
theorem itr_tsq {K : Frag} {ρ : List Addr} {n : Nat} {a : Addr} (e : ρ[n]? = some a) : ItR AD ρ (.tsq n) (Itt K a) := fun ρ' h H i p r => by
  have va := vref (AD := AD) (pre_at e p)
  simp only [itNext]
  cases hl : tupOf h (.ref n) with
  | none => exact ⟨(fun z => by cases z), (fun v h' z => by cases z)⟩
  | some xs =>
    obtain ⟨b, ys, eb, h1, h2⟩ := r.tupl K va hl
    cases eb
    refine ⟨fun z => ?_, fun v h' z => ?_⟩
    · simp only [Option.map_some, Option.some.injEq, Option.map_eq_none_iff] at z
      exact ⟨ys, h1, vsr_stop h2 z⟩
    · simp only [Option.map_some, Option.some.injEq, Option.map_eq_some_iff, Prod.mk.injEq] at z
      obtain ⟨x, z1, rfl, rfl⟩ := z
      obtain ⟨y, y1, y2⟩ := vsr_get h2 z1
      refine ⟨⟨ys, y, h1, y1⟩, fun w H' q => ?_⟩
      obtain ⟨rfl, q⟩ := q
      have := q ys h1
      rw [y1] at this; cases this
      exact ⟨ρ', List.prefix_refl _, r, y2⟩
theorem itr_enm {K : Frag} {ρ : List Addr} {n : Nat} {a : Addr} (e : ρ[n]? = some a) : ItR AD ρ (.enm n) (Ite K a) := fun ρ' h H i p r => by
  have va := vref (AD := AD) (pre_at e p)
  simp only [itNext]
  cases hl : lstOf h (.ref n) with
  | none => exact ⟨(fun z => by cases z), (fun v h' z => by cases z)⟩
  | some xs =>
    obtain ⟨b, ys, eb, h1, h2⟩ := r.lst K va hl
    cases eb
    refine ⟨fun z => ?_, fun v h' z => ?_⟩
    · simp only [Option.map_some, Option.some.injEq, Option.map_eq_none_iff] at z
      exact ⟨ys, h1, vsr_stop h2 z⟩
    · simp only [Option.map_some, Option.some.injEq, Option.map_eq_some_iff, Prod.mk.injEq] at z
      obtain ⟨x, z1, rfl, rfl⟩ := z
      obtain ⟨y, y1, y2⟩ := vsr_get h2 z1
      refine ⟨⟨ys, y, h1, y1⟩, fun w H' q => ?_⟩
      obtain ⟨T, x', rfl, hT, rfl, q⟩ := q
      have := q ys h1
      rw [y1] at this; cases this
      exact ⟨ρ' ++ [T], List.prefix_append _ _, r.new hT ⟨_, upd_same, .cons rfl (.cons y2 .nil)⟩, r.last T⟩
theorem zip_some {xs ys : List AV} {i : Nat} {h h' : AH} {v : AV} (z : zipAt xs ys i h = some (v, h')) : ∃ x y, xs[i]? = some x ∧ ys[i]? = some y ∧ v = .ref h.length ∧ h' = h ++ [.tup [x, y]] := by
  unfold zipAt at z
  split at z
  · rename_i x y e1 e2; cases z; exact ⟨x, y, e1, e2, rfl, rfl⟩
  · cases z
theorem zip_none {xs ys : List AV} {i : Nat} {h : AH} (z : zipAt xs ys i h = none) : xs[i]? = none ∨ ys[i]? = none := by
  unfold zipAt at z
  split at z
  · cases z
  · rename_i hz
    cases e1 : xs[i]? with
    | none => exact .inl rfl
    | some x =>
      cases e2 : ys[i]? with
      | none => exact .inr rfl
      | some y => exact absurd e2 (hz x y e1)
theorem itr_zip {K : Frag} {ρ : List Addr} {n m : Nat} {a b : Addr} (e : ρ[n]? = some a) (e' : ρ[m]? = some b) : ItR AD ρ (.zip n m) (Itz K a b) := fun ρ' h H i p r => by
  have va := vref (AD := AD) (pre_at e p)
  have vb := vref (AD := AD) (pre_at e' p)
  simp only [itNext]
  cases hl : lstOf h (.ref n) with
  | none => exact ⟨(fun z => by cases z), (fun v h' z => by cases z)⟩
  | some xs =>
    cases hm : lstOf h (.ref m) with
    | none => exact ⟨(fun z => by cases z), (fun v h' z => by cases z)⟩
    | some ys =>
      obtain ⟨b1, us, eb1, h1, h2⟩ := r.lst K va hl
      obtain ⟨b2, ws, eb2, h3, h4⟩ := r.lst K vb hm
      cases eb1; cases eb2
      refine ⟨fun z => ?_, fun v h' z => ?_⟩
      · rcases zip_none (Option.some.inj z) with q | q
        · exact ⟨us, ws, h1, h3, .inl (vsr_stop h2 q)⟩
        · exact ⟨us, ws, h1, h3, .inr (vsr_stop h4 q)⟩
      · obtain ⟨x, y, z1, z2, rfl, rfl⟩ := zip_some (Option.some.inj z)
        obtain ⟨u, u1, u2⟩ := vsr_get h2 z1
        obtain ⟨w, w1, w2⟩ := vsr_get h4 z2
        refine ⟨⟨us, ws, u, w, h1, h3, u1, w1⟩, fun t H' q => ?_⟩
        obtain ⟨T, x', y', rfl, hT, rfl, q1, q2⟩ := q
        have f1 := q1 us h1
        have f2 := q2 ws h3
        rw [u1] at f1; cases f1
        rw [w1] at f2; cases f2
        exact ⟨ρ' ++ [T], List.prefix_append _ _, r.new hT ⟨_, upd_same, .cons u2 (.cons w2 .nil)⟩, r.last T⟩
theorem itr_zipT {K : Frag} {ρ : List Addr} {n m : Nat} {a b : Addr} (e : ρ[n]? = some a) (e' : ρ[m]? = some b) : ItR AD ρ (.zipT n m) (RZ.ItzT K a b) := fun ρ' h H i p r => by
  have va := vref (AD := AD) (pre_at e p)
  have vb := vref (AD := AD) (pre_at e' p)
  simp only [itNext]
  cases hl : tupOf h (.ref n) with
  | none => exact ⟨(fun z => by cases z), (fun v h' z => by cases z)⟩
  | some xs =>
    cases hm : tupOf h (.ref m) with
    | none => exact ⟨(fun z => by cases z), (fun v h' z => by cases z)⟩
    | some ys =>
      obtain ⟨b1, us, eb1, h1, h2⟩ := r.tupl K va hl
      obtain ⟨b2, ws, eb2, h3, h4⟩ := r.tupl K vb hm
      cases eb1; cases eb2
      refine ⟨fun z => ?_, fun v h' z => ?_⟩
      · rcases zip_none (Option.some.inj z) with q | q
        · exact ⟨us, ws, h1, h3, .inl (vsr_stop h2 q)⟩
        · exact ⟨us, ws, h1, h3, .inr (vsr_stop h4 q)⟩
      · obtain ⟨x, y, z1, z2, rfl, rfl⟩ := zip_some (Option.some.inj z)
        obtain ⟨u, u1, u2⟩ := vsr_get h2 z1
        obtain ⟨w, w1, w2⟩ := vsr_get h4 z2
        refine ⟨⟨us, ws, u, w, h1, h3, u1, w1⟩, fun t H' q => ?_⟩
        obtain ⟨T, x', y', rfl, hT, rfl, q1, q2⟩ := q
        have f1 := q1 us h1
        have f2 := q2 ws h3
        rw [u1] at f1; cases f1
        rw [w1] at f2; cases f2
        exact ⟨ρ' ++ [T], List.prefix_append _ _, r.new hT ⟨_, upd_same, .cons u2 (.cons w2 .nil)⟩, r.last T⟩
/-- a list or a tuple, by its value -/
theorem i_seq {tg : Expr} (ha : PE X ea (tE AD G c X a)) : PI X tg ea (tI AD G c X (.iSeq a)) := by
  refine ⟨fun pins s σ H R I ⟨ρ, sg, h, r, q, p⟩ => ?_⟩
  rw [evI] at p
  -- the walk's kind is known by the evaluator alone
  have key : (∃ W : PI X tg ea (iList X.K (tE AD G c X a)), iList X.K (tE AD G c X a) σ H R) ∨ iTup X.K (tE AD G c X a) σ H R := by
    cases e : evE G c a sg h with
    | ok v h1 =>
      cases v with
      | ref n =>
        rw [e] at p
        change Post AD X ρ σ (match h1[n]? with
          | some (.lst _) => .ok (.lsq n) h1
          | some (.fro _) => .ok (.lsq n) h1
          | some (.tup _) => .ok (.tsq n) h1
          | _ => .bad) (ItR AD) R at p
        split at p
        · rename_i zs hn
          refine .inl ⟨pi_list ha, ρ, sg, h, r, q, ?_⟩
          rw [e]
          intro ρ1 H1 x e1 r1 v1
          obtain ⟨b, hb, rfl, ys, h1, h2⟩ := r1.ref v1 hn
          exact ⟨b, rfl, ⟨ys, .inl (.inl h1)⟩, p ρ1 H1 _ e1 r1 (itr_lsq hb)⟩
        · rename_i zs hn
          refine .inl ⟨pi_list ha, ρ, sg, h, r, q, ?_⟩
          rw [e]
          intro ρ1 H1 x e1 r1 v1
          obtain ⟨b, hb, rfl, o, ys, h1, h2⟩ := r1.ref v1 hn
          exact ⟨b, rfl, ⟨ys, .inl (.inr ⟨o, h1⟩)⟩, p ρ1 H1 _ e1 r1 (itr_lsq hb)⟩
        · rename_i zs hn
          refine .inr ⟨ρ, sg, h, r, q, ?_⟩
          rw [e]
          intro ρ1 H1 x e1 r1 v1
          obtain ⟨b, hb, rfl, ys, h1, h2⟩ := r1.ref v1 hn
          exact ⟨b, rfl, ⟨ys, .inl (.inl h1)⟩, p ρ1 H1 _ e1 r1 (itr_tsq hb)⟩
        · exact p.elim
      | _ => rw [e] at p; exact p.elim
    | exc C fs h1 =>
      rw [e] at p
      refine .inl ⟨pi_list ha, ρ, sg, h, r, q, ?_⟩
      rw [e]; exact p
    | bad => rw [e] at p; exact p.elim
  rcases key with ⟨_, k⟩ | k
  · exact (pi_list ha).run pins s σ H R I k
  · exact (pi_tup ha).run pins s σ H R I k
theorem i_rng1 {tg : Expr} {p1 : Pos} (hg : Gl X "range") (hm : X.mg "range" = none) (hs : notStar ea = true) (ha : PA X [ea] (tAr AD G c X a)) : PI X tg (.Call (.Name "range" p1) [ea] [] pos) (tI AD G c X (.iRng1 a)) :=
  PI.weak (pi_range1 hg hm ha (star_cons hs [] _)) fun σ H R ⟨ρ, sg, h, r, q, p⟩ => by
    rw [evI] at p
    refine tAr.step r q p fun ρ1 h1 v x H1 e1 r1 q1 v1 p1 => ?_
    unfold rng1A at p1
    split at p1
    · rename_i j
      split at p1
      · rename_i hj
        obtain ⟨y, rfl, y1⟩ := vsr1 v1
        obtain rfl := vr_int y1
        exact ⟨j, rfl, hj.1, hj.2, p1 ρ1 H1 _ (List.prefix_refl _) r1 itr_rng⟩
      · exact p1.elim
    · exact p1.elim
theorem i_rng2 {tg : Expr} {p1 : Pos} (hg : Gl X "range") (hm : X.mg "range" = none) (hs : notStar ea = true) (hs2 : notStar eb = true) (ha : PA X [ea, eb] (tAr AD G c X a)) : PI X tg (.Call (.Name "range" p1) [ea, eb] [] pos) (tI AD G c X (.iRng2 a)) :=
  PI.weak (pi_range2 hg hm ha ((star_cons hs [eb] _).trans (by rw [star_cons hs2]; rfl)) (star_cons hs2 [] _)) fun σ H R ⟨ρ, sg, h, r, q, p⟩ => by
    rw [evI] at p
    refine tAr.step r q p fun ρ1 h1 v x H1 e1 r1 q1 v1 p1 => ?_
    unfold rng2A at p1
    split at p1
    · rename_i i j
      split at p1
      · rename_i hj
        obtain ⟨y, z, rfl, y1, y2⟩ := vsr2 v1
        obtain rfl := vr_int y1
        obtain rfl := vr_int y2
        exact ⟨i, j, rfl, hj, p1 ρ1 H1 _ (List.prefix_refl _) r1 itr_rng⟩
      · exact p1.elim
    · exact p1.elim
theorem i_enm {elts : List Expr} {kk : Nat} {tpos p1 : Pos} (hg : Gl X "enumerate") (hm : X.mg "enumerate" = none) (hs : notStar ea = true) (ha : PE X ea (tE AD G c X a)) : PI X (.Tuple elts kk tpos) (.Call (.Name "enumerate" p1) [ea] [] pos) (tI AD G c X (.iEnm a)) :=
  PI.weak (pi_enum hg hm (s_cons hs ha s_nil) (star_cons hs [] _)) fun σ H R ⟨ρ, sg, h, r, q, p⟩ => by
    rw [evI] at p
    refine ⟨ρ, sg, h, r, q, ?_⟩
    rw [evA]
    revert p
    cases evE G c a sg h with
    | ok v h1 =>
      intro p
      simp only [SL.R.bind, evA]
      intro ρ1 H1 xs e1 r1 v1
      obtain ⟨x, rfl, x1⟩ := vsr1 v1
      cases v with
      | ref n =>
        simp only [SL.R.bind] at p
        split at p
        · rename_i zs e
          obtain ⟨b, ys, rfl, h2, h3⟩ := r1.lst X.K x1 e
          obtain ⟨b', hb, eb⟩ := vr_ref x1
          cases eb
          exact ⟨b, ys, rfl, h2, p ρ1 H1 _ e1 r1 (itr_enm hb)⟩
        · exact p.elim
      | _ => exact p.elim
    | exc C fs h1 => exact fun p => p
    | bad => exact fun p => p
theorem i_zip {elts : List Expr} {kk : Nat} {tpos p1 : Pos} (hg : Gl X "zip") (hm : X.mg "zip" = none) (hs : notStar ea = true) (hs2 : notStar eb = true) (ha : PE X ea (tE AD G c X a)) (hb : PE X eb (tE AD G c X b)) : PI X (.Tuple elts kk tpos) (.Call (.Name "zip" p1) [ea, eb] [] pos) (tI AD G c X (.iZip a b)) :=
  PI.weak (RZ.pi_zipA hg hm (s_cons hs ha (s_cons hs2 hb s_nil)) (star_cons hs [eb] _) (by rw [star_cons hs2]; rfl)) fun σ H R ⟨ρ, sg, h, r, q, p⟩ => by
    rw [evI] at p
    refine ⟨ρ, sg, h, r, q, ?_⟩
    simp only [evA]
    revert p
    cases evE G c a sg h with
    | ok v h1 =>
      simp only [SL.R.bind]
      cases evE G c b sg h1 with
      | ok v' h2 =>
        intro p
        simp only [SL.R.bind]
        intro ρ1 H1 xs e1 r1 v1
        obtain ⟨x, y, rfl, x1, y1⟩ := vsr2 v1
        simp only at p
        split at p
        · rename_i n m
          obtain ⟨b1, hb1, rfl⟩ := vr_ref x1
          obtain ⟨b2, hb2, rfl⟩ := vr_ref y1
          split at p
          · rename_i zs zs' e e'
            obtain ⟨c1, ys, ec1, k1, k2⟩ := r1.lst X.K x1 e
            obtain ⟨c2, ys', ec2, k3, k4⟩ := r1.lst X.K y1 e'
            cases ec1; cases ec2
            exact ⟨b1, b2, ys, ys', rfl, .inl ⟨k1, k3, p ρ1 H1 _ e1 r1 (itr_zip hb1 hb2)⟩⟩
          · split at p
            · rename_i zs zs' e e'
              obtain ⟨c1, ys, ec1, k1, k2⟩ := r1.tupl X.K x1 e
              obtain ⟨c2, ys', ec2, k3, k4⟩ := r1.tupl X.K y1 e'
              cases ec1; cases ec2
              exact ⟨b1, b2, ys, ys', rfl, .inr ⟨k1, k3, p ρ1 H1 _ e1 r1 (itr_zipT hb1 hb2)⟩⟩
            · exact p.elim
        · exact p.elim
      | exc C fs h2 => exact fun p => p
      | bad => exact fun p => p
    | exc C fs h1 => exact fun p => p
    | bad => exact fun p => p
/-! ### targets -/
theorem SR.set {ρ : List Addr} {σ : ASt} {σV : St} (q : SR AD ρ σ σV) (i : Nat) {v : AV} {x : V} (r : VR AD ρ v x) : SR AD ρ (σ.set i (some v)) (σV.set i (some x)) := by
  refine ⟨by simp [q.1], fun j w e => ?_⟩
  by_cases c : i = j
  · subst c
    by_cases hl : i < σ.length
    · rw [List.getElem?_set_self hl] at e; cases e
      exact ⟨x, List.getElem?_set_self (by rw [← q.1]; exact hl), r⟩
    · rw [List.getElem?_eq_none (by simpa using hl)] at e; cases e
  · rw [List.getElem?_set_ne c] at e
    obtain ⟨y, h1, h2⟩ := q.2 j w e
    exact ⟨y, by rw [List.getElem?_set_ne c]; exact h1, h2⟩
theorem SR.none {ρ : List Addr} {σ : ASt} {σV : St} (q : SR AD ρ σ σV) (i : Nat) : SR AD ρ (σ.set i none) (σV.set i none) := by
  refine ⟨by simp [q.1], fun j w e => ?_⟩
  by_cases c : i = j
  · subst c
    by_cases hl : i < σ.length
    · rw [List.getElem?_set_self hl] at e; cases e
    · rw [List.getElem?_eq_none (by simpa using hl)] at e; cases e
  · rw [List.getElem?_set_ne c] at e
    obtain ⟨y, h1, h2⟩ := q.2 j w e
    exact ⟨y, by rw [List.getElem?_set_ne c]; exact h1, h2⟩
/-- the slots that a target stores -/
def slotsL : T → List Nat
  | .tName i => [i]
  | .tTup ts => slotsL ts
  | .cons a b => slotsL a ++ slotsL b
  | _ => []
/-- slots as they stand for one another, and nothing else is changed -/
def SRt (AD : Str → Option Addr) (t : T) (σV0 : St) (ρ : List Addr) (σ : ASt) (σV : St) : Prop := SR AD ρ σ σV ∧ σV.length = σV0.length ∧ ∀ i, i ∉ slotsL t → σV[i]? = σV0[i]?
def tG (AD : Str → Option Addr) (G : Env) (c : Calls) (X : Cx) (t : T) : TG := fun v σV H Q => ∃ ρ σ h av, Rep AD ρ h H ∧ SR AD ρ σ σV ∧ VR AD ρ av v ∧ Post AD X ρ σV (evG G c t av σ h) (SRt AD t σV) Q
def tGs (AD : Str → Option Addr) (G : Env) (c : Calls) (X : Cx) (t : T) : TGs := fun vs σV H Q => ∃ ρ σ h avs, Rep AD ρ h H ∧ SR AD ρ σ σV ∧ VsR AD ρ avs vs ∧ Post AD X ρ σV (evGs G c t avs σ h) (SRt AD t σV) Q
theorem PG.weak {tg : Expr} {t t' : TG} (h : PG X tg t) (w : ∀ v σ H Q, t' v σ H Q → t v σ H Q) : PG X tg t' := ⟨fun pins s σ H v u Q I r q => h.run pins s σ H v u Q I r (w v σ H Q q)⟩
theorem PGs.weak {tg : List Expr} {t t' : TGs} (h : PGs X tg t) (w : ∀ v σ H Q, t' v σ H Q → t v σ H Q) : PGs X tg t' := ⟨fun pins s σ H v u Q I r q => h.run pins s σ H v u Q I r (w v σ H Q q)⟩
theorem g_name {i : Nat} {x : Str} (h : PG X (.Name x pos) (gName i)) : PG X (.Name x pos) (tG AD G c X (.tName i)) := PG.weak h fun v σ H Q ⟨ρ, sg, h, av, r, q, va, p⟩ => by
  rw [evG] at p
  refine p ρ H _ (List.prefix_refl _) r ⟨q.set i va, by simp, fun j hj => ?_⟩
  rw [List.getElem?_set_ne]
  rintro rfl
  exact hj (by simp [slotsL])
theorem gs_nil : PGs X [] (tGs AD G c X .nil) := PGs.weak pgs_nil fun v σ H Q ⟨ρ, sg, h, av, r, q, va, p⟩ => by
  cases va with
  | nil => rw [evGs] at p; exact ⟨rfl, p ρ H _ (List.prefix_refl _) r ⟨q, rfl, fun _ _ => rfl⟩⟩
  | cons _ _ => simp only [evGs] at p; exact p.elim
theorem asg_cons {e : Expr} (h : notStar e = true) (es : List Expr) (env : PySem.Env) : assignEach (e :: es) env = (false, assign e env) :: assignEach es env := by
  cases e <;> first | rfl | cases h
end
end SL

set_option Elab.async false
set_option linter.all false
set_option maxRecDepth 100000
set_option maxHeartbeats 4000000
/-! The evaluator over the hand layer: further targets, statements. -/
namespace SL
open PySem PySem.Spec L2
open PyProof.Rows hiding St
open PySem.W (Frag)
section
variable {AD : Str → Option Addr} {X : Cx} {G : Env} {Γ : CE} {κ : Ctx} {n : Nat} {ea eb ec : Expr} {a b d : T} {pos apos : Pos} {c : Calls}
/-! ### what a statement leaves -/
def PostF (AD : Str → Option Addr) (X : Cx) (ρ : List Addr) (f : Fl) (D : Ends) : Prop := match f with
  | .nx σ h => ∀ ρ' H' σV, ρ <+: ρ' → Rep AD ρ' h H' → SR AD ρ' σ σV → D.nx σV H'
  | .rt v h => ∀ ρ' H' x, ρ <+: ρ' → Rep AD ρ' h H' → VR AD ρ' v x → D.rt x H'
  | .bk σ h => ∀ ρ' H' σV, ρ <+: ρ' → Rep AD ρ' h H' → SR AD ρ' σ σV → D.bk σV H'
  | .ct σ h => ∀ ρ' H' σV, ρ <+: ρ' → Rep AD ρ' h H' → SR AD ρ' σ σV → D.ct σV H'
  | .exc C fs σ h => ∃ W, Takes X W ∧ ∀ ρ' H' σV cls d, ρ <+: ρ' → Rep AD ρ' h H' → SR AD ρ' σ σV → ExR (AD := AD) ρ' C fs H' cls d → W cls d σV H'
  | .bad => False
theorem PostF.mono {ρ ρ' : List Addr} {f : Fl} {D : Ends} (p : PostF AD X ρ f D) (e : ρ <+: ρ') : PostF AD X ρ' f D := by
  cases f with
  | nx σ h => exact fun ρ2 H' s e2 => p ρ2 H' s (e.trans e2)
  | rt σ h => exact fun ρ2 H' s e2 => p ρ2 H' s (e.trans e2)
  | bk σ h => exact fun ρ2 H' s e2 => p ρ2 H' s (e.trans e2)
  | ct σ h => exact fun ρ2 H' s e2 => p ρ2 H' s (e.trans e2)
  | exc C fs σ h => obtain ⟨W, t, p⟩ := p; exact ⟨W, t, fun ρ2 H' s cl d e2 => p ρ2 H' s cl d (e.trans e2)⟩
  | bad => exact p
/-- from a part of a statement -/
theorem PostF.part {α β : Type} {ρ : List Addr} {σ : ASt} {σV : St} {r : SL.R α} {f : α → AH → Fl} {D : Ends} {rel0 : List Addr → α → β → Prop} {Q' : β → Hp → Prop} (q : SR AD ρ σ σV) (p : PostF AD X ρ (r.toFl σ f) D)
    (w : ∀ ρ1 h1 a b H1, ρ <+: ρ1 → Rep AD ρ1 h1 H1 → rel0 ρ1 a b → SR AD ρ1 σ σV → PostF AD X ρ1 (f a h1) D → Q' b H1) : Post AD X ρ σV r rel0 Q' := by
  cases r with
  | ok a h => exact fun ρ1 H1 b e r q1 => w ρ1 h a b H1 e r q1 (q.mono e) (PostF.mono p e)
  | exc C fs h =>
    obtain ⟨W, t, p⟩ := p
    exact ⟨W, t, fun ρ' H' cl d e r x => p ρ' H' σV cl d e r (q.mono e) x⟩
  | bad => exact p
def tS (AD : Str → Option Addr) (G : Env) (c : Calls) (X : Cx) (t : T) : TS := fun D σV H => ∃ ρ σ h, Rep AD ρ h H ∧ SR AD ρ σ σV ∧ PostF AD X ρ (evS G c t σ h) D
theorem ss_nil : PSs X [] (tS AD G c X .done) := PSs.weak pss_nil fun D σ H ⟨ρ, sg, h, r, q, p⟩ => by
  rw [evS] at p
  exact p ρ H σ (List.prefix_refl _) r q
theorem ss_cons {st : Stmt} {rest : List Stmt} (h1 : PS X st (tS AD G c X a)) (h2 : PSs X rest (tS AD G c X b)) : PSs X (st :: rest) (tS AD G c X (.seq a b)) := PSs.weak (pss_cons h1 h2) fun D σ H ⟨ρ, sg, h, r, q, p⟩ => by
  rw [evS] at p
  refine ⟨ρ, sg, h, r, q, ?_⟩
  revert p
  cases evS G c a sg h with
  | nx σ1 h1 => exact fun p ρ1 H1 s1 e1 r1 q1 => ⟨ρ1, σ1, h1, r1, q1, PostF.mono p e1⟩
  | _ => exact fun p => p
theorem ss_pass : PS X (.Pass pos) (tS AD G c X .done) := PS.weak ps_pass fun D σ H ⟨ρ, sg, h, r, q, p⟩ => by
  rw [evS] at p
  exact p ρ H σ (List.prefix_refl _) r q
theorem ss_ret (ha : PE X ea (tE AD G c X a)) : PS X (.Return (some ea) pos) (tS AD G c X (.ret a)) := PS.weak (ps_ret ha) fun D σ H ⟨ρ, sg, h, r, q, p⟩ => by
  rw [evS] at p
  exact ⟨ρ, sg, h, r, q, PostF.part q p fun ρ1 h1 v x H1 e r1 v1 q1 p1 => p1 ρ1 H1 x (List.prefix_refl _) r1 v1⟩
theorem swap_no {e : Expr} (h : isComp e = false) (t : Option Expr) (l : Nat) (env : PySem.Env) : swapsWith e t l env = pure false := by
  cases e <;> first | rfl | cases h
theorem ss_expr (hc : isComp ea = false) (ha : PE X ea (tE AD G c X a)) : PS X (.Expr ea pos) (tS AD G c X (.expr a)) := PS.weak (ps_expr ha (swap_no hc _ _ _)) fun D σ H ⟨ρ, sg, h, r, q, p⟩ => by
  rw [evS] at p
  exact ⟨ρ, sg, h, r, q, PostF.part q p fun ρ1 h1 v x H1 e r1 v1 q1 p1 => p1 ρ1 H1 σ (List.prefix_refl _) r1 q1⟩
theorem ss_if {A B : List Stmt} (hc : PT X ec (tT AD G c X d)) (ha : PSs X A (tS AD G c X a)) (hb : PSs X B (tS AD G c X b)) : PS X (.If ec A B pos) (tS AD G c X (.iff d a b)) := PS.weak (ps_if hc ha hb) fun D σ H ⟨ρ, sg, h, r, q, p⟩ => by
  rw [evS] at p
  refine ⟨ρ, sg, h, r, q, PostF.part (rel0 := fun _ a b => a = b) q p fun ρ1 h1 k k' H1 e r1 v1 q1 p1 => ?_⟩
  subst v1
  cases k with
  | true => exact iteT ⟨ρ1, sg, h1, r1, q1, p1⟩
  | false => exact iteF ⟨ρ1, sg, h1, r1, q1, p1⟩
/-- name = e -/
theorem ss_set {i : Nat} {x : Str} {px : Pos} (h : PS X (.Assign [.Name x px] ea pos) (tAsg (tE AD G c X a) (gName i))) : PS X (.Assign [.Name x px] ea pos) (tS AD G c X (.asg (.tName i) a)) := PS.weak h fun D σ H ⟨ρ, sg, h, r, q, p⟩ => by
  rw [evS] at p
  refine ⟨ρ, sg, h, r, q, PostF.part q p fun ρ1 h1 v x H1 e r1 v1 q1 p1 => ?_⟩
  rw [evG] at p1
  exact p1 ρ1 H1 _ (List.prefix_refl _) r1 (q1.set i v1)
/-- target = e -/
theorem swap_at {e tg : Expr} (h : isComp e = false ∨ (∀ x p, tg ≠ .Name x p)) (l : Nat) (env : PySem.Env) : swapsWith e (some tg) l env = pure false := by
  rcases h with h | h
  · exact swap_no h _ _ _
  · cases tg <;> first | (exact absurd rfl (h _ _)) | (cases e <;> rfl)
theorem ss_asg {tg : Expr} {t : T} (hn : isComp ea = false ∨ (∀ x p, tg ≠ .Name x p)) (hw : swappedStores [tg] ea X.env = pure none) (hs : notStar tg = true) (ha : PE X ea (tE AD G c X a)) (hg : PG X tg (tG AD G c X t)) : PS X (.Assign [tg] ea pos) (tS AD G c X (.asg t a)) :=
  PS.weak (ps_asg ha hg (swap_at hn _ _) hw (by rw [asg_cons hs]; rfl)) fun D σ H ⟨ρ, sg, h, r, q, p⟩ => by
    rw [evS] at p
    refine ⟨ρ, sg, h, r, q, PostF.part q p fun ρ1 h1 v x H1 e r1 v1 q1 p1 => ⟨ρ1, sg, h1, v, r1, q1, v1, PostF.part q1 p1 fun ρ2 h2 s2 sv H2 e2 r2 q2 _ p2 => p2 ρ2 H2 sv (List.prefix_refl _) r2 q2.1⟩⟩
/-- name op= e -/
theorem ss_aug {i : Nat} {x : Str} {px : Pos} {op : Operator} (hN : X.N.Nodup) (hi : X.N[i]? = some x) (hx : Loc X.env.scope x) (hf : X.fn x = true ∨ X.env.scope.names.lookup x = some .local) (ha : PE X ea (tE AD G c X a)) : PS X (.AugAssign (.Name x px) op ea pos) (tS AD G c X (.aug i op a)) :=
  PS.weak (ps_aug hN hi hx ha (sa_all (AD := AD) op) hf) fun D σ H ⟨ρ, sg, h, r, q, p⟩ => by
    rw [evS] at p
    split at p
    · rename_i v e
      obtain ⟨y, h1, h2⟩ := q.2 i v e
      refine ⟨y, h1, ρ, sg, h, r, q, PostF.part q p fun ρ1 h1 w z H1 e1 r1 w1 q1 p1 => ⟨ρ1, h1, v, w, σ, r1, h2.mono e1, w1, PostF.part q1 p1 fun ρ2 h2 u uv H2 e2 r2 u2 q2 p2 => ?_⟩⟩
      exact p2 ρ2 H2 _ (List.prefix_refl _) r2 (q2.set i u2)
    · exact p.elim
/-- o.x = e -/
theorem ss_fld {o : Expr} {x : Str} {p1 : Pos} (O : ClsOk AD G X.K) (ho : PE X o (tE AD G c X b)) (ha : PE X ea (tE AD G c X a)) : PS X (.Assign [.Attribute o x p1] ea pos) (tS AD G c X (.asg (.tFld b x) a)) :=
  PS.weak (ps_fld ho ha (swap_at (.inr (fun _ _ z => by cases z)) _ _)) fun D σ H ⟨ρ, sg, h, r, q, p⟩ => by
    rw [evS] at p
    refine ⟨ρ, sg, h, r, q, PostF.part q p fun ρ1 h1 v y H1 e r1 v1 q1 p1 => ?_⟩
    rw [evG] at p1
    have p1' : PostF AD X ρ1 ((evE G c b sg h1).toFl sg fun y h2 => (match y with
      | .ref n => match h2[n]? with
        | some (.ins C fs) => if fs.length < 100 ∧ hasFld G C x = true then .ok sg (gst x v fs (h2.set n (.ins C (putFld fs x v)))) else .bad
        | _ => .bad
      | _ => .bad : SL.R ASt).toFl sg fun σ1 h2 => .nx σ1 h2) D := by
      revert p1
      cases evE G c b sg h1 <;> exact id
    refine ⟨ρ1, sg, h1, r1, q1, PostF.part q1 p1' fun ρ2 h2 ov z H2 e2 r2 z2 q2 p2 => ?_⟩
    cases ov with
    | ref n =>
      simp only at p2
      split at p2
      · rename_i C fs hn
        split at p2
        · rename_i hf
          obtain ⟨ad, had, rfl, Ca, dx, gs, h0, k2, k3⟩ := r2.ref z2 hn
          have hf2 := hf.2
          unfold hasFld at hf2
          split at hf2
          · rename_i cd hc
            refine ⟨ad, Ca, dx, gs, rfl, k2, (O.cl C cd Ca hc h0).1, O.fl C cd Ca x hc h0 hf2, by rw [← fsr_len k3]; omega, ?_⟩
            exact p2 ρ2 _ _ (List.prefix_refl _) (Rep.gst (r2.set (o := .ins C (putFld fs x v)) had ⟨Ca, dx, _, h0, upd_same, fsr_put k3 x (v1.mono e2)⟩)) q2
          · cases hf2
        · exact p2.elim
      · exact p2.elim
    | _ => exact p2.elim
/-! ### several targets -/
def tlen : T → Nat
  | .cons _ r => tlen r + 1
  | _ => 0
theorem gs_cons {e : Expr} {es : List Expr} (hs : notStar e = true) (h1 : PG X e (tG AD G c X a)) (h2 : PGs X es (tGs AD G c X b)) : PGs X (e :: es) (tGs AD G c X (.cons a b)) := PGs.weak (pgs_cons h1 h2 (by rw [asg_cons hs]; rfl)) fun v σ H Q ⟨ρ, sg, h, av, r, q, va, p⟩ => by
  cases va with
  | nil => simp only [evGs] at p; exact p.elim
  | cons v1 vr =>
    simp only [evGs] at p
    refine ⟨_, _, rfl, ρ, sg, h, _, r, q, v1, ?_⟩
    revert p
    cases evG G c a _ sg h with
    | ok s1 h1 =>
      intro p ρ1 H1 sv e1 r1 q1
      refine ⟨ρ1, s1, h1, _, r1, q1.1, VsR.mono vr e1, ?_⟩
      simp only [SL.R.calm, SL.R.bind] at p
      revert p
      cases evGs G c b _ s1 h1 with
      | ok s2 h2 =>
        refine fun p ρ2 H2 sv2 e2 r2 q2 => p ρ2 H2 sv2 (e1.trans e2) r2 ⟨q2.1, q2.2.1.trans q1.2.1, fun i hi => ?_⟩
        simp only [slotsL, List.mem_append, not_or] at hi
        rw [q2.2.2 i hi.2, q1.2.2 i hi.1]
      | exc C fs h2 => exact fun p => p.elim
      | bad => exact fun p => p
    | exc C fs h1 => exact fun p => p.elim
    | bad => exact fun p => p
theorem g_tup {es : List Expr} {kk : Nat} (hc : X.calm = true) (hl : tlen a = es.length) (hs : es.all notStar = true) (h : PGs X es (tGs AD G c X a)) (hlen : ∀ vs σ h, evGs G c a vs σ h ≠ .bad → vs.length = tlen a) : PG X (.Tuple es kk pos) (tG AD G c X (.tTup a)) := by
  have h1 : (assignEach es X.env).length = es.length := by
    clear h hl
    induction es with
    | nil => rfl
    | cons e es ih =>
      simp only [List.all_cons, Bool.and_eq_true] at hs
      rw [asg_cons hs.1, List.length_cons, List.length_cons, ih hs.2]
  have h2 : (assignEach es X.env).findIdx? (·.1) = none := by
    clear h hl h1
    induction es with
    | nil => rfl
    | cons e es ih =>
      simp only [List.all_cons, Bool.and_eq_true] at hs
      rw [asg_cons hs.1, List.findIdx?_cons]
      simp [ih hs.2]
  refine PG.weak (pg_tup hc h h1 h2) fun v σ H Q ⟨ρ, sg, h, av, r, q, va, p⟩ => ?_
  cases av with
  | ref n =>
    simp only [evG] at p
    split at p
    · rename_i vs hn
      obtain ⟨ad, _, rfl, ys, k1, k2⟩ := r.ref va hn
      refine ⟨ad, ys, rfl, .inl (.inl k1), ?_, ρ, sg, h, vs, r, q, k2, p⟩
      rw [← Paired.length k2, ← hl]
      refine hlen vs sg h fun z => ?_
      rw [z] at p; exact p.elim
    · exact p.elim
  | _ => simp only [evG] at p; exact p.elim
theorem evGs_len : ∀ (t : T) (vs : List AV) (σ : ASt) (h : AH), evGs G c t vs σ h ≠ .bad → vs.length = tlen t := by
  intro t
  induction t with
  | nil => intro vs σ h z; cases vs with
    | nil => rfl
    | cons v vs => exact absurd (by simp only [evGs]) z
  | cons t ts _ ih => intro vs σ h z; cases vs with
    | nil => exact absurd (by simp only [evGs]) z
    | cons v vs =>
      simp only [List.length_cons, tlen]
      rw [evGs] at z
      cases e : (evG G c t v σ h).calm with
      | ok s1 h1 =>
        rw [e] at z
        rw [ih vs s1 h1 fun y => z (by simp only [SL.R.bind, y, SL.R.calm])]
      | exc C fs h1 =>
        exfalso
        cases e2 : evG G c t v σ h <;> rw [e2] at e <;> cases e
      | bad => rw [e] at z; exact absurd rfl z
  | _ => intro vs σ h z; exact absurd (by cases vs <;> simp only [evGs]) z
theorem g_sub {o i : Expr} (hu : RoomU X) (hp : plainIx i = true) (ho : PE X o (tE AD G c X a)) (hi : PE X i (tE AD G c X b)) : PG X (.Subscript o i pos) (tG AD G c X (.tSub a b)) := by
  have hset : PSet X (fun o i v H Q => rSetL o i v H Q ∨ rSetD o i v H Q) := fun pins s σ H o i v ov iv u Q I ro ri rv q => by
    rcases q with q | q
    · exact set_list pins s σ H o i v ov iv u Q I ro ri rv q
    · exact set_dict (by unfold RoomU at hu; omega) pins s σ H o i v ov iv u Q I ro ri rv q
  have has : ∀ v, assign (.Subscript o i pos) X.env v = (do
      let ov ← holding [v] (eval o X.env)
      let iv ← holding [v, ov] (eval i X.env)
      standAt pos
      holding [v, ov, iv] (setItem ov iv v)
      release [v, ov, iv] []) := fun v => by cases i <;> first | rfl | cases hp
  refine PG.weak (pg_sub ho hi hset has) fun v σ H Q ⟨ρ, sg, h, av, r, q, va, p⟩ => ?_
  rw [evG] at p
  refine tE.step r q p fun ρ1 h1 ov x H1 e1 r1 q1 v1 p1 => tE.step r1 q1 p1 fun ρ2 h2 iv y H2 e2 r2 q2 y2 p2 => ?_
  cases ov with
  | ref n =>
    simp only at p2
    split at p2
    · rename_i xs k hn
      split at p2
      · rename_i j hj
        obtain ⟨ad, had, rfl, ys, k1, k2⟩ := r2.ref (v1.mono e2) hn
        obtain rfl := vr_int y2
        refine .inl ⟨ad, ys, k, j, rfl, rfl, k1, by rw [← Paired.length k2]; exact hj, ?_⟩
        exact p2 ρ2 _ _ (List.prefix_refl _) (r2.set had ⟨_, upd_same, vsr_set k2 ((va.mono e1).mono e2) j⟩) ⟨q2, rfl, fun _ _ => rfl⟩
      · exact p2.elim
    · rename_i kvs k hn
      split at p2
      · rename_i k' hk
        split at p2
        · rename_i hl
          obtain ⟨ad, had, rfl, ys, k1, k2⟩ := r2.ref (v1.mono e2) hn
          refine .inr ⟨ad, _, rfl, .inl ⟨ys, k', k1, key_of y2 hk, by rw [← Paired.length k2]; exact hl, rfl⟩, ?_⟩
          exact p2 ρ2 _ _ (List.prefix_refl _) (r2.set had ⟨_, upd_same, ksr_put k2 k' ((va.mono e1).mono e2)⟩) ⟨q2, rfl, fun _ _ => rfl⟩
        · exact p2.elim
      · exact p2.elim
    · rename_i ms kvs hn
      split at p2
      · rename_i k' hk
        split at p2
        · rename_i hl
          obtain ⟨ad, had, rfl, ys, k1, k2⟩ := r2.ref (v1.mono e2) hn
          refine .inr ⟨ad, _, rfl, .inl ⟨ys, k', k1, key_of y2 hk, by rw [← Paired.length k2]; exact hl, rfl⟩, ?_⟩
          exact p2 ρ2 _ _ (List.prefix_refl _) (r2.set (o := .memo ms (putK kvs k' av)) had ⟨_, upd_same, ksr_put k2 k' ((va.mono e1).mono e2)⟩) ⟨q2, rfl, fun _ _ => rfl⟩
        · exact p2.elim
      · exact p2.elim
    · exact p2.elim
  | _ => exact p2.elim
/-! ### loops -/
theorem ss_for {tg iter : Expr} {body : List Stmt} {t i : T} (hp : PassesOwn (model X.prog X.w) X.A X.env X.xe) (hc : X.calm = true) (hi : PI X tg iter (tI AD G c X i)) (hg : PG X tg (tG AD G c X t)) (hb : PSs X body (tS AD G c X b)) (hs : ∀ x, foldedSetIterable iter X.env x = pure x) :
    PS X (.For tg iter body [] pos) (tS AD G c X (.for t i b)) := PS.weak (ps_for hp hc hi hg hb hs) fun D σ H ⟨ρ, sg, h, r, q, p⟩ => by
  rw [evS] at p
  refine ⟨ρ, sg, h, r, q, PostF.part q p fun ρ1 h1 it J H1 e1 r1 j1 q1 p1 => ?_⟩
  refine ⟨fun i m σ H => ∃ ρ sg h, ρ1 <+: ρ ∧ Rep AD ρ h H ∧ SR AD ρ sg σ ∧ PostF AD X ρ (forL it (evG G c t) (evS G c b) m i sg h) D, ⟨bigW, ρ1, sg, h1, List.prefix_refl _, r1, q1, p1⟩, ?_⟩
  rintro i m σ2 H2 ⟨ρ2, sg2, h2, e2, r2, q2, p2⟩
  cases m with
  | zero => exact p2.elim
  | succ m =>
    obtain ⟨stop, go⟩ := j1 ρ2 h2 H2 i e2 r2
    rw [forL] at p2
    cases en : itNext it i h2 with
    | none => rw [en] at p2; exact p2.elim
    | some o =>
      cases o with
      | none =>
        rw [en] at p2
        exact .inl ⟨stop en, p2 ρ2 H2 σ2 (List.prefix_refl _) r2 q2⟩
      | some vh =>
        obtain ⟨v, h3⟩ := vh
        obtain ⟨g1, g2⟩ := go v h3 en
        rw [en] at p2
        refine .inr ⟨g1, fun σ' H' => ∃ ρ sg h, ρ1 <+: ρ ∧ Rep AD ρ h H' ∧ SR AD ρ sg σ' ∧ PostF AD X ρ (forL it (evG G c t) (evS G c b) m (i + 1) sg h) D, fun σ' H' w => ⟨m, Nat.lt_succ_self m, w⟩, fun x H' y => ?_⟩
        obtain ⟨ρ3, e3, r3, v3⟩ := g2 x H' y
        have q3 := q2.mono e3
        refine ⟨ρ3, sg2, h3, v, r3, q3, v3, PostF.part q3 (PostF.mono p2 e3) fun ρ4 h4 sg4 σ4 H4 e4 r4 q4 _ p4 => ?_⟩
        refine ⟨ρ4, sg4, h4, r4, q4.1, ?_⟩
        have e14 := (e2.trans e3).trans e4
        revert p4
        cases evS G c b sg4 h4 with
        | nx s5 h5 => exact fun p4 ρ5 H5 σ5 e5 r5 q5 => ⟨ρ5, s5, h5, e14.trans e5, r5, q5, PostF.mono p4 e5⟩
        | ct s5 h5 => exact fun p4 ρ5 H5 σ5 e5 r5 q5 => ⟨ρ5, s5, h5, e14.trans e5, r5, q5, PostF.mono p4 e5⟩
        | bk s5 h5 => exact fun p4 => p4
        | rt v h5 => exact fun p4 => p4
        | exc C fs s5 h5 => exact fun p4 => p4
        | bad => exact fun p4 => p4
theorem ss_whl {body : List Stmt} (hp : PassesOwn (model X.prog X.w) X.A X.env X.xe) (ht : PT X ec (tT AD G c X d)) (hb : PSs X body (tS AD G c X b)) : PS X (.While ec body [] pos) (tS AD G c X (.whl d b)) := PS.weak (ps_while hp ht hb) fun D σ H ⟨ρ, sg, h, r, q, p⟩ => by
  rw [evS] at p
  refine ⟨fun m σ H => ∃ ρ sg h, Rep AD ρ h H ∧ SR AD ρ sg σ ∧ PostF AD X ρ (whlL (evT G c d) (evS G c b) m sg h) D, ⟨bigW, ρ, sg, h, r, q, p⟩, ?_⟩
  rintro m σ2 H2 ⟨ρ2, sg2, h2, r2, q2, p2⟩
  cases m with
  | zero => exact p2.elim
  | succ m =>
    rw [whlL] at p2
    refine ⟨ρ2, sg2, h2, r2, q2, PostF.part (rel0 := fun _ a b => a = b) q2 p2 fun ρ3 h3 k k' H3 e3 r3 ek q3 p3 => ?_⟩
    subst ek
    cases k with
    | false => exact iteF (p3 ρ3 H3 σ2 (List.prefix_refl _) r3 q3)
    | true =>
      refine iteT ⟨fun σ' H' => ∃ ρ sg h, Rep AD ρ h H' ∧ SR AD ρ sg σ' ∧ PostF AD X ρ (whlL (evT G c d) (evS G c b) m sg h) D, fun σ' H' w => ⟨m, Nat.lt_succ_self m, w⟩, ρ3, sg2, h3, r3, q3, ?_⟩
      rw [if_pos rfl] at p3
      revert p3
      cases evS G c b sg2 h3 with
      | nx s5 h5 => exact fun p4 ρ5 H5 σ5 e5 r5 q5 => ⟨ρ5, s5, h5, r5, q5, PostF.mono p4 e5⟩
      | ct s5 h5 => exact fun p4 ρ5 H5 σ5 e5 r5 q5 => ⟨ρ5, s5, h5, r5, q5, PostF.mono p4 e5⟩
      | bk s5 h5 => exact fun p4 => p4
      | rt v h5 => exact fun p4 => p4
      | exc C fs s5 h5 => exact fun p4 => p4
      | bad => exact fun p4 => p4
/-- a, b = .. ; a, b, c = .. -/
theorem ss_par2 {i j : Nat} {es : List Expr} {tg : Expr} {kt : Nat} {pt : Pos} (h : PS X (.Assign [tg] (.Tuple es kt pt) pos) (tPar i j (tAr AD G c X a))) : PS X (.Assign [tg] (.Tuple es kt pt) pos) (tS AD G c X (.par [i, j] a)) := PS.weak h fun D σ H ⟨ρ, sg, h, r, q, p⟩ => by
  rw [evS] at p
  refine ⟨ρ, sg, h, r, q, PostF.part q p fun ρ1 h1 vs ys H1 e1 r1 v1 q1 p1 => ?_⟩
  split at p1
  · match vs, v1, p1 with
    | [v, w], v1, p1 =>
      obtain ⟨x, y, rfl, x1, y1⟩ := vsr2 v1
      exact ⟨x, y, rfl, p1 ρ1 H1 _ (List.prefix_refl _) r1 ((q1.set i x1).set j y1)⟩
    | [], _, _ => rename_i hl; cases hl
    | [_], _, _ => rename_i hl; cases hl
    | _ :: _ :: _ :: _, _, _ => rename_i hl; simp at hl
  · exact p1.elim
theorem ss_par3 {i j k : Nat} {es : List Expr} {tg : Expr} {kt : Nat} {pt : Pos} (h : PS X (.Assign [tg] (.Tuple es kt pt) pos) (tPar3 i j k (tAr AD G c X a))) : PS X (.Assign [tg] (.Tuple es kt pt) pos) (tS AD G c X (.par [i, j, k] a)) := PS.weak h fun D σ H ⟨ρ, sg, h, r, q, p⟩ => by
  rw [evS] at p
  refine ⟨ρ, sg, h, r, q, PostF.part q p fun ρ1 h1 vs ys H1 e1 r1 v1 q1 p1 => ?_⟩
  split at p1
  · match vs, v1, p1 with
    | [v, w, u], .cons x1 (.cons y1 (.cons z1 .nil)), p1 =>
      exact ⟨_, _, _, rfl, p1 ρ1 H1 _ (List.prefix_refl _) r1 (((q1.set i x1).set j y1).set k z1)⟩
    | [], _, _ => rename_i hl; cases hl
    | [_], _, _ => rename_i hl; cases hl
    | [_, _], _, _ => rename_i hl; simp at hl
    | _ :: _ :: _ :: _ :: _, _, _ => rename_i hl; simp at hl
  · exact p1.elim
theorem ss_brk : PS X (.Break pos) (tS AD G c X .brk) := PS.weak ps_break fun D σ H ⟨ρ, sg, h, r, q, p⟩ => by
  rw [evS] at p
  exact p ρ H σ (List.prefix_refl _) r q
theorem ss_cont : PS X (.Continue pos) (tS AD G c X .cont) := PS.weak ps_continue fun D σ H ⟨ρ, sg, h, r, q, p⟩ => by
  rw [evS] at p
  exact p ρ H σ (List.prefix_refl _) r q
end
end SL

set_option Elab.async false
set_option linter.all false
set_option maxRecDepth 100000
set_option maxHeartbeats 4000000
/-! The evaluator over the hand layer: comprehensions. -/
namespace SL
open PySem PySem.Spec L2
open PyProof.Rows hiding St
open PySem.W (Frag)
section
variable {AD : Str → Option Addr} {X : Cx} {G : Env} {Γ : CE} {κ : Ctx} {n : Nat} {ea eb ec : Expr} {a b d : T} {pos apos : Pos} {c : Calls}
/-- what follows where no exception comes -/
def Post0 {α β : Type} (AD : Str → Option Addr) (ρ : List Addr) (r : SL.R α) (rel : List Addr → α → β → Prop) (Q : β → Hp → Prop) : Prop := match r with
  | .ok a h => ∀ ρ' H' b, ρ <+: ρ' → Rep AD ρ' h H' → rel ρ' a b → Q b H'
  | _ => False
theorem Post0.any {α β : Type} {ρ : List Addr} {r : SL.R α} {rel : List Addr → α → β → Prop} {Q : β → Hp → Prop} (p : Post0 AD ρ r rel Q) (σV : St) : Post AD X ρ σV r rel Q := by
  cases r with
  | ok a h => exact p
  | exc C fs h => exact p.elim
  | bad => exact p
theorem Post0.mono {α β : Type} {ρ ρ' : List Addr} {r : SL.R α} {rel : List Addr → α → β → Prop} {Q : β → Hp → Prop} (p : Post0 AD ρ r rel Q) (e : ρ <+: ρ') : Post0 AD ρ' r rel Q := by
  cases r with
  | ok a h => exact fun ρ2 H' b e2 => p ρ2 H' b (e.trans e2)
  | exc C fs h => exact p
  | bad => exact p
theorem Post0.step {α β γ δ : Type} {ρ : List Addr} {r : SL.R α} {f : α → AH → SL.R γ} {rel0 : List Addr → α → β → Prop} {rel : List Addr → γ → δ → Prop} {Q : δ → Hp → Prop} {Q' : β → Hp → Prop} (p : Post0 AD ρ (r.bind f) rel Q)
    (w : ∀ ρ1 h1 a b H1, ρ <+: ρ1 → Rep AD ρ1 h1 H1 → rel0 ρ1 a b → Post0 AD ρ1 (f a h1) rel Q → Q' b H1) : Post0 AD ρ r rel0 Q' := by
  cases r with
  | ok a h => exact fun ρ1 H1 b e r q => w ρ1 h a b H1 e r q (Post0.mono p e)
  | exc C fs h => exact p
  | bad => exact p
def tE0 (AD : Str → Option Addr) (G : Env) (c : Calls) (t : T) : TE := fun σV H Q => ∃ ρ σ h, Rep AD ρ h H ∧ SR AD ρ σ σV ∧ Post0 AD ρ (evE G c t σ h) (VR AD) Q
def tT0 (AD : Str → Option Addr) (G : Env) (c : Calls) (t : T) : TT := fun σV H Q => ∃ ρ σ h, Rep AD ρ h H ∧ SR AD ρ σ σV ∧ Post0 AD ρ (evT G c t σ h) (fun _ a b => a = b) Q
def tG0 (AD : Str → Option Addr) (G : Env) (c : Calls) (t : T) : TG := fun v σV H Q => ∃ ρ σ h av, Rep AD ρ h H ∧ SR AD ρ σ σV ∧ VR AD ρ av v ∧ Post0 AD ρ (evG G c t av σ h) (SRt AD t σV) Q
theorem PTs.weak {es : List Expr} {t t' : TT} (h : PTs X es t) (w : ∀ σ H Q, t' σ H Q → t σ H Q) : PTs X es t' := ⟨fun pins s σ H Q I q => h.run pins s σ H Q I (w σ H Q q)⟩
theorem e0 (h : PE X ea (tE AD G c X a)) : PE X ea (tE0 AD G c a) := PE.weak h fun σ H Q ⟨ρ, sg, h, r, q, p⟩ => ⟨ρ, sg, h, r, q, p.any _⟩
theorem t0 (h : PT X ea (tT AD G c X a)) : PTs X [ea] (tT0 AD G c a) := PTs.weak (pts_one h) fun σ H Q ⟨ρ, sg, h, r, q, p⟩ => ⟨ρ, sg, h, r, q, p.any _⟩
theorem t0nil : PTs X [] (tT0 AD G c .tYes) := PTs.weak pts_nil fun σ H Q ⟨ρ, sg, h, r, q, p⟩ => by
  rw [evT] at p
  exact p ρ H true (List.prefix_refl _) r rfl
theorem g0 (h : PG X ea (tG AD G c X a)) : PG X ea (tG0 AD G c a) := PG.weak h fun v σ H Q ⟨ρ, sg, h, av, r, q, va, p⟩ => ⟨ρ, sg, h, av, r, q, va, p.any _⟩
theorem wipe_len (σ : ASt) : ∀ vs : List Nat, (wipe σ vs).length = σ.length
  | [] => rfl
  | v :: vs => by unfold wipe; rw [List.length_set, wipe_len σ vs]
theorem sr_wipe {ρ : List Addr} {σ : ASt} {σV : St} (q : SR AD ρ σ σV) : ∀ vs : List Nat, SR AD ρ (wipe σ vs) (L2.wipe σV vs)
  | [] => q
  | v :: vs => (sr_wipe q vs).none v
theorem wipe_get (σV : St) : ∀ (vs : List Nat) (i : Nat), (L2.wipe σV vs)[i]? = if i ∈ vs then (if i < σV.length then some none else none) else σV[i]?
  | [], i => by simp [L2.wipe]
  | v :: vs, i => by
    unfold L2.wipe
    by_cases c : v = i
    · subst c
      by_cases hl : v < σV.length
      · rw [List.getElem?_set_self (by rw [L2.wipe_length]; exact hl)]; simp [hl]
      · rw [List.getElem?_eq_none (by rw [List.length_set, L2.wipe_length]; omega)]; simp [hl]
    · rw [List.getElem?_set_ne c, wipe_get σV vs i]
      have : (i ∈ v :: vs) ↔ i ∈ vs := by simp [Ne.symm c]
      by_cases hm : i ∈ vs <;> simp [hm, Ne.symm c]
theorem wipe_eq {σV σV0 : St} {t : T} {own : List Nat} (hl : σV.length = σV0.length) (hk : ∀ i, i ∉ slotsL t → σV[i]? = σV0[i]?) (hi : ∀ i ∈ slotsL t, i ∈ own) : L2.wipe σV own = L2.wipe σV0 own := by
  apply List.ext_getElem?
  intro i
  rw [wipe_get, wipe_get, hl]
  by_cases c : i ∈ own
  · simp [c]
  · simp only [if_neg c]
    exact hk i fun z => c (hi i z)
theorem tgIn_sub : ∀ {t : T} {l : List Nat}, tgSlots t = some l → slotsL t = l := by
  intro t
  induction t with
  | tName i => intro l e; cases e; rfl
  | tTup ts ih => intro l e; exact ih e
  | nil => intro l e; cases e; rfl
  | cons a b iha ihb =>
    intro l e
    simp only [tgSlots] at e
    split at e
    · rename_i x y h1 h2; cases e
      simp only [slotsL, iha h1, ihb h2]
    · cases e
  | _ => intro l e; cases e
theorem tgIn_own {t : T} {own : List Nat} (h : tgIn own t = true) : ∀ i ∈ slotsL t, i ∈ own := by
  unfold tgIn at h
  split at h
  · rename_i l e
    rw [tgIn_sub e]
    intro i hi
    have := List.all_eq_true.mp h i hi
    simpa using this
  · cases h
/-- a turn of a comprehension's loop -/
theorem comp_turn {it : It} {J : L2.It} {turn : AV → AH → SL.R Unit} {ρ0 : List Addr} (hJ : ItR AD ρ0 it J) {Q : Hp → Prop} {m i : Nat} {ρ : List Addr} {h : AH} {H : Hp} (e : ρ0 <+: ρ) (r : Rep AD ρ h H)
    (p : Post0 AD ρ (compL it turn (m + 1) i h) (fun _ _ (_ : Unit) => True) (fun _ H => Q H)) :
    (J.stop i H ∧ Q H) ∨ (J.go i H ∧ ∀ x H', J.yld i H x H' → ∃ ρ' v h', ρ <+: ρ' ∧ Rep AD ρ' h' H' ∧ VR AD ρ' v x ∧ Post0 AD ρ' ((turn v h').bind fun _ h2 => compL it turn m (i + 1) h2) (fun _ _ (_ : Unit) => True) (fun _ H => Q H)) := by
  obtain ⟨stop, go⟩ := hJ ρ h H i e r
  rw [compL] at p
  cases en : itNext it i h with
  | none => rw [en] at p; exact p.elim
  | some o =>
    cases o with
    | none => rw [en] at p; exact .inl ⟨stop en, p ρ H () (List.prefix_refl _) r trivial⟩
    | some vh =>
      obtain ⟨v, h3⟩ := vh
      obtain ⟨g1, g2⟩ := go v h3 en
      rw [en] at p
      refine .inr ⟨g1, fun x H' y => ?_⟩
      obtain ⟨ρ3, e3, r3, v3⟩ := g2 x H' y
      exact ⟨ρ3, v, h3, e3, r3, v3, Post0.mono p e3⟩
theorem calm_bind {α β γ : Type} {ρ : List Addr} {σV : St} {r : SL.R α} {f : α → AH → SL.R β} {rel : List Addr → β → γ → Prop} {Q : γ → Hp → Prop} (p : Post AD X ρ σV (r.calm.bind f) rel Q) : ∃ a h, r = .ok a h ∧ Post AD X ρ σV (f a h) rel Q := by
  cases r with
  | ok a h => exact ⟨a, h, rfl, p⟩
  | exc C fs h => exact p.elim
  | bad => exact p.elim
/-- [elt for tg in iter if cond] -/
theorem comp_read {own : List Nat} {i e t cnd : T} (ho : ∀ k ∈ slotsL t, k ∈ own) {σ : St} {H : Hp} {Q : VK} (hw : tE AD G c X (.comp e t i cnd own) σ H Q) : tLc (tI AD G c X i) (tG0 AD G c t) (tT0 AD G c cnd) (tE0 AD G c e) own σ H Q := by
  obtain ⟨ρ, sg, h, r, q, p⟩ := hw
  rw [evE] at p
  refine ⟨ρ, sg, h, r, q, Post.step p fun ρ1 h1 it J H1 e1 r1 j1 p1 D hD => ?_⟩
  obtain ⟨u, h6, er, pf⟩ := calm_bind p1
  have hid : (ρ1 ++ [D])[h1.length]? = some D := by rw [← r1.len, List.getElem?_append_right (Nat.le_refl _)]; simp
  have r2 := r1.new (o := .lst []) (ho := .lst []) hD ⟨[], upd_same, .nil⟩
  refine ⟨fun k m H => ∃ ρ h, (ρ1 ++ [D]) <+: ρ ∧ Rep AD ρ h H ∧ SR AD ρ sg σ ∧ Post0 AD ρ (compL it (fun v h2 => (evG G c t v (wipe sg own) h2).bind fun σ2 h3 => (evT G c cnd σ2 h3).bind fun b h4 =>
        if b = true then (evE G c e σ2 h4).bind fun y h5 => putLst h1.length y h5 else .ok () h4) m k h) (fun _ _ (_ : Unit) => True) (fun _ H => Q (.ref D) H),
    ⟨bigW, ρ1 ++ [D], h1 ++ [.lst []], List.prefix_refl _, r2, q.mono (e1.trans (List.prefix_append _ _)), by
      rw [er]
      exact fun ρ3 H3 _ e3 r3 _ => pf ρ3 H3 _ ((List.prefix_append _ _).trans e3) r3 (vref (pre_at hid e3))⟩, ?_⟩
  rintro k m H3 ⟨ρ3, h3, e3, r3, q3, p3⟩
  cases m with
  | zero => exact p3.elim
  | succ m =>
    rcases comp_turn (j1.mono (List.prefix_append ρ1 [D])) e3 r3 p3 with st | ⟨go, step⟩
    · exact .inl st
    · refine .inr ⟨go, _, fun H' w => ⟨m, Nat.lt_succ_self m, w⟩, fun x H' y => ?_⟩
      obtain ⟨ρ4, v, h4, e4, r4, v4, p4⟩ := step x H' y
      simp only [R.bind_assoc] at p4
      refine ⟨ρ4, wipe sg own, h4, v, r4, sr_wipe (q3.mono e4) own, v4, Post0.step p4 fun ρ5 h5 sg5 σ5 H5 e5 r5 q5 p5 => ⟨?_, ρ5, sg5, h5, r5, q5.1, Post0.step p5 fun ρ6 h6 b b' H6 e6 r6 eb p6 => ?_⟩⟩
      · rw [wipe_eq (σV0 := L2.wipe σ own) q5.2.1 q5.2.2 ho]
        apply List.ext_getElem?
        intro i
        rw [wipe_get, wipe_get, L2.wipe_length]
        by_cases c : i ∈ own <;> simp [c]
      · subst eb
        have e36 := ((e3.trans e4).trans e5).trans e6
        have q6 := ((q3.mono e4).mono e5).mono e6
        cases b with
        | false => exact iteF ⟨ρ6, h6, e36, r6, q6, p6⟩
        | true =>
          simp only [if_true, R.bind_assoc] at p6
          refine iteT ⟨ρ6, sg5, h6, r6, q5.1.mono e6, Post0.step p6 fun ρ7 h7 y yv H7 e7 r7 y7 p7 => ?_⟩
          unfold putLst at p7
          split at p7
          · rename_i zs hn
            split at p7
            · rename_i hl
              have hD7 := pre_at hid (e36.trans e7)
              obtain ⟨ad, had, ead, ys, k1, k2⟩ := r7.ref (vref hD7) hn
              cases ead
              exact ⟨ys, k1, by rw [← Paired.length k2]; exact hl, ρ7, h7.set h1.length (.lst (zs ++ [y])), e36.trans e7, r7.set (o := .lst (zs ++ [y])) (ho := .lst (ys ++ [yv])) hD7 ⟨_, upd_same, vsr_append k2 (.cons y7 .nil)⟩, q6.mono e7, p7⟩
            · exact p7.elim
          · exact p7.elim
end
end SL

set_option Elab.async false
set_option linter.all false
set_option maxRecDepth 100000
set_option maxHeartbeats 4000000
/-! The evaluator over the hand layer: comprehensions as they are written. -/
namespace SL
open PySem PySem.Spec L2
open PyProof.Rows hiding St
open PySem.W (Frag)
section
variable {AD : Str → Option Addr} {X : Cx} {G : Env} {Γ : CE} {κ : Ctx} {n : Nat} {ea eb ec : Expr} {a b d : T} {pos apos : Pos} {c : Calls}
def tI0 (AD : Str → Option Addr) (G : Env) (c : Calls) (t : T) : TI := fun σV H R => ∃ ρ σ h, Rep AD ρ h H ∧ SR AD ρ σ σV ∧ Post0 AD ρ (evI G c t σ h) (ItR AD) R
theorem i0 {tg : Expr} (h : PI X tg ea (tI AD G c X a)) : PI X tg ea (tI0 AD G c a) := PI.weak h fun σ H Q ⟨ρ, sg, h, r, q, p⟩ => ⟨ρ, sg, h, r, q, p.any _⟩
/-- a turn, what follows the loop kept -/
theorem comp_turnK {it : It} {J : L2.It} {turn : AV → AH → SL.R Unit} {ρ0 : List Addr} (hJ : ItR AD ρ0 it J) {Q : Hp → Prop} {f : Unit → AH → SL.R Unit} {m i : Nat} {ρ : List Addr} {h : AH} {H : Hp} (e : ρ0 <+: ρ) (r : Rep AD ρ h H)
    (p : Post0 AD ρ ((compL it turn (m + 1) i h).bind f) (fun _ _ (_ : Unit) => True) (fun _ H => Q H)) :
    (J.stop i H ∧ Post0 AD ρ (f () h) (fun _ _ (_ : Unit) => True) (fun _ H => Q H)) ∨ (J.go i H ∧ ∀ x H', J.yld i H x H' → ∃ ρ' v h', ρ <+: ρ' ∧ Rep AD ρ' h' H' ∧ VR AD ρ' v x ∧ Post0 AD ρ' ((turn v h').bind fun _ h2 => (compL it turn m (i + 1) h2).bind f) (fun _ _ (_ : Unit) => True) (fun _ H => Q H)) := by
  obtain ⟨stop, go⟩ := hJ ρ h H i e r
  rw [compL] at p
  cases en : itNext it i h with
  | none => rw [en] at p; exact p.elim
  | some o =>
    cases o with
    | none => rw [en] at p; exact .inl ⟨stop en, p⟩
    | some vh =>
      obtain ⟨v, h3⟩ := vh
      obtain ⟨g1, g2⟩ := go v h3 en
      rw [en] at p
      refine .inr ⟨g1, fun x H' y => ?_⟩
      obtain ⟨ρ3, e3, r3, v3⟩ := g2 x H' y
      simp only [R.bind_assoc] at p
      exact ⟨ρ3, v, h3, e3, r3, v3, Post0.mono p e3⟩
theorem dcomp_read {own : List Nat} {i e t k cnd : T} (ho : ∀ k ∈ slotsL t, k ∈ own) {σ : St} {H : Hp} {Q : VK} (hw : tE AD G c X (.dcomp k e t i cnd own) σ H Q) : tDc (tI AD G c X i) (tG0 AD G c t) (tT0 AD G c cnd) (tE0 AD G c k) (tE0 AD G c e) own σ H Q := by
  obtain ⟨ρ, sg, h, r, q, p⟩ := hw
  rw [evE] at p
  refine ⟨ρ, sg, h, r, q, Post.step p fun ρ1 h1 it J H1 e1 r1 j1 p1 D hD => ?_⟩
  obtain ⟨u, h6, er, pf⟩ := calm_bind p1
  have hid : (ρ1 ++ [D])[h1.length]? = some D := by rw [← r1.len, List.getElem?_append_right (Nat.le_refl _)]; simp
  have r2 := r1.new (o := .dic []) (ho := .dK []) hD ⟨[], upd_same, .nil⟩
  refine ⟨fun i m H => ∃ ρ h, (ρ1 ++ [D]) <+: ρ ∧ Rep AD ρ h H ∧ SR AD ρ sg σ ∧ Post0 AD ρ (compL it (fun v h2 => (evG G c t v (wipe sg own) h2).bind fun σ2 h3 => (evT G c cnd σ2 h3).bind fun b h4 =>
        if b = true then (evE G c k σ2 h4).bind fun y h5 => (evE G c e σ2 h5).bind fun z h6 => putDic h1.length y z h6 else .ok () h4) m i h) (fun _ _ (_ : Unit) => True) (fun _ H => Q (.ref D) H),
    ⟨bigW, ρ1 ++ [D], h1 ++ [.dic []], List.prefix_refl _, r2, q.mono (e1.trans (List.prefix_append _ _)), by
      rw [er]
      exact fun ρ3 H3 _ e3 r3 _ => pf ρ3 H3 _ ((List.prefix_append _ _).trans e3) r3 (vref (pre_at hid e3))⟩, ?_⟩
  rintro i m H3 ⟨ρ3, h3, e3, r3, q3, p3⟩
  cases m with
  | zero => exact p3.elim
  | succ m =>
    rcases comp_turn (j1.mono (List.prefix_append ρ1 [D])) e3 r3 p3 with st | ⟨go, step⟩
    · exact .inl st
    · refine .inr ⟨go, _, fun H' w => ⟨m, Nat.lt_succ_self m, w⟩, fun x H' y => ?_⟩
      obtain ⟨ρ4, v, h4, e4, r4, v4, p4⟩ := step x H' y
      simp only [R.bind_assoc] at p4
      refine ⟨ρ4, wipe sg own, h4, v, r4, sr_wipe (q3.mono e4) own, v4, Post0.step p4 fun ρ5 h5 sg5 σ5 H5 e5 r5 q5 p5 => ⟨?_, ρ5, sg5, h5, r5, q5.1, Post0.step p5 fun ρ6 h6 b b' H6 e6 r6 eb p6 => ?_⟩⟩
      · rw [wipe_eq (σV0 := L2.wipe σ own) q5.2.1 q5.2.2 ho]
        apply List.ext_getElem?
        intro i
        rw [wipe_get, wipe_get, L2.wipe_length]
        by_cases c : i ∈ own <;> simp [c]
      · subst eb
        have e36 := ((e3.trans e4).trans e5).trans e6
        have q6 := ((q3.mono e4).mono e5).mono e6
        cases b with
        | false => exact iteF ⟨ρ6, h6, e36, r6, q6, p6⟩
        | true =>
          simp only [if_true, R.bind_assoc] at p6
          refine iteT ⟨ρ6, sg5, h6, r6, q5.1.mono e6, Post0.step p6 fun ρ7 h7 y yv H7 e7 r7 y7 p7 => ⟨ρ7, sg5, h7, r7, (q5.1.mono e6).mono e7, Post0.step p7 fun ρ8 h8 z zv H8 e8 r8 z8 p8 => ?_⟩⟩
          unfold putDic at p8
          split at p8
          · rename_i zs kk hn hk
            split at p8
            · rename_i hl
              have hD8 := pre_at hid ((e36.trans e7).trans e8)
              obtain ⟨ad, had, ead, ys, k1, k2⟩ := r8.ref (vref hD8) hn
              cases ead
              exact ⟨ys, kk, key_of (y7.mono e8) hk, k1, by rw [← Paired.length k2]; exact hl, ρ8, h8.set h1.length (.dic (putK zs kk z)), (e36.trans e7).trans e8, r8.set (o := .dic (putK zs kk z)) (ho := .dK (L2.putK ys kk zv)) hD8 ⟨_, upd_same, ksr_put k2 kk z8⟩, (q6.mono e7).mono e8, p8⟩
            · exact p8.elim
          · exact p8.elim
theorem SR.noneL {ρ : List Addr} {σ : ASt} {σV : St} (q : SR AD ρ σ σV) (i : Nat) : SR AD ρ (σ.set i Option.none) σV := by
  refine ⟨by simp [q.1], fun j w e => ?_⟩
  by_cases c : i = j
  · subst c
    by_cases hl : i < σ.length
    · rw [List.getElem?_set_self hl] at e; cases e
    · rw [List.getElem?_eq_none (by simpa using hl)] at e; cases e
  · rw [List.getElem?_set_ne c] at e
    exact q.2 j w e
theorem sr_wipeL {ρ : List Addr} {σ : ASt} {σV : St} (q : SR AD ρ σ σV) : ∀ vs : List Nat, SR AD ρ (wipe σ vs) σV
  | [] => q
  | v :: vs => (sr_wipeL q vs).noneL v
/-- two clauses -/
theorem comp2_read {own own1 : List Nat} {i e t cnd t1 i1 cnd1 : T} (ho : ∀ k ∈ slotsL t, k ∈ own) (ho1 : ∀ k ∈ slotsL t1, k ∈ own1) {σ : St} {H : Hp} {Q : VK} (hw : tE AD G c X (.comp2 e t i cnd t1 i1 cnd1 own own1) σ H Q) :
    tLc2 (tI AD G c X i) (tG0 AD G c t) (tT0 AD G c cnd) (tI0 AD G c i1) (tG0 AD G c t1) (tT0 AD G c cnd1) (tE0 AD G c e) own own1 σ H Q := by
  obtain ⟨ρ, sg, h, r, q, p⟩ := hw
  rw [evE] at p
  refine ⟨ρ, sg, h, r, q, Post.step p fun ρ1 h1 it J H1 e1 r1 j1 p1 D hD => ?_⟩
  obtain ⟨u, h6, er, pf⟩ := calm_bind p1
  have hid : (ρ1 ++ [D])[h1.length]? = some D := by rw [← r1.len, List.getElem?_append_right (Nat.le_refl _)]; simp
  have r2 := r1.new (o := .lst []) (ho := .lst []) hD ⟨[], upd_same, .nil⟩
  refine ⟨fun k m H => ∃ ρ h, (ρ1 ++ [D]) <+: ρ ∧ Rep AD ρ h H ∧ SR AD ρ sg σ ∧ Post0 AD ρ (compL it (fun v h2 => (evG G c t v (wipe sg own) h2).bind fun σ2 h3 => (evT G c cnd σ2 h3).bind fun b h4 =>
        if b = true then (evI G c i1 (wipe σ2 own1) h4).bind fun J1 h5 => compL J1 (fun v1 h6 => (evG G c t1 v1 (wipe σ2 own1) h6).bind fun σ3 h7 => (evT G c cnd1 σ3 h7).bind fun b1 h8 =>
          if b1 = true then (evE G c e σ3 h8).bind fun y h9 => putLst h1.length y h9 else .ok () h8) bigW 0 h5 else .ok () h4) m k h) (fun _ _ (_ : Unit) => True) (fun _ H => Q (.ref D) H),
    ⟨bigW, ρ1 ++ [D], h1 ++ [.lst []], List.prefix_refl _, r2, q.mono (e1.trans (List.prefix_append _ _)), by
      rw [er]
      exact fun ρ3 H3 _ e3 r3 _ => pf ρ3 H3 _ ((List.prefix_append _ _).trans e3) r3 (vref (pre_at hid e3))⟩, ?_⟩
  rintro k m H3 ⟨ρ3, h3, e3, r3, q3, p3⟩
  cases m with
  | zero => exact p3.elim
  | succ m =>
    rcases comp_turn (j1.mono (List.prefix_append ρ1 [D])) e3 r3 p3 with st | ⟨go, step⟩
    · exact .inl st
    · refine .inr ⟨go, _, fun H' w => ⟨m, Nat.lt_succ_self m, w⟩, fun x H' y => ?_⟩
      obtain ⟨ρ4, v, h4, e4, r4, v4, p4⟩ := step x H' y
      simp only [R.bind_assoc] at p4
      refine ⟨ρ4, wipe sg own, h4, v, r4, sr_wipe (q3.mono e4) own, v4, Post0.step p4 fun ρ5 h5 sg5 σ5 H5 e5 r5 q5 p5 => ⟨?_, ρ5, sg5, h5, r5, q5.1, Post0.step p5 fun ρ6 h6 b b' H6 e6 r6 eb p6 => ?_⟩⟩
      · rw [wipe_eq (σV0 := L2.wipe σ own) q5.2.1 q5.2.2 ho]
        apply List.ext_getElem?
        intro i
        rw [wipe_get, wipe_get, L2.wipe_length]
        by_cases c : i ∈ own <;> simp [c]
      · subst eb
        have e36 := ((e3.trans e4).trans e5).trans e6
        have q6 := ((q3.mono e4).mono e5).mono e6
        cases b with
        | false => exact iteF ⟨ρ6, h6, e36, r6, q6, p6⟩
        | true =>
          simp only [if_true, R.bind_assoc] at p6
          refine iteT ⟨ρ6, wipe sg5 own1, h6, r6, sr_wipeL (q5.1.mono e6) own1, Post0.step p6 fun ρ7 h7 it1 J1 H7 e7 r7 j7 p7 => ?_⟩
          refine ⟨fun j k H => ∃ ρ h, ρ7 <+: ρ ∧ Rep AD ρ h H ∧ Post0 AD ρ ((compL it1 (fun v1 h6 => (evG G c t1 v1 (wipe sg5 own1) h6).bind fun σ3 h7 => (evT G c cnd1 σ3 h7).bind fun b1 h8 =>
              if b1 = true then (evE G c e σ3 h8).bind fun y h9 => putLst h1.length y h9 else .ok () h8) k j h).bind fun _ h2 => compL it (fun v h2 => (evG G c t v (wipe sg own) h2).bind fun σ2 h3 => (evT G c cnd σ2 h3).bind fun b h4 =>
        if b = true then (evI G c i1 (wipe σ2 own1) h4).bind fun J1 h5 => compL J1 (fun v1 h6 => (evG G c t1 v1 (wipe σ2 own1) h6).bind fun σ3 h7 => (evT G c cnd1 σ3 h7).bind fun b1 h8 =>
          if b1 = true then (evE G c e σ3 h8).bind fun y h9 => putLst h1.length y h9 else .ok () h8) bigW 0 h5 else .ok () h4) m _ h2) (fun _ _ (_ : Unit) => True) (fun _ H => Q (.ref D) H),
            ⟨bigW, ρ7, h7, List.prefix_refl _, r7, p7⟩, ?_⟩
          rintro j k2 H8 ⟨ρ8, h8, e8, r8, p8⟩
          cases k2 with
          | zero => exact p8.elim
          | succ k2 =>
            have e38 := (e36.trans e7).trans e8
            have q8 := (q6.mono e7).mono e8
            rcases comp_turnK j7 e8 r8 p8 with ⟨st, ps⟩ | ⟨go1, step1⟩
            · exact .inl ⟨st, ρ8, h8, e38, r8, q8, ps⟩
            · refine .inr ⟨go1, _, fun H' w => ⟨k2, Nat.lt_succ_self k2, w⟩, fun x H' y => ?_⟩
              obtain ⟨ρ9, v9, h9, e9, r9, v9r, p9⟩ := step1 x H' y
              simp only [R.bind_assoc] at p9
              have q79 := ((q5.1.mono e6).mono e7).mono (e8.trans e9)
              refine ⟨ρ9, wipe sg5 own1, h9, v9, r9, sr_wipe q79 own1, v9r, Post0.step p9 fun ρA hA sgA σA HA eA rA qA pA => ⟨?_, ρA, sgA, hA, rA, qA.1, Post0.step pA fun ρB hB b b' HB eB rB ebb pB => ?_⟩⟩
              · rw [wipe_eq (σV0 := L2.wipe σ5 own1) qA.2.1 qA.2.2 ho1]
                apply List.ext_getElem?
                intro i
                rw [wipe_get, wipe_get, L2.wipe_length]
                by_cases c : i ∈ own1 <;> simp [c]
              · subst ebb
                have e7B := ((e8.trans e9).trans eA).trans eB
                cases b with
                | false => exact iteF ⟨ρB, hB, e7B, rB, pB⟩
                | true =>
                  simp only [if_true, R.bind_assoc] at pB
                  refine iteT ⟨ρB, sgA, hB, rB, qA.1.mono eB, Post0.step pB fun ρC hC y yv HC eC rC yC pC => ?_⟩
                  unfold putLst at pC
                  split at pC
                  · rename_i zs hn
                    split at pC
                    · rename_i hl
                      have hDC := pre_at hid (((e36.trans e7).trans e7B).trans eC)
                      obtain ⟨ad, had, ead, ys, k1, k2'⟩ := rC.ref (vref hDC) hn
                      cases ead
                      exact ⟨ys, k1, by rw [← Paired.length k2']; exact hl, ρC, hC.set h1.length (.lst (zs ++ [y])), e7B.trans eC, rC.set (o := .lst (zs ++ [y])) (ho := .lst (ys ++ [yv])) hDC ⟨_, upd_same, vsr_append k2' (.cons yC .nil)⟩, pC⟩
                    · exact pC.elim
                  · exact pC.elim
/-! ### the same of the text -/
theorem s_comp {tg iter : Expr} {ifs : List Expr} {scope : Scope} {own : List (Str × Nat)} {t i cnd : T} (hc : X.calm = true) (hN : X.N.Nodup) (ok : BlkOk X.N X.env.scope scope own) (ho : ∀ k ∈ slotsL t, k ∈ own.map (·.2)) (hi : PI X tg iter (tI AD G c X i)) (hs : ∀ env x, foldedSetIterable iter env x = pure x)
    (hg : ∀ (s : Shared) (H : Hp) (C : Addr) (cl : List (Str × Addr)) (fp : List Addr), PG (X.blk s H scope (compEnvC scope cl C X.env) fp) tg (tG0 AD G c t))
    (ht : ∀ (s : Shared) (H : Hp) (C : Addr) (cl : List (Str × Addr)) (fp : List Addr), PTs (X.blk s H scope (compEnvC scope cl C X.env) fp) ifs (tT0 AD G c cnd))
    (he : ∀ (s : Shared) (H : Hp) (C : Addr) (cl : List (Str × Addr)) (fp : List Addr), PE (X.blk s H scope (compEnvC scope cl C X.env) fp) ea (tE0 AD G c a)) :
    PE X (.ListComp ea [⟨tg, iter, ifs, 0⟩] scope pos) (tE AD G c X (.comp a t i cnd (own.map (·.2)))) :=
  PE.weak (pe_lc hc hN hi ok hg ht he fun x => hs _ x) fun σ H Q q => comp_read ho q
theorem s_dcomp {tg iter ek : Expr} {ifs : List Expr} {scope : Scope} {own : List (Str × Nat)} {t i cnd k : T} (hc : X.calm = true) (hN : X.N.Nodup) (ok : BlkOk X.N X.env.scope scope own) (ho : ∀ k ∈ slotsL t, k ∈ own.map (·.2)) (hi : PI X tg iter (tI AD G c X i)) (hs : ∀ env x, foldedSetIterable iter env x = pure x)
    (hg : ∀ (s : Shared) (H : Hp) (C : Addr) (cl : List (Str × Addr)) (fp : List Addr), PG (X.blk s H scope (compEnvC scope cl C X.env) fp) tg (tG0 AD G c t))
    (ht : ∀ (s : Shared) (H : Hp) (C : Addr) (cl : List (Str × Addr)) (fp : List Addr), PTs (X.blk s H scope (compEnvC scope cl C X.env) fp) ifs (tT0 AD G c cnd))
    (hk : ∀ (s : Shared) (H : Hp) (C : Addr) (cl : List (Str × Addr)) (fp : List Addr), PE (X.blk s H scope (compEnvC scope cl C X.env) fp) ek (tE0 AD G c k))
    (he : ∀ (s : Shared) (H : Hp) (C : Addr) (cl : List (Str × Addr)) (fp : List Addr), PE (X.blk s H scope (compEnvC scope cl C X.env) fp) ea (tE0 AD G c a)) :
    PE X (.DictComp ek ea [⟨tg, iter, ifs, 0⟩] scope pos) (tE AD G c X (.dcomp k a t i cnd (own.map (·.2)))) :=
  PE.weak (pe_dc hc hN hi ok hg ht hk he fun x => hs _ x) fun σ H Q q => dcomp_read ho q
theorem s_comp2 {tg iter tg1 iter1 : Expr} {ifs ifs1 : List Expr} {scope : Scope} {own : List (Str × Nat)} {t i cnd t1 i1 cnd1 : T} (hc : X.calm = true) (hN : X.N.Nodup) (ok : BlkOk X.N X.env.scope scope own) (ho : ∀ k ∈ slotsL t, k ∈ own.map (·.2)) (ho1 : ∀ k ∈ slotsL t1, k ∈ own.map (·.2)) (hi : PI X tg iter (tI AD G c X i)) (hs : ∀ env x, foldedSetIterable iter env x = pure x) (hs1 : ∀ env x, foldedSetIterable iter1 env x = pure x)
    (hg : ∀ (s : Shared) (H : Hp) (C : Addr) (cl : List (Str × Addr)) (fp : List Addr), PG (X.blk s H scope (compEnvC scope cl C X.env) fp) tg (tG0 AD G c t))
    (ht : ∀ (s : Shared) (H : Hp) (C : Addr) (cl : List (Str × Addr)) (fp : List Addr), PTs (X.blk s H scope (compEnvC scope cl C X.env) fp) ifs (tT0 AD G c cnd))
    (hi1 : ∀ (s : Shared) (H : Hp) (C : Addr) (cl : List (Str × Addr)) (fp : List Addr), PI (X.blk s H scope (compEnvC scope cl C X.env) fp) tg1 iter1 (tI0 AD G c i1))
    (hg1 : ∀ (s : Shared) (H : Hp) (C : Addr) (cl : List (Str × Addr)) (fp : List Addr), PG (X.blk s H scope (compEnvC scope cl C X.env) fp) tg1 (tG0 AD G c t1))
    (ht1 : ∀ (s : Shared) (H : Hp) (C : Addr) (cl : List (Str × Addr)) (fp : List Addr), PTs (X.blk s H scope (compEnvC scope cl C X.env) fp) ifs1 (tT0 AD G c cnd1))
    (he : ∀ (s : Shared) (H : Hp) (C : Addr) (cl : List (Str × Addr)) (fp : List Addr), PE (X.blk s H scope (compEnvC scope cl C X.env) fp) ea (tE0 AD G c a)) :
    PE X (.ListComp ea [⟨tg, iter, ifs, 0⟩, ⟨tg1, iter1, ifs1, 0⟩] scope pos) (tE AD G c X (.comp2 a t i cnd t1 i1 cnd1 (own.map (·.2)) (slotsL t1))) :=
  PE.weak (pe_lc2 hc hN hi ok ho1 hg ht hi1 hg1 ht1 he (fun x => hs _ x) hs1) fun σ H Q q => comp2_read ho (fun _ h => h) q
/-- name = e, by what e does -/
theorem asg_te {i : Nat} {D : Ends} {te : TE} {σV : St} {H : Hp} (w : ∀ σ H Q, tE AD G c X a σ H Q → te σ H Q) (h : tS AD G c X (.asg (.tName i) a) D σV H) : tAsg te (gName i) D σV H := by
  obtain ⟨ρ, sg, h, r, q, p⟩ := h
  rw [evS] at p
  refine w _ _ _ ⟨ρ, sg, h, r, q, PostF.part q p fun ρ1 h1 v x H1 e r1 v1 q1 p1 => ?_⟩
  rw [evG] at p1
  exact p1 ρ1 H1 _ (List.prefix_refl _) r1 (q1.set i v1)
theorem ss_setc {j : Nat} {y : Str} {py spos : Pos} {tg iter : Expr} {ifs : List Expr} {scope : Scope} {own : List (Str × Nat)} {t i cnd : T} (hc : X.calm = true) (hN : X.N.Nodup) (hy : X.N[j]? = some y) (hyl : X.env.scope.names.lookup y = some .local) (hsw : swapsWith (.ListComp ea [⟨tg, iter, ifs, 0⟩] scope pos) (some (.Name y py)) spos.line X.env = pure true)
    (ok : BlkOk X.N X.env.scope scope own) (ho : ∀ k ∈ slotsL t, k ∈ own.map (·.2)) (hi : PI X tg iter (tI AD G c X i)) (hs : ∀ env x, foldedSetIterable iter env x = pure x)
    (hg : ∀ (s : Shared) (H : Hp) (C : Addr) (cl : List (Str × Addr)) (fp : List Addr), PG (X.blk s H scope (compEnvC scope cl C X.env) fp) tg (tG0 AD G c t))
    (ht : ∀ (s : Shared) (H : Hp) (C : Addr) (cl : List (Str × Addr)) (fp : List Addr), PTs (X.blk s H scope (compEnvC scope cl C X.env) fp) ifs (tT0 AD G c cnd))
    (he : ∀ (s : Shared) (H : Hp) (C : Addr) (cl : List (Str × Addr)) (fp : List Addr), PE (X.blk s H scope (compEnvC scope cl C X.env) fp) ea (tE0 AD G c a)) :
    PS X (.Assign [.Name y py] (.ListComp ea [⟨tg, iter, ifs, 0⟩] scope pos) spos) (tS AD G c X (.asg (.tName j) (.comp a t i cnd (own.map (·.2))))) :=
  PS.weak (ps_setLc hc hN hy hyl hsw hi ok hg ht he fun x => hs _ x) fun D σ H q => asg_te (fun σ H Q q => comp_read ho q) q
theorem ss_setc2 {j : Nat} {y : Str} {py spos : Pos} {tg iter tg1 iter1 : Expr} {ifs ifs1 : List Expr} {scope : Scope} {own : List (Str × Nat)} {t i cnd t1 i1 cnd1 : T} (hc : X.calm = true) (hN : X.N.Nodup) (hy : X.N[j]? = some y) (hyl : X.env.scope.names.lookup y = some .local) (hsw : swapsWith (.ListComp ea [⟨tg, iter, ifs, 0⟩, ⟨tg1, iter1, ifs1, 0⟩] scope pos) (some (.Name y py)) spos.line X.env = pure true)
    (ok : BlkOk X.N X.env.scope scope own) (ho : ∀ k ∈ slotsL t, k ∈ own.map (·.2)) (ho1 : ∀ k ∈ slotsL t1, k ∈ own.map (·.2)) (hi : PI X tg iter (tI AD G c X i)) (hs : ∀ env x, foldedSetIterable iter env x = pure x) (hs1 : ∀ env x, foldedSetIterable iter1 env x = pure x)
    (hg : ∀ (s : Shared) (H : Hp) (C : Addr) (cl : List (Str × Addr)) (fp : List Addr), PG (X.blk s H scope (compEnvC scope cl C X.env) fp) tg (tG0 AD G c t))
    (ht : ∀ (s : Shared) (H : Hp) (C : Addr) (cl : List (Str × Addr)) (fp : List Addr), PTs (X.blk s H scope (compEnvC scope cl C X.env) fp) ifs (tT0 AD G c cnd))
    (hi1 : ∀ (s : Shared) (H : Hp) (C : Addr) (cl : List (Str × Addr)) (fp : List Addr), PI (X.blk s H scope (compEnvC scope cl C X.env) fp) tg1 iter1 (tI0 AD G c i1))
    (hg1 : ∀ (s : Shared) (H : Hp) (C : Addr) (cl : List (Str × Addr)) (fp : List Addr), PG (X.blk s H scope (compEnvC scope cl C X.env) fp) tg1 (tG0 AD G c t1))
    (ht1 : ∀ (s : Shared) (H : Hp) (C : Addr) (cl : List (Str × Addr)) (fp : List Addr), PTs (X.blk s H scope (compEnvC scope cl C X.env) fp) ifs1 (tT0 AD G c cnd1))
    (he : ∀ (s : Shared) (H : Hp) (C : Addr) (cl : List (Str × Addr)) (fp : List Addr), PE (X.blk s H scope (compEnvC scope cl C X.env) fp) ea (tE0 AD G c a)) :
    PS X (.Assign [.Name y py] (.ListComp ea [⟨tg, iter, ifs, 0⟩, ⟨tg1, iter1, ifs1, 0⟩] scope pos) spos) (tS AD G c X (.asg (.tName j) (.comp2 a t i cnd t1 i1 cnd1 (own.map (·.2)) (slotsL t1)))) :=
  PS.weak (ps_setLc2 hc hN hy hyl hsw hi ok ho1 hg ht hi1 hg1 ht1 he (fun x => hs _ x) hs1) fun D σ H q => asg_te (fun σ H Q q => comp2_read ho (fun _ h => h) q) q
/-- name = {..} on one line -/
theorem ps_setDc {i : Nat} {y : Str} {py : Pos} {kx vx tg iter : Expr} {ifs : List Expr} {scope : Scope} {own : List (Str × Nat)} {pos spos : Pos} {wi : TI} {g : TG} {tt : TT} {tk tv : TE} (hc : X.calm = true) (hN : X.N.Nodup) (hy : X.N[i]? = some y) (hyl : X.env.scope.names.lookup y = some .local)
    (hsw : swapsWith (.DictComp kx vx [⟨tg, iter, ifs, 0⟩] scope pos) (some (.Name y py)) spos.line X.env = pure true) (hi : PI X tg iter wi) (ok : BlkOk X.N X.env.scope scope own)
    (hg : ∀ (s : Shared) (H : Hp) (C : Addr) (cl : List (Str × Addr)) (fp : List Addr), PG (X.blk s H scope (compEnvC scope cl C X.env) fp) tg g) (ht : ∀ (s : Shared) (H : Hp) (C : Addr) (cl : List (Str × Addr)) (fp : List Addr), PTs (X.blk s H scope (compEnvC scope cl C X.env) fp) ifs tt)
    (hk : ∀ (s : Shared) (H : Hp) (C : Addr) (cl : List (Str × Addr)) (fp : List Addr), PE (X.blk s H scope (compEnvC scope cl C X.env) fp) kx tk)
    (he : ∀ (s : Shared) (H : Hp) (C : Addr) (cl : List (Str × Addr)) (fp : List Addr), PE (X.blk s H scope (compEnvC scope cl C X.env) fp) vx tv) (hs : ∀ x, foldedSetIterable iter X.env x = pure x) :
    PS X (.Assign [.Name y py] (.DictComp kx vx [⟨tg, iter, ifs, 0⟩] scope pos) spos) (tAsg (tDc wi g tt tk tv (own.map (·.2))) (gName i)) := by
  refine ⟨fun pins s σ H D I h => ?_⟩
  rw [exec_Assign_Name_used _ _ _ _ hsw]
  refine wpAny_bind (wpAny_standAt (wpAny_bind ?_))
  show wpAny _ X.A (do let _ ← comprehension (.DictComp kx vx [⟨tg, iter, ifs, 0⟩] scope pos) scope X.env (firstIterPos [⟨tg, iter, ifs, 0⟩] pos) newDict false (eval iter X.env) (some (assign (.Name y py) X.env))) _ _ s
  have h : tDc wi g tt tk tv (own.map (·.2)) σ H (fun x H1 => gName i x σ H1 D.nx) := h
  refine wpAny_bind (thn (dc_core (Qf := fun _ s' => SP X pins D .next s') hc hN I hi ok hg ht hk he hs h fun L C s' m H' I' q hn f => ?_) fun _ s' hq => wpAny_pure (wpAny_pure hq))
  show wpAny _ _ (assign (.Name y py) X.env (.ref L)) _ _ _
  refine wpAny_assign_Name (store_ok2 (v := V.ref L) I' hN hy (.inl hyl) rfl (fun s2 I2 ⟨a, sb, ha⟩ => ?_) (.inr hyl))
  obtain ⟨f0, f1, f2, f3, f4, f5⟩ := f
  have haC : C ≠ a := by
    rcases ha with z | z
    · rw [z]; exact f1
    · exact fun e => f4 y a z e.symm
  refine ⟨m, hn.sameBut sb haC, fun h3 sb3 => ?_⟩
  exact ⟨_, H', I2.turned (t' := s2.toks) (fun b o hb e => (sb3.2 b hb).trans e) f0 f1 f3 f4 f5, q⟩
theorem ss_setd {j : Nat} {y : Str} {py spos : Pos} {tg iter ek : Expr} {ifs : List Expr} {scope : Scope} {own : List (Str × Nat)} {t i cnd k : T} (hc : X.calm = true) (hN : X.N.Nodup) (hy : X.N[j]? = some y) (hyl : X.env.scope.names.lookup y = some .local) (hsw : swapsWith (.DictComp ek ea [⟨tg, iter, ifs, 0⟩] scope pos) (some (.Name y py)) spos.line X.env = pure true)
    (ok : BlkOk X.N X.env.scope scope own) (ho : ∀ k ∈ slotsL t, k ∈ own.map (·.2)) (hi : PI X tg iter (tI AD G c X i)) (hs : ∀ env x, foldedSetIterable iter env x = pure x)
    (hg : ∀ (s : Shared) (H : Hp) (C : Addr) (cl : List (Str × Addr)) (fp : List Addr), PG (X.blk s H scope (compEnvC scope cl C X.env) fp) tg (tG0 AD G c t))
    (ht : ∀ (s : Shared) (H : Hp) (C : Addr) (cl : List (Str × Addr)) (fp : List Addr), PTs (X.blk s H scope (compEnvC scope cl C X.env) fp) ifs (tT0 AD G c cnd))
    (hk : ∀ (s : Shared) (H : Hp) (C : Addr) (cl : List (Str × Addr)) (fp : List Addr), PE (X.blk s H scope (compEnvC scope cl C X.env) fp) ek (tE0 AD G c k))
    (he : ∀ (s : Shared) (H : Hp) (C : Addr) (cl : List (Str × Addr)) (fp : List Addr), PE (X.blk s H scope (compEnvC scope cl C X.env) fp) ea (tE0 AD G c a)) :
    PS X (.Assign [.Name y py] (.DictComp ek ea [⟨tg, iter, ifs, 0⟩] scope pos) spos) (tS AD G c X (.asg (.tName j) (.dcomp k a t i cnd (own.map (·.2))))) :=
  PS.weak (ps_setDc hc hN hy hyl hsw hi ok hg ht hk he fun x => hs _ x) fun D σ H q => asg_te (fun σ H Q q => dcomp_read ho q) q
/-! ### list(range(..)) -/
theorem rgV_rel {AD : Str → Option Addr} {ρ : List Addr} (i j : Int) : VsR AD ρ ((List.range (j - i).toNat).map fun (k : Nat) => .int (i + (k : Int))) (rgV i j) := by
  unfold rgV
  generalize (List.range (j - i).toNat) = l
  induction l with
  | nil => exact .nil
  | cons x l ih => exact .cons rfl ih
theorem s_lrange1 {p p2 pos2 : Pos} (hc : X.calm = true) (hg : Gl X "list") (hm : X.mg "list" = none) (hg2 : Gl X "range") (hm2 : X.mg "range" = none) (hs : notStar ea = true) (ha : PE X ea (tE AD G c X a)) : PE X (.Call (.Name "list" p) [.Call (.Name "range" p2) [ea] [] pos2] [] pos) (tE AD G c X (.lrange (.cons a .nil))) :=
  PE.weak (pe_listRg hc hg hm (prg_1 hg2 hm2 ha (star_cons hs [] _)) rfl) fun σ H Q ⟨ρ, sg, h, r, q, p⟩ => by
    rw [evE] at p
    simp only [evA, SL.R.bind_assoc] at p
    refine tE.step r q p fun ρ1 h1 v x H1 e1 r1 q1 v1 p1 => ?_
    simp only [SL.R.bind] at p1
    cases v with
    | int j =>
      obtain rfl := vr_int v1
      simp only at p1
      split at p1
      · rename_i hj
        refine ⟨j, rfl, ⟨by omega, by omega, by omega, by omega, by omega⟩, fun b hb => ?_⟩
        refine (post_lst r1 (ys := rgV 0 j) ?_ p1).2 b hb
        have := rgV_rel (AD := AD) (ρ := ρ1) 0 j
        simpa using this
      · exact p1.elim
    | _ => exact p1.elim
theorem s_lrange2 {p p2 pos2 : Pos} (hc : X.calm = true) (hg : Gl X "list") (hm : X.mg "list" = none) (hg2 : Gl X "range") (hm2 : X.mg "range" = none) (hs : notStar ea = true) (hs2 : notStar eb = true) (ha : PE X ea (tE AD G c X a)) (hb : PE X eb (tE AD G c X b)) : PE X (.Call (.Name "list" p) [.Call (.Name "range" p2) [ea, eb] [] pos2] [] pos) (tE AD G c X (.lrange (.cons a (.cons b .nil)))) :=
  PE.weak (pe_listRg hc hg hm (prg_2 hg2 hm2 ha hb (star_cons hs [eb] _) (star_cons hs2 [] _) (by rw [star_cons hs2]; rfl)) rfl) fun σ H Q ⟨ρ, sg, h, r, q, p⟩ => by
    rw [evE] at p
    simp only [evA, SL.R.bind_assoc] at p
    refine tE.step r q p fun ρ1 h1 v x H1 e1 r1 q1 v1 p1 => tE.step r1 q1 p1 fun ρ2 h2 w y H2 e2 r2 q2 w2 p2 => ?_
    simp only [SL.R.bind] at p2
    cases v with
    | int i =>
      obtain rfl := vr_int v1
      cases w with
      | int j =>
        obtain rfl := vr_int w2
        simp only at p2
        split at p2
        · rename_i hj
          refine ⟨i, j, rfl, rfl, ⟨by omega, by omega, by omega, by omega, by omega⟩, fun b hb => ?_⟩
          exact (post_lst r2 (ys := rgV i j) (rgV_rel i j) p2).2 b hb
        · exact p2.elim
      | _ => exact p2.elim
    | _ => exact p2.elim
end
end SL

set_option Elab.async false
set_option linter.all false
set_option maxRecDepth 100000
set_option maxHeartbeats 4000000
/-! The evaluator over the hand layer: == and != of instances with an own ==. -/
namespace SL
open PySem PySem.Spec L2
open PyProof.Rows hiding St
open PySem.W (Frag)
section
variable {AD : Str → Option Addr} {X : Cx} {G : Env} {Γ : CE} {κ : Ctx} {n : Nat}
theorem ty_get {M : Model} {h : Heap} {x : Addr} {o : Obj} {t : Value} (e : h.get? x = some o) (c : o.cls = t) : PySem.W.Looks M h (typeOf (.ref x)) t := fun A Q E s k q => wpAny_typeOf_ref (k _ _ e) (by rw [c]; exact q)
theorem sub_bt {K : Frag} {C : Addr} {T : String} (h : (fastBuiltinMro T).map (fun l => l.all fun v => match v with | .type _ => true | _ => false) = some true) : PySem.W.subIn K (.type T) (.ref C) = some false := by
  show (fastBuiltinMro T).map (·.contains (.ref C)) = some false
  cases e : fastBuiltinMro T with
  | none => rw [e] at h; cases h
  | some l =>
    rw [e] at h
    simp only [Option.map_some, Option.some.injEq] at h ⊢
    rw [← Bool.not_eq_true, List.contains_iff_mem]
    intro hm
    have := List.all_eq_true.mp h _ hm
    cases this
theorem nf_bt {K : Frag} {C : Addr} {T : String} (h : (fastBuiltinMro T).map (fun l => l.all fun v => match v with | .type _ => true | _ => false) = some true) : PySem.W.notFirst K C (.type T) = true := by
  unfold PySem.W.notFirst
  rw [sub_bt h]; simp
/-- what the other one's class is -/
theorem mate_ty {M : Model} {pins : List (Addr × Obj)} {σ : St} {s : Shared} {ρ : List Addr} {h : AH} {H : Hp} (I : Inv X pins σ H s) (r : Rep AD ρ h H) {i : Nat} {y : AV} {yv : V} {u : Value} {C : Str} {fs : List (Str × AV)} {Ca : Addr} (hn : h[i]? = some (.ins C fs)) (hC : AD C = some Ca) (vy : VR AD ρ y yv) (ru : RelV yv u) (hm : eqMate h (.ref i) y = true) :
    ∃ tb, PySem.W.Looks M s.heap (typeOf u) tb ∧ PySem.W.notFirst X.K Ca tb = true := by
  cases y with
  | non => obtain rfl := vr_non vy; cases ru; exact ⟨.type "NoneType", PySem.W.Looks.of_pure rfl, nf_bt (by decide +kernel)⟩
  | bl k => obtain rfl := vr_bl vy; cases ru; exact ⟨.type "bool", PySem.W.Looks.of_pure rfl, nf_bt (by decide +kernel)⟩
  | int k => obtain rfl := vr_int vy; obtain ⟨t, rfl⟩ := ru; exact ⟨.type "int", PySem.W.Looks.of_pure rfl, nf_bt (by decide +kernel)⟩
  | str k => obtain rfl := vr_str vy; obtain ⟨t, rfl⟩ := ru; exact ⟨.type "str", PySem.W.Looks.of_pure rfl, nf_bt (by decide +kernel)⟩
  | ref m =>
    unfold eqMate at hm
    simp only at hm
    cases e : h[m]? with
    | none => rw [e] at hm; cases hm
    | some o =>
      rw [e] at hm
      obtain ⟨ad, had, rfl, ob⟩ := r.ref vy e
      obtain rfl : u = .ref ad := ru
      cases o with
      | lst xs =>
        obtain ⟨ys, k1, k2⟩ := ob
        obtain ⟨_, its, nn, _, g⟩ := (show ObjOk X.prog X.w H s.heap ad (.lst ys) from I.hok ad _ k1)
        exact ⟨.type "list", ty_get g rfl, nf_bt (by decide +kernel)⟩
      | fro xs =>
        obtain ⟨ob, ys, k1, k2⟩ := ob
        obtain ⟨_, _, its, nn, _, g⟩ := (show ObjOk X.prog X.w H s.heap ad (.frz ob (.lst ys)) from I.hok ad _ k1)
        exact ⟨.type "list", ty_get g rfl, nf_bt (by decide +kernel)⟩
      | tup xs =>
        obtain ⟨ys, k1, k2⟩ := ob
        obtain ⟨_, its, _, o, g, gc, _⟩ := (show ObjOk X.prog X.w H s.heap ad (.tup ys) from I.hok ad _ k1)
        exact ⟨.type "tuple", ty_get g gc, nf_bt (by decide +kernel)⟩
      | dic xs =>
        obtain ⟨ys, k1, k2⟩ := ob
        obtain ⟨_, _, vs, _, o, es, ep, g, gc, _⟩ := (show ObjOk X.prog X.w H s.heap ad (.dK ys) from I.hok ad _ k1)
        exact ⟨.type "dict", ty_get g gc.1, nf_bt (by decide +kernel)⟩
      | ins D gs =>
        rw [hn] at hm
        simp only [decide_eq_true_eq] at hm
        subst hm
        obtain ⟨Da, dx, gs', h0, k1, k2⟩ := ob
        rw [hC] at h0; cases h0
        obtain ⟨mA, O, _⟩ := ins_get I.hok k1
        obtain ⟨od, J, _⟩ := O.look
        exact ⟨.ref Ca, J.type, by simp [PySem.W.notFirst]⟩
      | exc D gs => exact ob.elim
      | memo ms gs => cases hm
  | _ => cases hm
/-- the own ==, called -/
theorem run_eq (g : Gd AD G Γ X κ n) {k : Nat} (hk : k ≤ n) {A : Around} (sb : Sub X k A) {f : Str} {avs : List AV} {vs : List V} {us : List Value} {ρ : List Addr} {h : AH} {H : Hp} {σ : St} {Q : VK} {pins : List (Addr × Obj)} {s : Shared} {fa : Addr} (ha : AD f = some fa)
    (I : Inv X pins σ H s) (rv : Vals vs us) (r : Rep AD ρ h H) (q : VsR AD ρ avs vs) (p : Post AD X ρ σ (callD G k f avs h) (VR AD) Q) : wpAny (model X.prog X.w) A (call (.ref fa) us) (EP X pins σ Q) X.xe s := by
  cases e : G.fns f with
  | none =>
    cases k with
    | zero => rw [callD_zero] at p; exact p.elim
    | succ k => rw [callD_succ] at p; simp only [callS, e] at p; exact p.elim
  | some fd =>
    obtain ⟨a, data, ps, h1, h2, h3, F⟩ := g.fns k hk f fd e
    rw [ha] at h1; cases h1
    obtain ⟨W, tk, p'⟩ := postC_of p
    have hsp : spD AD G k fd.ps f vs H Q (WE W σ) := ⟨by
      cases k with
      | zero => rw [callD_zero] at p; exact p.elim
      | succ k =>
        rw [callD_succ] at p; simp only [callS, e] at p
        split at p
        · rename_i hl; rw [← Paired.length q]; exact hl
        · exact p.elim, ρ, h, avs, r, q, p'⟩
    have e0 : Env0 X.prog X.w X.K X.mg X.base A X.stack s H := by
      have e := I.env0
      exact ⟨by rw [sb.fr]; exact e.frames, e.mod, e.bs, e.bsz, e.funs, e.frf, e.hok, e.bare⟩
    have hl : us.length = ps.length := by rw [← rv.length]; exact F.len _ _ _ _ hsp
    have b := h2 s us I.kIn (by rw [List.append_nil]; exact hl)
    rw [List.append_nil] at b
    refine wpAny_call (codeAny_mono (F.run A X.stack s H ⟨us, []⟩ us vs Q (WE W σ) sb.room e0 b rv hsp) fun r s' hq => ?_)
    cases r with
    | error e => exact passAt tk σ pins _ _ e s' I hq
    | ok fl =>
      cases fl with
      | ret u => exact I.after hq
      | next => exact False.elim hq
      | brk => exact False.elim hq
      | cont => exact False.elim hq
theorem eqOwn_at {h : AH} {x : AV} {gq : Str} (e : eqOwn G h x = some gq) : ∃ i C fs cd, x = .ref i ∧ h[i]? = some (.ins C fs) ∧ G.cls C = some cd ∧ cd.meth.lookup ("__eq__" : Str) = some gq ∧ (G.fns gq).isSome = true := by
  unfold eqOwn at e
  split at e
  · rename_i i
    split at e
    · rename_i C fs hn
      obtain ⟨cd, hc, e⟩ := Option.bind_eq_some_iff.mp e
      obtain ⟨e1, e2⟩ := Option.filter_eq_some_iff.mp e
      exact ⟨i, C, fs, cd, rfl, hn, hc, e1, e2⟩
    · cases e
  · cases e
/-- != by an own == and the ground's != -/
theorem ne_K {prog : Program} {w : World} {A : Around} {E : Value → Shared → Prop} {s : Shared} {K : Frag} {x C f : Addr} {ox : Obj} {od : Option Obj} {b tb : Value} {Q : Value → Shared → Prop} (hu : A.units + 1 < cLine) (X : K.In s.heap) (I : PySem.W.InstAt s.heap x ox C od)
    (hb : PySem.W.Looks (model prog w) s.heap (typeOf b) tb) (hn : PySem.W.notFirst K C tb = true) (hm : PySem.W.mroIn K C (.type "object") = some true)
    (hs : PySem.W.findIn K (.ref C) "__eq__" = some (some (.ref f))) (hf : PySem.W.isFn K (.ref f) = true) (hne : PySem.W.findIn K (.ref C) "__ne__" = some (some (.builtin "object.__ne__")))
    (h : wpAny (model prog w) A.in1 (call (.ref f) [.ref x, b]) (fun v s' => ∃ k, v = .bool k ∧ Q (.bool (!k)) s') E s) : wpAny (model prog w) A (richCompare .NotEq (.ref x) b) Q E s := by
  have ent : wpAny (model prog w) A.in1 (Builtin.«object.__ne__» ⟨[.ref x, b], []⟩) (fun fin s' => ∃ v, fin = .done (.ret v) ∧ (∃ k, v = .bool k) ∧ Q v s') E s := by
    unfold Builtin.«object.__ne__»
    show wpAny _ _ (slotArgs "__ne__" 1 ⟨[.ref x, b], []⟩ >>= _) _ _ _
    refine wpAny_bind (wpAny_of_eq (rfl : slotArgs "__ne__" 1 ⟨[.ref x, b], []⟩ = pure (.ref x, [b])) ?_)
    dsimp only
    refine wpAny_bind (wpAny_cRoomFor (by exact hu) ?_)
    refine wpAny_bind (m := callSpecialIfBound? (.ref x) (Str.ofString "__eq__") [b]) (PySem.W.ifBound_K X I hs hf (wpAny_mono h (fun v s' hv => ?_) fun _ _ e => e))
    obtain ⟨k, rfl, q⟩ := hv
    exact wpAny_bind (wpAny_truthy_bool (wpAny_pure ⟨_, rfl, ⟨_, rfl⟩, q⟩))
  have cal : wpAny (model prog w) A (call (.builtin "object.__ne__") [.ref x, b]) (fun v s' => (∃ k, v = .bool k) ∧ Q v s') E s :=
    wpAny_call (codeAny_call_builtin F.cmp_object.ne.plain F.cmpEntry_ne (PySem.W.check_slot F.cmpKind_ne F.cmpSplit_ne (I.type.andThen (PySem.W.looks_mroIn X hm)) (F.cmpArgs_ne _ _) (wpAny_mono ent (fun fin s' hv => by
      obtain ⟨v, rfl, hk, q⟩ := hv
      exact ⟨hk, q⟩) fun _ _ e => e)))
  have spec : wpAny (model prog w) A (callSpecialIfBound? (.ref x) "__ne__" [b]) (fun r s' => ∃ v, r = some v ∧ (∃ k, v = .bool k) ∧ Q v s') E s := by
    simp only [callSpecialIfBound?, bindSpecialIfBound?]
    refine wpAny_holding (wpAny_bind (wpAny_bind (wpAny_bind (I.type.here ((PySem.W.looks_findIn X hne).here ?_)))))
    refine wpAny_bind (wpAny_askSetting (wpAny_ite ?_))
    have fin : wpAny (model prog w) A (call (.builtin "object.__ne__") ([.ref x] ++ [b]) >>= fun v => pure (some v)) (fun r s' => ∃ v, r = some v ∧ (∃ k, v = .bool k) ∧ Q v s') E s := wpAny_bind (wpAny_mono cal (fun v s' h' => wpAny_pure ⟨v, rfl, h'⟩) fun _ _ h' => h')
    split
    · exact wpAny_bind (wpAny_of_eq (F.cmp_object.ne.bind _) (wpAny_pure (by exact fin)))
    · exact wpAny_tryCatch (wpAny_bind (wpAny_of_eq (F.cmp_object.ne.bind _) (wpAny_pure (by exact fin))))
  have one : wpAny (model prog w) A (tryCompare (.ref x) (cmpInfo .NotEq).2.1 b) (fun r s' => ∃ v, r = some v ∧ Q v s') E s := by
    unfold tryCompare
    refine wpAny_bind (wpAny_mono spec (fun r s' z => ?_) fun _ _ e => e)
    obtain ⟨v, rfl, ⟨k, rfl⟩, q⟩ := z
    exact wpAny_pure ⟨_, rfl, q⟩
  unfold richCompare
  simp only [oneThing_ref]
  refine wpAny_holding (wpAny_bind (wpAny_cRoomFor (Nat.lt_of_succ_lt hu) ?_))
  refine wpAny_bind (I.type.here (wpAny_bind (hb.here ?_)))
  split
  · rename_i q
    have e : PySem.W.subIn K tb (.ref C) = some false := by
      rcases Bool.or_eq_true_iff.mp hn with e | e
      · rw [beq_iff_eq.mp e] at q; simp at q
      · exact beq_iff_eq.mp e
    refine wpAny_bind ((PySem.W.looks_subIn X e).here ?_)
    simp only [Bool.false_eq_true, if_false]
    refine wpAny_bind (wpAny_mono one (fun r s' z => ?_) fun _ _ e => e)
    obtain ⟨v, rfl, hq⟩ := z
    exact wpAny_pure hq
  · refine wpAny_bind (wpAny_pure ?_)
    simp only [Bool.false_eq_true, if_false]
    refine wpAny_bind (wpAny_mono one (fun r s' z => ?_) fun _ _ e => e)
    obtain ⟨v, rfl, hq⟩ := z
    exact wpAny_pure hq
/-- every comparison -/
theorem sg_all (g : Gd AD G Γ X κ n) (op : CmpOp) : OpR X (compareOp op) (rV2 AD X (cmpG G (cD G n) op)) := by
  have base := sc_all (AD := AD) g.ru op
  have own : ∀ {pins : List (Addr × Obj)} {s : Shared} {σ : St} {H : Hp} {x y : V} {v u : Value} {Q : VK} {ρ : List Addr} {h : AH} {ax ay : AV} {gq : Str}, Inv X pins σ H s → RelV x v → RelV y u → Rep AD ρ h H → VR AD ρ ax x → VR AD ρ ay y → eqOwn G h ax = some gq → eqMate h ax ay = true → (∃ w h', callD G (n - 1) gq [ax, ay] h = .ok w h') →
      ∃ k a Ca ca ox od tb, n = k + 1 ∧ x = .ref a ∧ v = .ref a ∧ AD gq = some ca ∧ PySem.W.InstAt s.heap a ox Ca od ∧ PySem.W.Looks (model X.prog X.w) s.heap (typeOf u) tb ∧ PySem.W.notFirst X.K Ca tb = true ∧ PySem.W.mroIn X.K Ca (.type "object") = some true ∧
        PySem.W.findIn X.K (.ref Ca) "__eq__" = some (some (.ref ca)) ∧ PySem.W.isFn X.K (.ref ca) = true ∧ PySem.W.findIn X.K (.ref Ca) "__ne__" = some (some (.builtin "object.__ne__")) := by
    intro pins s σ H x y v u Q ρ h ax ay gq I rx ry r vx vy he hm hok
    obtain ⟨i, C, fs, cd, rfl, hn, hc, hl, hf⟩ := eqOwn_at he
    obtain ⟨ad, had, rfl, Ca, dx, gs, h0, k1, k2⟩ := r.ref vx hn
    obtain rfl : v = .ref ad := rx
    cases n with
    | zero =>
      rw [show (0 : Nat) - 1 = 0 from rfl, callD_zero] at hok
      obtain ⟨_, _, e⟩ := hok; cases e
    | succ k =>
      obtain ⟨fd, hfd⟩ := Option.isSome_iff_exists.mp hf
      obtain ⟨ca, data, ps, h1, _⟩ := g.fns k (Nat.le_succ k) gq fd hfd
      obtain ⟨q1, q2, q3⟩ := g.cls.eq C cd gq Ca ca hc hl hf h0 h1
      obtain ⟨mA, O, _⟩ := ins_get I.hok k1
      obtain ⟨od, J, _⟩ := O.look
      obtain ⟨tb, t1, t2⟩ := mate_ty (M := model X.prog X.w) I r hn h0 vy ry hm
      exact ⟨k, ad, Ca, ca, _, od, tb, rfl, rfl, rfl, h1, J, t1, t2, (g.cls.cl C cd Ca hc h0).2.2.2.2, q1, q2, q3⟩
  cases op with
  | Eq =>
    intro pins s σ H x y v u Q I rx ry hq
    obtain ⟨ρ, h, ax, ay, σV, r, vx, vy, p⟩ := hq
    rw [cmpG] at p
    split at p
    · rename_i gq he
      split at p
      · rename_i hm
        simp only [cD_lo] at p
        obtain ⟨w0, h0', hok, p0⟩ := calm_bind p
        obtain ⟨k, a, Ca, ca, ox, od, tb, rfl, rfl, rfl, ha, J, t1, t2, t3, q1, q2, q3⟩ := own (Q := Q) I rx ry r vx vy he hm ⟨_, _, hok⟩
        obtain ⟨m, hF⟩ := I.fr
        rw [Nat.add_sub_cancel] at hok
        refine PySem.W.cmp_K (op := .Eq) (by have := g.room.un; omega) hF I.ok.mod.kin J t1 t2 q1 q2 ?_
        refine wpAny_mono (run_eq g (Nat.le_succ k) (Sub.mono (n := k + 1) ⟨g.room, rfl⟩ (Nat.le_succ k)) ha I (us := [.ref a, u]) (vs := [.ref a, y]) (.cons rfl (.cons ry .nil)) r (.cons vx (.cons vy .nil)) (Q := fun z H' => (∃ b, z = .bl b) ∧ Q z H') ?_) (fun z s' hz => ?_) fun _ _ e => e
        · rw [hok]
          intro ρ1 H1 z e1 r1 w1
          have p1 := Post.mono p0 e1
          revert w1 p1
          cases w0 with
          | bl b => intro w1 p1; obtain rfl := vr_bl w1; exact ⟨⟨b, rfl⟩, post_val r1 p1 rfl⟩
          | _ => exact fun _ p1 => p1.elim
        · obtain ⟨yv, H', I', rz, ⟨b, rfl⟩, q⟩ := hz
          cases rz
          exact ⟨.bl b, H', I', rfl, q⟩
      · exact p.elim
    · exact base pins s σ H x y v u Q I rx ry ⟨ρ, h, ax, ay, σV, r, vx, vy, p⟩
  | NotEq =>
    intro pins s σ H x y v u Q I rx ry hq
    obtain ⟨ρ, h, ax, ay, σV, r, vx, vy, p⟩ := hq
    rw [cmpG] at p
    split at p
    · rename_i gq he
      split at p
      · rename_i hm
        simp only [cD_lo] at p
        obtain ⟨w0, h0', hok, p0⟩ := calm_bind p
        obtain ⟨k, a, Ca, ca, ox, od, tb, rfl, rfl, rfl, ha, J, t1, t2, t3, q1, q2, q3⟩ := own (Q := Q) I rx ry r vx vy he hm ⟨_, _, hok⟩
        rw [Nat.add_sub_cancel] at hok
        refine ne_K (by have := g.room.un; omega) I.kIn J t1 t2 t3 q1 q2 q3 ?_
        refine wpAny_mono (run_eq g (Nat.le_succ k) (Sub.in1 (n := k) ⟨g.room, rfl⟩) ha I (us := [.ref a, u]) (vs := [.ref a, y]) (.cons rfl (.cons ry .nil)) r (.cons vx (.cons vy .nil)) (Q := fun z H' => ∃ b, z = .bl b ∧ Q (.bl (!b)) H') ?_) (fun z s' hz => ?_) fun _ _ e => e
        · rw [hok]
          intro ρ1 H1 z e1 r1 w1
          have p1 := Post.mono p0 e1
          revert w1 p1
          cases w0 with
          | bl b => intro w1 p1; obtain rfl := vr_bl w1; exact ⟨b, rfl, post_val r1 p1 rfl⟩
          | _ => exact fun _ p1 => p1.elim
        · obtain ⟨yv, H', I', rz, b, rfl, q⟩ := hz
          cases rz
          exact ⟨b, rfl, .bl (!b), H', I', rfl, q⟩
      · exact p.elim
    · exact base pins s σ H x y v u Q I rx ry ⟨ρ, h, ax, ay, σV, r, vx, vy, p⟩
  | _ =>
    intro pins s σ H x y v u Q I rx ry hq
    exact base pins s σ H x y v u Q I rx ry hq
end
end SL

set_option Elab.async false
set_option linter.all false
set_option maxRecDepth 100000
set_option maxHeartbeats 4000000
/-! The evaluator over the hand layer: all of the expressions. -/
namespace SL
open PySem PySem.Spec L2
open PyProof.Rows hiding St
open PySem.W (Frag)
section
variable {AD : Str → Option Addr} {X : Cx} {G : Env} {Γ : CE} {κ : Ctx} {n d : Nat} {c : Calls}
theorem pe_skip {e : Expr} : PE X e (tE AD G c X .skip) := ⟨fun pins s σ H Q I ⟨ρ, sg, h, r, q, p⟩ => by rw [evE] at p <;> first | exact p.elim | (intros; contradiction)⟩
theorem pw_skip {e : Expr} : PW X e (tT AD G c X .skip) := ⟨fun pins s σ H Q E I ⟨ρ, sg, h, r, q, p⟩ => by rw [evT] at p <;> first | exact p.elim | (intros; contradiction)⟩
theorem pt_skip {e : Expr} : PT X e (tT AD G c X .skip) := pw_skip.pt
/-- what is read is right -/
structure EOk (AD : Str → Option Addr) (G : Env) (Γ : CE) (r : Rc) : Prop where
  e : ∀ {X κ d}, Gd AD G Γ X κ d → ∀ e t, r.e κ e = some t → PE X e (tE AD G (cD G d) X t)
  t : ∀ {X κ d}, Gd AD G Γ X κ d → ∀ e t, r.t κ e = some t → PT X e (tT AD G (cD G d) X t) ∧ ∀ op es pos, e = .BoolOp op es pos → PW X e (tT AD G (cD G d) X t)
  i : ∀ {X κ d}, Gd AD G Γ X κ d → ∀ tg e t, r.i κ tg e = some t → PI X tg e (tI AD G (cD G d) X t)
  f : ∀ {κ} tg e t, r.i κ tg e = some t → ∀ env x, foldedSetIterable e env x = pure x
  g : ∀ {X κ d}, Gd AD G Γ X κ d → ∀ e t, r.g κ e = some t → PG X e (tG AD G (cD G d) X t)
theorem some_map {α β : Type} {o : Option α} {f : α → β} {b : β} (h : o.map f = some b) : ∃ a, o = some a ∧ f a = b := Option.map_eq_some_iff.mp h
theorem some_bind {α β : Type} {o : Option α} {f : α → Option β} {b : β} (h : o.bind f = some b) : ∃ a, o = some a ∧ f a = some b := Option.bind_eq_some_iff.mp h
theorem args_ok {f : Expr → Option T} : ∀ {es : List Expr} {t : T}, (∀ e t, e ∈ es → f e = some t → PE X e (tE AD G c X t)) → argsT f es = some t → PA X es (tAr AD G c X t) ∧ es.all notStar = true
  | [], t, hf, h => by cases h; exact ⟨s_nil, rfl⟩
  | e :: es, t, hf, h => by
    rw [argsT] at h
    split at h
    · rename_i hs
      obtain ⟨a, h1, h⟩ := some_bind h
      obtain ⟨b, h2, rfl⟩ := some_map h
      obtain ⟨i1, i2⟩ := args_ok (fun e t he => hf e t (List.mem_cons_of_mem _ he)) h2
      exact ⟨s_cons hs (hf e a (List.mem_cons_self ..) h1) i1, by rw [List.all_cons, hs, i2]; rfl⟩
    · cases h
theorem end_ok {f : Expr → Option T} (hf : ∀ e t, f e = some t → PE X e (tE AD G c X t)) {o : Option Expr} {t : T} (h : endT f o = some t) : PO X o (tP AD G c X t) := by
  cases o with
  | none => cases h; exact s_pno
  | some e => obtain ⟨a, h1, rfl⟩ := some_map h; exact s_psome (hf e a h1)
theorem un_ok {f : Expr → Option T} (hf : ∀ e t, f e = some t → PE X e (tE AD G c X t)) {op : UnaryOp} {a : Expr} {t : T} {pos : Pos} (h : unT f op a = some t) : PE X (.UnaryOp op a pos) (tE AD G c X t) := by
  cases op with
  | Not => obtain ⟨a, h1, rfl⟩ := some_map h; exact s_nt (hf _ _ h1)
  | USub => obtain ⟨a, h1, rfl⟩ := some_map h; exact s_neg (hf _ _ h1)
  | Invert => obtain ⟨a, h1, rfl⟩ := some_map h; exact s_inv (hf _ _ h1)
  | UAdd => cases h; exact pe_skip
theorem bool_ok {f : Expr → Option T} (hf : ∀ e t, f e = some t → PE X e (tE AD G c X t)) {op : BoolOp} {es : List Expr} {t : T} {pos : Pos} (h : boolT f op es pos = some t) : PE X (.BoolOp op es pos) (tE AD G c X t) := by
  match es, h with
  | [], h => cases h; exact pe_skip
  | [a], h => exact ⟨fun pins s σ H Q I q => (hf a t h).run pins s σ H Q I q⟩
  | a :: b :: r, h =>
    obtain ⟨x, h1, h⟩ := some_bind h
    obtain ⟨y, h2, h⟩ := some_map h
    cases op with
    | And => cases h; exact s_and (hf _ _ h1) (hf _ _ h2)
    | Or => cases h; exact s_or (hf _ _ h1) (hf _ _ h2)
theorem cmp_ok (g : Gd AD G Γ X κ d) {f : Expr → Option T} (hf : ∀ e t, f e = some t → PE X e (tE AD G (cD G d) X t)) {a : Expr} {ops : List CmpOp} {cs : List Expr} {t : T} {pos : Pos} (h : cmpT f a ops cs = some t) : PE X (.Compare a ops cs pos) (tE AD G (cD G d) X t) ∧ PT X (.Compare a ops cs pos) (tT AD G (cD G d) X (.tVal t)) := by
  have sk : PE X (.Compare a ops cs pos) (tE AD G (cD G d) X .skip) ∧ PT X (.Compare a ops cs pos) (tT AD G (cD G d) X (.tVal .skip)) := ⟨pe_skip, ⟨fun pins s σ H Q I ⟨ρ, sg, h, r, q, p⟩ => by
    rw [evT] at p
    have e : evE G (cD G d) .skip sg h = .bad := by rw [evE] <;> (intros; contradiction)
    rw [e] at p; exact p.elim⟩⟩
  unfold cmpT at h
  split at h
  · split at h
    · rename_i hm
      obtain ⟨x, h1, h⟩ := some_bind h
      obtain ⟨y, h2, rfl⟩ := some_map h
      exact ⟨s_cmp (sg_all g _) hm (hf _ _ h1) (hf _ _ h2), t_cmp (sg_all g _) hm (hf _ _ h1) (hf _ _ h2)⟩
    · cases h; exact sk
  · split at h
    · rename_i hm
      obtain ⟨x, h1, h⟩ := some_bind h
      obtain ⟨y, h2, h⟩ := some_bind h
      obtain ⟨z, h3, rfl⟩ := some_map h
      exact ⟨s_chain (sg_all g _) (sg_all g _) hm (hf _ _ h1) (hf _ _ h2) (hf _ _ h3), t_chain (sg_all g _) (sg_all g _) hm (hf _ _ h1) (hf _ _ h2) (hf _ _ h3)⟩
    · cases h; exact sk
  · cases h; exact sk
theorem few_star {es : List Expr} (h : fewArgs es = true) : es.all notStar = true := by unfold fewArgs at h; simp only [Bool.and_eq_true] at h; exact h.2
/-- a name that is a built-in's -/
theorem bltn_of (g : Gd AD G Γ X κ d) {x : Str} {b : Blt} (h : bltTab.lookup x = some b) (h2 : Γ.funs.contains x = false) : True := trivial
theorem lookup_mem {α : Type} {x : Str} {b : α} : ∀ {l : List (Str × α)}, l.lookup x = some b → (x, b) ∈ l
  | [], h => by cases h
  | (y, v) :: r, h => by
    rw [List.lookup_cons] at h
    split at h
    · rename_i e; cases h; rw [beq_iff_eq.mp e]; exact List.mem_cons_self ..
    · exact List.mem_cons_of_mem _ (lookup_mem h)
theorem blt_ok (g : Gd AD G Γ X κ d) {x : Str} {b : Blt} {f : Expr → Option T} {a : Expr} {es : List Expr} {t : T} {p1 pos : Pos} (hg : isGlob κ x = true) (hb : bltTab.lookup x = some b) (hs : (a :: es).all notStar = true) (ha : PA X (a :: es) (tAr AD G (cD G d) X t)) :
    PE X (.Call (.Name x p1) (a :: es) [] pos) (tE AD G (cD G d) X (.callB b t)) := by
  obtain ⟨g1, g2, g3⟩ := g.gl hg
  have hm : X.mg x = none := g.blt x (by
    have := lookup_mem hb
    rw [Bool.or_eq_true, Bool.or_eq_true]
    exact .inl (.inr (List.any_eq_true.mpr ⟨_, this, by simp⟩)))
  have mem := lookup_mem hb
  simp only [bltTab, List.mem_cons, Prod.mk.injEq, List.not_mem_nil, or_false] at mem
  have hc := g.calm
  rcases mem with ⟨rfl, rfl⟩ | ⟨rfl, rfl⟩ | ⟨rfl, rfl⟩ | ⟨rfl, rfl⟩ | ⟨rfl, rfl⟩ | ⟨rfl, rfl⟩ | ⟨rfl, rfl⟩ | ⟨rfl, rfl⟩ | ⟨rfl, rfl⟩ | ⟨rfl, rfl⟩ | ⟨rfl, rfl⟩ | ⟨rfl, rfl⟩
  · exact s_blt cb_len (.inl ⟨_, rfl⟩) g1 hm (by decide +kernel) g3 g2 hs ha
  · exact s_blt (cb_sum hc) (.inl ⟨_, rfl⟩) g1 hm (by decide +kernel) g3 g2 hs ha
  · exact s_blt (cb_max hc) (.inl ⟨_, rfl⟩) g1 hm (by decide +kernel) g3 g2 hs ha
  · exact s_blt (cb_min hc) (.inl ⟨_, rfl⟩) g1 hm (by decide +kernel) g3 g2 hs ha
  · exact s_blt (cb_all hc) (.inl ⟨_, rfl⟩) g1 hm (by decide +kernel) g3 g2 hs ha
  · exact s_blt (cb_any hc) (.inl ⟨_, rfl⟩) g1 hm (by decide +kernel) g3 g2 hs ha
  · exact s_blt (cb_list hc) (.inr ⟨_, rfl⟩) g1 hm (by decide +kernel) g3 g2 hs ha
  · exact s_blt cb_tuple (.inr ⟨_, rfl⟩) g1 hm (by decide +kernel) g3 g2 hs ha
  · exact s_blt (cb_dict hc) (.inr ⟨_, rfl⟩) g1 hm (by decide +kernel) g3 g2 hs ha
  · exact s_blt (cb_sorted hc) (.inl ⟨_, rfl⟩) g1 hm (by decide +kernel) g3 g2 hs ha
  · exact s_blt cb_int (.inr ⟨_, rfl⟩) g1 hm (by decide +kernel) g3 g2 hs ha
  · exact s_blt (cb_isi g.cls) (.inl ⟨_, rfl⟩) g1 hm (by decide +kernel) g3 g2 hs ha
theorem mg_it (g : Gd AD G Γ X κ d) {x : Str} (h : itTab.contains x = true) : X.mg x = none := g.blt x (by rw [h]; simp)
theorem call_ok (g : Gd AD G Γ X κ d) {f : Expr → Option T} (hf : ∀ e t, f e = some t → PE X e (tE AD G (cD G d) X t)) {fn : Expr} {as : List Expr} {t : T} {pos : Pos} (h : callT Γ κ f fn as pos = some t) (hr : ∀ e ∈ as, ∀ e' ∈ rangeArgs e, ∀ t, f e' = some t → PE X e' (tE AD G (cD G d) X t)) :
    PE X (.Call fn as [] pos) (tE AD G (cD G d) X t) := by
  unfold callT at h
  split at h
  · rename_i x p1
    split at h
    · rename_i hc
      obtain ⟨hg, hfw⟩ := hc
      have hs := few_star hfw
      split at h
      · rename_i hx
        obtain ⟨a, h1, rfl⟩ := some_map h
        have ha := (args_ok (fun e t _ => hf e t) h1).1
        match as, h1, hs, ha with
        | [], h1, hs, ha => cases h1; exact s_callF0 g hg hx
        | e :: es, h1, hs, ha => exact s_callF g hg hx hs ha
      · split at h
        · rename_i hx
          obtain ⟨a, h1, rfl⟩ := some_map h
          have ha := (args_ok (fun e t _ => hf e t) h1).1
          match as, h1, hs, ha with
          | [], h1, hs, ha => cases h1; exact s_callC0 g hg hx
          | e :: es, h1, hs, ha => exact s_callC g hg hx hs ha
        · split at h
          · rename_i b hb
            split at h
            · cases h; exact pe_skip
            · rename_i a
              split at h
              · rename_i hl
                obtain ⟨rfl, hl⟩ := hl
                obtain ⟨w, h1, rfl⟩ := some_map h
                have hx : x = ("list" : Str) := by
                  have mem := lookup_mem hb
                  simp only [bltTab, List.mem_cons, Prod.mk.injEq, List.not_mem_nil, or_false] at mem
                  rcases mem with ⟨rfl, e⟩ | ⟨rfl, e⟩ | ⟨rfl, e⟩ | ⟨rfl, e⟩ | ⟨rfl, e⟩ | ⟨rfl, e⟩ | ⟨rfl, e⟩ | ⟨rfl, e⟩ | ⟨rfl, e⟩ | ⟨rfl, e⟩ | ⟨rfl, e⟩ | ⟨rfl, e⟩ <;> first | rfl | cases e
                subst hx
                have hm : X.mg "list" = none := g.blt _ (by decide +kernel)
                have hm2 : X.mg "range" = none := mg_it g (by decide +kernel)
                obtain ⟨g1, g2, g3⟩ := g.gl hg
                unfold isRange at hl
                split at hl
                · rename_i e1 _
                  simp only [Bool.and_eq_true, decide_eq_true_eq] at hl
                  obtain ⟨⟨⟨rfl, hl2⟩, _⟩, _⟩ := hl
                  rw [rangeArgs] at h1
                  obtain ⟨i1, i2⟩ := args_ok (fun e t _ => hf e t) h1
                  rw [argsT] at h1
                  split at h1
                  · rename_i hs1
                    obtain ⟨a1, k1, h2⟩ := some_bind h1
                    obtain ⟨b1, h3, rfl⟩ := some_map h2
                    cases h3
                    exact s_lrange1 g.calm g1 hm (g.gl hl2).1 hm2 hs1 (hf _ _ k1)
                  · cases h1
                · rename_i e1 e2 _
                  simp only [Bool.and_eq_true, decide_eq_true_eq] at hl
                  obtain ⟨⟨⟨rfl, hl2⟩, _⟩, _⟩ := hl
                  rw [rangeArgs] at h1
                  rw [argsT] at h1
                  split at h1
                  · rename_i hs1
                    obtain ⟨a1, k1, h2⟩ := some_bind h1
                    obtain ⟨b1, h3, rfl⟩ := some_map h2
                    rw [argsT] at h3
                    split at h3
                    · rename_i hs2
                      obtain ⟨a2, h4, h5⟩ := some_bind h3
                      obtain ⟨b2, h6, rfl⟩ := some_map h5
                      cases h6
                      exact s_lrange2 g.calm g1 hm (g.gl hl2).1 hm2 hs1 hs2 (hf _ _ k1) (hf _ _ h4)
                    · cases h3
                  · cases h1
                · cases hl
              · obtain ⟨w, h1, rfl⟩ := some_map h
                exact blt_ok g hg hb hs (args_ok (fun e t _ => hf e t) h1).1 (f := f)
            · obtain ⟨w, h1, rfl⟩ := some_map h
              exact blt_ok g hg hb hs (args_ok (fun e t _ => hf e t) h1).1 (f := f)
          · cases h; exact pe_skip
    · cases h; exact pe_skip
  · rename_i o m apos
    split at h
    · rename_i hc
      obtain ⟨hfw, hsu, hl⟩ := hc
      split at h
      · split at h
        · rename_i hm; subst hm
          obtain ⟨w, h1, rfl⟩ := some_map h
          exact s_bits hsu hl (hf _ _ h1)
        · split at h
          · rename_i hm; subst hm
            obtain ⟨w, h1, rfl⟩ := some_map h
            exact s_pop hsu hl (hf _ _ h1)
          · obtain ⟨w, h1, rfl⟩ := some_map h
            exact s_methO0 g hsu hl (hf _ _ h1)
      · split at h
        · rename_i hm; subst hm
          obtain ⟨w, h1, h⟩ := some_bind h
          obtain ⟨v, h2, rfl⟩ := some_map h
          exact s_append hsu hfw hl (hf _ _ h1) (args_ok (fun e t _ => hf e t) h2).1
        · obtain ⟨w, h1, h⟩ := some_bind h
          obtain ⟨v, h2, rfl⟩ := some_map h
          exact s_methO g hsu hfw hl (hf _ _ h1) (args_ok (fun e t _ => hf e t) h2).1
    · cases h; exact pe_skip
  · cases h; exact pe_skip
theorem sub_ok (g : Gd AD G Γ X κ d) {f : Expr → Option T} (hf : ∀ e t, f e = some t → PE X e (tE AD G c X t)) {a i : Expr} {t : T} {pos : Pos} (h : subT f a i = some t) : PE X (.Subscript a i pos) (tE AD G c X t) := by
  unfold subT at h
  split at h
  · rename_i st p3
    split at h
    · rename_i hm
      obtain ⟨w, h1, rfl⟩ := some_map h
      unfold isMinus1 at hm
      split at hm
      · exact s_rev (hf _ _ h1)
      · cases hm
    · split at h
      · obtain ⟨w, h1, rfl⟩ := some_map h
        exact s_slc (hf _ _ h1) s_pno s_pno
      · cases h; exact pe_skip
  · obtain ⟨w, h1, h⟩ := some_bind h
    obtain ⟨lo, h2, h⟩ := some_bind h
    obtain ⟨hi, h3, rfl⟩ := some_map h
    exact s_slc (hf _ _ h1) (end_ok hf h2) (end_ok hf h3)
  · cases h; exact pe_skip
  · rename_i _ _ hn
    obtain ⟨w, h1, h⟩ := some_bind h
    obtain ⟨v, h2, rfl⟩ := some_map h
    exact s_ix g.ru (by cases i <;> first | rfl | exact absurd rfl (hn _ _ _ _)) (hf _ _ h1) (hf _ _ h2)
/-! ### comprehensions -/
theorem gd_blk (g : Gd AD G Γ X κ d) (scope : Scope) (s : Shared) (H : Hp) (C : Addr) (cl : List (Str × Addr)) (fp : List Addr) : Gd AD G Γ (X.blk s H scope (compEnvC scope cl C X.env) fp) (blkCtx κ scope) d where
  sc := by
    show relS scope X.env.scope = relS scope κ.sc
    rw [g.sc]
  N := g.N
  nd := g.nd
  fn := fun x h => h
  calm := g.calm
  room := g.room
  cls := g.cls
  own := g.own
  blt := g.blt
  fns := g.fns
  meth := g.meth
  mkr := g.mkr
theorem ifs_ok {f : Expr → Option T} (hf : ∀ e t, f e = some t → PT X e (tT AD G c X t)) {es : List Expr} {t : T} (h : ifsT f es = some t) : PTs X es (tT0 AD G c t) := by
  match es, h with
  | [], h => cases h; exact t0nil
  | [e], h => exact t0 (hf _ _ h)
  | _ :: _ :: _, h => cases h
theorem slots_get {t : T} {own : List Nat} (h : tgIn own t = true) : (tgSlots t).getD [] = slotsL t := by
  unfold tgIn at h
  split at h
  · rename_i l e
    rw [e, tgIn_sub e]; rfl
  · cases h
/-- a list comprehension: as a value, and as what a name is given -/
theorem lc_ok {r : Rc} (E : EOk AD G Γ r) (g : Gd AD G Γ X κ d) {elt : Expr} {gs : List Comprehension} {sc : Scope} {pos : Pos} {t : T} (h : lcT r κ elt gs sc = some t) : PE X (.ListComp elt gs sc pos) (tE AD G (cD G d) X t) ∧
    ∀ (j : Nat) (y : Str) (py spos : Pos), X.N[j]? = some y → X.env.scope.names.lookup y = some .local → swapsWith (.ListComp elt gs sc pos) (some (.Name y py)) spos.line X.env = pure true → PS X (.Assign [.Name y py] (.ListComp elt gs sc pos) spos) (tS AD G (cD G d) X (.asg (.tName j) t)) := by
  have sk : PE X (.ListComp elt gs sc pos) (tE AD G (cD G d) X .skip) ∧
      ∀ (j : Nat) (y : Str) (py spos : Pos), X.N[j]? = some y → X.env.scope.names.lookup y = some .local → swapsWith (.ListComp elt gs sc pos) (some (.Name y py)) spos.line X.env = pure true → PS X (.Assign [.Name y py] (.ListComp elt gs sc pos) spos) (tS AD G (cD G d) X (.asg (.tName j) .skip)) :=
    ⟨pe_skip, fun j y py spos _ _ _ => ⟨fun pins s σ H D I ⟨ρ, sg, h, r, q, p⟩ => by
      rw [evS] at p
      have e : evE G (cD G d) .skip sg h = .bad := by rw [evE] <;> (intros; contradiction)
      rw [e] at p; exact p.elim⟩⟩
  unfold lcT at h
  split at h
  · rename_i hb
    have ok : BlkOk X.N X.env.scope sc (ownOf κ sc) := by rw [g.N, g.sc]; exact blkOk_by hb
    have hN : X.N.Nodup := by rw [g.N]; exact g.nd
    have gb := fun s H C cl fp => gd_blk g sc s H C cl fp
    split at h
    · rename_i tg iter ifs
      obtain ⟨it, h1, h⟩ := some_bind h
      obtain ⟨tt, h2, h⟩ := some_bind h
      obtain ⟨cc, h3, h⟩ := some_bind h
      obtain ⟨ee, h4, h⟩ := some_bind h
      split at h
      · rename_i ho
        cases h
        have ho := tgIn_own ho
        have i1 := E.i g _ _ _ h1
        have i2 := E.f _ _ _ h1
        exact ⟨s_comp g.calm hN ok ho i1 i2 (fun s H C cl fp => g0 (E.g (gb s H C cl fp) _ _ h2)) (fun s H C cl fp => ifs_ok (fun e t he => (E.t (gb s H C cl fp) e t he).1) h3) (fun s H C cl fp => e0 (E.e (gb s H C cl fp) _ _ h4)),
          fun j y py spos hy hyl hsw => ss_setc g.calm hN hy hyl hsw ok ho i1 i2 (fun s H C cl fp => g0 (E.g (gb s H C cl fp) _ _ h2)) (fun s H C cl fp => ifs_ok (fun e t he => (E.t (gb s H C cl fp) e t he).1) h3) (fun s H C cl fp => e0 (E.e (gb s H C cl fp) _ _ h4))⟩
      · cases h
    · rename_i tg iter ifs tg1 iter1 ifs1
      obtain ⟨it, h1, h⟩ := some_bind h
      obtain ⟨tt, h2, h⟩ := some_bind h
      obtain ⟨cc, h3, h⟩ := some_bind h
      obtain ⟨it1, k1, h⟩ := some_bind h
      obtain ⟨tt1, k2, h⟩ := some_bind h
      obtain ⟨cc1, k3, h⟩ := some_bind h
      obtain ⟨ee, h4, h⟩ := some_bind h
      split at h
      · rename_i ho
        obtain ⟨ho, ho1⟩ := ho
        cases h
        rw [slots_get ho1]
        have ho := tgIn_own ho
        have ho1 := tgIn_own ho1
        have i1 := E.i g _ _ _ h1
        have i2 := E.f _ _ _ h1
        have i3 := E.f _ _ _ k1
        exact ⟨s_comp2 g.calm hN ok ho ho1 i1 i2 i3 (fun s H C cl fp => g0 (E.g (gb s H C cl fp) _ _ h2)) (fun s H C cl fp => ifs_ok (fun e t he => (E.t (gb s H C cl fp) e t he).1) h3)
            (fun s H C cl fp => i0 (E.i (gb s H C cl fp) _ _ _ k1)) (fun s H C cl fp => g0 (E.g (gb s H C cl fp) _ _ k2)) (fun s H C cl fp => ifs_ok (fun e t he => (E.t (gb s H C cl fp) e t he).1) k3) (fun s H C cl fp => e0 (E.e (gb s H C cl fp) _ _ h4)),
          fun j y py spos hy hyl hsw => ss_setc2 g.calm hN hy hyl hsw ok ho ho1 i1 i2 i3 (fun s H C cl fp => g0 (E.g (gb s H C cl fp) _ _ h2)) (fun s H C cl fp => ifs_ok (fun e t he => (E.t (gb s H C cl fp) e t he).1) h3)
            (fun s H C cl fp => i0 (E.i (gb s H C cl fp) _ _ _ k1)) (fun s H C cl fp => g0 (E.g (gb s H C cl fp) _ _ k2)) (fun s H C cl fp => ifs_ok (fun e t he => (E.t (gb s H C cl fp) e t he).1) k3) (fun s H C cl fp => e0 (E.e (gb s H C cl fp) _ _ h4))⟩
      · cases h
    · cases h; exact sk
  · cases h
theorem fold_of {e : Expr} (h : isSet e = false) (env : PySem.Env) (x : Value) : foldedSetIterable e env x = pure x := by
  cases e <;> first | rfl | cases h
theorem bltTab_it : ∀ x ∈ itTab, bltTab.lookup x = none := by decide +kernel
theorem stepI_ok {r : Rc} (E : EOk AD G Γ r) (g : Gd AD G Γ X κ d) {tg e : Expr} {t : T} (h : stepI Γ r κ tg e = some t) : PI X tg e (tI AD G (cD G d) X t) ∧ ∀ env x, foldedSetIterable e env x = pure x := by
  unfold stepI at h
  split at h
  · cases h
  · rename_i hs
    refine ⟨?_, fold_of (by simpa using hs)⟩
    have dflt : ∀ t, (r.e κ e).map .iSeq = some t → PI X tg e (tI AD G (cD G d) X t) := fun t h => by
      obtain ⟨a, h1, rfl⟩ := some_map h
      exact i_seq (E.e g _ _ h1)
    split at h
    · rename_i f p1 a pos
      split at h
      · rename_i hc
        obtain ⟨c1, rfl, c2, c3, c4⟩ := hc
        obtain ⟨w, h1, rfl⟩ := some_map h
        exact i_rng1 (g.gl c1).1 (mg_it g (by decide +kernel)) c4 (args_ok (fun e t _ => E.e g e t) h1).1
      · split at h
        · rename_i hc
          obtain ⟨c1, rfl, c2, c3, c4, c5⟩ := hc
          obtain ⟨w, h1, rfl⟩ := some_map h
          cases tg with
          | Tuple ts k p => exact i_enm (g.gl c1).1 (mg_it g (by decide +kernel)) c4 (E.e g _ _ h1)
          | _ => cases c5
        · exact dflt _ h
    · rename_i f p1 a b pos
      split at h
      · rename_i hc
        obtain ⟨c1, rfl, c2, c3, c4, c5⟩ := hc
        obtain ⟨w, h1, rfl⟩ := some_map h
        exact i_rng2 (g.gl c1).1 (mg_it g (by decide +kernel)) c4 c5 (args_ok (fun e t _ => E.e g e t) h1).1
      · split at h
        · rename_i hc
          obtain ⟨c1, rfl, c2, c3, c4, c5, c6⟩ := hc
          obtain ⟨w, h1, h⟩ := some_bind h
          obtain ⟨v, h2, rfl⟩ := some_map h
          cases tg with
          | Tuple ts k p => exact i_zip (g.gl c1).1 (mg_it g (by decide +kernel)) c4 c5 (E.e g _ _ h1) (E.e g _ _ h2)
          | _ => cases c6
        · exact dflt _ h
    · exact dflt _ h
theorem own_vis (g : Gd AD G Γ X κ d) {x : Str} (h : isOwn κ x = true) : Vis X.env.scope x ∧ (x == ("__debug__" : Str)) = false ∧ (x == ("__classdict__" : Str)) = false := by
  unfold isOwn at h
  simp only [Bool.and_eq_true, Bool.not_eq_true'] at h
  refine ⟨?_, h.1.2, h.2⟩
  rw [g.sc]
  unfold Vis
  have := h.1.1
  split at this
  · exact .inl (by assumption)
  · exact .inr (.inl (by assumption))
  · exact .inr (.inr (by assumption))
  · cases this
theorem slot_get {N : List Str} {x : Str} {i : Nat} (h : N.idxOf? x = some i) : N[i]? = some x := by
  have := (List.idxOf?_eq_some_iff).mp h
  obtain ⟨hl, h1, _⟩ := this
  rw [List.getElem?_eq_getElem hl, h1]
theorem name_ok (g : Gd AD G Γ X κ d) {x : Str} {t : T} {pos : Pos} (h : nameT Γ κ x = some t) : PE X (.Name x pos) (tE AD G (cD G d) X t) := by
  unfold nameT at h
  split at h
  · rename_i ho
    obtain ⟨i, h1, rfl⟩ := some_map h
    obtain ⟨v1, v2, v3⟩ := own_vis g ho
    exact s_var (pe_var (by rw [g.N]; exact slot_get h1) v1 v2 v3)
  · split at h
    · rename_i hg
      obtain ⟨g1, g2, g3⟩ := g.gl hg
      split at h
      · rename_i hm
        cases h
        obtain ⟨a, h1, h2, h3⟩ := g.own x hm
        exact s_glob g1 h1 h2 g2
      · obtain ⟨n, h1, rfl⟩ := some_map h
        have mem := lookup_mem h1
        have hm : X.mg x = none := g.blt x (by
          rw [Bool.or_eq_true, Bool.or_eq_true]
          exact .inl (.inl (List.any_eq_true.mpr ⟨_, mem, by simp⟩)))
        simp only [tyTab, List.mem_cons, Prod.mk.injEq, List.not_mem_nil, or_false] at mem
        rcases mem with ⟨rfl, rfl⟩ | ⟨rfl, rfl⟩ | ⟨rfl, rfl⟩ | ⟨rfl, rfl⟩ | ⟨rfl, rfl⟩ | ⟨rfl, rfl⟩ <;> exact s_ty g1 hm (by decide +kernel) g3 g2
    · cases h
theorem store_at (g : Gd AD G Γ X κ d) {x : Str} {i : Nat} (h : storeT κ x = some i) : X.N[i]? = some x ∧ L2.Loc X.env.scope x ∧ (X.fn x = true ∨ X.env.scope.names.lookup x = some .local) := by
  unfold storeT at h
  unfold L2.Loc
  rw [g.N, g.sc]
  split at h
  · exact ⟨slot_get h, .inl (by assumption), .inr (by assumption)⟩
  · split at h
    · exact ⟨slot_get h, .inr (by assumption), .inl (g.fn x (by assumption))⟩
    · cases h
  · cases h
theorem gs_ok (g : Gd AD G Γ X κ d) {f : Expr → Option T} (hf : ∀ e t, f e = some t → PG X e (tG AD G c X t)) : ∀ {es : List Expr} {t : T}, argsT f es = some t → PGs X es (tGs AD G c X t) ∧ es.all notStar = true ∧ tlen t = es.length
  | [], t, h => by cases h; exact ⟨gs_nil, rfl, rfl⟩
  | e :: es, t, h => by
    rw [argsT] at h
    split at h
    · rename_i hs
      obtain ⟨a, h1, h⟩ := some_bind h
      obtain ⟨b, h2, rfl⟩ := some_map h
      obtain ⟨i1, i2, i3⟩ := gs_ok g hf h2
      exact ⟨gs_cons hs (hf e a h1) i1, by rw [List.all_cons, hs, i2]; rfl, by simp [tlen, i3]⟩
    · cases h
theorem stepG_ok {r : Rc} (E : EOk AD G Γ r) (g : Gd AD G Γ X κ d) {e : Expr} {t : T} (h : stepG r κ e = some t) : PG X e (tG AD G (cD G d) X t) := by
  unfold stepG at h
  split at h
  · obtain ⟨i, h1, rfl⟩ := some_map h
    obtain ⟨h2, h3, h4⟩ := store_at g h1
    exact g_name (pg_name (by rw [g.N]; exact g.nd) h2 h3 h4)
  · obtain ⟨b, h1, rfl⟩ := some_map h
    obtain ⟨i1, i2, i3⟩ := gs_ok g (fun e t h => E.g g e t h) h1
    exact g_tup g.calm i3 i2 i1 (evGs_len b)
  · split at h
    · rename_i hp
      obtain ⟨w, h1, h⟩ := some_bind h
      obtain ⟨v, h2, rfl⟩ := some_map h
      exact g_sub g.ru hp (E.e g _ _ h1) (E.e g _ _ h2)
    · cases h
  · cases h
theorem stepT_ok {r : Rc} (E : EOk AD G Γ r) (g : Gd AD G Γ X κ d) {e : Expr} {t : T} (h : stepT r κ e = some t) : PT X e (tT AD G (cD G d) X t) ∧ ∀ op es pos, e = .BoolOp op es pos → PW X e (tT AD G (cD G d) X t) := by
  cases e with
  | BoolOp op es pos =>
    have w : PW X (.BoolOp op es pos) (tT AD G (cD G d) X t) := by
      unfold stepT at h
      match es, h with
      | [], h => cases h; exact pw_skip
      | [a], h =>
        have h : r.t κ a = some t := h
        cases op with
        | And => exact t_and1 (E.t g _ _ h).1
        | Or => exact t_or1 (E.t g _ _ h).1
      | a :: b :: rr, h =>
        obtain ⟨x, h1, h⟩ := some_bind h
        obtain ⟨y, h2, h⟩ := some_map h
        cases op with
        | And => cases h; exact t_and (E.t g _ _ h1).1 ((E.t g _ _ h2).2 _ _ _ rfl)
        | Or => cases h; exact t_or (E.t g _ _ h1).1 ((E.t g _ _ h2).2 _ _ _ rfl)
    exact ⟨w.pt, fun _ _ _ _ => w⟩
  | UnaryOp op a pos =>
    refine ⟨?_, fun _ _ _ z => by cases z⟩
    cases op with
    | Not => obtain ⟨w, h1, rfl⟩ := some_map h; exact t_not (E.t g _ _ h1).1
    | _ => cases h; exact pt_skip
  | Compare a ops cs pos =>
    refine ⟨?_, fun _ _ _ z => by cases z⟩
    obtain ⟨w, h1, rfl⟩ := some_map h
    exact (cmp_ok g (fun e t h => E.e g e t h) h1).2
  | Name x pos => refine ⟨?_, fun _ _ _ z => by cases z⟩; obtain ⟨w, h1, rfl⟩ := some_map h; exact t_val (E.e g _ _ h1) (fun _ => rfl)
  | Call f as ks pos => refine ⟨?_, fun _ _ _ z => by cases z⟩; obtain ⟨w, h1, rfl⟩ := some_map h; exact t_val (E.e g _ _ h1) (fun _ => rfl)
  | Subscript f as pos => refine ⟨?_, fun _ _ _ z => by cases z⟩; obtain ⟨w, h1, rfl⟩ := some_map h; exact t_val (E.e g _ _ h1) (fun _ => rfl)
  | Attribute f as pos => refine ⟨?_, fun _ _ _ z => by cases z⟩; obtain ⟨w, h1, rfl⟩ := some_map h; exact t_val (E.e g _ _ h1) (fun _ => rfl)
  | BinOp f op as pos => refine ⟨?_, fun _ _ _ z => by cases z⟩; obtain ⟨w, h1, rfl⟩ := some_map h; exact t_val (E.e g _ _ h1) (fun _ => rfl)
  | _ => exact ⟨by cases h; exact pt_skip, fun _ _ _ z => by cases z⟩
end
end SL

set_option Elab.async false
set_option linter.all false
set_option maxRecDepth 100000
set_option maxHeartbeats 4000000
/-! Dict comprehensions of two clauses: the library's rule for lists of two clauses, turned to dicts. -/
namespace L2
open PySem PySem.Spec PyProof.Rows
theorem compTurn2_outD (kx vx t0 i0 t1 i1 : Expr) (ifs0 ifs1 : List Expr) (scope : Scope) (pos : Pos) (it : Value) (D : Addr) (env : Env) :
    compTurn (.DictComp kx vx [⟨t0, i0, ifs0, 0⟩, ⟨t1, i1, ifs1, 0⟩] scope pos) 0 it (.ref D) env = (do
      standAt i0.pos
      match ← pyNext it with
      | none => pure (.done .next)
      | some v =>
        letOwnedTupleGo t0 it v
        assign t0 env v
        let mut ok := true
        for c in ifs0 do
          if ok then ok ← isTrue c env (eval c env)
        if ok then
          let x ← eval i1 env
          standAt i1.pos
          let x ← foldedSetIterable i1 env x
          let _ ← runOwn (.compStart (.DictComp kx vx [⟨t0, i0, ifs0, 0⟩, ⟨t1, i1, ifs1, 0⟩] scope pos) 1 (← holding [x] (pyIter x)) (.ref D) env) env
        again (.compLoop (.DictComp kx vx [⟨t0, i0, ifs0, 0⟩, ⟨t1, i1, ifs1, 0⟩] scope pos) 0 it (.ref D) env)) := by rfl
theorem compTurn2_inD (kx vx t0 i0 t1 i1 : Expr) (ifs0 ifs1 : List Expr) (scope : Scope) (pos : Pos) (it : Value) (D : Addr) (env : Env) :
    compTurn (.DictComp kx vx [⟨t0, i0, ifs0, 0⟩, ⟨t1, i1, ifs1, 0⟩] scope pos) 1 it (.ref D) env = (do
      standAt i1.pos
      match ← pyNext it with
      | none => pure (.done .next)
      | some v =>
        letOwnedTupleGo t1 it v
        assign t1 env v
        let mut ok := true
        for c in ifs1 do
          if ok then ok ← isTrue c env (eval c env)
        if ok then
          (do
            let kv ← eval kx env
            let vv ← holding [kv] (eval vx env)
            standAt { kx.pos with endLine := vx.pos.endLine, endCol := vx.pos.endCol }
            holding [kv, vv] (dictSet D kv vv))
        again (.compLoop (.DictComp kx vx [⟨t0, i0, ifs0, 0⟩, ⟨t1, i1, ifs1, 0⟩] scope pos) 1 it (.ref D) env)) := by rfl

section
variable {prog : Program} {w : World} {A : Around} {R : Result → Shared → Prop} {s : Shared} {kx vx t0 i0 t1 i1 : Expr} {ifs0 ifs1 : List Expr} {scope : Scope} {pos : Pos} {it : Value} {D : Addr} {env : Env}
/-- the loop of the first clause -/
theorem compLoop2_outD (hs : ∀ x, foldedSetIterable i1 env x = pure x) (I : Nat → Shared → Prop)
    (turn : ∀ n s, I n s → wpAny (model prog w) A (pyNext it) (fun r s₁ => match r with
      | none => R (.ok .next) s₁
      | some v => wpAny (model prog w) A (letOwnedTupleGo t0 it v) (fun _ s₁' => wpAny (model prog w) A (assign t0 env v) (fun _ s₂ =>
          wpAny (model prog w) A (forIn ifs0 true fun c r => if r = true then do let ok ← isTrue c env (eval c env); pure (ForInStep.yield ok) else pure (ForInStep.yield r)) (fun ok s₃ =>
            if ok = true then wpAny (model prog w) A (eval i1 env) (fun x s₄ => wpAny (model prog w) A (pyIter x) (fun it1 s₅ =>
              codeAny (model prog w) A (.compStart (.DictComp kx vx [⟨t0, i0, ifs0, 0⟩, ⟨t1, i1, ifs1, 0⟩] scope pos) 1 it1 (.ref D) env) (fun r s' => match r with
                | .ok _ => ∃ m, m < n ∧ I m s'
                | .error _ => False) s₅) (notedBy (model prog w) A env fun e s' => R (.error e) s') s₄) (notedBy (model prog w) A env fun e s' => R (.error e) s') s₃
            else ∃ m, m < n ∧ I m s₃) (notedBy (model prog w) A env fun e s' => R (.error e) s') s₂) (notedBy (model prog w) A env fun e s' => R (.error e) s') s₁') (notedBy (model prog w) A env fun e s' => R (.error e) s') s₁) (notedBy (model prog w) A env fun e s' => R (.error e) s') s)
    (n : Nat) (h : I n s) :
    codeAny (model prog w) A (.compLoop (.DictComp kx vx [⟨t0, i0, ifs0, 0⟩, ⟨t1, i1, ifs1, 0⟩] scope pos) 0 it (.ref D) env) R s := by
  refine codeAny_loop rfl I (fun n s hI => ?_) n h
  show wpAny _ A ((compTurn (.DictComp kx vx [⟨t0, i0, ifs0, 0⟩, ⟨t1, i1, ifs1, 0⟩] scope pos) 0 it (.ref D) env).onRaise (fun x => do noteFrame x env; theTreesLotGoes x)) _ _ s
  refine wpAny_noted ?_
  rw [compTurn2_outD]
  refine wpAny_bind (wpAny_standAt (wpAny_bind (wpAny_mono (turn n s hI) (fun r s₁ h₁ => ?_) fun _ _ h' => h')))
  cases r with
  | none => exact wpAny_pure h₁
  | some v =>
    refine wpAny_bind (wpAny_mono h₁ (fun _ s₁' h₁' => ?_) fun _ _ h' => h')
    refine wpAny_bind (wpAny_mono h₁' (fun _ s₂ h₂ => wpAny_bind (wpAny_mono h₂ (fun ok s₃ h₃ => ?_) fun _ _ h' => h')) fun _ _ h' => h')
    cases ok with
    | false => exact wpAny_pure ⟨rfl, h₃⟩
    | true =>
      refine wpAny_bind (wpAny_mono h₃ (fun x s₄ h₄ => ?_) fun _ _ h' => h')
      refine wpAny_bind (wpAny_standAt (wpAny_bind (wpAny_of_eq (hs x) (wpAny_bind (wpAny_holding (wpAny_mono h₄ (fun it1 s₅ h₅ => ?_) fun _ _ h' => h'))))))
      refine wpAny_bind (wpAny_runOwn ?_)
      rw [Around.mark_none]
      refine codeAny_mono h₅ fun r s' hr => ?_
      cases r with
      | ok f =>
        first
          | exact wpAny_pure ⟨rfl, hr⟩
          | exact wpAny_bind (wpAny_pure (wpAny_pure ⟨rfl, hr⟩))
      | error e => exact hr.elim
/-- the loop of the second -/
theorem compLoop2_inD (I : Nat → Shared → Prop)
    (turn : ∀ n s, I n s → wpAny (model prog w) A (pyNext it) (fun r s₁ => match r with
      | none => R (.ok .next) s₁
      | some v => wpAny (model prog w) A (letOwnedTupleGo t1 it v) (fun _ s₁' => wpAny (model prog w) A (assign t1 env v) (fun _ s₂ =>
          wpAny (model prog w) A (forIn ifs1 true fun c r => if r = true then do let ok ← isTrue c env (eval c env); pure (ForInStep.yield ok) else pure (ForInStep.yield r)) (fun ok s₃ =>
            if ok = true then wpAny (model prog w) A (eval kx env) (fun kv s₄ => wpAny (model prog w) A (eval vx env) (fun vv s₅ =>
              wpAny (model prog w) A (dictSet D kv vv) (fun _ s₆ => ∃ m, m < n ∧ I m s₆) (notedBy (model prog w) A env fun e s' => R (.error e) s') s₅) (notedBy (model prog w) A env fun e s' => R (.error e) s') s₄) (notedBy (model prog w) A env fun e s' => R (.error e) s') s₃
            else ∃ m, m < n ∧ I m s₃) (notedBy (model prog w) A env fun e s' => R (.error e) s') s₂) (notedBy (model prog w) A env fun e s' => R (.error e) s') s₁') (notedBy (model prog w) A env fun e s' => R (.error e) s') s₁) (notedBy (model prog w) A env fun e s' => R (.error e) s') s)
    (n : Nat) (h : I n s) :
    codeAny (model prog w) A (.compLoop (.DictComp kx vx [⟨t0, i0, ifs0, 0⟩, ⟨t1, i1, ifs1, 0⟩] scope pos) 1 it (.ref D) env) R s := by
  refine codeAny_loop rfl I (fun n s hI => ?_) n h
  show wpAny _ A ((compTurn (.DictComp kx vx [⟨t0, i0, ifs0, 0⟩, ⟨t1, i1, ifs1, 0⟩] scope pos) 1 it (.ref D) env).onRaise (fun x => do noteFrame x env; theTreesLotGoes x)) _ _ s
  refine wpAny_noted ?_
  rw [compTurn2_inD]
  refine wpAny_bind (wpAny_standAt (wpAny_bind (wpAny_mono (turn n s hI) (fun r s₁ h₁ => ?_) fun _ _ h' => h')))
  cases r with
  | none => exact wpAny_pure h₁
  | some v =>
    refine wpAny_bind (wpAny_mono h₁ (fun _ s₁' h₁' => ?_) fun _ _ h' => h')
    refine wpAny_bind (wpAny_mono h₁' (fun _ s₂ h₂ => wpAny_bind (wpAny_mono h₂ (fun ok s₃ h₃ => ?_) fun _ _ h' => h')) fun _ _ h' => h')
    cases ok with
    | false => exact wpAny_pure ⟨rfl, h₃⟩
    | true =>
      exact wpAny_bind (wpAny_bind (wpAny_mono h₃ (fun kv s₄ h₄ => wpAny_bind (wpAny_holding (wpAny_mono h₄ (fun vv s₅ h₅ => wpAny_bind (wpAny_standAt (wpAny_holding (wpAny_mono h₅ (fun _ s₆ h₆ => wpAny_pure ⟨rfl, h₆⟩) fun _ _ h' => h')))) fun _ _ h' => h'))) fun _ _ h' => h'))
/-- the second clause's start -/
theorem compStart1_okD (h0 : codeAny (model prog w) A (.compLoop (.DictComp kx vx [⟨t0, i0, ifs0, 0⟩, ⟨t1, i1, ifs1, 0⟩] scope pos) 1 it (.ref D) env) R s)
    (h : wpAny (model prog w) A (pyIter it) (fun it' s' => codeAny (model prog w) A (.compLoop (.DictComp kx vx [⟨t0, i0, ifs0, 0⟩, ⟨t1, i1, ifs1, 0⟩] scope pos) 1 it' (.ref D) env) R s')
      (notedBy (model prog w) A env fun x s' => R (.error x) s') s) :
    codeAny (model prog w) A (.compStart (.DictComp kx vx [⟨t0, i0, ifs0, 0⟩, ⟨t1, i1, ifs1, 0⟩] scope pos) 1 it (.ref D) env) R s := by
  refine codeAny_of_tree ?_
  show wpAny _ _ ((compStart (.DictComp kx vx [⟨t0, i0, ifs0, 0⟩, ⟨t1, i1, ifs1, 0⟩] scope pos) 1 it (.ref D) env).onRaise (fun x => do noteFrame x env; standAt theWindowsPlace)) _ _ s
  refine wpAny_notedAt ?_
  unfold compStart
  show wpAny _ _ (ask >>= _) _ _ s
  refine wpAny_bind (wpAny_askSetting (wpAny_ite ?_))
  split
  · first
      | exact wpAny_bind (wpAny_pure (wpAny_pure (And.intro rfl h0)))
      | exact wpAny_pure (And.intro rfl h0)
  · first
      | exact wpAny_bind (wpAny_rule (wpAny_bind (wpAny_standAt (wpAny_bind (wpAny_mono h (fun it' s' h' => wpAny_pure (And.intro rfl h')) fun _ _ x => x)))))
      | (refine wpAny_bind (wpAny_rule ?_); show wpAny _ _ (standAt i1.pos >>= _) _ _ s; exact wpAny_bind (wpAny_standAt (wpAny_bind (wpAny_mono h (fun it' s' h' => wpAny_pure (And.intro rfl h')) fun _ _ x => x))))
end

section
variable {X : Cx}
/-- [elt for tg in iter if .. for tg1 in iter1 if ..]: behind the first clause's store and tests the second source's own loop, from which Nx is reached. vs: the block's names; vs1: those of the second target -/
def tDc2 (wi : TI) (g : TG) (tt : TT) (wi1 : TI) (g1 : TG) (tt1 : TT) (tk tv : TE) (vs vs1 : List Nat) : TE := fun σ H Q => wi σ H fun J H1 => ∀ D, H1 D = none → ∃ W : Nat → Nat → Hp → Prop, (∃ m, W 0 m (upd H1 D (.dK []))) ∧ ∀ i m H, W i m H →
  (J.stop i H ∧ Q (.ref D) H) ∨ (J.go i H ∧ ∃ Nx : Hp → Prop, (∀ H', Nx H' → ∃ m', m' < m ∧ W (i + 1) m' H') ∧ ∀ x H', J.yld i H x H' → g x (wipe σ vs) H' fun σ2 H2 => wipe σ2 vs = wipe σ vs ∧ tt σ2 H2 fun b H3 =>
    if b = true then wi1 σ2 H3 fun J1 H4 => ∃ W1 : Nat → Nat → Hp → Prop, (∃ m, W1 0 m H4) ∧ ∀ j k H, W1 j k H →
      (J1.stop j H ∧ Nx H) ∨ (J1.go j H ∧ ∃ Nx1 : Hp → Prop, (∀ H', Nx1 H' → ∃ k', k' < k ∧ W1 (j + 1) k' H') ∧ ∀ x H', J1.yld j H x H' → g1 x (wipe σ2 vs1) H' fun σ3 H5 => wipe σ3 vs1 = wipe σ2 vs1 ∧ tt1 σ3 H5 fun b H6 =>
        if b = true then tk σ3 H6 fun y H7 => tv σ3 H7 fun z H8 => ∃ kvs k, y = kV k ∧ H8 D = some (.dK kvs) ∧ kvs.length < sizeLine ∧ Nx1 (upd H8 D (.dK (L2.putK kvs k z))) else Nx1 H6)
    else Nx H3)
theorem dc2_core {pins : List (Addr × Obj)} {s : Shared} {σ : St} {H : Hp} {Q : VK} {kx vx tg iter tg1 iter1 : Expr} {ifs ifs1 : List Expr} {scope : Scope} {own : List (Str × Nat)} {vs1 : List Nat} {pos pos' : Pos} {wi wi1 : TI} {g g1 : TG} {tt tt1 : TT} {tk tv : TE} {use : Option (Value → Sem Unit)} {Qf : Value → Shared → Prop}
    (hc : X.calm = true) (hN : X.N.Nodup) (I : Inv X pins σ H s) (hi : PI X tg iter wi) (ok : BlkOk X.N X.env.scope scope own) (hv : ∀ i ∈ vs1, i ∈ own.map (·.2))
    (hg : ∀ (s : Shared) (H : Hp) (C : Addr) (cl : List (Str × Addr)) (fp : List Addr), PG (X.blk s H scope (compEnvC scope cl C X.env) fp) tg g) (ht : ∀ (s : Shared) (H : Hp) (C : Addr) (cl : List (Str × Addr)) (fp : List Addr), PTs (X.blk s H scope (compEnvC scope cl C X.env) fp) ifs tt)
    (hk : ∀ (s : Shared) (H : Hp) (C : Addr) (cl : List (Str × Addr)) (fp : List Addr), PE (X.blk s H scope (compEnvC scope cl C X.env) fp) kx tk)
    (he : ∀ (s : Shared) (H : Hp) (C : Addr) (cl : List (Str × Addr)) (fp : List Addr), PE (X.blk s H scope (compEnvC scope cl C X.env) fp) vx tv) (hs : ∀ x, foldedSetIterable iter X.env x = pure x)
    (hi1 : ∀ (s : Shared) (H : Hp) (C : Addr) (cl : List (Str × Addr)) (fp : List Addr), PI (X.blk s H scope (compEnvC scope cl C X.env) fp) tg1 iter1 wi1)
    (hg1 : ∀ (s : Shared) (H : Hp) (C : Addr) (cl : List (Str × Addr)) (fp : List Addr), PG (X.blk s H scope (compEnvC scope cl C X.env) fp) tg1 g1)
    (ht1 : ∀ (s : Shared) (H : Hp) (C : Addr) (cl : List (Str × Addr)) (fp : List Addr), PTs (X.blk s H scope (compEnvC scope cl C X.env) fp) ifs1 tt1)
    (hs1 : ∀ env x, foldedSetIterable iter1 env x = pure x)
    (h : tDc2 wi g tt wi1 g1 tt1 tk tv (own.map (·.2)) vs1 σ H Q)
    (hRR : ∀ D C s' m H', Inv X pins σ H' s' → Q (.ref D) H' → s'.heap.Ns C m → FpOk X pins H' C → compPost (model X.prog X.w) X.A X.xe use Qf (.ref D) C (.ok .next) s') :
    wpAny (model X.prog X.w) X.A (comprehension (.DictComp kx vx [⟨tg, iter, ifs, 0⟩, ⟨tg1, iter1, ifs1, 0⟩] scope pos) scope X.env pos' newDict false (eval iter X.env) use) Qf X.xe s := by
  have hfree : ∀ y ∈ scope.names, y.2 = .free → ∃ c, X.env.cells.lookup y.1 = some c := fun y hy e => by
    rcases ok.free y hy e with k | k
    · exact I.ok.has _ (.inl k)
    · exact I.ok.has _ (.inr k)
  refine wpAny_comprehension_free (use := use) rfl hs (closure_ok hfree) ok.kind (fun y hy e => by rw [ok.uniq y hy, e])
    (thn (hi.run pins s σ H _ I h) fun xv s1 hx => thn hx fun itv s2 h2 => ?_)
  obtain ⟨it, fp, tn, J, H2, e, I2, T, st2, f2, q⟩ := h2
  subst e
  refine wpAny_newObj_type (newEnv_comp ?_)
  generalize hD : s2.heap.objs.size = D
  have hDn : H2 D = none := I2.hok.fresh (Nat.le_of_eq hD)
  obtain ⟨W, ⟨m0, w0⟩, turn⟩ := q D hDn
  -- the new list
  generalize hs3 : ({ s2 with heap := s2.heap.push { cls := .type "dict", data := .dict #[] } } : Shared) = s3
  have I3 : Inv X pins σ (upd H2 D (.dK [])) s3 := by
    rw [← hs3]
    refine I2.laid (t' := s2.toks) (fun b o e => Heap.get?_push_of_some _ e) (Nat.le_of_eq hD) ?_
    rw [← hD]
    exact dk_empty s2.heap I2.big
  have h3 : s3.heap = s2.heap.push { cls := .type "dict", data := .dict #[] } := by rw [← hs3]
  have sz : ∀ b ∈ fp, b < s2.heap.objs.size := fun b hb => by
    obtain ⟨o, e, _⟩ := T.obj _ _ st2 b hb
    exact Heap.lt_size e
  have f3 : ∀ b ∈ fp, FpOk X pins (upd H2 D (.dK [])) b ∧ b < s3.heap.objs.size := fun b hb => by
    have hlt := sz b hb
    refine ⟨⟨?_, (f2 b hb).2⟩, by rw [h3, Heap.size_push]; exact Nat.lt_succ_of_lt hlt⟩
    rw [upd_ne (by rw [← hD]; exact Nat.ne_of_lt hlt)]
    exact (f2 b hb).1
  have st3 : tn 0 s3.heap := T.keep _ _ _ st2 fun b _ o e => by rw [h3]; exact Heap.get?_push_of_some _ e
  have I4 := block_start I3 ok hN f3
  have pg := hg s3 (upd H2 D (.dK [])) s3.heap.objs.size (cellsFrom (s3.heap.objs.size + 1) scope.names (cloFrom X.env.cells scope.names [])) fp
  have pt := ht s3 (upd H2 D (.dK [])) s3.heap.objs.size (cellsFrom (s3.heap.objs.size + 1) scope.names (cloFrom X.env.cells scope.names [])) fp
  have pk := hk s3 (upd H2 D (.dK [])) s3.heap.objs.size (cellsFrom (s3.heap.objs.size + 1) scope.names (cloFrom X.env.cells scope.names [])) fp
  have pe := he s3 (upd H2 D (.dK [])) s3.heap.objs.size (cellsFrom (s3.heap.objs.size + 1) scope.names (cloFrom X.env.cells scope.names [])) fp
  have pi1 := hi1 s3 (upd H2 D (.dK [])) s3.heap.objs.size (cellsFrom (s3.heap.objs.size + 1) scope.names (cloFrom X.env.cells scope.names [])) fp
  have pg1 := hg1 s3 (upd H2 D (.dK [])) s3.heap.objs.size (cellsFrom (s3.heap.objs.size + 1) scope.names (cloFrom X.env.cells scope.names [])) fp
  have pt1 := ht1 s3 (upd H2 D (.dK [])) s3.heap.objs.size (cellsFrom (s3.heap.objs.size + 1) scope.names (cloFrom X.env.cells scope.names [])) fp
  show codeAny _ _ (.compStart (.DictComp kx vx [⟨tg, iter, ifs, 0⟩, ⟨tg1, iter1, ifs1, 0⟩] scope pos) 0 (.ref it) (.ref D) (compEnvC scope (cellsFrom (s3.heap.objs.size + 1) scope.names (cloFrom X.env.cells scope.names [])) s3.heap.objs.size X.env)) (compPost (model X.prog X.w) X.A X.xe use Qf (.ref D) s3.heap.objs.size) { s3 with heap := pushCells (s3.heap.push { cls := .type "dict", data := .dict #[] }) scope.names }
  have nfp : ∀ b ∈ fp, (upd H2 D (.dK [])) b = none := fun b hb => (f3 b hb).1.1
  generalize hce : compEnvC scope (cellsFrom (s3.heap.objs.size + 1) scope.names (cloFrom X.env.cells scope.names [])) s3.heap.objs.size X.env = ce at I4 pg pt pk pe pi1 pg1 pt1 ⊢
  have cL : ce.locals = s3.heap.objs.size := by subst hce; rfl
  generalize hH3 : upd H2 D (.dK []) = H3 at I3 I4 pg pt pk pe pi1 pg1 pt1 w0 nfp f3
  generalize hs4 : ({ s3 with heap := pushCells (s3.heap.push { cls := .type "dict", data := .dict #[] }) scope.names } : Shared) = s4 at I4 ⊢
  have st4 : tn 0 s4.heap := T.keep _ _ _ st3 fun b _ o e => by rw [← hs4]; exact pushCells_keeps _ _ _ _ (Heap.get?_push_of_some _ e)
  have stat : ∀ {σ' : St} {H' : Hp} {s' : Shared}, Inv (X.blk s3 H3 scope ce fp) [] σ' H' s' → (∀ b ∈ fp, H' b = none) → ∀ b ∈ fp, FpOk (X.blk s3 H3 scope ce fp) [] H' b := fun {σ' H' s'} I' hn b hb =>
    ⟨hn b hb, (I'.ok.exf b hb).1, I'.ok.exfs b hb, .inl hb, fun x c e => (I'.ok.exf b hb).2 x c e, fun p hp => absurd (show p ∈ ([] : List (Addr × Obj)) ++ [] from hp) (by simp)⟩
  have loop : codeAny (model X.prog X.w) X.A (.compLoop (.DictComp kx vx [⟨tg, iter, ifs, 0⟩, ⟨tg1, iter1, ifs1, 0⟩] scope pos) 0 (.ref it) (.ref D) ce) (compPost (model X.prog X.w) X.A X.xe use Qf (.ref D) s3.heap.objs.size) s4 := by
    refine compLoop2_outD (hs1 ce) (fun n s' => ∃ i H', Inv (X.blk s3 H3 scope ce fp) [] (wipe σ (own.map (·.2))) H' s' ∧ tn i s'.heap ∧ (∀ b ∈ fp, H' b = none) ∧ W i n H') ?_ m0 ⟨0, H3, I4, st4, nfp, w0⟩
    rintro n s5 ⟨i, H5, I5, st5, n5, w5⟩
    rcases turn i n H5 w5 with ⟨stop, qq⟩ | ⟨go, Nx, hNx, step⟩
    · have td := T.done (X.blk s3 H3 scope ce fp) rfl rfl rfl hc i [] s5 _ H5 (fun _ _ => False) I5 (stat I5 n5) st5 stop
      refine thnF td fun r s6 ⟨hr, I6⟩ => ?_
      subst hr
      -- back in the def's context
      have I7 : Inv X pins σ H5 s6 := I3.call' (ch := fp) I6.os I6.base I6.hok I6.bare fun b hb => ⟨(f3 b hb).1.2.2.2.1, (f3 b hb).1.2.1, (f3 b hb).1.2.2.2.2.1, (f3 b hb).1.2.2.2.2.2⟩
      have nC : H5 s3.heap.objs.size = none := by
        have z : H5 ce.locals = none := I6.free
        rw [cL] at z
        exact z
      obtain ⟨m, hn, _⟩ := I6.loc
      have hn : s6.heap.Ns ce.locals m := hn
      rw [cL] at hn
      exact hRR D s3.heap.objs.size s6 m H5 I7 qq hn (I3.fpOk (Nat.le_refl _) nC)
    · have ti := T.item (X.blk s3 H3 scope ce fp) rfl rfl rfl hc i [] s5 _ H5 (fun _ _ => False) I5 (stat I5 n5) st5 go
      refine thnF ti fun r s6 ⟨u, hr, h6⟩ => ?_
      subst hr
      refine thnF h6 fun _ s7 ⟨x, H7, I7, r7, y7, st7, n7⟩ => ?_
      have I7' := I7.pinned (stat I7 n7) (T.obj _ _ st7)
      refine thnF (pg.run _ s7 _ H7 x u _ I7' r7 (step x H7 y7)) fun _ s8 ⟨σ8, H8, I8, hw8, q8⟩ => ?_
      refine thnF (pt.run _ s8 σ8 H8 _ I8 q8) fun b s9 ⟨H9, I9, q9⟩ => ?_
      -- the turn's end, from any slots that know what the block knew at its start
      have fin : ∀ {σ9 : St} {s' : Shared} {H' : Hp}, Inv (X.blk s3 H3 scope ce fp) ([] ++ pinsAt fp s7.heap) σ9 H' s' → (wipe σ (own.map (·.2))).length = σ9.length → (∀ (j : Nat) v, (wipe σ (own.map (·.2)))[j]? = some (some v) → σ9[j]? = some (some v)) → Nx H' →
          ∃ m, m < n ∧ ∃ i H', Inv (X.blk s3 H3 scope ce fp) [] (wipe σ (own.map (·.2))) H' s' ∧ tn i s'.heap ∧ (∀ b ∈ fp, H' b = none) ∧ W i m H' := fun {σ9 s' H'} I' hl hk nx => by
        obtain ⟨m', hm, w'⟩ := hNx H' nx
        have pin' : ∀ b ∈ fp, ∀ o, s7.heap.get? b = some o → s'.heap.get? b = some o ∧ H' b = none := fun b hb o e =>
          let z := I'.pin (b, o) (List.mem_append_right _ (List.mem_append_right _ (mem_pinsAt hb e)))
          ⟨z.1, z.2.1⟩
        refine ⟨m', hm, i + 1, H', (I'.unpinned (pins := [])).weak hl hk, T.keep _ _ _ st7 fun b hb o e => (pin' b hb o e).1, fun b hb => ?_, w'⟩
        obtain ⟨o, e, _⟩ := T.obj _ _ st7 b hb
        exact (pin' b hb o e).2
      have hl8 : (wipe σ (own.map (·.2))).length = σ8.length := by rw [← hw8, wipe_length]
      have hk8 : ∀ (j : Nat) v, (wipe σ (own.map (·.2)))[j]? = some (some v) → σ8[j]? = some (some v) := fun j v e => by
        rw [← hw8] at e
        exact (wipe_some e).1
      have hk9 : ∀ (j : Nat) v, (wipe σ (own.map (·.2)))[j]? = some (some v) → (wipe σ8 vs1)[j]? = some (some v) := fun j v e => by
        rw [← hw8] at e
        obtain ⟨e1, e2⟩ := wipe_some e
        rw [wipe_out fun z => e2 (hv j z)]
        exact e1
      cases b with
      | false =>
        simp only [Bool.false_eq_true, if_false] at q9 ⊢
        exact fin I9 hl8 hk8 q9
      | true =>
        simp only [if_true] at q9 ⊢
        refine thnF (pi1.run _ s9 σ8 H9 _ I9 q9) fun xv s10 hx => thnF hx fun itv s11 h11 => ?_
        obtain ⟨it1, fp1, tn1, J1, H11, e1, I11, T1, st11, f11, W1, ⟨m1, w1⟩, turn1⟩ := h11
        subst e1
        -- the inner loop
        have stat1 : ∀ {H' : Hp}, (∀ b ∈ fp1, H' b = none) → ∀ b ∈ fp1, FpOk (X.blk s3 H3 scope ce fp) ([] ++ pinsAt fp s7.heap) H' b := fun hn b hb => ⟨hn b hb, (f11 b hb).2⟩
        have loop1 : codeAny (model X.prog X.w) X.A (.compLoop (.DictComp kx vx [⟨tg, iter, ifs, 0⟩, ⟨tg1, iter1, ifs1, 0⟩] scope pos) 1 (.ref it1) (.ref D) ce)
            (fun r s' => match r with
              | .ok _ => ∃ m, m < n ∧ ∃ i H', Inv (X.blk s3 H3 scope ce fp) [] (wipe σ (own.map (·.2))) H' s' ∧ tn i s'.heap ∧ (∀ b ∈ fp, H' b = none) ∧ W i m H'
              | .error _ => False) s11 := by
          refine compLoop2_inD (fun k s' => ∃ j H', Inv (X.blk s3 H3 scope ce fp) ([] ++ pinsAt fp s7.heap) (wipe σ8 vs1) H' s' ∧ tn1 j s'.heap ∧ (∀ b ∈ fp1, H' b = none) ∧ W1 j k H') ?_ m1 ⟨0, H11, I11.weak (wipe_length _ _) (fun j v e => (wipe_some e).1), st11, fun b hb => (f11 b hb).1, w1⟩
          rintro k s12 ⟨j, H12, I12, st12, n12, w12⟩
          rcases turn1 j k H12 w12 with ⟨stop1, nx1⟩ | ⟨go1, Nx1, hNx1, step1⟩
          · refine thnF (T1.done (X.blk s3 H3 scope ce fp) rfl rfl rfl hc j _ s12 (wipe σ8 vs1) H12 (fun _ _ => False) I12 (stat1 n12) st12 stop1) fun r s13 ⟨hr, I13⟩ => ?_
            subst hr
            exact fin I13 (hl8.trans (wipe_length σ8 vs1).symm) hk9 nx1
          · refine thnF (T1.item (X.blk s3 H3 scope ce fp) rfl rfl rfl hc j _ s12 (wipe σ8 vs1) H12 (fun _ _ => False) I12 (stat1 n12) st12 go1) fun r s13 ⟨u1, hr, h13⟩ => ?_
            subst hr
            refine thnF h13 fun _ s14 ⟨x1, H14, I14, r14, y14, st14, n14⟩ => ?_
            have I14' := I14.pinned (stat1 n14) (T1.obj _ _ st14)
            refine thnF (pg1.run _ s14 (wipe σ8 vs1) H14 x1 u1 _ I14' r14 (step1 x1 H14 y14)) fun _ s15 ⟨σ15, H15, I15, hw15, q15⟩ => ?_
            refine thnF (pt1.run _ s15 σ15 H15 _ I15 q15) fun b1 s16 ⟨H16, I16, q16⟩ => ?_
            have fin1 : ∀ {s' : Shared} {H' : Hp}, Inv (X.blk s3 H3 scope ce fp) (([] ++ pinsAt fp s7.heap) ++ pinsAt fp1 s14.heap) σ15 H' s' → Nx1 H' → ∃ m, m < k ∧ ∃ j H', Inv (X.blk s3 H3 scope ce fp) ([] ++ pinsAt fp s7.heap) (wipe σ8 vs1) H' s' ∧ tn1 j s'.heap ∧ (∀ b ∈ fp1, H' b = none) ∧ W1 j m H' := fun {s' H'} I' nx => by
              obtain ⟨m', hm, w'⟩ := hNx1 H' nx
              have pin' : ∀ b ∈ fp1, ∀ o, s14.heap.get? b = some o → s'.heap.get? b = some o ∧ H' b = none := fun b hb o e =>
                let z := I'.pin (b, o) (List.mem_append_right _ (List.mem_append_right _ (mem_pinsAt hb e)))
                ⟨z.1, z.2.1⟩
              refine ⟨m', hm, j + 1, H', I'.unpinned.weak (by rw [← hw15, wipe_length]) (fun j v e => by rw [← hw15] at e; exact (wipe_some e).1), T1.keep _ _ _ st14 fun b hb o e => (pin' b hb o e).1, fun b hb => ?_, w'⟩
              obtain ⟨o, e, _⟩ := T1.obj _ _ st14 b hb
              exact (pin' b hb o e).2
            cases b1 with
            | false =>
              simp only [Bool.false_eq_true, if_false] at q16 ⊢
              exact fin1 I16 q16
            | true =>
              simp only [if_true] at q16 ⊢
              refine thnF (pk.run _ s16 σ15 H16 _ I16 q16) fun z s17 ⟨yk, H17, I17, r17, q17⟩ => ?_
              refine thnF (pe.run _ s17 σ15 H17 _ I17 q17) fun z2 s18 ⟨yv, H18, I18, r18, kvs, kk, ek, hD18, hz18, nx⟩ => ?_
              subst ek
              exact d_dictSet (X := X.blk s3 H3 scope ce fp) I18 hD18 hz18 r17 r18 fun s19 I19 => fin1 I19 nx
        exact compStart1_okD loop1 (T1.self X.A 0 _ _ _ st11 loop1)
  exact codeAny_compStart_dict loop (T.self X.A 0 _ _ _ st4 loop)
end
end L2

set_option Elab.async false
set_option linter.all false
set_option maxRecDepth 100000
set_option maxHeartbeats 4000000
/-! The evaluator over the hand layer: dict comprehensions of two clauses, the whole of the expressions. -/
namespace SL
open PySem PySem.Spec L2
open PyProof.Rows hiding St
open PySem.W (Frag)
section
variable {AD : Str → Option Addr} {X : Cx} {G : Env} {Γ : CE} {κ : Ctx} {n d : Nat} {c : Calls}
theorem pe_dc2 {kx vx tg iter tg1 iter1 : Expr} {ifs ifs1 : List Expr} {scope : Scope} {own : List (Str × Nat)} {vs1 : List Nat} {pos : Pos} {wi wi1 : TI} {g g1 : TG} {tt tt1 : TT} {tk tv : TE} (hc : X.calm = true) (hN : X.N.Nodup) (hi : PI X tg iter wi) (ok : BlkOk X.N X.env.scope scope own) (hv : ∀ i ∈ vs1, i ∈ own.map (·.2))
    (hg : ∀ (s : Shared) (H : Hp) (C : Addr) (cl : List (Str × Addr)) (fp : List Addr), PG (X.blk s H scope (compEnvC scope cl C X.env) fp) tg g) (ht : ∀ (s : Shared) (H : Hp) (C : Addr) (cl : List (Str × Addr)) (fp : List Addr), PTs (X.blk s H scope (compEnvC scope cl C X.env) fp) ifs tt)
    (hi1 : ∀ (s : Shared) (H : Hp) (C : Addr) (cl : List (Str × Addr)) (fp : List Addr), PI (X.blk s H scope (compEnvC scope cl C X.env) fp) tg1 iter1 wi1) (hg1 : ∀ (s : Shared) (H : Hp) (C : Addr) (cl : List (Str × Addr)) (fp : List Addr), PG (X.blk s H scope (compEnvC scope cl C X.env) fp) tg1 g1) (ht1 : ∀ (s : Shared) (H : Hp) (C : Addr) (cl : List (Str × Addr)) (fp : List Addr), PTs (X.blk s H scope (compEnvC scope cl C X.env) fp) ifs1 tt1)
    (hk : ∀ (s : Shared) (H : Hp) (C : Addr) (cl : List (Str × Addr)) (fp : List Addr), PE (X.blk s H scope (compEnvC scope cl C X.env) fp) kx tk) (he : ∀ (s : Shared) (H : Hp) (C : Addr) (cl : List (Str × Addr)) (fp : List Addr), PE (X.blk s H scope (compEnvC scope cl C X.env) fp) vx tv) (hs : ∀ x, foldedSetIterable iter X.env x = pure x) (hs1 : ∀ env x, foldedSetIterable iter1 env x = pure x) :
    PE X (.DictComp kx vx [⟨tg, iter, ifs, 0⟩, ⟨tg1, iter1, ifs1, 0⟩] scope pos) (tDc2 wi g tt wi1 g1 tt1 tk tv (own.map (·.2)) vs1) := by
  refine ⟨fun pins s σ H Q I h => ?_⟩
  rw [arm_eval_DictComp]
  refine dc2_core hc hN I hi ok hv hg ht hk he hs hi1 hg1 ht1 hs1 h fun D C s' m H' I' q hn f => ⟨m, hn, fun h'' sb => ?_⟩
  obtain ⟨f0, f1, f2, f3, f4, f5⟩ := f
  exact ⟨.ref D, H', I'.turned (t' := s'.toks) (fun b o hb e => (sb.2 b hb).trans e) f0 f1 f3 f4 f5, rfl, q⟩
theorem ps_setDc2 {j : Nat} {y : Str} {py spos : Pos} {kx vx tg iter tg1 iter1 : Expr} {ifs ifs1 : List Expr} {scope : Scope} {own : List (Str × Nat)} {vs1 : List Nat} {pos : Pos} {wi wi1 : TI} {g g1 : TG} {tt tt1 : TT} {tk tv : TE} (hc : X.calm = true) (hN : X.N.Nodup) (hy : X.N[j]? = some y) (hyl : X.env.scope.names.lookup y = some .local)
    (hsw : swapsWith (.DictComp kx vx [⟨tg, iter, ifs, 0⟩, ⟨tg1, iter1, ifs1, 0⟩] scope pos) (some (.Name y py)) spos.line X.env = pure true) (hi : PI X tg iter wi) (ok : BlkOk X.N X.env.scope scope own) (hv : ∀ i ∈ vs1, i ∈ own.map (·.2))
    (hg : ∀ (s : Shared) (H : Hp) (C : Addr) (cl : List (Str × Addr)) (fp : List Addr), PG (X.blk s H scope (compEnvC scope cl C X.env) fp) tg g) (ht : ∀ (s : Shared) (H : Hp) (C : Addr) (cl : List (Str × Addr)) (fp : List Addr), PTs (X.blk s H scope (compEnvC scope cl C X.env) fp) ifs tt)
    (hi1 : ∀ (s : Shared) (H : Hp) (C : Addr) (cl : List (Str × Addr)) (fp : List Addr), PI (X.blk s H scope (compEnvC scope cl C X.env) fp) tg1 iter1 wi1) (hg1 : ∀ (s : Shared) (H : Hp) (C : Addr) (cl : List (Str × Addr)) (fp : List Addr), PG (X.blk s H scope (compEnvC scope cl C X.env) fp) tg1 g1) (ht1 : ∀ (s : Shared) (H : Hp) (C : Addr) (cl : List (Str × Addr)) (fp : List Addr), PTs (X.blk s H scope (compEnvC scope cl C X.env) fp) ifs1 tt1)
    (hk : ∀ (s : Shared) (H : Hp) (C : Addr) (cl : List (Str × Addr)) (fp : List Addr), PE (X.blk s H scope (compEnvC scope cl C X.env) fp) kx tk) (he : ∀ (s : Shared) (H : Hp) (C : Addr) (cl : List (Str × Addr)) (fp : List Addr), PE (X.blk s H scope (compEnvC scope cl C X.env) fp) vx tv) (hs : ∀ x, foldedSetIterable iter X.env x = pure x) (hs1 : ∀ env x, foldedSetIterable iter1 env x = pure x) :
    PS X (.Assign [.Name y py] (.DictComp kx vx [⟨tg, iter, ifs, 0⟩, ⟨tg1, iter1, ifs1, 0⟩] scope pos) spos) (tAsg (tDc2 wi g tt wi1 g1 tt1 tk tv (own.map (·.2)) vs1) (gName j)) := by
  refine ⟨fun pins s σ H D I h => ?_⟩
  rw [exec_Assign_Name_used _ _ _ _ hsw]
  refine wpAny_bind (wpAny_standAt (wpAny_bind ?_))
  show wpAny _ X.A (do let _ ← comprehension (.DictComp kx vx [⟨tg, iter, ifs, 0⟩, ⟨tg1, iter1, ifs1, 0⟩] scope pos) scope X.env (firstIterPos [⟨tg, iter, ifs, 0⟩, ⟨tg1, iter1, ifs1, 0⟩] pos) newDict false (eval iter X.env) (some (assign (.Name y py) X.env))) _ _ s
  have h : tDc2 wi g tt wi1 g1 tt1 tk tv (own.map (·.2)) vs1 σ H (fun x H1 => gName j x σ H1 D.nx) := h
  refine wpAny_bind (thn (dc2_core (Qf := fun _ s' => SP X pins D .next s') hc hN I hi ok hv hg ht hk he hs hi1 hg1 ht1 hs1 h fun L C s' m H' I' q hn f => ?_) fun _ s' hq => wpAny_pure (wpAny_pure hq))
  show wpAny _ _ (assign (.Name y py) X.env (.ref L)) _ _ _
  refine wpAny_assign_Name (store_ok2 (v := V.ref L) I' hN hy (.inl hyl) rfl (fun s2 I2 ⟨a, sb, ha⟩ => ?_) (.inr hyl))
  obtain ⟨f0, f1, f2, f3, f4, f5⟩ := f
  have haC : C ≠ a := by
    rcases ha with z | z
    · rw [z]; exact f1
    · exact fun e => f4 y a z e.symm
  refine ⟨m, hn.sameBut sb haC, fun h3 sb3 => ?_⟩
  exact ⟨_, H', I2.turned (t' := s2.toks) (fun b o hb e => (sb3.2 b hb).trans e) f0 f1 f3 f4 f5, q⟩
/-- two clauses -/
theorem dcomp2_read {own own1 : List Nat} {i e k0 t cnd t1 i1 cnd1 : T} (ho : ∀ k ∈ slotsL t, k ∈ own) (ho1 : ∀ k ∈ slotsL t1, k ∈ own1) {σ : St} {H : Hp} {Q : VK} (hw : tE AD G c X (.dcomp2 k0 e t i cnd t1 i1 cnd1 own own1) σ H Q) :
    tDc2 (tI AD G c X i) (tG0 AD G c t) (tT0 AD G c cnd) (tI0 AD G c i1) (tG0 AD G c t1) (tT0 AD G c cnd1) (tE0 AD G c k0) (tE0 AD G c e) own own1 σ H Q := by
  obtain ⟨ρ, sg, h, r, q, p⟩ := hw
  rw [evE] at p
  refine ⟨ρ, sg, h, r, q, Post.step p fun ρ1 h1 it J H1 e1 r1 j1 p1 D hD => ?_⟩
  obtain ⟨u, h6, er, pf⟩ := calm_bind p1
  have hid : (ρ1 ++ [D])[h1.length]? = some D := by rw [← r1.len, List.getElem?_append_right (Nat.le_refl _)]; simp
  have r2 := r1.new (o := .dic []) (ho := .dK []) hD ⟨[], upd_same, .nil⟩
  refine ⟨fun k m H => ∃ ρ h, (ρ1 ++ [D]) <+: ρ ∧ Rep AD ρ h H ∧ SR AD ρ sg σ ∧ Post0 AD ρ (compL it (fun v h2 => (evG G c t v (wipe sg own) h2).bind fun σ2 h3 => (evT G c cnd σ2 h3).bind fun b h4 =>
        if b = true then (evI G c i1 (wipe σ2 own1) h4).bind fun J1 h5 => compL J1 (fun v1 h6 => (evG G c t1 v1 (wipe σ2 own1) h6).bind fun σ3 h7 => (evT G c cnd1 σ3 h7).bind fun b1 h8 =>
          if b1 = true then (evE G c k0 σ3 h8).bind fun y h9 => (evE G c e σ3 h9).bind fun z h10 => putDic h1.length y z h10 else .ok () h8) bigW 0 h5 else .ok () h4) m k h) (fun _ _ (_ : Unit) => True) (fun _ H => Q (.ref D) H),
    ⟨bigW, ρ1 ++ [D], h1 ++ [.dic []], List.prefix_refl _, r2, q.mono (e1.trans (List.prefix_append _ _)), by
      rw [er]
      exact fun ρ3 H3 _ e3 r3 _ => pf ρ3 H3 _ ((List.prefix_append _ _).trans e3) r3 (vref (pre_at hid e3))⟩, ?_⟩
  rintro k m H3 ⟨ρ3, h3, e3, r3, q3, p3⟩
  cases m with
  | zero => exact p3.elim
  | succ m =>
    rcases comp_turn (j1.mono (List.prefix_append ρ1 [D])) e3 r3 p3 with st | ⟨go, step⟩
    · exact .inl st
    · refine .inr ⟨go, _, fun H' w => ⟨m, Nat.lt_succ_self m, w⟩, fun x H' y => ?_⟩
      obtain ⟨ρ4, v, h4, e4, r4, v4, p4⟩ := step x H' y
      simp only [R.bind_assoc] at p4
      refine ⟨ρ4, wipe sg own, h4, v, r4, sr_wipe (q3.mono e4) own, v4, Post0.step p4 fun ρ5 h5 sg5 σ5 H5 e5 r5 q5 p5 => ⟨?_, ρ5, sg5, h5, r5, q5.1, Post0.step p5 fun ρ6 h6 b b' H6 e6 r6 eb p6 => ?_⟩⟩
      · rw [wipe_eq (σV0 := L2.wipe σ own) q5.2.1 q5.2.2 ho]
        apply List.ext_getElem?
        intro i
        rw [wipe_get, wipe_get, L2.wipe_length]
        by_cases c : i ∈ own <;> simp [c]
      · subst eb
        have e36 := ((e3.trans e4).trans e5).trans e6
        have q6 := ((q3.mono e4).mono e5).mono e6
        cases b with
        | false => exact iteF ⟨ρ6, h6, e36, r6, q6, p6⟩
        | true =>
          simp only [if_true, R.bind_assoc] at p6
          refine iteT ⟨ρ6, wipe sg5 own1, h6, r6, sr_wipeL (q5.1.mono e6) own1, Post0.step p6 fun ρ7 h7 it1 J1 H7 e7 r7 j7 p7 => ?_⟩
          refine ⟨fun j k H => ∃ ρ h, ρ7 <+: ρ ∧ Rep AD ρ h H ∧ Post0 AD ρ ((compL it1 (fun v1 h6 => (evG G c t1 v1 (wipe sg5 own1) h6).bind fun σ3 h7 => (evT G c cnd1 σ3 h7).bind fun b1 h8 =>
              if b1 = true then (evE G c k0 σ3 h8).bind fun y h9 => (evE G c e σ3 h9).bind fun z h10 => putDic h1.length y z h10 else .ok () h8) k j h).bind fun _ h2 => compL it (fun v h2 => (evG G c t v (wipe sg own) h2).bind fun σ2 h3 => (evT G c cnd σ2 h3).bind fun b h4 =>
        if b = true then (evI G c i1 (wipe σ2 own1) h4).bind fun J1 h5 => compL J1 (fun v1 h6 => (evG G c t1 v1 (wipe σ2 own1) h6).bind fun σ3 h7 => (evT G c cnd1 σ3 h7).bind fun b1 h8 =>
          if b1 = true then (evE G c k0 σ3 h8).bind fun y h9 => (evE G c e σ3 h9).bind fun z h10 => putDic h1.length y z h10 else .ok () h8) bigW 0 h5 else .ok () h4) m _ h2) (fun _ _ (_ : Unit) => True) (fun _ H => Q (.ref D) H),
            ⟨bigW, ρ7, h7, List.prefix_refl _, r7, p7⟩, ?_⟩
          rintro j k2 H8 ⟨ρ8, h8, e8, r8, p8⟩
          cases k2 with
          | zero => exact p8.elim
          | succ k2 =>
            have e38 := (e36.trans e7).trans e8
            have q8 := (q6.mono e7).mono e8
            rcases comp_turnK j7 e8 r8 p8 with ⟨st, ps⟩ | ⟨go1, step1⟩
            · exact .inl ⟨st, ρ8, h8, e38, r8, q8, ps⟩
            · refine .inr ⟨go1, _, fun H' w => ⟨k2, Nat.lt_succ_self k2, w⟩, fun x H' y => ?_⟩
              obtain ⟨ρ9, v9, h9, e9, r9, v9r, p9⟩ := step1 x H' y
              simp only [R.bind_assoc] at p9
              have q79 := ((q5.1.mono e6).mono e7).mono (e8.trans e9)
              refine ⟨ρ9, wipe sg5 own1, h9, v9, r9, sr_wipe q79 own1, v9r, Post0.step p9 fun ρA hA sgA σA HA eA rA qA pA => ⟨?_, ρA, sgA, hA, rA, qA.1, Post0.step pA fun ρB hB b b' HB eB rB ebb pB => ?_⟩⟩
              · rw [wipe_eq (σV0 := L2.wipe σ5 own1) qA.2.1 qA.2.2 ho1]
                apply List.ext_getElem?
                intro i
                rw [wipe_get, wipe_get, L2.wipe_length]
                by_cases c : i ∈ own1 <;> simp [c]
              · subst ebb
                have e7B := ((e8.trans e9).trans eA).trans eB
                cases b with
                | false => exact iteF ⟨ρB, hB, e7B, rB, pB⟩
                | true =>
                  simp only [if_true, R.bind_assoc] at pB
                  refine iteT ⟨ρB, sgA, hB, rB, qA.1.mono eB, Post0.step pB fun ρC hC y yv HC eC rC yC pC => ⟨ρC, sgA, hC, rC, (qA.1.mono eB).mono eC, Post0.step pC fun ρD hD' z zv HD eD rD zD pD => ?_⟩⟩
                  unfold putDic at pD
                  split at pD
                  · rename_i zs kk hn hk
                    split at pD
                    · rename_i hl
                      have hDC := pre_at hid ((((e36.trans e7).trans e7B).trans eC).trans eD)
                      obtain ⟨ad, had, ead, ys, k1, k2'⟩ := rD.ref (vref hDC) hn
                      cases ead
                      exact ⟨ys, kk, key_of (yC.mono eD) hk, k1, by rw [← Paired.length k2']; exact hl, ρD, hD'.set h1.length (.dic (putK zs kk z)), (e7B.trans eC).trans eD, rD.set (o := .dic (putK zs kk z)) (ho := .dK (L2.putK ys kk zv)) hDC ⟨_, upd_same, ksr_put k2' kk zD⟩, pD⟩
                    · exact pD.elim
                  · exact pD.elim

theorem s_dcomp2 {tg iter tg1 iter1 ek ea : Expr} {ifs ifs1 : List Expr} {scope : Scope} {own : List (Str × Nat)} {t i cnd t1 i1 cnd1 k a : T} {pos : Pos} (hc : X.calm = true) (hN : X.N.Nodup) (ok : BlkOk X.N X.env.scope scope own) (ho : ∀ k ∈ slotsL t, k ∈ own.map (·.2)) (ho1 : ∀ k ∈ slotsL t1, k ∈ own.map (·.2)) (hi : PI X tg iter (tI AD G c X i)) (hs : ∀ env x, foldedSetIterable iter env x = pure x) (hs1 : ∀ env x, foldedSetIterable iter1 env x = pure x)
    (hg : ∀ (s : Shared) (H : Hp) (C : Addr) (cl : List (Str × Addr)) (fp : List Addr), PG (X.blk s H scope (compEnvC scope cl C X.env) fp) tg (tG0 AD G c t)) (ht : ∀ (s : Shared) (H : Hp) (C : Addr) (cl : List (Str × Addr)) (fp : List Addr), PTs (X.blk s H scope (compEnvC scope cl C X.env) fp) ifs (tT0 AD G c cnd))
    (hi1 : ∀ (s : Shared) (H : Hp) (C : Addr) (cl : List (Str × Addr)) (fp : List Addr), PI (X.blk s H scope (compEnvC scope cl C X.env) fp) tg1 iter1 (tI0 AD G c i1)) (hg1 : ∀ (s : Shared) (H : Hp) (C : Addr) (cl : List (Str × Addr)) (fp : List Addr), PG (X.blk s H scope (compEnvC scope cl C X.env) fp) tg1 (tG0 AD G c t1)) (ht1 : ∀ (s : Shared) (H : Hp) (C : Addr) (cl : List (Str × Addr)) (fp : List Addr), PTs (X.blk s H scope (compEnvC scope cl C X.env) fp) ifs1 (tT0 AD G c cnd1))
    (hk : ∀ (s : Shared) (H : Hp) (C : Addr) (cl : List (Str × Addr)) (fp : List Addr), PE (X.blk s H scope (compEnvC scope cl C X.env) fp) ek (tE0 AD G c k)) (he : ∀ (s : Shared) (H : Hp) (C : Addr) (cl : List (Str × Addr)) (fp : List Addr), PE (X.blk s H scope (compEnvC scope cl C X.env) fp) ea (tE0 AD G c a)) : PE X (.DictComp ek ea [⟨tg, iter, ifs, 0⟩, ⟨tg1, iter1, ifs1, 0⟩] scope pos) (tE AD G c X (.dcomp2 k a t i cnd t1 i1 cnd1 (own.map (·.2)) (slotsL t1))) :=
  PE.weak (pe_dc2 hc hN hi ok ho1 hg ht hi1 hg1 ht1 hk he (fun x => hs _ x) hs1) fun σ H Q q => dcomp2_read ho (fun _ h => h) q
theorem ss_setd2 {j : Nat} {y : Str} {py spos : Pos} {tg iter tg1 iter1 ek ea : Expr} {ifs ifs1 : List Expr} {scope : Scope} {own : List (Str × Nat)} {t i cnd t1 i1 cnd1 k a : T} {pos : Pos} (hc : X.calm = true) (hN : X.N.Nodup) (hy : X.N[j]? = some y) (hyl : X.env.scope.names.lookup y = some .local)
    (hsw : swapsWith (.DictComp ek ea [⟨tg, iter, ifs, 0⟩, ⟨tg1, iter1, ifs1, 0⟩] scope pos) (some (.Name y py)) spos.line X.env = pure true) (ok : BlkOk X.N X.env.scope scope own) (ho : ∀ k ∈ slotsL t, k ∈ own.map (·.2)) (ho1 : ∀ k ∈ slotsL t1, k ∈ own.map (·.2)) (hi : PI X tg iter (tI AD G c X i)) (hs : ∀ env x, foldedSetIterable iter env x = pure x) (hs1 : ∀ env x, foldedSetIterable iter1 env x = pure x)
    (hg : ∀ (s : Shared) (H : Hp) (C : Addr) (cl : List (Str × Addr)) (fp : List Addr), PG (X.blk s H scope (compEnvC scope cl C X.env) fp) tg (tG0 AD G c t)) (ht : ∀ (s : Shared) (H : Hp) (C : Addr) (cl : List (Str × Addr)) (fp : List Addr), PTs (X.blk s H scope (compEnvC scope cl C X.env) fp) ifs (tT0 AD G c cnd))
    (hi1 : ∀ (s : Shared) (H : Hp) (C : Addr) (cl : List (Str × Addr)) (fp : List Addr), PI (X.blk s H scope (compEnvC scope cl C X.env) fp) tg1 iter1 (tI0 AD G c i1)) (hg1 : ∀ (s : Shared) (H : Hp) (C : Addr) (cl : List (Str × Addr)) (fp : List Addr), PG (X.blk s H scope (compEnvC scope cl C X.env) fp) tg1 (tG0 AD G c t1)) (ht1 : ∀ (s : Shared) (H : Hp) (C : Addr) (cl : List (Str × Addr)) (fp : List Addr), PTs (X.blk s H scope (compEnvC scope cl C X.env) fp) ifs1 (tT0 AD G c cnd1))
    (hk : ∀ (s : Shared) (H : Hp) (C : Addr) (cl : List (Str × Addr)) (fp : List Addr), PE (X.blk s H scope (compEnvC scope cl C X.env) fp) ek (tE0 AD G c k)) (he : ∀ (s : Shared) (H : Hp) (C : Addr) (cl : List (Str × Addr)) (fp : List Addr), PE (X.blk s H scope (compEnvC scope cl C X.env) fp) ea (tE0 AD G c a)) : PS X (.Assign [.Name y py] (.DictComp ek ea [⟨tg, iter, ifs, 0⟩, ⟨tg1, iter1, ifs1, 0⟩] scope pos) spos) (tS AD G c X (.asg (.tName j) (.dcomp2 k a t i cnd t1 i1 cnd1 (own.map (·.2)) (slotsL t1)))) :=
  PS.weak (ps_setDc2 hc hN hy hyl hsw hi ok ho1 hg ht hi1 hg1 ht1 hk he (fun x => hs _ x) hs1) fun D σ H q => asg_te (fun σ H Q q => dcomp2_read ho (fun _ h => h) q) q
theorem dc_ok {r : Rc} (E : EOk AD G Γ r) (g : Gd AD G Γ X κ d) {kx elt : Expr} {gs : List Comprehension} {sc : Scope} {pos : Pos} {t : T} (h : dcT r κ kx elt gs sc = some t) : PE X (.DictComp kx elt gs sc pos) (tE AD G (cD G d) X t) ∧
    ∀ (j : Nat) (y : Str) (py spos : Pos), X.N[j]? = some y → X.env.scope.names.lookup y = some .local → swapsWith (.DictComp kx elt gs sc pos) (some (.Name y py)) spos.line X.env = pure true → PS X (.Assign [.Name y py] (.DictComp kx elt gs sc pos) spos) (tS AD G (cD G d) X (.asg (.tName j) t)) := by
  have sk : PE X (.DictComp kx elt gs sc pos) (tE AD G (cD G d) X .skip) ∧
      ∀ (j : Nat) (y : Str) (py spos : Pos), X.N[j]? = some y → X.env.scope.names.lookup y = some .local → swapsWith (.DictComp kx elt gs sc pos) (some (.Name y py)) spos.line X.env = pure true → PS X (.Assign [.Name y py] (.DictComp kx elt gs sc pos) spos) (tS AD G (cD G d) X (.asg (.tName j) .skip)) :=
    ⟨pe_skip, fun j y py spos _ _ _ => ⟨fun pins s σ H D I ⟨ρ, sg, h, r, q, p⟩ => by
      rw [evS] at p
      have e : evE G (cD G d) .skip sg h = .bad := by rw [evE] <;> (intros; contradiction)
      rw [e] at p; exact p.elim⟩⟩
  unfold dcT at h
  split at h
  · rename_i hb
    have ok : BlkOk X.N X.env.scope sc (ownOf κ sc) := by rw [g.N, g.sc]; exact blkOk_by hb
    have hN : X.N.Nodup := by rw [g.N]; exact g.nd
    have gb := fun s H C cl fp => gd_blk g sc s H C cl fp
    split at h
    · rename_i tg iter ifs
      obtain ⟨it, h1, h⟩ := some_bind h
      obtain ⟨tt, h2, h⟩ := some_bind h
      obtain ⟨cc, h3, h⟩ := some_bind h
      obtain ⟨kk, h5, h⟩ := some_bind h
      obtain ⟨ee, h4, h⟩ := some_bind h
      split at h
      · rename_i ho
        cases h
        have ho := tgIn_own ho
        have i1 := E.i g _ _ _ h1
        have i2 := E.f _ _ _ h1
        exact ⟨s_dcomp g.calm hN ok ho i1 i2 (fun s H C cl fp => g0 (E.g (gb s H C cl fp) _ _ h2)) (fun s H C cl fp => ifs_ok (fun e t he => (E.t (gb s H C cl fp) e t he).1) h3) (fun s H C cl fp => e0 (E.e (gb s H C cl fp) _ _ h5)) (fun s H C cl fp => e0 (E.e (gb s H C cl fp) _ _ h4)),
          fun j y py spos hy hyl hsw => ss_setd g.calm hN hy hyl hsw ok ho i1 i2 (fun s H C cl fp => g0 (E.g (gb s H C cl fp) _ _ h2)) (fun s H C cl fp => ifs_ok (fun e t he => (E.t (gb s H C cl fp) e t he).1) h3) (fun s H C cl fp => e0 (E.e (gb s H C cl fp) _ _ h5)) (fun s H C cl fp => e0 (E.e (gb s H C cl fp) _ _ h4))⟩
      · cases h
    · rename_i tg iter ifs tg1 iter1 ifs1
      obtain ⟨it, h1, h⟩ := some_bind h
      obtain ⟨tt, h2, h⟩ := some_bind h
      obtain ⟨cc, h3, h⟩ := some_bind h
      obtain ⟨it1, k1, h⟩ := some_bind h
      obtain ⟨tt1, k2, h⟩ := some_bind h
      obtain ⟨cc1, k3, h⟩ := some_bind h
      obtain ⟨kk, h5, h⟩ := some_bind h
      obtain ⟨ee, h4, h⟩ := some_bind h
      split at h
      · rename_i ho
        obtain ⟨ho, ho1⟩ := ho
        cases h
        rw [slots_get ho1]
        have ho := tgIn_own ho
        have ho1 := tgIn_own ho1
        have i1 := E.i g _ _ _ h1
        have i2 := E.f _ _ _ h1
        have i3 := E.f _ _ _ k1
        exact ⟨s_dcomp2 g.calm hN ok ho ho1 i1 i2 i3 (fun s H C cl fp => g0 (E.g (gb s H C cl fp) _ _ h2)) (fun s H C cl fp => ifs_ok (fun e t he => (E.t (gb s H C cl fp) e t he).1) h3)
            (fun s H C cl fp => i0 (E.i (gb s H C cl fp) _ _ _ k1)) (fun s H C cl fp => g0 (E.g (gb s H C cl fp) _ _ k2)) (fun s H C cl fp => ifs_ok (fun e t he => (E.t (gb s H C cl fp) e t he).1) k3) (fun s H C cl fp => e0 (E.e (gb s H C cl fp) _ _ h5)) (fun s H C cl fp => e0 (E.e (gb s H C cl fp) _ _ h4)),
          fun j y py spos hy hyl hsw => ss_setd2 g.calm hN hy hyl hsw ok ho ho1 i1 i2 i3 (fun s H C cl fp => g0 (E.g (gb s H C cl fp) _ _ h2)) (fun s H C cl fp => ifs_ok (fun e t he => (E.t (gb s H C cl fp) e t he).1) h3)
            (fun s H C cl fp => i0 (E.i (gb s H C cl fp) _ _ _ k1)) (fun s H C cl fp => g0 (E.g (gb s H C cl fp) _ _ k2)) (fun s H C cl fp => ifs_ok (fun e t he => (E.t (gb s H C cl fp) e t he).1) k3) (fun s H C cl fp => e0 (E.e (gb s H C cl fp) _ _ h5)) (fun s H C cl fp => e0 (E.e (gb s H C cl fp) _ _ h4))⟩
      · cases h
    · cases h; exact sk
  · cases h
theorem stepE_ok {r : Rc} (E : EOk AD G Γ r) (g : Gd AD G Γ X κ d) {e : Expr} {t : T} (h : stepE Γ r κ e = some t) : PE X e (tE AD G (cD G d) X t) := by
  have hf : ∀ e t, r.e κ e = some t → PE X e (tE AD G (cD G d) X t) := fun e t h => E.e g e t h
  unfold stepE at h
  split at h
  · rename_i cc _ _
    cases h
    cases cc <;> first | exact s_non | exact s_bl | exact s_int | exact s_str | exact pe_skip
  · rename_i x _
    cases e : nameT Γ κ x with
    | none => rw [e] at h; cases h; exact pe_skip
    | some w => rw [e] at h; cases h; exact name_ok g e
  · obtain ⟨a, h1, h⟩ := some_bind h
    obtain ⟨b, h2, rfl⟩ := some_map h
    exact s_bin (sb_all _) (hf _ _ h1) (hf _ _ h2)
  · exact un_ok hf h
  · exact bool_ok hf h
  · exact (cmp_ok g hf h).1
  · obtain ⟨tt, h1, h⟩ := some_bind h
    obtain ⟨a, h2, h⟩ := some_bind h
    obtain ⟨b, h3, rfl⟩ := some_map h
    exact s_ite (E.t g _ _ h1).1 (hf _ _ h2) (hf _ _ h3)
  · obtain ⟨a, h1, rfl⟩ := some_map h
    exact s_lst (args_ok (fun e t _ => hf e t) h1).1
  · obtain ⟨a, h1, rfl⟩ := some_map h
    exact s_tup (args_ok (fun e t _ => hf e t) h1).1
  · cases h; exact s_dic0
  · exact call_ok g hf h (fun _ _ _ _ => hf _)
  · split at h
    · rename_i hs
      obtain ⟨a, h1, rfl⟩ := some_map h
      exact s_fld g.cls hs (hf _ _ h1)
    · cases h; exact pe_skip
  · exact sub_ok g hf h
  · exact (lc_ok E g h).1
  · exact (dc_ok E g h).1
  · cases h; exact pe_skip
theorem stepI_fold {r : Rc} {tg e : Expr} {t : T} (h : stepI Γ r κ tg e = some t) : ∀ env x, foldedSetIterable e env x = pure x := by
  unfold stepI at h
  split at h
  · cases h
  · rename_i hs; exact fold_of (by simpa using hs)
theorem rc_ok : ∀ n, EOk AD G Γ (rc Γ n)
  | 0 => ⟨fun _ _ _ h => (by cases h), fun _ _ _ h => (by cases h), fun _ _ _ _ h => (by cases h), fun _ _ _ h => (by cases h), fun _ _ _ h => (by cases h)⟩
  | n + 1 => ⟨fun g _ _ h => stepE_ok (rc_ok n) g h, fun g _ _ h => stepT_ok (rc_ok n) g h, fun g _ _ _ h => (stepI_ok (rc_ok n) g h).1, fun _ _ _ h => stepI_fold h, fun g _ _ h => stepG_ok (rc_ok n) g h⟩
end
end SL

set_option Elab.async false
set_option linter.all false
set_option maxRecDepth 100000
set_option maxHeartbeats 4000000
/-! The evaluator over the hand layer: all of the statements. -/
namespace SL
open PySem PySem.Spec L2
open PyProof.Rows hiding St
open PySem.W (Frag)
section
variable {AD : Str → Option Addr} {X : Cx} {G : Env} {Γ : CE} {κ : Ctx} {n d : Nat} {c : Calls}
theorem ps_skip {s : Stmt} : PS X s (tS AD G c X .skip) := ⟨fun pins st σ H D I ⟨ρ, sg, h, r, q, p⟩ => by rw [evS] at p <;> first | exact p.elim | (intros; contradiction)⟩
theorem swap_k {sc : Scope} {env : PySem.Env} {e : Expr} {y : Str} {py : Pos} {l : Nat} (hs : env.scope = sc) (hf : isFunc sc = true) : swapsWith e (some (.Name y py)) l env = pure (swapK sc e y py) := by
  have hk : env.scope.kind = .function := by
    rw [hs]; unfold isFunc at hf; split at hf
    · assumption
    · cases hf
  have hb : env.blockKind = .function := by unfold Env.blockKind; rw [hk]; rfl
  have ky : env.kindOf y = sc.names.lookup y := by show env.scope.names.lookup y = _; rw [hs]
  cases e <;> first
    | rfl
    | (unfold swapsWith swapK; simp only [hb, ky, Expr.pos]; rfl)
theorem sw_k {sc : Scope} {env : PySem.Env} {ts vs : List Expr} {k k2 : Nat} {p p2 : Pos} {r : Option (List Str)} (hs : env.scope = sc) (hf : isFunc sc = true) (h : swS sc ts vs = some r) : swappedStores [.Tuple ts k p] (.Tuple vs k2 p2) env = pure r := by
  have hk : env.scope.kind = .function := by
    rw [hs]; unfold isFunc at hf; split at hf
    · assumption
    · cases hf
  have hb : env.blockKind = .function := by unfold Env.blockKind; rw [hk]; rfl
  have ky : ∀ y, env.kindOf y = sc.names.lookup y := fun y => by show env.scope.names.lookup y = _; rw [hs]
  unfold swS at h
  unfold swappedStores
  simp only [hb, ky]
  split at h
  · rename_i h1
    cases h
    exact if_pos (by simp only [Bool.or_eq_true] at h1 ⊢; exact .inl h1)
  · rename_i h1
    refine (if_neg (by simp only [Bool.or_eq_true, not_or] at h1 ⊢; exact ⟨h1, by decide⟩)).trans ?_
    split at h
    · rename_i h2
      cases h
      exact if_pos h2
    · rename_i h2
      refine (if_neg h2).trans ?_
      split at h
      · rename_i h3
        cases h
        exact if_pos h3
      · rename_i h3
        refine (if_neg h3).trans ?_
        split at h
        · rename_i h4
          cases h
          exact if_pos h4
        · rename_i h4
          refine (if_neg h4).trans ?_
          split at h
          · cases h
          · rename_i h5
            cases h
            exact if_neg h5
theorem par_ok {r : Rc} (E : EOk AD G Γ r) (g : Gd AD G Γ X κ d) (hf : isFunc κ.sc = true) {ts vs : List Expr} {names : List Str} {t : T} {k k2 : Nat} {p p2 pos : Pos} (h : parT r κ ts vs names = some t) (hsw : swS κ.sc ts vs = some (some names)) : PS X (.Assign [.Tuple ts k p] (.Tuple vs k2 p2) pos) (tS AD G (cD G d) X t) := by
  have hN : X.N.Nodup := by rw [g.N]; exact g.nd
  have sw := fun k p k2 p2 => sw_k (k := k) (k2 := k2) (p := p) (p2 := p2) g.sc hf hsw
  unfold parT at h
  split at h
  · split at h
    · rename_i hc
      obtain ⟨rfl, rfl, l1, l2⟩ := hc
      obtain ⟨i, h1, h⟩ := some_bind h
      obtain ⟨j, h2, h⟩ := some_bind h
      split at h
      · rename_i hij
        obtain ⟨w, h3, rfl⟩ := some_map h
        exact ss_par2 (ps_par g.calm hN (by rw [g.N]; exact slot_get h1) (by rw [g.N]; exact slot_get h2) hij (by rw [g.sc]; exact l1) (by rw [g.sc]; exact l2) (args_ok (fun e t _ => E.e g e t) h3).1 (sw _ _ _ _))
      · cases h
    · cases h
  · split at h
    · rename_i hc
      obtain ⟨rfl, rfl, rfl, l1, l2, l3⟩ := hc
      obtain ⟨i, h1, h⟩ := some_bind h
      obtain ⟨j, h2, h⟩ := some_bind h
      obtain ⟨l, h4, h⟩ := some_bind h
      split at h
      · rename_i hij
        obtain ⟨w, h3, rfl⟩ := some_map h
        exact ss_par3 (ps_par3 g.calm hN (by rw [g.N]; exact slot_get h1) (by rw [g.N]; exact slot_get h2) (by rw [g.N]; exact slot_get h4) hij.1 hij.2.1 hij.2.2 (by rw [g.sc]; exact l1) (by rw [g.sc]; exact l2) (by rw [g.sc]; exact l3) (args_ok (fun e t _ => E.e g e t) h3).1 (sw _ _ _ _))
      · cases h
    · cases h
  · cases h
/-- name = e -/
theorem setn_ok {m : Nat} (g : Gd AD G Γ X κ d) (hf : isFunc κ.sc = true) {x : Str} {e : Expr} {i : Nat} {a : T} {px pos : Pos} (hi : storeT κ x = some i) (ha : (rc Γ m).e κ e = some a) : PS X (.Assign [.Name x px] e pos) (tS AD G (cD G d) X (.asg (.tName i) a)) := by
  have hN : X.N.Nodup := by rw [g.N]; exact g.nd
  obtain ⟨s1, s2, s3⟩ := store_at g hi
  have sw := swap_k (e := e) (y := x) (py := px) (l := pos.line) g.sc hf
  cases hb : swapK κ.sc e x px with
  | false => rw [hb] at sw; exact ss_set (ps_set hN s1 s2 ((rc_ok m).e g _ _ ha) sw s3)
  | true =>
    rw [hb] at sw
    have hl : X.env.scope.names.lookup x = some .local := by
      rw [g.sc]
      cases e <;> first
        | (simp only [swapK, Bool.and_eq_true, beq_iff_eq] at hb; exact hb.1.1)
        | cases hb
    cases m with
    | zero => cases ha
    | succ m =>
      have ha : stepE Γ (rc Γ m) κ e = some a := ha
      cases e <;> first
        | (exact (lc_ok (rc_ok m) g ha).2 _ _ _ _ s1 hl sw)
        | (exact (dc_ok (rc_ok m) g ha).2 _ _ _ _ s1 hl sw)
        | (cases hb; done)
        | (cases ha
           exact ⟨fun pins st σ H D I ⟨ρ, sg, h, r, q, p⟩ => by
            rw [evS] at p
            have e : evE G (cD G d) .skip sg h = .bad := by rw [evE] <;> (intros; contradiction)
            rw [e] at p; exact p.elim⟩)
theorem notName_at {tg e : Expr} (h : ∀ x p, tg ≠ .Name x p) : isComp e = false ∨ (∀ x p, tg ≠ .Name x p) := .inr h
theorem swn_tup {ts : List Expr} {k : Nat} {p : Pos} {e : Expr} {env : PySem.Env} (h : isTup e = false) : swappedStores [.Tuple ts k p] e env = pure none := by
  cases e <;> first | rfl | cases h
theorem swn_sub {o i : Expr} {p : Pos} {e : Expr} {env : PySem.Env} : swappedStores [.Subscript o i p] e env = pure none := by
  cases e <;> rfl
theorem asg_ok {m : Nat} (g : Gd AD G Γ X κ d) (hf : isFunc κ.sc = true) {tg e : Expr} {t : T} {pos : Pos} (h : asgT (rc Γ m) κ tg e = some t) : PS X (.Assign [tg] e pos) (tS AD G (cD G d) X t) := by
  have E := rc_ok (AD := AD) (G := G) (Γ := Γ) m
  unfold asgT at h
  split at h
  · obtain ⟨i, h1, h⟩ := some_bind h
    obtain ⟨a, h2, rfl⟩ := some_map h
    exact setn_ok g hf h1 h2
  · rename_i ts k p
    split at h
    · split at h
      · rename_i hsw
        obtain ⟨t, h1, h⟩ := some_bind h
        obtain ⟨a, h2, rfl⟩ := some_map h
        exact ss_asg (.inl rfl) (sw_k g.sc hf hsw) rfl (E.e g _ _ h2) (E.g g _ _ h1)
      · rename_i hsw
        exact par_ok E g hf h hsw
      · cases h; exact ps_skip
    · rename_i hn
      obtain ⟨t, h1, h⟩ := some_bind h
      obtain ⟨a, h2, rfl⟩ := some_map h
      refine ss_asg (.inr fun x p z => by cases z) (swn_tup ?_) rfl (E.e g _ _ h2) (E.g g _ _ h1)
      cases e <;> first | rfl | exact absurd rfl (hn _ _ _)
  · obtain ⟨o, h1, h⟩ := some_bind h
    obtain ⟨a, h2, rfl⟩ := some_map h
    exact ss_fld g.cls (E.e g _ _ h1) (E.e g _ _ h2)
  · obtain ⟨t, h1, h⟩ := some_bind h
    obtain ⟨a, h2, rfl⟩ := some_map h
    exact ss_asg (.inr fun x p z => by cases z) swn_sub rfl (E.e g _ _ h2) (E.g g _ _ h1)
  · cases h; exact ps_skip
theorem seq_ok {f : Stmt → Option T} (hf : ∀ s t, f s = some t → PS X s (tS AD G c X t)) : ∀ {ss : List Stmt} {t : T}, seqT f ss = some t → PSs X ss (tS AD G c X t)
  | [], t, h => by cases h; exact ss_nil
  | s :: ss, t, h => by
    obtain ⟨a, h1, h⟩ := some_bind h
    obtain ⟨b, h2, rfl⟩ := some_map h
    exact ss_cons (hf _ _ h1) (seq_ok hf h2)
theorem stepS_ok {m : Nat} (g : Gd AD G Γ X κ d) (hp : PassesOwn (model X.prog X.w) X.A X.env X.xe) (hf : isFunc κ.sc = true) {f : Stmt → Option T} (ih : ∀ s t, f s = some t → PS X s (tS AD G (cD G d) X t)) {s : Stmt} {t : T} (h : stepS (rc Γ m) f κ s = some t) : PS X s (tS AD G (cD G d) X t) := by
  have E := rc_ok (AD := AD) (G := G) (Γ := Γ) m
  unfold stepS at h
  split at h
  · cases h; exact ss_pass
  · cases h; exact ss_brk
  · cases h; exact ss_cont
  · obtain ⟨a, h1, rfl⟩ := some_map h
    exact ss_ret (E.e g _ _ h1)
  · split at h
    · cases h; exact ps_skip
    · rename_i hc
      obtain ⟨a, h1, rfl⟩ := some_map h
      exact ss_expr (by simpa using hc) (E.e g _ _ h1)
  · exact asg_ok g hf h
  · obtain ⟨i, h1, h⟩ := some_bind h
    obtain ⟨a, h2, rfl⟩ := some_map h
    obtain ⟨s1, s2, s3⟩ := store_at g h1
    exact ss_aug (by rw [g.N]; exact g.nd) s1 s2 s3 (E.e g _ _ h2)
  · obtain ⟨a, h1, h⟩ := some_bind h
    obtain ⟨b, h2, h⟩ := some_bind h
    obtain ⟨b', h3, rfl⟩ := some_map h
    exact ss_if (E.t g _ _ h1).1 (seq_ok ih h2) (seq_ok ih h3)
  · obtain ⟨a, h1, h⟩ := some_bind h
    obtain ⟨b, h2, h⟩ := some_bind h
    obtain ⟨b', h3, rfl⟩ := some_map h
    exact ss_for hp g.calm (E.i g _ _ _ h1) (E.g g _ _ h2) (seq_ok ih h3) (fun x => E.f _ _ _ h1 _ x)
  · obtain ⟨a, h1, h⟩ := some_bind h
    obtain ⟨b', h3, rfl⟩ := some_map h
    exact ss_whl hp (E.t g _ _ h1).1 (seq_ok ih h3)
  · cases h; exact ps_skip
theorem rs_ok {m : Nat} (g : Gd AD G Γ X κ d) (hp : PassesOwn (model X.prog X.w) X.A X.env X.xe) (hf : isFunc κ.sc = true) : ∀ n s t, rs (rc Γ m) κ n s = some t → PS X s (tS AD G (cD G d) X t)
  | 0, _, _, h => by cases h
  | n + 1, s, t, h => stepS_ok g hp hf (rs_ok g hp hf n) h
end
end SL

set_option Elab.async false
set_option linter.all false
set_option maxRecDepth 100000
set_option maxHeartbeats 4000000
/-! The evaluator over the hand layer: all of the defs, the law's end. -/
namespace SL
open PySem PySem.Spec L2
open PyProof.Rows hiding St
open PySem.W (Frag)
/-- are a def's names as they must be -/
def scOk (N P : List Str) (sc : Scope) : Bool :=
  isFunc sc && !sc.isCoroutine && !sc.isGenerator && decide N.Nodup && decide (N.take P.length = P) && P.all (fun x => decide (sc.names.lookup x = some .local) || decide (sc.names.lookup x = some .cell)) && sc.names.all (fun y => !decide (y.2 = .free))
theorem scOk_by {N P : List Str} {sc : Scope} (h : scOk N P sc = true) : FnScope N P sc := by
  unfold scOk at h
  simp only [Bool.and_eq_true, Bool.not_eq_true', decide_eq_true_eq, List.all_eq_true, Bool.or_eq_true, decide_eq_false_iff_not] at h
  obtain ⟨⟨⟨⟨⟨⟨h1, h2⟩, h3⟩, h4⟩, h5⟩, h6⟩, h7⟩ := h
  refine ⟨?_, h2, h3, h4, h5, h6, h7⟩
  unfold isFunc at h1; split at h1
  · assumption
  · cases h1
/-- a def as it stands in the text -/
structure Cd where
  x : Str
  qual : Str
  st : Stmt
  N : List Str
  ps : List Str
def Cd.κ (c : Cd) : Ctx := ⟨defScope c.st, fun x => (defScope c.st).names.lookup x == some .cell, c.N⟩
/-- is it read so -/
def Cd.reads (Γ : CE) (c : Cd) (fd : FD) : Prop := seqT (rs (rc Γ 40) c.κ 20) (defBody c.st) = some fd.body ∧ c.N.length = fd.nS ∧ c.ps.length = fd.ps ∧ scOk c.N c.ps (defScope c.st) = true
section
variable {AD : Str → Option Addr} {G : Env} {Γ : CE} {P : Program} {w : World} {K : Frag} {mg : Str → Option Value} {base : Heap}
/-- what is known of the text -/
structure Txt (AD : Str → Option Addr) (G : Env) (Γ : CE) (K : Frag) (mg : Str → Option Value) (CT : Str → Option Cd) : Prop where
  cls : ClsOk AD G K
  own : ∀ x, (Γ.funs.contains x || Γ.clss.contains x) = true → ∃ a, AD x = some a ∧ mg x = some (.ref a) ∧ PySem.W.keepIn K (.ref a) = true
  blt : ∀ x, (tyTab.any (fun p => p.1 == x) || bltTab.any (fun p => p.1 == x) || itTab.contains x) = true → mg x = none
  meth : ∀ C cd m g Ca a, G.cls C = some cd → cd.meth.lookup m = some g → AD C = some Ca → AD g = some a → Meth K Ca m a
  mkr : ∀ C cd g Ca a, G.cls C = some cd → cd.init = some g → AD C = some Ca → AD g = some a → Mk K Ca a
  fns : ∀ f fd, G.fns f = some fd → ∃ c a data, CT f = some c ∧ AD f = some a ∧ Fun K c.x c.qual c.st a data ∧ Binds K data c.ps [] ∧ c.reads Γ fd
theorem sr_start {ρ : List Addr} {avs : List AV} {vs : List V} {N : List Str} {nS : Nat} (q : VsR AD ρ avs vs) (h : N.length = nS) : SR AD ρ (SL.start nS avs) (L2.start N vs) := by
  unfold SL.start L2.start
  have hl := Paired.length q
  refine ⟨by simp [hl, h], fun i v e => ?_⟩
  have hi : i < avs.length := by
    by_cases hi : i < avs.length
    · exact hi
    · rw [List.getElem?_append_right (by simpa using hi), List.getElem?_replicate] at e
      split at e <;> cases e
  rw [List.getElem?_append_left (by simpa using hi), List.getElem?_map] at e
  rw [List.getElem?_append_left (by rw [List.length_map, ← hl]; exact hi), List.getElem?_map]
  clear hi hl
  induction q generalizing i with
  | nil => simp at e
  | cons r t ih =>
    cases i with
    | zero => simp only [List.getElem?_cons_zero, Option.map_some, Option.some.injEq] at e ⊢; subst e; exact ⟨_, rfl, r⟩
    | succ i => simp only [List.getElem?_cons_succ] at e ⊢; exact ih i e
/-- every def keeps its promise, at every depth -/
theorem fns_ok (P : Program) (w : World) (base : Heap) {CT : Str → Option Cd} (T : Txt AD G Γ K mg CT) : ∀ k, ∀ j, j ≤ k → ∀ (f : Str) (fd : FD) (c : Cd) (a : Addr) (data : FuncData), G.fns f = some fd → AD f = some a → Fun K c.x c.qual c.st a data → c.reads Γ fd → FnOk P w K mg base (L2.CX P w) j a data c.ps (spD AD G j fd.ps f)
  | 0 => fun j hj f fd c a data hf h2 h3 ⟨h5, h6, h7, h8⟩ => by
    obtain rfl : j = 0 := Nat.le_zero.mp hj
    refine ⟨fun vs H Q E h => h.1.trans h7.symm, fun A outer s H args us vs Q E _ _ _ _ h => ?_⟩
    obtain ⟨_, ρ, h, avs, r, q, p⟩ := h
    rw [callD_zero] at p
    exact p.elim
  | k + 1 => fun j hj f fd c a data hf h2 h3 hrd => by
    have ih := fns_ok P w base T k
    by_cases hjk : j ≤ k
    · exact ih j hjk f fd c a data hf h2 h3 hrd
    · obtain ⟨h5, h6, h7, h8⟩ := hrd
      obtain rfl : j = k + 1 := by omega
      have S := scOk_by h8
      refine Fun.okX h3 S (fun vs H Q E h => h.1.trans h7.symm) fun cdv A outer s H vs Q E hr hsp => ?_
      obtain ⟨hl, ρ, h, avs, r, q, p⟩ := hsp
      have ih2 : ∀ j, j ≤ k → ∀ f fd, G.fns f = some fd → ∃ a data ps, AD f = some a ∧ Binds K data ps [] ∧ ps.length = fd.ps ∧ FnOk P w K mg base (L2.CX P w) j a data ps (spD AD G j fd.ps f) := fun j hj f fd hf => by
        obtain ⟨c, a, data, g1, g2, g3, g4, g5⟩ := T.fns f fd hf
        exact ⟨a, data, c.ps, g2, g4, g5.2.2.1, ih j hj f fd c a data hf g2 g3 g5⟩
      have g : Gd AD G Γ (cxOf (L2.CX P w) P w K mg base c.N c.qual (defScope c.st) a cdv A outer s H E) c.κ k :=
        { sc := rfl, N := rfl, nd := S.nd, fn := fun x hx => (by first | exact hx | rfl), calm := rfl, room := hr, cls := T.cls, own := T.own, blt := T.blt, fns := ih2, meth := T.meth, mkr := T.mkr }
      have hp : PassesOwn (model P w) (A.deeper (envOfC c.qual (defScope c.st) s.heap.objs.size a cdv)) (envOfC c.qual (defScope c.st) s.heap.objs.size a cdv) (cxOf (L2.CX P w) P w K mg base c.N c.qual (defScope c.st) a cdv A outer s H E).xe := passes_of rfl
      have hF : isFunc c.κ.sc = true := by
        show isFunc (defScope c.st) = true
        unfold isFunc; rw [S.kind]
      refine ⟨tS AD G (cD G k) (cxOf (L2.CX P w) P w K mg base c.N c.qual (defScope c.st) a cdv A outer s H E) fd.body, seq_ok (fun s t hs => rs_ok g hp hF _ s t hs) h5, ?_⟩
      refine ⟨ρ, SL.start fd.nS avs, h, r, sr_start q h6, ?_⟩
      rw [callD_succ] at p
      simp only [callS, hf] at p
      split at p
      · revert p
        cases evS G (cD G k) fd.body (SL.start fd.nS avs) h with
        | nx σ1 h1 => exact fun p ρ1 H1 sv e1 r1 q1 => p ρ1 H1 _ e1 r1 rfl
        | rt v h1 => exact fun p ρ1 H1 x e1 r1 q1 => p ρ1 H1 x e1 r1 q1
        | bk σ1 h1 => exact fun p => p.elim
        | ct σ1 h1 => exact fun p => p.elim
        | exc C fs σ1 h1 => exact fun p => ⟨fun cls d _ H => E cls d H, takes_of rfl rfl rfl rfl, fun ρ1 H1 sv cls d e1 r1 q1 x1 => p ρ1 H1 cls d e1 r1 x1⟩
        | bad => exact fun p => p.elim
      · exact p.elim
/-- the law's promise -/
def spLaw (n : Nat) : Sp := fun vs H Q _ => ∃ (a : Addr) (ns : List Int) (o : Obj), vs = [.ref a] ∧ H a = some (.frz o (.lst (ns.map V.int))) ∧ ns.length ≤ n ∧ ∀ H', Q (.bl true) H'
def scr (ns : List Int) : AO := .fro (ns.map AV.int)
theorem vsr_is {ρ : List Addr} : ∀ ns : List Int, VsR AD ρ (ns.map AV.int) (ns.map V.int)
  | [] => .nil
  | n :: ns => .cons rfl (vsr_is ns)
/-- what is to be shown of the law in plain Lean -/
def Answers (G : Env) (k : Nat) (law : Str) (n : Nat) : Prop := ∀ ns : List Int, ns.length ≤ n → ∃ h, callD G k law [.ref 0] [scr ns] = .ok (.bl true) h
theorem law_ok {law : Str} {k n np : Nat} (h : Answers G k law n) (hn : np = 1) {vs : List V} {H : Hp} {Q : VK} {E : XK} (q : spLaw n vs H Q E) : spD AD G k np law vs H Q E := by
  obtain ⟨a, ns, o, rfl, ha, hl, hq⟩ := q
  obtain ⟨h', e⟩ := h ns hl
  refine ⟨hn.symm, [a], [scr ns], [.ref 0], ⟨rfl, by simp, fun i o' hi => ?_⟩, .cons rfl .nil, ?_⟩
  · cases i with
    | zero => cases hi; exact ⟨a, rfl, o, _, ha, vsr_is ns⟩
    | succ i => simp at hi
  · rw [e]
    intro ρ' H' x _ _ r
    obtain rfl := vr_bl r
    exact hq H'
/-- the law's def keeps the law's promise -/
theorem law_fn (P : Program) (w : World) (base : Heap) {CT : Str → Option Cd} (T : Txt AD G Γ K mg CT) {law : Str} {fd : FD} (hfd : G.fns law = some fd) {k n : Nat} (h : Answers G k law n) (hn : fd.ps = 1) {a : Addr} {c : Cd} {data : FuncData} (hA : AD law = some a) (hF : Fun K c.x c.qual c.st a data) (hr : c.reads Γ fd) :
    FnOk P w K mg base (L2.CX P w) k a data c.ps (spLaw n) :=
  (fns_ok P w base T k k (Nat.le_refl k) law fd c a data hfd hA hF hr).imp fun vs H Q E q => law_ok h hn q
end
end SL

set_option Elab.async false
set_option linter.all false
set_option maxRecDepth 100000
set_option maxHeartbeats 4000000
/-! What is known of the text, from lists of facts. -/
namespace SL
open PySem PySem.Spec L2
open PyProof.Rows hiding St
open PySem.W (Frag)
/-- every one of a list -/
def All {α : Type} (p : α → Prop) : List α → Prop
  | [] => True
  | x :: r => p x ∧ All p r
theorem All.of {α : Type} {p : α → Prop} {x : α} : ∀ {l : List α}, All p l → x ∈ l → p x
  | y :: r, ⟨h1, h2⟩, h => by
    rcases List.mem_cons.mp h with rfl | h
    · exact h1
    · exact All.of h2 h
def bltNames : List Str := ["int", "bool", "str", "list", "tuple", "dict", "len", "sum", "max", "min", "all", "any", "sorted", "isinstance", "range", "enumerate", "zip"]
/-- the text's tables -/
structure Tabs where
  adr : List (Str × Addr)
  fns : List (Str × FD × Cd)
  cls : List (Str × CD)
  sub : List ((Str × Str) × Bool)
  subB : List ((Str × String) × Bool)
  subT : List ((String × Str) × Bool)
  err : List (Str × Option Str)
def Tabs.AD (t : Tabs) : Str → Option Addr := fun x => t.adr.lookup x
def Tabs.G (t : Tabs) : Env where
  fns := fun x => (t.fns.lookup x).map (·.1)
  cls := fun x => t.cls.lookup x
  err := fun x => t.err.lookup x
  sub := fun C D => t.sub.lookup (C, D)
  subB := fun C n => t.subB.lookup (C, n)
  subT := fun n D => t.subT.lookup (n, D)
def Tabs.CT (t : Tabs) : Str → Option Cd := fun x => (t.fns.lookup x).map (·.2)
theorem look_mem {α β : Type} [BEq α] [LawfulBEq α] {x : α} {b : β} : ∀ {l : List (α × β)}, l.lookup x = some b → (x, b) ∈ l
  | [], h => by cases h
  | (y, v) :: r, h => by
    rw [List.lookup_cons] at h
    split at h
    · rename_i e; cases h; rw [beq_iff_eq.mp e]; exact List.mem_cons_self ..
    · exact List.mem_cons_of_mem _ (look_mem h)
section
variable {K : Frag} {mg : Str → Option Value}
theorem kit_self {t : Value} : PySem.W.kitOne K t t = some true := if_pos (by simp)
theorem kit_ty {n : String} {b : Addr} {v : Bool} (h2 : PySem.W.isClsIn K b = true) (h3 : PySem.W.typeIn K (.ref b) = some (.type "type")) (h4 : PySem.W.subIn K (.type n) (.ref b) = some v) : PySem.W.kitOne K (.type n) (.ref b) = some v := by
  unfold PySem.W.kitOne PySem.W.kitCls
  rw [if_neg (by simp)]
  refine (if_pos ?_).trans h4
  have h2' : (PySem.W.clsIn K b).isSome = true := h2
  rw [h2', h3]; rfl
theorem kit_rt {n : String} {a : Addr} {v : Bool} (h2 : PySem.W.kitMeta n = true) (h4 : PySem.W.subIn K (.ref a) (.type n) = some v) : PySem.W.kitOne K (.ref a) (.type n) = some v := by
  unfold PySem.W.kitOne PySem.W.kitCls
  rw [if_neg (by simp)]
  exact (if_pos h2).trans h4
structure ClsF (t : Tabs) (K : Frag) (C : Str) (cd : CD) (Ca : Addr) : Prop where
  ad : t.AD C = some Ca
  pg : PySem.W.plainGet K Ca Str.empty = true
  hd : PySem.W.hasDictIn K Ca = true
  po : PySem.W.plainOver K Ca = true
  sa : PySem.W.findIn K (.ref Ca) "__setattr__" = some (some (.builtin "object.__setattr__"))
  c1 : PySem.W.findIn K (.ref Ca) "__class__" = some (some (.builtin "object.__class__"))
  c2 : PySem.W.specialIn K (.builtin "object.__class__") "__get__" = some (some (.builtin "getset_descriptor.__get__"))
  c3 : PySem.W.takesIn K (.builtin "object.__class__") = some true
  c4 : PySem.W.mroIn K Ca (.type "object") = some true
  mks : PySem.W.makesIn K Ca = true
  kp : PySem.W.keepIn K (.ref Ca) = true
  fl : All (fun x => PySem.W.findIn K (.ref Ca) x = some none) cd.flds
  ini : ∀ g, cd.init = some g → ∃ a, t.AD g = some a ∧ PySem.W.findIn K (.ref Ca) "__init__" = some (some (.ref a)) ∧ PySem.W.isFn K (.ref a) = true
  me : All (fun p : Str × Str => ∃ a, t.AD p.2 = some a ∧ PySem.W.findIn K (.ref Ca) p.1 = some (some (.ref a)) ∧ PySem.W.isFn K (.ref a) = true ∧ PySem.W.keepIn K (.ref a) = true) cd.meth
  ne : cd.meth.lookup ("__eq__" : Str) ≠ none → PySem.W.findIn K (.ref Ca) "__ne__" = some (some (.builtin "object.__ne__"))
structure FnF (t : Tabs) (Γ : CE) (K : Frag) (f : Str) (fd : FD) (c : Cd) : Prop where
  ex : ∃ a data, t.AD f = some a ∧ Fun K c.x c.qual c.st a data ∧ Binds K data c.ps []
  rd : c.reads Γ fd
theorem txt_of {t : Tabs} {Γ : CE} (hc : All (fun p : Str × CD => ∃ Ca, ClsF t K p.1 p.2 Ca) t.cls) (hf : All (fun p : Str × FD × Cd => FnF t Γ K p.1 p.2.1 p.2.2) t.fns)
    (ho : All (fun x => ∃ a, t.AD x = some a ∧ mg x = some (.ref a) ∧ PySem.W.keepIn K (.ref a) = true) (Γ.funs ++ Γ.clss)) (hb : All (fun x => mg x = none) bltNames)
    (h1 : All (fun p : (Str × Str) × Bool => ∃ a b, t.AD p.1.1 = some a ∧ t.AD p.1.2 = some b ∧ PySem.W.kitOne K (.ref a) (.ref b) = some p.2) t.sub)
    (h2 : All (fun p : (Str × String) × Bool => ∃ a, t.AD p.1.1 = some a ∧ PySem.W.kitOne K (.ref a) (.type p.1.2) = some p.2) t.subB)
    (h3 : All (fun p : (String × Str) × Bool => ∃ b, t.AD p.1.2 = some b ∧ PySem.W.kitOne K (.type p.1.1) (.ref b) = some p.2) t.subT) : Txt t.AD t.G Γ K mg t.CT where
  cls := {
    cl := fun C cd Ca hC hA => by
      obtain ⟨Ca', F⟩ := hc.of (look_mem hC)
      have e := F.ad; rw [hA] at e; cases e
      exact ⟨⟨F.pg, F.hd, F.po, F.sa⟩, F.c1, F.c2, F.c3, F.c4⟩
    fl := fun C cd Ca x hC hA hx => by
      obtain ⟨Ca', F⟩ := hc.of (look_mem hC)
      have e := F.ad; rw [hA] at e; cases e
      exact F.fl.of (by simpa using hx)
    sub := fun C D Ca Da b hs hC hD => by
      obtain ⟨a, b', e1, e2, e3⟩ := h1.of (look_mem hs)
      rw [hC] at e1; rw [hD] at e2; cases e1; cases e2
      exact e3
    subB := fun C n Ca b hs hC => by
      obtain ⟨a, e1, e3⟩ := h2.of (look_mem hs)
      rw [hC] at e1; cases e1
      exact e3
    subT := fun n D Da b hs hD => by
      obtain ⟨a, e1, e3⟩ := h3.of (look_mem hs)
      rw [hD] at e1; cases e1
      exact e3
    eq := fun C cd g Ca a hC hg _ hA ha => by
      obtain ⟨Ca', F⟩ := hc.of (look_mem hC)
      have e := F.ad; rw [hA] at e; cases e
      obtain ⟨a', k1, k2, k3, k4⟩ := F.me.of (look_mem hg)
      have k1 : t.AD g = some a' := k1
      rw [ha] at k1; cases k1
      exact ⟨k2, k3, F.ne (by rw [hg]; simp)⟩ }
  own := fun x h => ho.of (by
    rw [Bool.or_eq_true, List.contains_iff_mem, List.contains_iff_mem] at h
    exact List.mem_append.mpr h)
  blt := fun x h => hb.of (by
    rw [Bool.or_eq_true, Bool.or_eq_true, List.any_eq_true, List.any_eq_true, List.contains_iff_mem] at h
    have l1 : ∀ p ∈ tyTab, p.1 ∈ bltNames := by decide +kernel
    have l2 : ∀ p ∈ bltTab.map (·.1), p ∈ bltNames := by decide +kernel
    have l3 : ∀ p ∈ itTab, p ∈ bltNames := by decide +kernel
    rcases h with (⟨p, h, e⟩ | ⟨p, h, e⟩) | h
    · rw [← beq_iff_eq.mp e]; exact l1 p h
    · rw [← beq_iff_eq.mp e]; exact l2 p.1 (List.mem_map_of_mem h)
    · exact l3 x h)
  meth := fun C cd m g Ca a hC hm hA ha => by
    obtain ⟨Ca', F⟩ := hc.of (look_mem hC)
    have e := F.ad; rw [hA] at e; cases e
    obtain ⟨a', k1, k2, k3, k4⟩ := F.me.of (look_mem hm)
    have k1 : t.AD g = some a' := k1
    rw [ha] at k1; cases k1
    exact ⟨k2, k3, k4⟩
  mkr := fun C cd g Ca a hC hi hA ha => by
    obtain ⟨Ca', F⟩ := hc.of (look_mem hC)
    have e := F.ad; rw [hA] at e; cases e
    obtain ⟨a', k1, k2, k3⟩ := F.ini g hi
    rw [ha] at k1; cases k1
    exact ⟨F.mks, k2, k3, F.kp⟩
  fns := fun f fd h => by
    obtain ⟨q, h1, rfl⟩ := Option.map_eq_some_iff.mp h
    have F := hf.of (look_mem h1)
    obtain ⟨a, data, e1, e2, e3⟩ := F.ex
    exact ⟨q.2, a, data, by show (t.fns.lookup f).map _ = _; rw [h1]; rfl, e1, e2, e3, F.rd⟩
/-- no list stands in the module's part -/
def noLists (K : Frag) : Bool := K.all fun p => !(p.2.cls == Value.type "list")
theorem law_start {n : Nat} {H : Hp} {a : Addr} {ns : List Int} (hl : ns.length ≤ n) (hO : Only H) (hS : SqL K H a (ns.map V.int)) (hK : noLists K = true) : spLaw n [.ref a] H (fun v _ => v = .bl true) fun _ _ _ => False := by
  have key : ∀ o : Obj, K.lookup a = some o → o.cls ≠ .type "list" := fun o h e => by
    have := List.all_eq_true.mp hK _ (look_mem h)
    simp [e] at this
  rcases hS with (h | ⟨o, h⟩) | ⟨o, its, m, h1, h2, _⟩
  · rcases hO a with z | ⟨o, xs, z⟩
    · rw [h] at z; cases z
    · rw [h] at z; cases z
  · exact ⟨a, ns, o, rfl, h, hl, fun _ => rfl⟩
  · exact absurd h2 (key o h1)
theorem cx_no {P : Program} {w : World} {o : List PySem.Env} {H : Hp} {s : Shared} {e : Value} {s' : Shared} (h : L2.CX P w o H s (fun _ _ _ => False) e s') : False := by
  obtain ⟨_, _, _, _, _, _, _, _, _, _, _, _, z⟩ := h
  exact z
theorem kit_rr {a b : Addr} {v : Bool} (h2 : PySem.W.isClsIn K b = true) (h3 : PySem.W.typeIn K (.ref b) = some (.type "type")) (h4 : PySem.W.subIn K (.ref a) (.ref b) = some v) (hv : a = b → v = true) : PySem.W.kitOne K (.ref a) (.ref b) = some v := by
  unfold PySem.W.kitOne PySem.W.kitCls
  by_cases e : a = b
  · rw [if_pos (by simp [e]), hv e]
  · rw [if_neg (by simp [e])]
    refine (if_pos ?_).trans h4
    have h2' : (PySem.W.clsIn K b).isSome = true := h2
    rw [h2', h3]; rfl
end
end SL

set_option Elab.async false
set_option linter.all false
set_option maxRecDepth 100000
set_option maxHeartbeats 4000000
/-! What the evaluator's answers are shown with. -/
namespace SL
open PySem
/-! ### what holds behind -/
/-- what holds behind an exception -/
abbrev EX := Str → List (Str × AV) → AH → Prop
def noX : EX := fun _ _ _ => False
def R.wp {α : Type} (r : R α) (X : EX) (P : α → AH → Prop) : Prop := match r with
  | .ok a h => P a h
  | .exc C fs h => X C fs h
  | .bad => False
section
variable {X Y : EX}
@[simp] theorem wp_ok {α : Type} {a : α} {h : AH} {P : α → AH → Prop} : (R.ok a h).wp X P ↔ P a h := Iff.rfl
@[simp] theorem wp_bad {α : Type} {P : α → AH → Prop} : (R.bad : R α).wp X P ↔ False := Iff.rfl
@[simp] theorem wp_bind {α β : Type} {r : R α} {f : α → AH → R β} {P : β → AH → Prop} : (r.bind f).wp X P ↔ r.wp X fun a h => (f a h).wp X P := by cases r <;> rfl
@[simp] theorem wp_calm {α : Type} {r : R α} {P : α → AH → Prop} : r.calm.wp X P ↔ r.wp noX P := by cases r <;> rfl
@[simp] theorem wp_opt {α : Type} {o : Option α} {h : AH} {P : α → AH → Prop} : (R.opt o h).wp X P ↔ ∃ a, o = some a ∧ P a h := by
  cases o with
  | none => exact ⟨fun z => z.elim, fun ⟨_, z, _⟩ => by cases z⟩
  | some a => exact ⟨fun z => ⟨a, rfl, z⟩, fun ⟨b, e, z⟩ => by cases e; exact z⟩
@[simp] theorem wp_ite {α : Type} {c : Prop} [Decidable c] {x y : R α} {P : α → AH → Prop} : (if c then x else y).wp X P ↔ if c then x.wp X P else y.wp X P := by split <;> rfl
theorem R.wp.mono {α : Type} {r : R α} {P Q : α → AH → Prop} (h : r.wp X P) (f : ∀ a h, P a h → Q a h) : r.wp X Q := by cases r <;> first | exact f _ _ h | exact h
theorem R.wp.monoX {α : Type} {r : R α} {P Q : α → AH → Prop} (h : r.wp X P) (g : ∀ C fs h, X C fs h → Y C fs h) (f : ∀ a h, P a h → Q a h) : r.wp Y Q := by cases r <;> first | exact f _ _ h | exact g _ _ _ h | exact h
theorem R.wp.noX {α : Type} {r : R α} {P : α → AH → Prop} (h : r.wp SL.noX P) : r.wp X P := h.monoX (fun _ _ _ z => z.elim) fun _ _ z => z
theorem wp_ex {α : Type} {r : R α} {P : α → AH → Prop} (h : r.wp noX P) : ∃ a h', r = .ok a h' ∧ P a h' := by cases r <;> first | exact ⟨_, _, rfl, h⟩ | exact h.elim
/-- nx: what holds at the end; rt, bk, ct: .. of a return, a break, a continue -/
structure FE where
  nx : ASt → AH → Prop
  rt : AV → AH → Prop
  bk : ASt → AH → Prop := fun _ _ => False
  ct : ASt → AH → Prop := fun _ _ => False
  ex : ASt → EX := fun _ => noX
def Fl.wp (f : Fl) (E : FE) : Prop := match f with
  | .nx σ h => E.nx σ h
  | .rt v h => E.rt v h
  | .bk σ h => E.bk σ h
  | .ct σ h => E.ct σ h
  | .exc C fs σ h => E.ex σ C fs h
  | .bad => False
@[simp] theorem wpF_nx {σ : ASt} {h : AH} {E : FE} : (Fl.nx σ h).wp E ↔ E.nx σ h := Iff.rfl
@[simp] theorem wpF_rt {v : AV} {h : AH} {E : FE} : (Fl.rt v h).wp E ↔ E.rt v h := Iff.rfl
@[simp] theorem wpF_bk {σ : ASt} {h : AH} {E : FE} : (Fl.bk σ h).wp E ↔ E.bk σ h := Iff.rfl
@[simp] theorem wpF_ct {σ : ASt} {h : AH} {E : FE} : (Fl.ct σ h).wp E ↔ E.ct σ h := Iff.rfl
@[simp] theorem wpF_bad {E : FE} : Fl.bad.wp E ↔ False := Iff.rfl
@[simp] theorem wpF_to {α : Type} {r : R α} {σ : ASt} {f : α → AH → Fl} {E : FE} : (r.toFl σ f).wp E ↔ r.wp (E.ex σ) fun a h => (f a h).wp E := by cases r <;> rfl
@[simp] theorem wpF_next {f : Fl} {k : ASt → AH → Fl} {E : FE} : (f.next k).wp E ↔ f.wp { E with nx := fun σ h => (k σ h).wp E } := by cases f <;> rfl
@[simp] theorem wpF_ite {c : Prop} [Decidable c] {x y : Fl} {E : FE} : (if c then x else y).wp E ↔ if c then x.wp E else y.wp E := by split <;> rfl
theorem Fl.wp.mono {f : Fl} {E E' : FE} (h : f.wp E) (h1 : ∀ σ h, E.nx σ h → E'.nx σ h) (h2 : ∀ v h, E.rt v h → E'.rt v h) (h3 : ∀ σ h, E.bk σ h → E'.bk σ h) (h4 : ∀ σ h, E.ct σ h → E'.ct σ h) (h5 : ∀ σ C fs h, E.ex σ C fs h → E'.ex σ C fs h) : f.wp E' := by
  cases f <;> first | exact h1 _ _ h | exact h2 _ _ h | exact h3 _ _ h | exact h4 _ _ h | exact h5 _ _ _ _ h | exact h
/-- a call, by the body -/
theorem wp_call {G : Env} {k : Nat} {f : Str} {fd : FD} {vs : List AV} {h : AH} {P : AV → AH → Prop} (hf : G.fns f = some fd) (hl : vs.length = fd.ps) (hb : (evS G (cD G k) fd.body (start fd.nS vs) h).wp { nx := fun _ h' => P .non h', rt := P, ex := fun _ => X }) : (callD G (k + 1) f vs h).wp X P := by
  rw [callD_succ, callS, hf]
  simp only [hl, if_true]
  revert hb
  cases evS G (cD G k) fd.body (start fd.nS vs) h <;> exact id
/-- a for, by what holds ahead of each turn -/
theorem wp_for {it : It} {tg : AV → ASt → AH → R ASt} {body : ASt → AH → Fl} {E : FE} (I : Nat → ASt → AH → Prop) (n : Nat) {σ : ASt} {h : AH} (h0 : I 0 σ h) (hn : n < bigW)
    (go : ∀ i σ h, i < n → I i σ h → ∃ v h1, itNext it i h = some (some (v, h1)) ∧ (tg v σ h1).wp (E.ex σ) fun σ1 h2 => (body σ1 h2).wp { nx := I (i + 1), ct := I (i + 1), rt := E.rt, bk := E.nx, ex := E.ex })
    (fin : ∀ σ h, I n σ h → itNext it n h = some none ∧ E.nx σ h) : (forL it tg body bigW 0 σ h).wp E := by
  have key : ∀ m i σ h, i ≤ n → n - i < m → I i σ h → (forL it tg body m i σ h).wp E := by
    intro m
    induction m with
    | zero => intro i σ h _ z; omega
    | succ m ih =>
      intro i σ h hi hm hI
      rw [forL]
      by_cases e : i = n
      · subst e
        obtain ⟨e1, e2⟩ := fin σ h hI
        rw [e1]; exact e2
      · obtain ⟨v, h1, e1, e2⟩ := go i σ h (by omega) hI
        rw [e1]
        simp only [wpF_to]
        refine e2.mono fun σ1 h2 hb => ?_
        revert hb
        cases body σ1 h2 <;> first | exact fun q => ih (i + 1) _ _ (by omega) (by omega) q | exact id
  exact key bigW 0 σ h (Nat.zero_le _) (by omega) h0
/-- a comprehension's loop -/
theorem wp_comp {it : It} {turn : AV → AH → R Unit} {P : Unit → AH → Prop} (I : Nat → AH → Prop) (n : Nat) {h : AH} (h0 : I 0 h) (hn : n < bigW)
    (go : ∀ i h, i < n → I i h → ∃ v h1, itNext it i h = some (some (v, h1)) ∧ (turn v h1).wp X fun _ h2 => I (i + 1) h2)
    (fin : ∀ h, I n h → itNext it n h = some none ∧ P () h) : (compL it turn bigW 0 h).wp X P := by
  have key : ∀ m i h, i ≤ n → n - i < m → I i h → (compL it turn m i h).wp X P := by
    intro m
    induction m with
    | zero => intro i h _ z; omega
    | succ m ih =>
      intro i h hi hm hI
      rw [compL]
      by_cases e : i = n
      · subst e
        obtain ⟨e1, e2⟩ := fin h hI
        rw [e1]; exact e2
      · obtain ⟨v, h1, e1, e2⟩ := go i h (by omega) hI
        rw [e1]
        simp only [wp_bind]
        exact e2.mono fun _ h2 q => ih (i + 1) h2 (by omega) (by omega) q
  exact key bigW 0 h (Nat.zero_le _) (by omega) h0
section
variable {G : Env} {c : Calls} {σ : ASt} {h : AH} {P : AV → AH → Prop} {E : FE}
@[simp] theorem w_non : (evE G c .non σ h).wp X P ↔ P .non h := by rw [evE]; rfl
@[simp] theorem w_bl {b : Bool} : (evE G c (.bl b) σ h).wp X P ↔ P (.bl b) h := by rw [evE]; rfl
@[simp] theorem w_int {i : Int} : (evE G c (.int i) σ h).wp X P ↔ P (.int i) h := by rw [evE]; rfl
@[simp] theorem w_str {i : Str} : (evE G c (.str i) σ h).wp X P ↔ P (.str i) h := by rw [evE]; rfl
theorem w_var {i : Nat} {v : AV} (e : σ[i]? = some (some v)) : (evE G c (.var i) σ h).wp X P ↔ P v h := by rw [evE, e]; rfl
@[simp] theorem w_var0 {o : AV} {r : ASt} : (evE G c (.var 0) (some o :: r) h).wp X P ↔ P o h := w_var rfl
@[simp] theorem w_varS {i : Nat} {o : Option AV} {r : ASt} : (evE G c (.var (i + 1)) (o :: r) h).wp X P ↔ (evE G c (.var i) r h).wp X P := by rw [evE, evE, List.getElem?_cons_succ]
@[simp] theorem w_glob {x : Str} : (evE G c (.glob x) σ h).wp X P ↔ P (.glob x) h := by rw [evE]; rfl
@[simp] theorem w_ty {x : String} : (evE G c (.ty x) σ h).wp X P ↔ P (.ty x) h := by rw [evE]; rfl
@[simp] theorem w_bin {op : Operator} {a b : T} : (evE G c (.bin op a b) σ h).wp X P ↔ (evE G c a σ h).wp X fun x h1 => (evE G c b σ h1).wp X fun y h2 => (binA op x y h2).wp X P := by rw [evE]; simp only [wp_bind]
@[simp] theorem w_neg {a : T} : (evE G c (.neg a) σ h).wp X P ↔ (evE G c a σ h).wp X fun x h1 => (negA x h1).wp X P := by rw [evE]; simp only [wp_bind]
@[simp] theorem w_inv {a : T} : (evE G c (.inv a) σ h).wp X P ↔ (evE G c a σ h).wp X fun x h1 => (invA x h1).wp X P := by rw [evE]; simp only [wp_bind]
theorem w_b2 {α : Type} {x : AV} {h : AH} {f : Bool → R α} {P : α → AH → Prop} : (match x with | .bl b => f b | _ => .bad : R α).wp X P ↔ ∃ b, x = .bl b ∧ (f b).wp X P := by
  cases x <;> simp
@[simp] theorem w_nt {a : T} : (evE G c (.nt a) σ h).wp X P ↔ (evE G c a σ h).wp X fun x h1 => ∃ b, x = .bl b ∧ P (.bl (!b)) h1 := by
  rw [evE]; simp only [wp_bind]
  constructor <;> intro q <;> refine q.mono fun x h1 q => ?_
  · cases x <;> first | exact ⟨_, rfl, q⟩ | exact q.elim
  · obtain ⟨b, rfl, q⟩ := q; exact q
@[simp] theorem w_and {a b : T} : (evE G c (.and a b) σ h).wp X P ↔ (evE G c a σ h).wp X fun x h1 => ∃ k, x = .bl k ∧ if k = true then (evE G c b σ h1).wp X P else P (.bl false) h1 := by
  rw [evE]; simp only [wp_bind]
  constructor <;> intro q <;> refine q.mono fun x h1 q => ?_
  · cases x with
    | bl k => cases k <;> exact ⟨_, rfl, q⟩
    | _ => exact q.elim
  · obtain ⟨k, rfl, q⟩ := q; cases k <;> exact q
@[simp] theorem w_or {a b : T} : (evE G c (.or a b) σ h).wp X P ↔ (evE G c a σ h).wp X fun x h1 => ∃ k, x = .bl k ∧ if k = true then P (.bl true) h1 else (evE G c b σ h1).wp X P := by
  rw [evE]; simp only [wp_bind]
  constructor <;> intro q <;> refine q.mono fun x h1 q => ?_
  · cases x with
    | bl k => cases k <;> exact ⟨_, rfl, q⟩
    | _ => exact q.elim
  · obtain ⟨k, rfl, q⟩ := q; cases k <;> exact q
@[simp] theorem w_cmp {op : CmpOp} {a b : T} : (evE G c (.cmp op a b) σ h).wp X P ↔ (evE G c a σ h).wp X fun x h1 => (evE G c b σ h1).wp X fun y h2 => (cmpG G c op x y h2).wp X P := by rw [evE]; simp only [wp_bind]
@[simp] theorem w_chain {op op' : CmpOp} {a b d : T} : (evE G c (.chain op op' a b d) σ h).wp X P ↔ (evE G c a σ h).wp X fun x h1 => (evE G c b σ h1).wp X fun y h2 => (cmpG G c op x y h2).wp X fun z h3 => ∃ k, z = .bl k ∧ if k = true then (evE G c d σ h3).wp X fun w h4 => (cmpG G c op' y w h4).wp X P else P (.bl false) h3 := by
  rw [evE]; simp only [wp_bind]
  constructor <;> intro q <;> refine q.mono fun x h1 q => q.mono fun y h2 q => q.mono fun z h3 q => ?_
  · cases z with
    | bl k => cases k <;> first | exact ⟨_, rfl, q⟩ | exact ⟨_, rfl, by simpa using q⟩
    | _ => exact q.elim
  · obtain ⟨k, rfl, q⟩ := q; cases k <;> simpa using q
@[simp] theorem w_ite {t a b : T} : (evE G c (.ite t a b) σ h).wp X P ↔ (evT G c t σ h).wp X fun k h1 => if k = true then (evE G c a σ h1).wp X P else (evE G c b σ h1).wp X P := by
  rw [evE]; simp only [wp_bind, wp_ite]
@[simp] theorem w_lst {es : T} : (evE G c (.lst es) σ h).wp X P ↔ (evA G c es σ h).wp X fun vs h1 => (newLst vs h1).wp X P := by rw [evE]; simp only [wp_bind]
@[simp] theorem w_tup {es : T} : (evE G c (.tup es) σ h).wp X P ↔ (evA G c es σ h).wp X fun vs h1 => (newTup vs h1).wp X P := by rw [evE]; simp only [wp_bind]
@[simp] theorem w_dic0 : (evE G c (.dic .nil) σ h).wp X P ↔ P (.ref h.length) (h ++ [.dic []]) := by rw [evE, evA]; rfl
@[simp] theorem w_callF {f : Str} {es : T} : (evE G c (.callF f es) σ h).wp X P ↔ (evA G c es σ h).wp X fun vs h1 => (c.fn f vs h1).wp X P := by rw [evE]; simp only [wp_bind]
@[simp] theorem w_callB {f : Blt} {es : T} : (evE G c (.callB f es) σ h).wp X P ↔ (evA G c es σ h).wp X fun vs h1 => (bltA G f vs h1).wp X P := by rw [evE]; simp only [wp_bind]
@[simp] theorem w_fld {o : T} {x : Str} : (evE G c (.fld o x) σ h).wp X P ↔ (evE G c o σ h).wp X fun v h1 => (fldOf G v x h1).wp X P := by rw [evE]; simp only [wp_bind]
@[simp] theorem w_ix {a b : T} : (evE G c (.ix a b) σ h).wp X P ↔ (evE G c a σ h).wp X fun x h1 => (evE G c b σ h1).wp X fun y h2 => (ixA x y h2).wp X P := by rw [evE]; simp only [wp_bind]
@[simp] theorem w_slc {a b d : T} : (evE G c (.slc a b d) σ h).wp X P ↔ (evE G c a σ h).wp X fun x h1 => (evP G c b σ h1).wp X fun l h2 => (evP G c d σ h2).wp X fun u h3 => (slcA x l u h3).wp X P := by rw [evE]; simp only [wp_bind]
@[simp] theorem w_rev {a : T} : (evE G c (.rev a) σ h).wp X P ↔ (evE G c a σ h).wp X fun x h1 => (revA x h1).wp X P := by rw [evE]; simp only [wp_bind]
@[simp] theorem w_meth {o es : T} {m : Mth} : (evE G c (.meth o m es) σ h).wp X P ↔ (evE G c o σ h).wp X fun x h1 => recvOk m x h1 = true ∧ (evA G c es σ h1).wp X fun vs h2 => (mthA m x vs h2).wp X P := by
  rw [evE]; simp only [wp_bind, wp_ite]
  constructor <;> intro q <;> refine q.mono fun x h1 q => ?_
  · split at q
    · exact ⟨by assumption, q⟩
    · exact q.elim
  · rw [if_pos q.1]; exact q.2
@[simp] theorem w_lrange1 {a : T} : (evE G c (.lrange (.cons a .nil)) σ h).wp X P ↔ (evE G c a σ h).wp X fun v h1 => ∃ j, v = .int j ∧ (-(2 ^ 62) ≤ j ∧ j < 1000000) ∧ (newLst ((List.range j.toNat).map fun i => .int ((i : Nat) : Int)) h1).wp X P := by
  rw [evE]; simp only [wp_bind, evA, wp_ok]
  constructor <;> intro q <;> refine q.mono fun x h1 q => ?_
  · cases x with
    | int j => simp only [wp_ite] at q; split at q
               · exact ⟨j, rfl, by assumption, q⟩
               · exact q.elim
    | _ => exact q.elim
  · obtain ⟨j, rfl, hj, q⟩ := q; simp only [wp_ite]; rw [if_pos hj]; exact q
@[simp] theorem w_lrange2 {a b : T} : (evE G c (.lrange (.cons a (.cons b .nil))) σ h).wp X P ↔ (evE G c a σ h).wp X fun v h1 => (evE G c b σ h1).wp X fun w h2 => ∃ i j, v = .int i ∧ w = .int j ∧ (-(2 ^ 62) ≤ i ∧ i < 2 ^ 62 ∧ -(2 ^ 62) ≤ j ∧ j < 2 ^ 62 ∧ j - i < 1000000) ∧ (newLst ((List.range (j - i).toNat).map fun (k : Nat) => .int (i + (k : Int))) h2).wp X P := by
  rw [evE]; simp only [wp_bind, evA, wp_ok]
  constructor <;> intro q <;> refine q.mono fun x h1 q => q.mono fun y h2 q => ?_
  · cases x with
    | int i => cases y with
      | int j => simp only [wp_ite] at q; split at q
                 · exact ⟨i, j, rfl, rfl, by assumption, q⟩
                 · exact q.elim
      | _ => exact q.elim
    | _ => exact q.elim
  · obtain ⟨i, j, rfl, rfl, hj, q⟩ := q; simp only [wp_ite]; rw [if_pos hj]; exact q
/-- a new list by a comprehension -/
theorem w_comp {e tg i cnd : T} {own : List Nat} : (evE G c (.comp e tg i cnd own) σ h).wp X P ↔ (evI G c i σ h).wp X fun J h1 =>
      (compL J (fun v h2 => (evG G c tg v (wipe σ own) h2).bind fun σ2 h3 => (evT G c cnd σ2 h3).bind fun b h4 =>
        if b = true then (evE G c e σ2 h4).bind fun y h5 => putLst h1.length y h5 else .ok () h4) bigW 0 (h1 ++ [.lst []])).wp noX fun _ h6 => P (.ref h1.length) h6 := by
  rw [evE]; simp only [wp_bind, wp_calm, wp_ok]
@[simp] theorem w_pno {P : Option Int → AH → Prop} : (evP G c .skip σ h).wp X P ↔ P none h := by rw [evP]; rfl
@[simp] theorem w_psome {a : T} {P : Option Int → AH → Prop} : (evP G c (.pSome a) σ h).wp X P ↔ (evE G c a σ h).wp X fun v h1 => ∃ i, v = .int i ∧ P (some i) h1 := by
  rw [evP]; simp only [wp_bind]
  constructor <;> intro q <;> refine q.mono fun x h1 q => ?_
  · cases x <;> first | exact ⟨_, rfl, q⟩ | exact q.elim
  · obtain ⟨b, rfl, q⟩ := q; exact q
@[simp] theorem w_nil {P : List AV → AH → Prop} : (evA G c .nil σ h).wp X P ↔ P [] h := by rw [evA]; rfl
@[simp] theorem w_cons {e es : T} {P : List AV → AH → Prop} : (evA G c (.cons e es) σ h).wp X P ↔ (evE G c e σ h).wp X fun v h1 => (evA G c es σ h1).wp X fun vs h2 => P (v :: vs) h2 := by rw [evA]; simp only [wp_bind, wp_ok]
@[simp] theorem w_tAnd {a b : T} {P : Bool → AH → Prop} : (evT G c (.tAnd a b) σ h).wp X P ↔ (evT G c a σ h).wp X fun k h1 => if k = true then (evT G c b σ h1).wp X P else P false h1 := by rw [evT]; simp only [wp_bind, wp_ite, wp_ok]
@[simp] theorem w_tOr {a b : T} {P : Bool → AH → Prop} : (evT G c (.tOr a b) σ h).wp X P ↔ (evT G c a σ h).wp X fun k h1 => if k = true then P true h1 else (evT G c b σ h1).wp X P := by rw [evT]; simp only [wp_bind, wp_ite, wp_ok]
@[simp] theorem w_tNot {a : T} {P : Bool → AH → Prop} : (evT G c (.tNot a) σ h).wp X P ↔ (evT G c a σ h).wp X fun k h1 => P (!k) h1 := by rw [evT]; simp only [wp_bind, wp_ok]
@[simp] theorem w_tYes {P : Bool → AH → Prop} : (evT G c .tYes σ h).wp X P ↔ P true h := by rw [evT]; rfl
@[simp] theorem w_tVal {a : T} {P : Bool → AH → Prop} : (evT G c (.tVal a) σ h).wp X P ↔ (evE G c a σ h).wp X fun x h1 => ∃ b, truth h1 x = some b ∧ P b h1 := by rw [evT]; simp only [wp_bind, wp_opt]
@[simp] theorem w_iRng1 {es : T} {P : It → AH → Prop} : (evI G c (.iRng1 es) σ h).wp X P ↔ (evA G c es σ h).wp X fun vs h1 => (rng1A vs h1).wp X P := by rw [evI]; simp only [wp_bind]
@[simp] theorem w_iRng2 {es : T} {P : It → AH → Prop} : (evI G c (.iRng2 es) σ h).wp X P ↔ (evA G c es σ h).wp X fun vs h1 => (rng2A vs h1).wp X P := by rw [evI]; simp only [wp_bind]
def seqA (v : AV) (h : AH) : R It := match v with
    | .ref n => match h[n]? with
      | some (.lst _) => .ok (.lsq n) h
      | some (.fro _) => .ok (.lsq n) h
      | some (.tup _) => .ok (.tsq n) h
      | _ => .bad
    | _ => .bad
@[simp] theorem w_iSeq {a : T} {P : It → AH → Prop} : (evI G c (.iSeq a) σ h).wp X P ↔ (evE G c a σ h).wp X fun v h1 => (seqA v h1).wp X P := by rw [evI]; simp only [wp_bind]; rfl
def enmA (v : AV) (h : AH) : R It := match v with
    | .ref n => match lstOf h (.ref n) with
      | some _ => .ok (.enm n) h
      | none => .bad
    | _ => .bad
@[simp] theorem w_iEnm {a : T} {P : It → AH → Prop} : (evI G c (.iEnm a) σ h).wp X P ↔ (evE G c a σ h).wp X fun v h1 => (enmA v h1).wp X P := by rw [evI]; simp only [wp_bind]; rfl
def zipA (v v' : AV) (h2 : AH) : R It := match v, v' with
    | .ref n, .ref m => match lstOf h2 (.ref n), lstOf h2 (.ref m) with
      | some _, some _ => .ok (.zip n m) h2
      | _, _ => match tupOf h2 (.ref n), tupOf h2 (.ref m) with
        | some _, some _ => .ok (.zipT n m) h2
        | _, _ => .bad
    | _, _ => .bad
@[simp] theorem w_iZip {a b : T} {P : It → AH → Prop} : (evI G c (.iZip a b) σ h).wp X P ↔ (evE G c a σ h).wp X fun v h1 => (evE G c b σ h1).wp X fun w h2 => (zipA v w h2).wp X P := by rw [evI]; simp only [wp_bind]; rfl
@[simp] theorem w_tName {i : Nat} {v : AV} {P : ASt → AH → Prop} : (evG G c (.tName i) v σ h).wp X P ↔ P (σ.set i (some v)) h := by rw [evG]; rfl
def tupG (v : AV) (h : AH) : R (List AV) := match v with
    | .ref n => match h[n]? with
      | some (.tup vs) => .ok vs h
      | _ => .bad
    | _ => .bad
@[simp] theorem w_tTup {ts : T} {v : AV} {P : ASt → AH → Prop} : (evG G c (.tTup ts) v σ h).wp X P ↔ (tupG v h).wp X fun vs _ => (evGs G c ts vs σ h).wp X P := by
  unfold tupG
  cases v with
  | ref n =>
    simp only [evG]
    cases h[n]? with
    | none => rfl
    | some o => cases o <;> rfl
  | _ => simp only [evG] <;> rfl
@[simp] theorem w_gnil {P : ASt → AH → Prop} : (evGs G c .nil [] σ h).wp X P ↔ P σ h := by simp only [evGs]; rfl
@[simp] theorem w_gcons {t ts : T} {v : AV} {vs : List AV} {P : ASt → AH → Prop} : (evGs G c (.cons t ts) (v :: vs) σ h).wp X P ↔ (evG G c t v σ h).wp noX fun σ1 h1 => (evGs G c ts vs σ1 h1).wp noX P := by simp only [evGs, wp_bind, wp_calm]
def subP (x y v : AV) (h2 : AH) : R Unit := match x with
    | .ref n => match h2[n]?, y with
      | some (.lst xs), .int k => match L2.ixN xs.length k with
        | some j => .ok () (h2.set n (.lst (xs.set j v)))
        | none => .bad
      | some (.dic kvs), k => match keyOf k with
        | some k => if kvs.length < sizeLine then .ok () (h2.set n (.dic (putK kvs k v))) else .bad
        | none => .bad
      | some (.memo ms kvs), k => match keyOf k with
        | some k => if kvs.length < sizeLine then .ok () (h2.set n (.memo ms (putK kvs k v))) else .bad
        | none => .bad
      | _, _ => .bad
    | _ => .bad
@[simp] theorem w_tSub {o i : T} {v : AV} {P : ASt → AH → Prop} : (evG G c (.tSub o i) v σ h).wp X P ↔ (evE G c o σ h).wp X fun x h1 => (evE G c i σ h1).wp X fun y h2 => (subP x y v h2).wp X fun _ h3 => P σ h3 := by
  rw [evG]; simp only [wp_bind]
  have : ∀ x y h2, ((match x with
    | .ref n => match h2[n]?, y with
      | some (.lst xs), .int k => match L2.ixN xs.length k with
        | some j => .ok σ (h2.set n (.lst (xs.set j v)))
        | none => .bad
      | some (.dic kvs), k => match keyOf k with
        | some k => if kvs.length < sizeLine then .ok σ (h2.set n (.dic (putK kvs k v))) else .bad
        | none => .bad
      | some (.memo ms kvs), k => match keyOf k with
        | some k => if kvs.length < sizeLine then .ok σ (h2.set n (.memo ms (putK kvs k v))) else .bad
        | none => .bad
      | _, _ => .bad
    | _ => .bad : R ASt)).wp X P ↔ (subP x y v h2).wp X fun _ h3 => P σ h3 := by
    intro x y h2
    unfold subP
    cases x with
    | ref n =>
      simp only
      split
      · split <;> rfl
      · split
        · split <;> rfl
        · rfl
      · split
        · split <;> rfl
        · rfl
      · rfl
    | _ => rfl
  constructor <;> intro q <;> refine q.mono fun x h1 q => q.mono fun y h2 q => ?_
  · exact (this x y h2).mp q
  · exact (this x y h2).mpr q
@[simp] theorem s_done : (evS G c .done σ h).wp E ↔ E.nx σ h := by rw [evS]; rfl
@[simp] theorem s_seq {a b : T} : (evS G c (.seq a b) σ h).wp E ↔ (evS G c a σ h).wp { E with nx := fun σ1 h1 => (evS G c b σ1 h1).wp E } := by rw [evS, wpF_next]
@[simp] theorem s_expr {e : T} : (evS G c (.expr e) σ h).wp E ↔ (evE G c e σ h).wp (E.ex σ) fun _ h1 => E.nx σ h1 := by rw [evS, wpF_to]; rfl
@[simp] theorem s_ret {e : T} : (evS G c (.ret e) σ h).wp E ↔ (evE G c e σ h).wp (E.ex σ) fun v h1 => E.rt v h1 := by rw [evS, wpF_to]; rfl
@[simp] theorem s_asg {tg e : T} : (evS G c (.asg tg e) σ h).wp E ↔ (evE G c e σ h).wp (E.ex σ) fun v h1 => (evG G c tg v σ h1).wp (E.ex σ) fun σ1 h2 => E.nx σ1 h2 := by rw [evS]; simp only [wpF_to, wpF_nx]
@[simp] theorem s_iff {t a b : T} : (evS G c (.iff t a b) σ h).wp E ↔ (evT G c t σ h).wp (E.ex σ) fun k h1 => if k = true then (evS G c a σ h1).wp E else (evS G c b σ h1).wp E := by rw [evS]; simp only [wpF_to, wpF_ite]
theorem s_aug {i : Nat} {op : Operator} {e : T} {x : AV} (hx : σ[i]? = some (some x)) : (evS G c (.aug i op e) σ h).wp E ↔ (evE G c e σ h).wp (E.ex σ) fun y h1 => (augA op x y h1).wp (E.ex σ) fun z h2 => E.nx (σ.set i (some z)) h2 := by rw [evS, hx]; simp only [wpF_to, wpF_nx]
theorem s_for' {tg it b : T} : (evS G c (.for tg it b) σ h).wp E ↔ (evI G c it σ h).wp (E.ex σ) fun J h1 => (forL J (evG G c tg) (evS G c b) bigW 0 σ h1).wp E := by rw [evS]; simp only [wpF_to]
@[simp] theorem s_par {is : List Nat} {es : T} : (evS G c (.par is es) σ h).wp E ↔ (evA G c es σ h).wp (E.ex σ) fun vs h1 => vs.length = is.length ∧ E.nx (setAll σ is vs) h1 := by
  rw [evS]; simp only [wpF_to]
  constructor <;> intro q <;> refine q.mono fun x h1 q => ?_
  · split at q
    · exact ⟨by assumption, q⟩
    · exact q.elim
  · rw [if_pos q.1]; exact q.2
@[simp] theorem s_brk : (evS G c .brk σ h).wp E ↔ E.bk σ h := by rw [evS]; rfl
@[simp] theorem s_cont : (evS G c .cont σ h).wp E ↔ E.ct σ h := by rw [evS]; rfl
theorem s_raise {C : Str} {es : T} : (evS G c (.raise C es) σ h).wp E ↔ (evA G c es σ h).wp (E.ex σ) fun vs h1 => ∃ fs, excFs G C vs = some fs ∧ E.ex σ C fs h1 := by
  rw [evS, wpF_to]
  constructor <;> intro q <;> refine q.mono fun vs h1 q => ?_
  · split at q
    · exact ⟨_, by assumption, q⟩
    · exact q.elim
  · obtain ⟨fs, e, q⟩ := q; rw [e]; exact q
theorem s_try {b s : T} {C : Str} {i : Nat} : (evS G c (.tryAs b C i s) σ h).wp E ↔ (evS G c b σ h).wp { E with ex := fun σ1 D fs h1 => if G.sub D C = some true then
    ((evS G c s (σ1.set i (some (.ref h1.length))) (h1 ++ [.exc D fs])).wp { nx := fun σ2 h2 => E.nx (σ2.set i none) h2, rt := E.rt, bk := fun σ2 h2 => E.bk (σ2.set i none) h2, ct := fun σ2 h2 => E.ct (σ2.set i none) h2 }) else E.ex σ1 D fs h1 } := by
  rw [evS]
  cases evS G c b σ h with
  | exc D fs σ1 h1 =>
    simp only [Fl.wp]
    by_cases e : G.sub D C = some true
    · simp only [e, if_true]
      cases evS G c s (σ1.set i (some (.ref h1.length))) (h1 ++ [.exc D fs]) <;> exact Iff.rfl
    · simp only [e, if_false]
  | _ => exact Iff.rfl
end
end
end SL

set_option Elab.async false
set_option linter.all false
set_option maxRecDepth 100000
set_option maxHeartbeats 4000000
/-! Rules of values. -/
namespace SL
open PySem
section
variable {X : EX} {G : Env} {c : Calls} {σ : ASt} {h : AH} {P : AV → AH → Prop} {E : FE} {i j : Int} {n m : Nat}
@[simp] theorem b_add : (binA .Add (.int i) (.int j) h).wp X P ↔ P (.int (i + j)) h := Iff.rfl
@[simp] theorem b_sub : (binA .Sub (.int i) (.int j) h).wp X P ↔ P (.int (i - j)) h := Iff.rfl
@[simp] theorem b_mul : (binA .Mult (.int i) (.int j) h).wp X P ↔ CMulB i j = true ∧ P (.int (i * j)) h := by simp [binA]
@[simp] theorem b_fdiv : (binA .FloorDiv (.int i) (.int j) h).wp X P ↔ (0 < j ∧ j < 1073741824) ∧ P (.int (i / j)) h := by simp [binA]
@[simp] theorem b_mod : (binA .Mod (.int i) (.int j) h).wp X P ↔ 0 < j ∧ P (.int (i % j)) h := by simp [binA]
@[simp] theorem b_pow : (binA .Pow (.int i) (.int j) h).wp X P ↔ (0 ≤ j ∧ (Builtin.Int.intBits i : Int) * j ≤ 2 ^ 27) ∧ P (.int (i ^ j.toNat)) h := by simp [binA]
@[simp] theorem b_shl : (binA .LShift (.int i) (.int j) h).wp X P ↔ (0 ≤ j ∧ j ≤ 1000000 ∧ i.natAbs < 2 ^ 64) ∧ P (.int (i * 2 ^ j.toNat)) h := by simp [binA]
@[simp] theorem b_shr : (binA .RShift (.int i) (.int j) h).wp X P ↔ 0 ≤ j ∧ P (.int (i / 2 ^ j.toNat)) h := by simp [binA]
@[simp] theorem b_band : (binA .BitAnd (.int i) (.int j) h).wp X P ↔ P (.int (Builtin.bitAnd i j)) h := Iff.rfl
@[simp] theorem b_bor : (binA .BitOr (.int i) (.int j) h).wp X P ↔ P (.int (Builtin.bitOr i j)) h := Iff.rfl
@[simp] theorem b_bxor : (binA .BitXor (.int i) (.int j) h).wp X P ↔ P (.int (Builtin.bitXor i j)) h := Iff.rfl
theorem b_cat {xs ys : List AV} (e1 : h[n]? = some (.lst xs)) (e2 : h[m]? = some (.lst ys)) : (binA .Add (.ref n) (.ref m) h).wp X P ↔ (newLst (xs ++ ys) h).wp X P := by simp only [binA, e1, e2]
@[simp] theorem a_add {op : Operator} : (augA op (.int i) (.int j) h).wp X P ↔ (binA op (.int i) (.int j) h).wp X P := Iff.rfl
@[simp] theorem n_lst {xs : List AV} : (newLst xs h).wp X P ↔ xs.length ≤ sizeLine ∧ P (.ref h.length) (h ++ [.lst xs]) := by simp [newLst, R.new]
@[simp] theorem n_tup {xs : List AV} : (newTup xs h).wp X P ↔ xs.length ≤ sizeLine ∧ P (.ref h.length) (h ++ [.tup xs]) := by simp [newTup, R.new]
@[simp] theorem t_bl {b : Bool} : truth h (.bl b) = some b := rfl
@[simp] theorem t_int : truth h (.int i) = some (i != 0) := rfl
@[simp] theorem t_non : truth h .non = some false := rfl
theorem t_lst {xs : List AV} (e : h[n]? = some (.lst xs)) : truth h (.ref n) = some (!xs.isEmpty) := by simp only [truth, e]
@[simp] theorem k_len {v : AV} : bltA G .len [v] h = lenA v h := rfl
@[simp] theorem k_sum {v : AV} : bltA G .sum [v] h = sumA v h := rfl
@[simp] theorem k_all {v : AV} : bltA G .all [v] h = allA v h := rfl
@[simp] theorem k_any {v : AV} : bltA G .any [v] h = anyA v h := rfl
@[simp] theorem k_list {v : AV} : bltA G .list [v] h = listA v h := rfl
@[simp] theorem k_tuple {v : AV} : bltA G .tuple [v] h = tupleA v h := rfl
@[simp] theorem k_dict {v : AV} : bltA G .dict [v] h = dictA v h := rfl
@[simp] theorem k_sorted {v : AV} : bltA G .sorted [v] h = sortedA v h := rfl
@[simp] theorem k_int : (bltA G .int [.int i] h).wp X P ↔ P (.int i) h := Iff.rfl
@[simp] theorem k_max : (bltA G .max [.int i, .int j] h).wp X P ↔ P (.int (if j > i then j else i)) h := Iff.rfl
@[simp] theorem k_min : (bltA G .min [.int i, .int j] h).wp X P ↔ P (.int (if j < i then j else i)) h := Iff.rfl
@[simp] theorem k_isi {v w : AV} : bltA G .isinstance [v, w] h = isiA G v w h := rfl
theorem len_lst {xs : List AV} (e : h[n]? = some (.lst xs)) : (lenA (.ref n) h).wp X P ↔ P (.int xs.length) h := by simp only [lenA, e]; rfl
theorem len_fro {xs : List AV} (e : h[n]? = some (.fro xs)) : (lenA (.ref n) h).wp X P ↔ P (.int xs.length) h := by simp only [lenA, e]; rfl
theorem len_tup {xs : List AV} (e : h[n]? = some (.tup xs)) : (lenA (.ref n) h).wp X P ↔ P (.int xs.length) h := by simp only [lenA, e]; rfl
theorem ix_lst {xs : List AV} (e : h[n]? = some (.lst xs)) : (ixA (.ref n) (.int i) h).wp X P ↔ ∃ v, L2.atI xs i = some v ∧ P v h := by simp only [ixA, e, wp_opt]
theorem ix_tup {xs : List AV} (e : h[n]? = some (.tup xs)) : (ixA (.ref n) (.int i) h).wp X P ↔ ∃ v, L2.atI xs i = some v ∧ P v h := by simp only [ixA, e, wp_opt]
theorem lstOf_lst {xs : List AV} (e : h[n]? = some (.lst xs)) : lstOf h (.ref n) = some xs := by simp only [lstOf, e]
theorem lstOf_fro {xs : List AV} (e : h[n]? = some (.fro xs)) : lstOf h (.ref n) = some xs := by simp only [lstOf, e]
theorem seq_lst {xs : List AV} {P : It → AH → Prop} (e : h[n]? = some (.lst xs)) : (seqA (.ref n) h).wp X P ↔ P (.lsq n) h := by simp only [seqA, e]; rfl
theorem seq_fro {xs : List AV} {P : It → AH → Prop} (e : h[n]? = some (.fro xs)) : (seqA (.ref n) h).wp X P ↔ P (.lsq n) h := by simp only [seqA, e]; rfl
theorem seq_tup {xs : List AV} {P : It → AH → Prop} (e : h[n]? = some (.tup xs)) : (seqA (.ref n) h).wp X P ↔ P (.tsq n) h := by simp only [seqA, e]; rfl
theorem enm_lst {xs : List AV} {P : It → AH → Prop} (e : lstOf h (.ref n) = some xs) : (enmA (.ref n) h).wp X P ↔ P (.enm n) h := by simp only [enmA, e]; rfl
@[simp] theorem r_1 {P : It → AH → Prop} : (rng1A [.int j] h).wp X P ↔ (-(2 ^ 62) ≤ j ∧ j < 2 ^ 62) ∧ P (.rng 0 j.toNat) h := by simp [rng1A]
@[simp] theorem r_2 {P : It → AH → Prop} : (rng2A [.int i, .int j] h).wp X P ↔ (-(2 ^ 62) ≤ i ∧ i < 2 ^ 62 ∧ -(2 ^ 62) ≤ j ∧ j < 2 ^ 62) ∧ P (.rng i (j - i).toNat) h := by simp [rng2A]
theorem eqv_int : PyData.eqv (.int i) (.int j) = decide (i = j) := by
  rw [PyData.eqv]; rfl
theorem eqA_int : eqA h (.int i) (.int j) = some (decide (i = j)) := by
  unfold eqA toD
  simp only [eqv_int]
  rw [if_pos ⟨by rfl, by rfl⟩]
theorem own_sc {x : AV} (hx : ∀ n, x ≠ .ref n) : eqOwn G h x = none := by cases x <;> first | rfl | exact absurd rfl (hx _)
@[simp] theorem c_eqi : (cmpG G c .Eq (.int i) (.int j) h).wp X P ↔ P (.bl (decide (i = j))) h := by
  simp [cmpG, own_sc, cmpA, eqA_int]
@[simp] theorem c_nei : (cmpG G c .NotEq (.int i) (.int j) h).wp X P ↔ P (.bl (!decide (i = j))) h := by
  simp [cmpG, own_sc, cmpA, eqA_int]
@[simp] theorem c_lt : (cmpG G c .Lt (.int i) (.int j) h).wp X P ↔ P (.bl (decide (i < j))) h := Iff.rfl
@[simp] theorem c_le : (cmpG G c .LtE (.int i) (.int j) h).wp X P ↔ P (.bl (decide (i ≤ j))) h := Iff.rfl
@[simp] theorem c_gt : (cmpG G c .Gt (.int i) (.int j) h).wp X P ↔ P (.bl (decide (j < i))) h := Iff.rfl
@[simp] theorem c_ge : (cmpG G c .GtE (.int i) (.int j) h).wp X P ↔ P (.bl (decide (j ≤ i))) h := Iff.rfl
theorem eqA_bl {a b : Bool} : eqA h (.bl a) (.bl b) = some (decide (a = b)) := by cases a <;> cases b <;> rfl
@[simp] theorem c_eqb {a b : Bool} : (cmpG G c .Eq (.bl a) (.bl b) h).wp X P ↔ P (.bl (decide (a = b))) h := by
  simp [cmpG, own_sc, cmpA, eqA_bl]
@[simp] theorem m_bits : (mthA .bit_length (.int i) [] h).wp X P ↔ P (.int (Builtin.Int.intBits i : Nat)) h := Iff.rfl
@[simp] theorem m_bitsOk : recvOk .bit_length (.int i) h = true := rfl
theorem m_appOk {xs : List AV} (e : h[n]? = some (.lst xs)) : recvOk .append (.ref n) h = true := by simp only [recvOk, e]
theorem m_app {xs : List AV} {v : AV} (e : h[n]? = some (.lst xs)) : (mthA .append (.ref n) [v] h).wp X P ↔ xs.length < sizeLine ∧ P .non (h.set n (.lst (xs ++ [v]))) := by simp [mthA, e]
theorem sub_lst {xs : List AV} {v : AV} {P : Unit → AH → Prop} (e : h[n]? = some (.lst xs)) : (subP (.ref n) (.int i) v h).wp X P ↔ ∃ j, L2.ixN xs.length i = some j ∧ P () (h.set n (.lst (xs.set j v))) := by
  simp only [subP, e]
  cases L2.ixN xs.length i <;> simp
theorem fld_ins {C : Str} {fs : List (Str × AV)} {x : Str} (e : h[n]? = some (.ins C fs)) (hf : hasFld G C x = true) : (fldOf G (.ref n) x h).wp X P ↔ ∃ v, fs.lookup x = some v ∧ P v h := by
  simp only [fldOf, e, hf, if_true, wp_opt]
theorem tup_G {xs : List AV} {P : List AV → AH → Prop} (e : h[n]? = some (.tup xs)) : (tupG (.ref n) h).wp X P ↔ P xs h := by simp only [tupG, e]; rfl
theorem put_lst {xs : List AV} {v : AV} {P : Unit → AH → Prop} (e : h[n]? = some (.lst xs)) : (putLst n v h).wp X P ↔ xs.length < sizeLine ∧ P () (h.set n (.lst (xs ++ [v]))) := by simp [putLst, e]
@[simp] theorem nx_rng {lo : Int} {k t : Nat} : itNext (.rng lo k) t h = some (if t < k then some (.int (lo + t), h) else none) := rfl
theorem nx_lsq {xs : List AV} {t : Nat} (e : lstOf h (.ref n) = some xs) : itNext (.lsq n) t h = some (xs[t]?.map fun x => (x, h)) := by simp only [itNext, e]; rfl
theorem nx_tsq {xs : List AV} {t : Nat} (e : h[n]? = some (.tup xs)) : itNext (.tsq n) t h = some (xs[t]?.map fun x => (x, h)) := by simp only [itNext, tupOf, e]; rfl
theorem nx_enm {xs : List AV} {t : Nat} (e : lstOf h (.ref n) = some xs) : itNext (.enm n) t h = some (xs[t]?.map fun x => (.ref h.length, h ++ [.tup [.int t, x]])) := by simp only [itNext, e]; rfl
theorem nx_zip {xs ys : List AV} {t : Nat} (e : lstOf h (.ref n) = some xs) (e2 : lstOf h (.ref m) = some ys) : itNext (.zip n m) t h = some (zipAt xs ys t h) := by simp only [itNext, e, e2]
theorem fn_cD {k : Nat} {f : Str} {vs : List AV} : ((cD G k).fn f vs h) = callD G k f vs h := cD_fn G k f vs h
theorem lo_cD {k : Nat} {f : Str} {vs : List AV} : ((cD G k).lo f vs h) = callD G (k - 1) f vs h := cD_lo G k f vs h
end
end SL

set_option Elab.async false
set_option linter.all false
set_option maxRecDepth 100000
set_option maxHeartbeats 4000000
/-! The laws' own helpers: their bodies, and what they answer. -/
namespace SL
open PySem
def B_mixed : T := (.seq (.asg (.tName 3) (.bin .Add (.bin .Mult (.var 0) (.int 69069)) (.bin .Mult (.bin .Mult (.int 104729) (.var 1)) (.var 1)))) (.seq (.asg (.tName 3) (.bin .Mod (.callB .int (.cons (.bin .Add (.bin .Add (.var 3) (.bin .Mult (.int 7919) (.var 2))) (.var 1)) .nil)) (.int 2147483647))) (.seq (.asg (.tName 3) (.bin .Mod (.callB .int (.cons (.bin .Add (.bin .Mult (.var 3) (.var 3)) (.int 40503)) .nil)) (.int 2147483629))) (.seq (.ret (.bin .Mod (.callB .int (.cons (.bin .Mult (.var 3) (.int 48271)) .nil)) (.int 2147483587))) .done))))
def B_draw : T := (.seq (.iff (.tVal (.cmp .Gt (.ix (.var 0) (.int 0)) (.int 0))) (.seq (.asg (.tName 2) (.bin .Mod (.callB .int (.cons (.ix (.var 0) (.int 0)) .nil)) (.var 1))) (.seq (.asg (.tSub (.var 0) (.int 0)) (.bin .FloorDiv (.ix (.var 0) (.int 0)) (.var 1))) (.seq (.ret (.var 2)) .done))) .done) (.seq (.asg (.tName 3) (.int 0)) (.seq (.for (.tName 4) (.iRng1 (.cons (.bin .Add (.int 1) (.bin .FloorDiv (.meth (.var 1) .bit_length .nil) (.int 28))) .nil)) (.seq (.asg (.tSub (.var 0) (.int 2)) (.bin .Add (.ix (.var 0) (.int 2)) (.int 1))) (.seq (.asg (.tName 3) (.bin .Add (.bin .Mult (.var 3) (.int 2147483587)) (.callF "_law_mixed" (.cons (.ix (.var 0) (.int 1)) (.cons (.ix (.var 0) (.int 2)) (.cons (.ix (.var 0) (.int 3)) .nil)))))) .done))) (.seq (.ret (.bin .Mod (.callB .int (.cons (.var 3) .nil)) (.var 1))) .done))))
def B_purse : T := (.seq (.asg (.tName 2) (.callB .sum (.cons (.slc (.var 0) (.pSome (.var 1)) (.pSome (.bin .Add (.var 1) (.int 1)))) .nil))) (.seq (.ret (.lst (.cons (.bin .Mod (.callB .int (.cons (.callB .max (.cons (.bin .Sub (.var 2) (.bin .Pow (.int 10) (.int 18))) (.cons (.int 0) .nil))) .nil)) (.bin .Pow (.bin .Pow (.int 10) (.int 60)) (.int 8))) (.cons (.bin .Mod (.callB .int (.cons (.var 2) .nil)) (.int 2147483629)) (.cons (.int 0) (.cons (.var 1) .nil)))))) .done))
def B_purses : T := (.seq (.ret (.comp (.callF "_law_purse" (.cons (.var 0) (.cons (.var 2) .nil))) (.tName 2) (.iRng1 (.cons (.callB .max (.cons (.int 1) (.cons (.callB .min (.cons (.var 1) (.cons (.callB .len (.cons (.var 0) .nil)) .nil))) .nil))) .nil)) .tYes [2])) .done)
def B_one_of : T := (.seq (.ret (.ix (.var 1) (.callF "_law_draw" (.cons (.var 0) (.cons (.callB .len (.cons (.var 1) .nil)) .nil))))) .done)
def B_same : T := (.seq (.iff (.tVal (.callB .isinstance (.cons (.var 0) (.cons (.ty "dict") .nil)))) (.seq (.ret (.callB .dict (.cons (.comp (.tup (.cons (.var 1) (.cons (.callF "_law_same" (.cons (.ix (.var 0) (.var 1)) .nil)) .nil))) (.tName 1) (.iSeq (.var 0)) .tYes [1]) .nil))) .done) .done) (.seq (.iff (.tVal (.callB .isinstance (.cons (.var 0) (.cons (.ty "list") .nil)))) (.seq (.ret (.comp (.callF "_law_same" (.cons (.var 2) .nil)) (.tName 2) (.iSeq (.var 0)) .tYes [2])) .done) .done) (.seq (.ret (.ite (.tVal (.callB .isinstance (.cons (.var 0) (.cons (.ty "tuple") .nil)))) (.callB .tuple (.cons (.comp (.callF "_law_same" (.cons (.var 2) .nil)) (.tName 2) (.iSeq (.var 0)) .tYes [2]) .nil)) (.var 0))) .done)))
def B_exact : T := (.seq (.iff (.tVal (.callB .isinstance (.cons (.var 0) (.cons (.tup (.cons (.ty "list") (.cons (.ty "tuple") .nil))) .nil)))) (.seq (.asg (.tName 2) (.and (.cmp .Eq (.callB .isinstance (.cons (.var 1) (.cons (.ty "list") .nil))) (.callB .isinstance (.cons (.var 0) (.cons (.ty "list") .nil)))) (.cmp .Eq (.callB .isinstance (.cons (.var 1) (.cons (.ty "tuple") .nil))) (.callB .isinstance (.cons (.var 0) (.cons (.ty "tuple") .nil)))))) (.seq (.ret (.and (.var 2) (.and (.cmp .Eq (.callB .len (.cons (.var 0) .nil)) (.callB .len (.cons (.var 1) .nil))) (.callB .all (.cons (.comp (.callF "_law_exact" (.cons (.var 3) (.cons (.var 4) .nil))) (.tTup (.cons (.tName 3) (.cons (.tName 4) .nil))) (.iZip (.var 0) (.var 1)) .tYes [3, 4]) .nil))))) .done)) .done) (.seq (.iff (.tVal (.callB .isinstance (.cons (.var 0) (.cons (.ty "dict") .nil)))) (.seq (.asg (.tName 2) (.and (.callB .isinstance (.cons (.var 1) (.cons (.ty "dict") .nil))) (.callF "_law_exact" (.cons (.callB .list (.cons (.var 0) .nil)) (.cons (.callB .list (.cons (.var 1) .nil)) .nil))))) (.seq (.ret (.and (.var 2) (.callB .all (.cons (.comp (.callF "_law_exact" (.cons (.ix (.var 0) (.var 5)) (.cons (.ix (.var 1) (.var 5)) .nil))) (.tName 5) (.iSeq (.var 0)) .tYes [5]) .nil)))) .done)) .done) (.seq (.asg (.tName 2) (.cmp .Eq (.callB .isinstance (.cons (.var 0) (.cons (.ty "int") .nil))) (.callB .isinstance (.cons (.var 1) (.cons (.ty "int") .nil))))) (.seq (.ret (.and (.var 2) (.and (.cmp .Eq (.callB .isinstance (.cons (.var 0) (.cons (.ty "bool") .nil))) (.callB .isinstance (.cons (.var 1) (.cons (.ty "bool") .nil)))) (.cmp .Eq (.var 0) (.var 1))))) .done))))

theorem cmul_l {i j : Int} (h : -(2 ^ 64) < i ∧ i < 2 ^ 64) : CMulB i j = true := by unfold CMulB; simp; left; omega
theorem cmul_r {i j : Int} (h : -(2 ^ 64) < j ∧ j < 2 ^ 64) : CMulB i j = true := by unfold CMulB; simp; right; omega
theorem mixed_ok {G : Env} (hf : G.fns "_law_mixed" = some ⟨4, 3, B_mixed⟩) (k : Nat) (s c a : Int) (h : AH) (hs : -(2 ^ 64) < s ∧ s < 2 ^ 64) (hc : 0 ≤ c ∧ c < 2 ^ 62) :
    (callD G (k + 1) "_law_mixed" [.int s, .int c, .int a] h).wp noX fun v h' => h' = h ∧ ∃ m, v = .int m := by
  refine wp_call hf rfl ?_
  simp [B_mixed, start]
  refine ⟨cmul_r (by omega), cmul_l (by omega), cmul_r (by omega), cmul_l (by omega), cmul_l ?_, cmul_r (by omega)⟩
  generalize s * 69069 + 104729 * c * c + 7919 * a + c = z
  omega
/-- what stands at p may change, all else stays -/
def Same (p : Nat) (h h' : AH) : Prop := h.length ≤ h'.length ∧ ∀ i, i < h.length → i ≠ p → h'[i]? = h[i]?
theorem Same.rfl' {p : Nat} {h : AH} : Same p h h := ⟨Nat.le_refl _, fun _ _ _ => rfl⟩
theorem Same.trans {p : Nat} {h h1 h2 : AH} (a : Same p h h1) (b : Same p h1 h2) : Same p h h2 := ⟨Nat.le_trans a.1 b.1, fun i hi hp => (b.2 i (Nat.lt_of_lt_of_le hi a.1) hp).trans (a.2 i hi hp)⟩
theorem Same.app {p : Nat} {h l : AH} : Same p h (h ++ l) := ⟨by simp, fun i hi _ => List.getElem?_append_left hi⟩
theorem Same.set {p : Nat} {h : AH} {o : AO} : Same p h (h.set p o) := ⟨by simp, fun i _ hp => List.getElem?_set_ne (Ne.symm hp)⟩
/-- a purse at p that may be drawn from b times -/
def Purse (h : AH) (p : Nat) (b : Nat) : Prop := ∃ a s c t : Int, h[p]? = some (.lst [.int a, .int s, .int c, .int t]) ∧ 0 ≤ a ∧ 0 ≤ s ∧ s < 2 ^ 62 ∧ 0 ≤ c ∧ c + b ≤ 2 ^ 61
theorem Purse.mono {h : AH} {p b b' : Nat} (q : Purse h p b) (hb : b' ≤ b) : Purse h p b' := by
  obtain ⟨a, s, c, t, e, q1, q2, q3, q4, q5⟩ := q
  exact ⟨a, s, c, t, e, q1, q2, q3, q4, by omega⟩
theorem Purse.app {h l : AH} {p b : Nat} (q : Purse h p b) : Purse (h ++ l) p b := by
  obtain ⟨a, s, c, t, e, q⟩ := q
  exact ⟨a, s, c, t, by rw [List.getElem?_append_left (List.getElem?_eq_some_iff.mp e).1]; exact e, q⟩
theorem bits_small {m : Int} (h0 : 0 ≤ m) (h1 : m < 2 ^ 27) : (Builtin.Int.intBits m : Int) / 28 = 0 := by
  have : Builtin.Int.intBits m ≤ 27 := by
    unfold Builtin.Int.intBits
    split
    · omega
    · rename_i hz
      have hm : m.natAbs < 2 ^ 27 := by omega
      have : m.natAbs.log2 < 27 := by
        rw [Nat.log2_lt]
        · exact hm
        · intro e; apply hz; simp; omega
      omega
  omega
@[simp] theorem ixN_0 {n : Nat} {i : Nat} : L2.ixN n (i : Int) = if i < n then some i else none := by
  unfold L2.ixN; simp
theorem atI_nat {α : Type} {xs : List α} {i : Nat} : L2.atI xs (i : Int) = xs[i]? := by
  unfold L2.atI
  rw [ixN_0]
  split
  · rfl
  · simp; omega
theorem atI_0 {α : Type} {xs : List α} : L2.atI xs 0 = xs[0]? := atI_nat (i := 0)
theorem atI_1 {α : Type} {xs : List α} : L2.atI xs 1 = xs[1]? := atI_nat (i := 1)
theorem atI_2 {α : Type} {xs : List α} : L2.atI xs 2 = xs[2]? := atI_nat (i := 2)
theorem atI_3 {α : Type} {xs : List α} : L2.atI xs 3 = xs[3]? := atI_nat (i := 3)
theorem ixN_n0 {n : Nat} : L2.ixN n 0 = if 0 < n then some 0 else none := ixN_0 (i := 0)
theorem ixN_n2 {n : Nat} : L2.ixN n 2 = if 2 < n then some 2 else none := ixN_0 (i := 2)
theorem draw_ok {G : Env} (hm : G.fns "_law_mixed" = some ⟨4, 3, B_mixed⟩) (hf : G.fns "_law_draw" = some ⟨5, 2, B_draw⟩) (k : Nat) {p b : Nat} {m : Int} {h : AH} (hp : Purse h p (b + 1)) (h1 : 1 ≤ m) (h2 : m < 2 ^ 27) :
    (callD G (k + 2) "_law_draw" [.ref p, .int m] h).wp noX fun v h' => (∃ d, v = .int d ∧ 0 ≤ d ∧ d < m) ∧ Same p h h' ∧ h'.length = h.length ∧ Purse h' p b := by
  obtain ⟨a, s, c, t, e, q1, q2, q3, q4, q5⟩ := hp
  have hlt := (List.getElem?_eq_some_iff.mp e).1
  refine wp_call hf rfl ?_
  simp only [B_draw, start, List.map_cons, List.map_nil, List.length_cons, List.length_nil, Nat.reduceAdd, Nat.reduceSub, List.replicate, List.cons_append, List.nil_append, s_seq, s_iff, s_asg, s_ret, s_done, w_tVal, w_cmp, w_ix, w_var0, w_int, ix_lst e, w_callB, w_cons, w_nil, w_tSub, sub_lst e, w_bin]
  refine ⟨.int a, by rw [atI_0]; rfl, ?_⟩
  simp only [c_gt, t_bl]
  refine ⟨_, rfl, ?_⟩
  by_cases ha : 0 < a
  · rw [if_pos (by simpa using ha)]
    simp only [ix_lst e]
    refine ⟨.int a, by rw [atI_0]; rfl, ?_⟩
    simp only [k_int, w_bin, w_varS, w_var0, b_mod, w_tName, w_ix, w_int, ix_lst e, List.set_cons_succ, List.set_cons_zero]
    refine ⟨by omega, .int a, by rw [atI_0]; rfl, ?_⟩
    simp only [b_fdiv, w_var0, w_varS, sub_lst e]
    refine ⟨⟨by omega, by omega⟩, 0, by rw [ixN_n0]; rfl, ?_⟩
    refine ⟨⟨_, rfl, Int.emod_nonneg _ (by omega), Int.emod_lt_of_pos _ (by omega)⟩, Same.set, by simp, ?_⟩
    exact ⟨a / m, s, c, t, by rw [List.getElem?_set_self hlt]; rfl, Int.ediv_nonneg q1 (by omega), q2, q3, q4, by omega⟩
  · rw [if_neg (by simpa using ha)]
    simp only [s_for', w_tName, w_iRng1, w_cons, w_nil, w_bin, w_int, w_meth, w_varS, w_var0, m_bitsOk, m_bits, true_and, b_fdiv, b_add, r_1, List.set_cons_succ, List.set_cons_zero]
    rw [bits_small (by omega) h2]
    refine ⟨by omega, by omega, ?_⟩
    refine wp_for (fun i σ h' => (∃ z, σ = [some (.ref p), some (.int m), none, some (.int z), if i = 0 then none else some (.int 0)]) ∧ (if i = 0 then h' = h else h' = h.set p (.lst [.int a, .int s, .int (c + 1), .int t]))) 1 ⟨⟨0, rfl⟩, rfl⟩ (by decide) ?_ ?_
    · rintro i σ h' hi ⟨⟨z, rfl⟩, hh⟩
      obtain rfl : i = 0 := by omega
      rw [if_pos rfl] at hh
      subst hh
      refine ⟨.int 0, h', by simp, ?_⟩
      simp only [w_tName, s_seq, s_asg, s_done, w_bin, w_ix, w_var0, w_varS, w_int, ix_lst e, w_tSub, sub_lst e, if_true, List.set_cons_succ, List.set_cons_zero]
      refine ⟨.int c, by rw [atI_2]; rfl, ?_⟩
      simp only [b_add, sub_lst e]
      refine ⟨2, by rw [ixN_n2]; rfl, ?_⟩
      have e2 : (h'.set p (.lst [.int a, .int s, .int (c + 1), .int t]))[p]? = some (.lst [.int a, .int s, .int (c + 1), .int t]) := List.getElem?_set_self hlt
      simp only [List.set_cons_succ, List.set_cons_zero, b_mul, w_callF, w_cons, w_nil, w_ix, w_var0, w_int, ix_lst e2, fn_cD]
      refine ⟨cmul_r (by omega), .int s, by rw [atI_1]; rfl, .int (c + 1), by rw [atI_2]; rfl, .int t, by rw [atI_3]; rfl, ?_⟩
      refine (mixed_ok hm k s (c + 1) t _ (by omega) (by omega)).mono fun v h'' ⟨e3, w, e4⟩ => ?_
      subst e3; subst e4
      exact ⟨⟨_, rfl⟩, rfl⟩
    · rintro σ h' ⟨⟨z, rfl⟩, hh⟩
      rw [if_neg (by decide)] at hh
      subst hh
      refine ⟨by simp, ?_⟩
      simp only [s_seq, s_ret, w_bin, w_callB, w_cons, w_nil, w_varS, w_var0, k_int, b_mod, s_done]
      refine ⟨by omega, ⟨_, rfl, Int.emod_nonneg _ (by omega), Int.emod_lt_of_pos _ (by omega)⟩, Same.set, by simp, ?_⟩
      exact ⟨a, s, c + 1, t, by rw [List.getElem?_set_self hlt], q1, q2, q3, by omega, by omega⟩
end SL

set_option Elab.async false
set_option linter.all false
set_option maxRecDepth 100000
set_option maxHeartbeats 4000000
/-! Trees: what the evaluator does, without a heap. -/
namespace SL
open PySem
inductive D where
  | non | bl (b : Bool) | int (i : Int) | str (x : Str)
  | lst (ds : List D) | tup (ds : List D) | dic (kvs : List (AKey × D))
  | obj (C : Str) (fs : List (Str × Option D)) | err (C : Str) (fs : List (Str × Option D))
  | adr (n : Nat) | gl (x : Str) | ty (x : String) | mem (ms : List Int)
  /-- d, which stands at n -/
  | idt (n : Nat) (d : D)
mutual
/-- v stands for the tree d; R: where its objects may stand -/
def At (h : AH) (R : Nat → Prop) : D → AV → Prop
  | .non, v => v = .non
  | .bl b, v => v = .bl b
  | .int i, v => v = .int i
  | .str x, v => v = .str x
  | .lst ds, v => ∃ n vs, v = .ref n ∧ R n ∧ h[n]? = some (.lst vs) ∧ AtL h R ds vs
  | .tup ds, v => ∃ n vs, v = .ref n ∧ R n ∧ h[n]? = some (.tup vs) ∧ AtL h R ds vs
  | .dic kvs, v => ∃ n vs, v = .ref n ∧ R n ∧ h[n]? = some (.dic vs) ∧ AtK h R kvs vs
  | .obj C fs, v => ∃ n vs, v = .ref n ∧ R n ∧ h[n]? = some (.ins C vs) ∧ AtF h R fs vs
  | .err C fs, v => ∃ n vs, v = .ref n ∧ R n ∧ h[n]? = some (.exc C vs) ∧ AtF h R fs vs
  | .adr n, v => v = .ref n
  | .gl x, v => v = .glob x
  | .ty x, v => v = .ty x
  | .mem ms, v => ∃ n vs, v = .ref n ∧ h[n]? = some (.memo ms vs)
  | .idt n d, v => v = .ref n ∧ At h R d v
def AtL (h : AH) (R : Nat → Prop) : List D → List AV → Prop
  | [], vs => vs = []
  | d :: ds, vs => ∃ v r, vs = v :: r ∧ At h R d v ∧ AtL h R ds r
def AtK (h : AH) (R : Nat → Prop) : List (AKey × D) → List (AKey × AV) → Prop
  | [], vs => vs = []
  | (k, d) :: ds, vs => ∃ v r, vs = (k, v) :: r ∧ At h R d v ∧ AtK h R ds r
def AtF (h : AH) (R : Nat → Prop) : List (Str × Option D) → List (Str × AV) → Prop
  | [], vs => vs = []
  | (x, none) :: ds, vs => ∃ v r, vs = (x, v) :: r ∧ AtF h R ds r
  | (x, some d) :: ds, vs => ∃ v r, vs = (x, v) :: r ∧ At h R d v ∧ AtF h R ds r
end
def AO.plain : AO → Bool
  | .memo _ _ => false
  | _ => true
/-- what stands at R in h stands at R' in h'; what is counted for masks stays so -/
structure Mv (R R' : Nat → Prop) (h h' : AH) : Prop where
  k : ∀ {n o}, R n → h[n]? = some o → o.plain = true → R' n ∧ h'[n]? = some o
  m : ∀ {n : Nat} {ms : List Int} {kvs : List (AKey × AV)}, h[n]? = some (AO.memo ms kvs) → ∃ kvs', h'[n]? = some (AO.memo ms kvs')
mutual
theorem At.mono {h h' : AH} {R R' : Nat → Prop} (w : Mv R R' h h') : ∀ (d : D) (v : AV), At h R d v → At h' R' d v
  | .non, v, q => q
  | .bl b, v, q => q
  | .int i, v, q => q
  | .str x, v, q => q
  | .lst ds, v, ⟨n, vs, e, r, hn, q⟩ => ⟨n, vs, e, (w.k r hn rfl).1, (w.k r hn rfl).2, AtL.mono w ds vs q⟩
  | .tup ds, v, ⟨n, vs, e, r, hn, q⟩ => ⟨n, vs, e, (w.k r hn rfl).1, (w.k r hn rfl).2, AtL.mono w ds vs q⟩
  | .dic ds, v, ⟨n, vs, e, r, hn, q⟩ => ⟨n, vs, e, (w.k r hn rfl).1, (w.k r hn rfl).2, AtK.mono w ds vs q⟩
  | .obj C ds, v, ⟨n, vs, e, r, hn, q⟩ => ⟨n, vs, e, (w.k r hn rfl).1, (w.k r hn rfl).2, AtF.mono w ds vs q⟩
  | .err C ds, v, ⟨n, vs, e, r, hn, q⟩ => ⟨n, vs, e, (w.k r hn rfl).1, (w.k r hn rfl).2, AtF.mono w ds vs q⟩
  | .adr n, v, q => q
  | .gl n, v, q => q
  | .ty n, v, q => q
  | .mem ms, v, ⟨n, vs, e, hn⟩ => let ⟨vs', hn'⟩ := w.m hn; ⟨n, vs', e, hn'⟩
  | .idt n d, v, ⟨e, q⟩ => ⟨e, At.mono w d v q⟩
theorem AtL.mono {h h' : AH} {R R' : Nat → Prop} (w : Mv R R' h h') : ∀ (ds : List D) (vs : List AV), AtL h R ds vs → AtL h' R' ds vs
  | [], vs, q => q
  | d :: ds, vs, ⟨v, r, e, a, q⟩ => ⟨v, r, e, At.mono w d v a, AtL.mono w ds r q⟩
theorem AtK.mono {h h' : AH} {R R' : Nat → Prop} (w : Mv R R' h h') : ∀ (ds : List (AKey × D)) (vs : List (AKey × AV)), AtK h R ds vs → AtK h' R' ds vs
  | [], vs, q => q
  | (k, d) :: ds, vs, ⟨v, r, e, a, q⟩ => ⟨v, r, e, At.mono w d v a, AtK.mono w ds r q⟩
theorem AtF.mono {h h' : AH} {R R' : Nat → Prop} (w : Mv R R' h h') : ∀ (ds : List (Str × Option D)) (vs : List (Str × AV)), AtF h R ds vs → AtF h' R' ds vs
  | [], vs, q => q
  | (x, none) :: ds, vs, ⟨v, r, e, q⟩ => ⟨v, r, e, AtF.mono w ds r q⟩
  | (x, some d) :: ds, vs, ⟨v, r, e, a, q⟩ => ⟨v, r, e, At.mono w d v a, AtF.mono w ds r q⟩
end
/-- without the word where it stands -/
@[simp] def strip : D → D
  | .idt _ d => strip d
  | d => d
theorem At.strip {h : AH} {R : Nat → Prop} : ∀ {d : D} {v : AV}, At h R d v → At h R (SL.strip d) v
  | .idt n d, v, ⟨_, q⟩ => At.strip (d := d) q
  | .non, _, q | .bl _, _, q | .int _, _, q | .str _, _, q | .lst _, _, q | .tup _, _, q | .dic _, _, q | .obj _ _, _, q | .err _ _, _, q | .adr _, _, q | .gl _, _, q | .ty _, _, q | .mem _, _, q => q
/-- no place is asked for -/
def scal : D → Bool
  | .non => true | .bl _ => true | .int _ => true | .str _ => true | .gl _ => true | .ty _ => true | .adr _ => true | .mem _ => true
  | _ => false
/-! ### the slots of trees -/
/-- un: a tree; ow, ok: a list, a dict that nothing else holds; fr: a tree of new objects alone; jk: .. that has been spoilt by c new items; bo: one of these, lent -/
inductive Sl where
  | un (d : D) | ow (ds : List D) | ok (kvs : List (AKey × D)) | fr (d : D) | jk (c : Nat) (d : D) | bo (d : D)
def Sl.d : Sl → D
  | .un d => d
  | .ow ds => .lst ds
  | .ok ks => .dic ks
  | .fr d => d
  | .jk _ d => d
  | .bo d => d
@[simp] def Sl.v (s : Sl) : D := strip s.d
def Sl.kept : Sl → Bool
  | .bo _ => false
  | .jk _ _ => false
  | _ => true
def Sl.isFr : Sl → Bool
  | .un d => scal d
  | .ow ds => ds.all scal
  | .ok ks => ks.all fun kv => scal kv.2
  | .fr _ => true
  | _ => false
def items : D → List D
  | .lst ds => ds
  | .tup ds => ds
  | .dic ks => ks.map (·.2)
  | _ => []
/-- what it holds is new -/
def Sl.elFr : Sl → Bool
  | .fr _ => true
  | s => (items s.v).all scal
def mkO (f : Bool) (ds : List D) : Sl := if f = true then .fr (.lst ds) else .ow ds
def mkK (f : Bool) (ks : List (AKey × D)) : Sl := if f = true then .fr (.dic ks) else .ok ks
def mkT (f : Bool) (ds : List D) : Sl := if f = true then .fr (.tup ds) else .un (.tup ds)
abbrev DEnv := List (Option Sl)
@[simp] def wipeD (ρ : DEnv) : List Nat → DEnv
  | [] => ρ
  | v :: vs => (wipeD ρ vs).set v none
/-- what is wished behind an exception -/
abbrev XD := Str → List (Str × Option D) → Nat → Prop
def nxD : XD := fun _ _ _ => False
/-- what is known of calls: f: of a def (a method by its class's word), k: of a new instance, q: of an own == -/
structure Sps where
  f : XD → Str → List D → Nat → (Sl → Nat → Prop) → Prop
  k : XD → Str → List D → Nat → (Sl → Nat → Prop) → Prop
  q : Str → D → D → Nat → (Bool → Nat → Prop) → Prop
def foldD {α : Type} (step : D → α → Nat → (α → Nat → Prop) → Prop) : List D → α → Nat → (α → Nat → Prop) → Prop
  | [], a, b, Q => Q a b
  | x :: xs, a, b, Q => step x a b fun a1 b1 => foldD step xs a1 b1 Q
/-! ### values -/
def intsD : List D → Option (List Int)
  | [] => some []
  | .int i :: r => (intsD r).map (i :: ·)
  | _ :: _ => none
def boolsD : List D → Option (List Bool)
  | [] => some []
  | .bl i :: r => (boolsD r).map (i :: ·)
  | _ :: _ => none
def keyD : D → Option AKey
  | .int i => some (.inl i)
  | .str x => some (.inr x)
  | _ => none
def keyDV : AKey → D
  | .inl i => .int i
  | .inr x => .str x
def valD (kvs : List (AKey × D)) (k : AKey) : Option D := (kvs.find? fun kv => decide (kv.1 = k)).map (·.2)
def putD (kvs : List (AKey × D)) (k : AKey) (v : D) : List (AKey × D) :=
  if (kvs.any fun kv => decide (kv.1 = k)) = true then kvs.map (fun kv => if kv.1 = k then (kv.1, v) else kv) else kvs ++ [(k, v)]
def pairsD : List D → Option (List (AKey × D))
  | [] => some []
  | .tup [k, v] :: r => match keyD k, pairsD r with
    | some k, some q => some ((k, v) :: q)
    | _, _ => none
  | _ :: _ => none
def mergeD (kvs : List (AKey × D)) : List (AKey × D) := kvs.foldl (fun acc kv => putD acc kv.1 kv.2) []
mutual
def pyD : D → Option PyData
  | .non => some .none
  | .bl b => some (.bool b)
  | .int i => some (.int i)
  | .str x => some (.str x)
  | .lst ds => (pyDs ds).map .list
  | .tup ds => (pyDs ds).map .tuple
  | .idt _ d => pyD d
  | .dic _ => none
  | .obj _ _ => none
  | .err _ _ => none
  | .adr _ => none
  | .gl _ => none
  | .ty _ => none
  | .mem _ => none
def pyDs : List D → Option (List PyData)
  | [] => some []
  | d :: ds => match pyD d, pyDs ds with
    | some x, some r => some (x :: r)
    | _, _ => none
end
def eqD (x y : D) : Option Bool := match pyD x, pyD y with
  | some d, some e => if SeqAt.shaped d = true ∧ SeqAt.shaped e = true ∧ d.depth < 40 ∧ e.depth < 40 then some (PyData.eqv d e) else none
  | _, _ => none
def inD (x y : D) : Option Bool := match y with
  | .dic kvs => (keyD x).map fun k => (valD kvs k).isSome
  | .lst ys => match pyD x, pyDs ys with
    | some d, some es => if SeqAt.shaped d = true ∧ SeqAt.shaped (.list es) = true ∧ d.depth < 40 ∧ (PyData.list es).depth < 40 then some (es.any fun z => PyData.eqv z d) else none
    | _, _ => none
  | _ => none
def binD (op : Operator) (x y : Sl) (Q : Sl → Prop) : Prop := match x.v, y.v with
  | .int i, .int j => match op with
    | .Add => Q (.un (.int (i + j)))
    | .Sub => Q (.un (.int (i - j)))
    | .Mult => CMulB i j = true ∧ Q (.un (.int (i * j)))
    | .FloorDiv => (0 < j ∧ j < 1073741824) ∧ Q (.un (.int (i / j)))
    | .Mod => 0 < j ∧ Q (.un (.int (i % j)))
    | .Pow => (0 ≤ j ∧ (Builtin.Int.intBits i : Int) * j ≤ 2 ^ 27) ∧ Q (.un (.int (i ^ j.toNat)))
    | .LShift => (0 ≤ j ∧ j ≤ 1000000 ∧ i.natAbs < 2 ^ 64) ∧ Q (.un (.int (i * 2 ^ j.toNat)))
    | .RShift => 0 ≤ j ∧ Q (.un (.int (i / 2 ^ j.toNat)))
    | .BitAnd => Q (.un (.int (Builtin.bitAnd i j)))
    | .BitOr => Q (.un (.int (Builtin.bitOr i j)))
    | .BitXor => Q (.un (.int (Builtin.bitXor i j)))
    | _ => False
  | .lst xs, .lst ys => op = .Add ∧ xs.length + ys.length ≤ sizeLine ∧ Q (mkO (x.elFr && y.elFr) (xs ++ ys))
  | .lst xs, .int k => op = .Mult ∧ (-(2 ^ 63) ≤ k ∧ k < 2 ^ 63) ∧ (List.replicate k.toNat xs).flatten.length ≤ sizeLine ∧ Q (mkO x.elFr (List.replicate k.toNat xs).flatten)
  | .str i, .str j => op = .Add ∧ i.length + j.length ≤ sizeLine ∧ Q (.un (.str (i ++ j)))
  | _, _ => False
/-- comparisons but for own == -/
def cmpD (op : CmpOp) (x y : D) (Q : Bool → Prop) : Prop := match op with
  | .Eq => ∃ r, eqD x y = some r ∧ Q r
  | .NotEq => ∃ r, eqD x y = some r ∧ Q (!r)
  | .Lt => ∃ i j, x = .int i ∧ y = .int j ∧ Q (decide (i < j))
  | .LtE => ∃ i j, x = .int i ∧ y = .int j ∧ Q (decide (i ≤ j))
  | .Gt => ∃ i j, x = .int i ∧ y = .int j ∧ Q (decide (j < i))
  | .GtE => ∃ i j, x = .int i ∧ y = .int j ∧ Q (decide (j ≤ i))
  | .Is => y = .non ∧ ((x = .non ∧ Q true) ∨ (x ≠ .non ∧ Q false))
  | .IsNot => y = .non ∧ ((x = .non ∧ Q false) ∨ (x ≠ .non ∧ Q true))
  | .In => ∃ r, inD x y = some r ∧ Q r
  | .NotIn => ∃ r, inD x y = some r ∧ Q (!r)
def isObj : D → Option Str
  | .obj C _ => some C
  | _ => none
def mateD (x y : D) : Bool := match y with
  | .non => true | .bl _ => true | .int _ => true | .str _ => true | .lst _ => true | .tup _ => true | .dic _ => true
  | .obj C _ => decide (isObj x = some C)
  | _ => false
/-- .. and these -/
def cmpX (S : Sps) (op : CmpOp) (x y : D) (b : Nat) (Q : Bool → Nat → Prop) : Prop := match isObj x with
  | some C => mateD x y = true ∧ ((op = .Eq ∧ S.q C x y b Q) ∨ (op = .NotEq ∧ S.q C x y b fun r b1 => Q (!r) b1) ∨ ((op = .Is ∨ op = .IsNot) ∧ cmpD op x y fun r => Q r b))
  | none => cmpD op x y fun r => Q r b
def truthD : D → Option Bool
  | .non => some false
  | .bl b => some b
  | .int i => some (i != 0)
  | .str x => if x.length ≤ sizeLine then some ((x.length : Int) != 0) else none
  | .lst ds => some (!ds.isEmpty)
  | .tup ds => some (!ds.isEmpty)
  | .dic ds => some (!ds.isEmpty)
  | _ => none
def tyD (G : Env) : D → Option Ty
  | .non => some (.b "NoneType")
  | .bl _ => some (.b "bool")
  | .int _ => some (.b "int")
  | .str _ => some (.b "str")
  | .lst _ => some (.b "list")
  | .tup _ => some (.b "tuple")
  | .dic _ => some (.b "dict")
  | .obj C _ => if (G.cls C).isSome = true then some (.own C) else none
  | _ => none
def clsD (G : Env) (t : Ty) : D → Option Bool
  | .ty n => isOne G t (.ty n)
  | .gl C => isOne G t (.glob C)
  | _ => none
def anyD (G : Env) (t : Ty) : List D → Option Bool
  | [] => some false
  | c :: cs => match clsD G t c, anyD G t cs with
    | some b, some d => some (b || d)
    | _, _ => none
def isiD (G : Env) (x c : D) : Option Bool := match tyD G x with
  | some t => match c with
    | .tup cs => anyD G t cs
    | c => clsD G t c
  | none => none
def cutD {α : Type} (xs : List α) (lo hi : Option Int) : List α := (xs.drop (HT.sIx xs.length 0 lo)).take (HT.sIx xs.length xs.length hi - HT.sIx xs.length 0 lo)
def lenD : D → Option Nat
  | .lst xs => some xs.length
  | .tup xs => some xs.length
  | .dic xs => some xs.length
  | .str x => if x.length ≤ sizeLine then some x.length else none
  | _ => none
def seqD : D → Option (List D)
  | .lst xs => some xs
  | .tup xs => some xs
  | _ => none
def ixD (x y : D) : Option D := match x, y with
  | .lst xs, .int i => L2.atI xs i
  | .tup xs, .int i => L2.atI xs i
  | .dic kvs, .int i => valD kvs (.inl i)
  | .dic kvs, .str i => valD kvs (.inr i)
  | _, _ => none
def bltD (G : Env) (f : Blt) (ss : List Sl) (Q : Sl → Prop) : Prop := match f, ss with
  | .len, [x] => ∃ n, lenD x.v = some n ∧ Q (.un (.int n))
  | .sum, [x] => ∃ xs ns, x.v = .lst xs ∧ intsD xs = some ns ∧ Q (.un (.int ns.sum))
  | .all, [x] => ∃ xs ns, x.v = .lst xs ∧ boolsD xs = some ns ∧ Q (.un (.bl (ns.all id)))
  | .any, [x] => ∃ xs ns, x.v = .lst xs ∧ boolsD xs = some ns ∧ Q (.un (.bl (ns.any id)))
  | .list, [x] => match x.v with
    | .lst xs => xs.length ≤ sizeLine ∧ Q (mkO x.elFr xs)
    | .tup xs => xs.length ≤ sizeLine ∧ Q (mkO x.elFr xs)
    | .dic xs => xs.length ≤ sizeLine ∧ Q (.fr (.lst (xs.map fun kv => keyDV kv.1)))
    | _ => False
  | .tuple, [x] => ∃ xs, x.v = .lst xs ∧ xs.length ≤ sizeLine ∧ Q (mkT x.elFr xs)
  | .dict, [x] => ∃ xs ks, x.v = .lst xs ∧ pairsD xs = some ks ∧ Q (mkK (ks.all fun kv => scal kv.2) (mergeD ks))
  | .sorted, [x] => match x.v with
    | .lst xs => ∃ ns, intsD xs = some ns ∧ Q (.fr (.lst ((isort ns).map .int)))
    | .dic xs => ∃ ns, intsD (xs.map fun kv => keyDV kv.1) = some ns ∧ ns.length < 64 ∧ Q (.fr (.lst ((isort ns).map .int)))
    | _ => False
  | .int, [x] => ∃ i, x.v = .int i ∧ Q (.un (.int i))
  | .max, [x, y] => ∃ i j, x.v = .int i ∧ y.v = .int j ∧ Q (.un (.int (if j > i then j else i)))
  | .min, [x, y] => ∃ i j, x.v = .int i ∧ y.v = .int j ∧ Q (.un (.int (if j < i then j else i)))
  | .isinstance, [x, c] => ∃ r, isiD G x.v c.v = some r ∧ Q (.un (.bl r))
  | _, _ => False
def enmD : Nat → List D → List D
  | _, [] => []
  | i, x :: r => .tup [.int (i : Int), x] :: enmD (i + 1) r
def zipD : List D → List D → List D
  | x :: xs, y :: ys => .tup [x, y] :: zipD xs ys
  | _, _ => []
def rngD (lo : Int) (n : Nat) : List D := (List.range n).map fun (k : Nat) => .int (lo + (k : Int))
/-! ### the evaluator of trees, by what is wished behind it -/
def mkOk (G : Env) (C : Str) : Bool := match G.cls C with
  | some cd => match cd.init with
    | some g => (G.fns g).isSome
    | none => false
  | none => false
mutual
def dX (G : Env) (S : Sps) (X : XD) : T → DEnv → Nat → (Sl → Nat → Prop) → Prop
  | .non, _, b, Q => Q (.un .non) b
  | .bl k, _, b, Q => Q (.un (.bl k)) b
  | .int i, _, b, Q => Q (.un (.int i)) b
  | .str x, _, b, Q => Q (.un (.str x)) b
  | .var i, ρ, b, Q => ∃ s, ρ[i]? = some (some s) ∧ (match s with | .un d => Q (.un d) b | .ow ds => Q (.bo (.lst ds)) b | .ok ks => Q (.bo (.dic ks)) b | .bo d => Q (.bo d) b | _ => False)
  | .glob x, _, b, Q => Q (.un (.gl x)) b
  | .ty x, _, b, Q => Q (.un (.ty x)) b
  | .bin op a c, ρ, b, Q => dX G S X a ρ b fun x b1 => dX G S X c ρ b1 fun y b2 => binD op x y fun z => Q z b2
  | .neg a, ρ, b, Q => dX G S X a ρ b fun x b1 => ∃ i, x.v = .int i ∧ Q (.un (.int (-i))) b1
  | .inv a, ρ, b, Q => dX G S X a ρ b fun x b1 => ∃ i, x.v = .int i ∧ Q (.un (.int (Builtin.bitNot i))) b1
  | .nt a, ρ, b, Q => dX G S X a ρ b fun x b1 => ∃ k, x.v = .bl k ∧ Q (.un (.bl (!k))) b1
  | .and a c, ρ, b, Q => dX G S X a ρ b fun x b1 => ∃ k, x.v = .bl k ∧ if k = true then dX G S X c ρ b1 Q else Q (.un (.bl false)) b1
  | .or a c, ρ, b, Q => dX G S X a ρ b fun x b1 => ∃ k, x.v = .bl k ∧ if k = true then Q (.un (.bl true)) b1 else dX G S X c ρ b1 Q
  | .cmp op a c, ρ, b, Q => dX G S X a ρ b fun x b1 => dX G S X c ρ b1 fun y b2 => (isObj x.v ≠ none → x.kept = true ∧ y.kept = true) ∧ cmpX S op x.v y.v b2 fun r b3 => Q (.un (.bl r)) b3
  | .chain op op' a c e, ρ, b, Q => dX G S X a ρ b fun x b1 => dX G S X c ρ b1 fun y b2 => isObj x.v = none ∧ isObj y.v = none ∧ y.kept = true ∧ cmpD op x.v y.v fun r => if r = true then dX G S X e ρ b2 fun z b3 => cmpD op' y.v z.v fun r2 => Q (.un (.bl r2)) b3 else Q (.un (.bl false)) b2
  | .ite t a c, ρ, b, Q => dT G S X t ρ b fun k b1 => if k = true then dX G S X a ρ b1 Q else dX G S X c ρ b1 Q
  | .lst es, ρ, b, Q => dA G S X es ρ b fun ss b1 => ss.length ≤ sizeLine ∧ Q (mkO (ss.all Sl.isFr) (ss.map Sl.d)) b1
  | .tup es, ρ, b, Q => dA G S X es ρ b fun ss b1 => ss.length ≤ sizeLine ∧ Q (mkT (ss.all Sl.isFr) (ss.map Sl.d)) b1
  | .dic es, ρ, b, Q => es = .nil ∧ Q (.fr (.dic [])) b
  | .callF f es, ρ, b, Q => dA G S X es ρ b fun ss b1 => S.f X f (ss.map Sl.d) b1 Q
  | .callC C es, ρ, b, Q => mkOk G C = true ∧ dA G S X es ρ b fun ss b1 => S.k X C (ss.map Sl.d) b1 Q
  | .callB f es, ρ, b, Q => dL G S X es ρ b fun ss b1 => bltD G f ss fun s => Q s b1
  | .lrange es, ρ, b, Q => dL G S X es ρ b fun ss b1 => (∃ x j, ss = [x] ∧ x.v = .int j ∧ (-(2 ^ 62) ≤ j ∧ j < 1000000) ∧ Q (.fr (.lst (rngD 0 j.toNat))) b1) ∨
      ∃ x y i j, ss = [x, y] ∧ x.v = .int i ∧ y.v = .int j ∧ (-(2 ^ 62) ≤ i ∧ i < 2 ^ 62 ∧ -(2 ^ 62) ≤ j ∧ j < 2 ^ 62 ∧ j - i < 1000000) ∧ Q (.fr (.lst (rngD i (j - i).toNat))) b1
  | .meth o m es, ρ, b, Q => m = .bit_length ∧ es = .nil ∧ dX G S X o ρ b fun x b1 => ∃ i, x.v = .int i ∧ Q (.un (.int (Builtin.Int.intBits i : Nat))) b1
  | .methO o m es, ρ, b, Q => dX G S X o ρ b fun x b1 => ∃ C fs g, x.kept = true ∧ x.v = .obj C fs ∧ ((G.cls C).bind fun cd => cd.meth.lookup m) = some g ∧ fs.lookup m = none ∧ (G.fns g).isSome = true ∧ dA G S X es ρ b1 fun ss b2 => S.f X g (x.v :: ss.map Sl.d) b2 Q
  | .fld o x, ρ, b, Q => dX G S X o ρ b fun v b1 => ∃ C fs d, v.v = .obj C fs ∧ hasFld G C x = true ∧ fs.lookup x = some (some d) ∧ Q (.un d) b1
  | .ix a c, ρ, b, Q => dX G S X a ρ b fun x b1 => dX G S X c ρ b1 fun y b2 => ∃ d, ixD x.v y.v = some d ∧ Q (.un d) b2
  | .slc a lo hi, ρ, b, Q => dX G S X a ρ b fun x b1 => dP G S X lo ρ b1 fun l b2 => dP G S X hi ρ b2 fun u b3 => ∃ xs, x.v = .lst xs ∧ (cutD xs l u).length ≤ sizeLine ∧ Q (mkO (xs.all scal) (cutD xs l u)) b3
  | .rev a, ρ, b, Q => dX G S X a ρ b fun x b1 => ∃ xs, x.v = .lst xs ∧ xs.length ≤ sizeLine ∧ Q (mkO (xs.all scal) xs.reverse) b1
  | .comp e tg it cnd own, ρ, b, Q => dI G S X it ρ b fun items _ b1 => items.length < bigW ∧ foldD (fun x (acc : Bool × List D) b2 K => dG G S tg x (wipeD ρ own) fun ρ2 => dT G S nxD cnd ρ2 b2 fun k b3 =>
        if k = true then dX G S nxD e ρ2 b3 fun y b4 => y.kept = true ∧ acc.2.length < sizeLine ∧ K (acc.1 && y.isFr, acc.2 ++ [y.d]) b4 else K acc b3) items (true, []) b1 fun ds b5 => Q (mkO ds.1 ds.2) b5
  | .comp2 e tg it cnd tg1 it1 cnd1 own own1, ρ, b, Q => dI G S X it ρ b fun items _ b1 => items.length < bigW ∧ foldD (fun x (acc : Bool × List D) b2 K => dG G S tg x (wipeD ρ own) fun ρ2 => dT G S nxD cnd ρ2 b2 fun k b3 =>
        if k = true then dI G S nxD it1 (wipeD ρ2 own1) b3 fun items1 _ b4 => items1.length < bigW ∧ foldD (fun x1 (acc1 : Bool × List D) b5 K1 => dG G S tg1 x1 (wipeD ρ2 own1) fun ρ3 => dT G S nxD cnd1 ρ3 b5 fun k1 b6 =>
          if k1 = true then dX G S nxD e ρ3 b6 fun y b7 => y.kept = true ∧ acc1.2.length < sizeLine ∧ K1 (acc1.1 && y.isFr, acc1.2 ++ [y.d]) b7 else K1 acc1 b6) items1 acc b4 K else K acc b3) items (true, []) b1 fun ds b5 => Q (mkO ds.1 ds.2) b5
  | .dcomp k0 e tg it cnd own, ρ, b, Q => dI G S X it ρ b fun items _ b1 => items.length < bigW ∧ foldD (fun x (acc : Bool × List (AKey × D)) b2 K => dG G S tg x (wipeD ρ own) fun ρ2 => dT G S nxD cnd ρ2 b2 fun k b3 =>
        if k = true then dX G S nxD k0 ρ2 b3 fun y b4 => dX G S nxD e ρ2 b4 fun z b5 => z.kept = true ∧ acc.2.length < sizeLine ∧ ∃ kk, keyD y.v = some kk ∧ K (acc.1 && z.isFr, putD acc.2 kk z.d) b5 else K acc b3) items (true, []) b1 fun ds b5 => Q (mkK ds.1 ds.2) b5
  | .dcomp2 k0 e tg it cnd tg1 it1 cnd1 own own1, ρ, b, Q => dI G S X it ρ b fun items _ b1 => items.length < bigW ∧ foldD (fun x (acc : Bool × List (AKey × D)) b2 K => dG G S tg x (wipeD ρ own) fun ρ2 => dT G S nxD cnd ρ2 b2 fun k b3 =>
        if k = true then dI G S nxD it1 (wipeD ρ2 own1) b3 fun items1 _ b4 => items1.length < bigW ∧ foldD (fun x1 (acc1 : Bool × List (AKey × D)) b5 K1 => dG G S tg1 x1 (wipeD ρ2 own1) fun ρ3 => dT G S nxD cnd1 ρ3 b5 fun k1 b6 =>
          if k1 = true then dX G S nxD k0 ρ3 b6 fun y b7 => dX G S nxD e ρ3 b7 fun z b8 => z.kept = true ∧ acc1.2.length < sizeLine ∧ ∃ kk, keyD y.v = some kk ∧ K1 (acc1.1 && z.isFr, putD acc1.2 kk z.d) b8 else K1 acc1 b6) items1 acc b4 K else K acc b3) items (true, []) b1 fun ds b5 => Q (mkK ds.1 ds.2) b5
  | _, _, _, _ => False
def dP (G : Env) (S : Sps) (X : XD) : T → DEnv → Nat → (Option Int → Nat → Prop) → Prop
  | .skip, _, b, Q => Q none b
  | .pSome e, ρ, b, Q => dX G S X e ρ b fun x b1 => ∃ i, x.v = .int i ∧ Q (some i) b1
  | _, _, _, _ => False
def dT (G : Env) (S : Sps) (X : XD) : T → DEnv → Nat → (Bool → Nat → Prop) → Prop
  | .tAnd a c, ρ, b, Q => dT G S X a ρ b fun k b1 => if k = true then dT G S X c ρ b1 Q else Q false b1
  | .tOr a c, ρ, b, Q => dT G S X a ρ b fun k b1 => if k = true then Q true b1 else dT G S X c ρ b1 Q
  | .tNot a, ρ, b, Q => dT G S X a ρ b fun k b1 => Q (!k) b1
  | .tYes, _, b, Q => Q true b
  | .tVal t, ρ, b, Q => dX G S X t ρ b fun x b1 => ∃ k, truthD x.v = some k ∧ Q k b1
  | _, _, _, _ => False
/-- arguments that are kept -/
def dA (G : Env) (S : Sps) (X : XD) : T → DEnv → Nat → (List Sl → Nat → Prop) → Prop
  | .nil, _, b, Q => Q [] b
  | .cons e es, ρ, b, Q => dX G S X e ρ b fun x b1 => x.kept = true ∧ dA G S X es ρ b1 fun ss b2 => Q (x :: ss) b2
  | _, _, _, _ => False
/-- arguments that are looked at -/
def dL (G : Env) (S : Sps) (X : XD) : T → DEnv → Nat → (List Sl → Nat → Prop) → Prop
  | .nil, _, b, Q => Q [] b
  | .cons e es, ρ, b, Q => dX G S X e ρ b fun x b1 => dL G S X es ρ b1 fun ss b2 => Q (x :: ss) b2
  | _, _, _, _ => False
def dI (G : Env) (S : Sps) (X : XD) : T → DEnv → Nat → (List D → Bool → Nat → Prop) → Prop
  | .iRng1 es, ρ, b, Q => dL G S X es ρ b fun ss b1 => ∃ x j, ss = [x] ∧ x.v = .int j ∧ (-(2 ^ 62) ≤ j ∧ j < 2 ^ 62) ∧ Q (rngD 0 j.toNat) true b1
  | .iRng2 es, ρ, b, Q => dL G S X es ρ b fun ss b1 => ∃ x y i j, ss = [x, y] ∧ x.v = .int i ∧ y.v = .int j ∧ (-(2 ^ 62) ≤ i ∧ i < 2 ^ 62 ∧ -(2 ^ 62) ≤ j ∧ j < 2 ^ 62) ∧ Q (rngD i (j - i).toNat) true b1
  | .iEnm e, ρ, b, Q => dX G S X e ρ b fun x b1 => ∃ xs, x.v = .lst xs ∧ Q (enmD 0 xs) x.kept b1
  | .iZip e e', ρ, b, Q => dX G S X e ρ b fun x b1 => dX G S X e' ρ b1 fun y b2 => ((∃ xs ys, x.v = .lst xs ∧ y.v = .lst ys ∧ Q (zipD xs ys) (x.kept && y.kept) b2) ∨ ∃ xs ys, x.v = .tup xs ∧ y.v = .tup ys ∧ Q (zipD xs ys) (x.kept && y.kept) b2)
  | .iSeq t, ρ, b, Q => dX G S X t ρ b fun x b1 => ∃ xs, seqD x.v = some xs ∧ Q xs x.kept b1
  | _, _, _, _ => False
def dG (G : Env) (S : Sps) : T → D → DEnv → (DEnv → Prop) → Prop
  | .tName i, v, ρ, Q => Q (ρ.set i (some (.un v)))
  | .tTup ts, v, ρ, Q => ∃ vs, strip v = .tup vs ∧ dGs G S ts vs ρ Q
  | _, _, _, _ => False
def dGs (G : Env) (S : Sps) : T → List D → DEnv → (DEnv → Prop) → Prop
  | .nil, vs, ρ, Q => vs = [] ∧ Q ρ
  | .cons t ts, vs, ρ, Q => ∃ v r, vs = v :: r ∧ dG G S t v ρ fun ρ1 => dGs G S ts r ρ1 Q
  | _, _, _, _ => False
end
end SL

set_option Elab.async false
set_option linter.all false
set_option maxRecDepth 100000
set_option maxHeartbeats 4000000
/-! Trees over heaps: values. -/
namespace SL
open PySem
/-! ### what is counted for masks -/
def popc (n : Nat) : Nat := ((List.range n).filter fun i => n.testBit i).length
def needI (ms : List Int) (l : Nat) : Nat := ((ms.zipIdx.filter fun p => !l.testBit p.2).map fun p => p.1.toNat).foldl (· ||| ·) 0
def heldI (ms : List Int) (i : Int) : Int := popc i.toNat + popc (needI ms i.toNat)
def MemR (ms : List Int) (kvs : List (AKey × AV)) : Prop := (∀ kv ∈ kvs, ∃ i : Int, kv = (.inl i, .int (heldI ms i)) ∧ 0 ≤ i ∧ i < 2 ^ ms.length) ∧ (kvs.map (·.1)).Nodup
def MemOk (h : AH) : Prop := ∀ (n : Nat) ms kvs, h[n]? = some (AO.memo ms kvs) → MemR ms kvs
/-- what may change: what stands at M; of which J is kept -/
structure Frm where
  M : Nat → Prop
  J : Nat → AH → Prop
  loc : ∀ {b h h'}, J b h → h.length ≤ h'.length → (∀ n, M n → h'[n]? = h[n]?) → J b h'
  low : ∀ {b h n}, J b h → M n → n < h.length
  nom : ∀ {b h n ms kvs}, J b h → M n → h[n]? = some (AO.memo ms kvs) → False
def Frm.I (F : Frm) (b : Nat) (h : AH) : Prop := F.J b h ∧ MemOk h
structure SameM (F : Frm) (h h' : AH) : Prop where
  le : h.length ≤ h'.length
  k : ∀ {n o}, ¬ F.M n → h[n]? = some o → o.plain = true → h'[n]? = some o
  m : ∀ {n : Nat} {ms : List Int} {kvs : List (AKey × AV)}, h[n]? = some (AO.memo ms kvs) → ∃ kvs', h'[n]? = some (AO.memo ms kvs')
def Bd (F : Frm) (R : Nat → Prop) (h : AH) : Prop := ∀ n, R n → n < h.length ∧ ¬ F.M n
def Nw (R : Nat → Prop) (h h' : AH) (n : Nat) : Prop := R n ∨ (h.length ≤ n ∧ n < h'.length)
def newR (h h' : AH) (n : Nat) : Prop := h.length ≤ n ∧ n < h'.length
def plains (l : List AO) : Prop := ∀ o ∈ l, o.plain = true
section
variable {F : Frm} {B R R' : Nat → Prop} {h h0 h1 h2 h' : AH} {b : Nat}
theorem lt_of {n : Nat} {o : AO} (e : h[n]? = some o) : n < h.length := (List.getElem?_eq_some_iff.mp e).1
theorem SameM.refl : SameM F h h := ⟨Nat.le_refl _, fun _ e _ => e, fun e => ⟨_, e⟩⟩
theorem SameM.trans (a : SameM F h h1) (b : SameM F h1 h2) : SameM F h h2 := ⟨Nat.le_trans a.le b.le, fun hm e p => b.k hm (a.k hm e p) p, fun e => let ⟨_, e1⟩ := a.m e; b.m e1⟩
theorem app_get {n : Nat} {o : AO} {l : AH} (e : h[n]? = some o) : (h ++ l)[n]? = some o := by rw [List.getElem?_append_left (lt_of e)]; exact e
theorem SameM.app {l : AH} : SameM F h (h ++ l) := ⟨by simp, fun _ e _ => app_get e, fun e => ⟨_, app_get e⟩⟩
theorem MemOk.app {l : AH} (q : MemOk h) (p : plains l) : MemOk (h ++ l) := fun n ms kvs e => by
  by_cases c : n < h.length
  · rw [List.getElem?_append_left c] at e; exact q n ms kvs e
  · rw [List.getElem?_append_right (by omega)] at e
    have := p _ (List.mem_of_getElem? e)
    cases this
theorem Frm.app (q : F.I b h) {l : AH} (p : plains l) : F.I b (h ++ l) := ⟨F.loc q.1 (by simp) fun n hn => List.getElem?_append_left (F.low q.1 hn), q.2.app p⟩
theorem Frm.nil (q : F.I b h) : F.I b (h ++ []) := by rw [List.append_nil]; exact q
theorem plains.one {o : AO} (p : o.plain = true) : plains [o] := fun o' ho => by rw [List.mem_singleton] at ho; subst ho; exact p
theorem MemOk.set {n : Nat} {o : AO} (q : MemOk h) (p : o.plain = true) : MemOk (h.set n o) := fun m ms kvs e => by
  by_cases c : n = m
  · subst c
    have hl : n < h.length := by
      have := lt_of e; simpa using this
    rw [List.getElem?_set_self hl] at e; cases e; cases p
  · rw [List.getElem?_set_ne c] at e; exact q m ms kvs e
theorem Frm.set (q : F.I b h) {n : Nat} {o : AO} (hm : ¬ F.M n) (p : o.plain = true) : F.I b (h.set n o) :=
  ⟨F.loc q.1 (by simp) fun m z => List.getElem?_set_ne (fun e => hm (by rw [e]; exact z)), q.2.set p⟩
theorem Nw.of {n : Nat} (q : R n) : Nw R h h' n := .inl q
theorem Nw.mono {n : Nat} (a : h1.length ≤ h2.length) (q : Nw R h h1 n) : Nw R h h2 n := q.elim .inl fun z => .inr ⟨z.1, Nat.lt_of_lt_of_le z.2 a⟩
theorem Nw.trans {n : Nat} (a : h.length ≤ h1.length) (b : h1.length ≤ h2.length) (q : Nw (Nw R h h1) h1 h2 n) : Nw R h h2 n := q.elim (fun z => z.mono b) fun z => .inr ⟨Nat.le_trans a z.1, z.2⟩
theorem Bd.nw (q : F.I b h) (d : Bd F R h) (a : SameM F h h') : Bd F (Nw R h h') h' := fun n z => by
  rcases z with z | z
  · exact ⟨Nat.lt_of_lt_of_le (d n z).1 a.le, (d n z).2⟩
  · exact ⟨z.2, fun m => by have := F.low q.1 m; omega⟩
theorem Bd.up (q : Bd F B h) (m : SameM F h h') : Bd F B h' := fun n z => ⟨Nat.lt_of_lt_of_le (q n z).1 m.le, (q n z).2⟩
theorem SameM.mv (s : SameM F h h') (bd : Bd F R h) (sub : ∀ n, R n → R' n) : Mv R R' h h' := ⟨fun r e p => ⟨sub _ r, s.k (bd _ r).2 e p⟩, fun e => s.m e⟩
theorem Mv.sub (sub : ∀ n, R n → R' n) : Mv R R' h h := ⟨fun r e _ => ⟨sub _ r, e⟩, fun e => ⟨_, e⟩⟩
theorem Mv.app {l : AH} (sub : ∀ n, R n → R' n) : Mv R R' h (h ++ l) := ⟨fun r e _ => ⟨sub _ r, app_get e⟩, fun e => ⟨_, app_get e⟩⟩
theorem At.go {d : D} {v : AV} (q : At h R d v) (bd : Bd F R h) (s : SameM F h h') (sub : ∀ n, R n → R' n) : At h' R' d v := At.mono (s.mv bd sub) d v q
theorem AtL.go {d : List D} {v : List AV} (q : AtL h R d v) (bd : Bd F R h) (s : SameM F h h') (sub : ∀ n, R n → R' n) : AtL h' R' d v := AtL.mono (s.mv bd sub) d v q
theorem AtK.go {d : List (AKey × D)} {v : List (AKey × AV)} (q : AtK h R d v) (bd : Bd F R h) (s : SameM F h h') (sub : ∀ n, R n → R' n) : AtK h' R' d v := AtK.mono (s.mv bd sub) d v q
theorem AtF.go {d : List (Str × Option D)} {v : List (Str × AV)} (q : AtF h R d v) (bd : Bd F R h) (s : SameM F h h') (sub : ∀ n, R n → R' n) : AtF h' R' d v := AtF.mono (s.mv bd sub) d v q
theorem AtL.sub {ds : List D} {vs : List AV} (q : AtL h R ds vs) (sub : ∀ n, R n → R' n) : AtL h R' ds vs := AtL.mono (Mv.sub sub) ds vs q
theorem AtK.sub {ds : List (AKey × D)} {vs : List (AKey × AV)} (q : AtK h R ds vs) (sub : ∀ n, R n → R' n) : AtK h R' ds vs := AtK.mono (Mv.sub sub) ds vs q
theorem AtF.sub {ds : List (Str × Option D)} {vs : List (Str × AV)} (q : AtF h R ds vs) (sub : ∀ n, R n → R' n) : AtF h R' ds vs := AtF.mono (Mv.sub sub) ds vs q
theorem At.sub {d : D} {v : AV} (q : At h R d v) (sub : ∀ n, R n → R' n) : At h R' d v := At.mono (Mv.sub sub) d v q
theorem scal_at {d : D} {v : AV} (hs : scal d = true) (q : At h R d v) : At h R' d v := by
  cases d <;> first | exact q | cases hs
theorem scal_atL {ds : List D} {vs : List AV} (hs : ds.all scal = true) (q : AtL h R ds vs) : AtL h R' ds vs := by
  induction ds generalizing vs with
  | nil => exact q
  | cons d ds ih =>
    simp only [List.all_cons, Bool.and_eq_true] at hs
    obtain ⟨v, r, e, q1, q⟩ := q
    exact ⟨v, r, e, scal_at hs.1 q1, ih hs.2 q⟩
theorem scal_atK {ds : List (AKey × D)} {vs : List (AKey × AV)} (hs : (ds.all fun kv => scal kv.2) = true) (q : AtK h R ds vs) : AtK h R' ds vs := by
  induction ds generalizing vs with
  | nil => exact q
  | cons d ds ih =>
    obtain ⟨k, d⟩ := d
    simp only [List.all_cons, Bool.and_eq_true] at hs
    obtain ⟨v, r, e, q1, q⟩ := q
    exact ⟨v, r, e, scal_at hs.1 q1, ih hs.2 q⟩
/-- looked at: the object itself may be lent (B) -/
def AtB (B : Nat → Prop) (h : AH) (R : Nat → Prop) (d : D) (v : AV) : Prop := match d with
  | .lst ds => ∃ n vs, v = .ref n ∧ (B n ∨ R n) ∧ h[n]? = some (.lst vs) ∧ AtL h R ds vs
  | .tup ds => ∃ n vs, v = .ref n ∧ (B n ∨ R n) ∧ h[n]? = some (.tup vs) ∧ AtL h R ds vs
  | .dic ds => ∃ n vs, v = .ref n ∧ (B n ∨ R n) ∧ h[n]? = some (.dic vs) ∧ AtK h R ds vs
  | .obj C ds => ∃ n vs, v = .ref n ∧ (B n ∨ R n) ∧ h[n]? = some (.ins C vs) ∧ AtF h R ds vs
  | .err C ds => ∃ n vs, v = .ref n ∧ (B n ∨ R n) ∧ h[n]? = some (.exc C vs) ∧ AtF h R ds vs
  | d => At h R d v
theorem At.toB {d : D} {v : AV} (q : At h R d v) : AtB B h R d v := by
  cases d with
  | lst ds => obtain ⟨n, vs, e, r, hn, q⟩ := q; exact ⟨n, vs, e, .inr r, hn, q⟩
  | tup ds => obtain ⟨n, vs, e, r, hn, q⟩ := q; exact ⟨n, vs, e, .inr r, hn, q⟩
  | dic ds => obtain ⟨n, vs, e, r, hn, q⟩ := q; exact ⟨n, vs, e, .inr r, hn, q⟩
  | obj C ds => obtain ⟨n, vs, e, r, hn, q⟩ := q; exact ⟨n, vs, e, .inr r, hn, q⟩
  | err C ds => obtain ⟨n, vs, e, r, hn, q⟩ := q; exact ⟨n, vs, e, .inr r, hn, q⟩
  | _ => exact q
theorem AtB.strip {d : D} {v : AV} (q : AtB B h R d v) : AtB B h R (SL.strip d) v := by
  cases d with
  | idt n d => exact (At.strip (d := .idt n d) q).toB
  | _ => exact q
theorem AtB.mono {B' : Nat → Prop} {d : D} {v : AV} (q : AtB B h R d v) (w1 : ∀ n o, B n → h[n]? = some o → o.plain = true → B' n ∧ h'[n]? = some o) (w2 : Mv R R' h h') : AtB B' h' R' d v := by
  have top : ∀ {n o}, B n ∨ R n → h[n]? = some o → o.plain = true → (B' n ∨ R' n) ∧ h'[n]? = some o := fun r e p => r.elim (fun r => ⟨.inl (w1 _ _ r e p).1, (w1 _ _ r e p).2⟩) fun r => ⟨.inr (w2.k r e p).1, (w2.k r e p).2⟩
  cases d with
  | lst ds => obtain ⟨n, vs, e, r, hn, q⟩ := q; exact ⟨n, vs, e, (top r hn rfl).1, (top r hn rfl).2, AtL.mono w2 _ _ q⟩
  | tup ds => obtain ⟨n, vs, e, r, hn, q⟩ := q; exact ⟨n, vs, e, (top r hn rfl).1, (top r hn rfl).2, AtL.mono w2 _ _ q⟩
  | dic ds => obtain ⟨n, vs, e, r, hn, q⟩ := q; exact ⟨n, vs, e, (top r hn rfl).1, (top r hn rfl).2, AtK.mono w2 _ _ q⟩
  | obj C ds => obtain ⟨n, vs, e, r, hn, q⟩ := q; exact ⟨n, vs, e, (top r hn rfl).1, (top r hn rfl).2, AtF.mono w2 _ _ q⟩
  | err C ds => obtain ⟨n, vs, e, r, hn, q⟩ := q; exact ⟨n, vs, e, (top r hn rfl).1, (top r hn rfl).2, AtF.mono w2 _ _ q⟩
  | non => exact q
  | bl _ => exact q
  | int _ => exact q
  | str _ => exact q
  | adr _ => exact q
  | gl _ => exact q
  | ty _ => exact q
  | mem ms => exact At.mono w2 (.mem ms) v q
  | idt n d => exact At.mono w2 (.idt n d) v q
theorem AtB.go {d : D} {v : AV} (q : AtB B h R d v) (bB : Bd F B h) (bd : Bd F R h) (s : SameM F h h') (sub : ∀ n, R n → R' n) : AtB B h' R' d v :=
  q.mono (fun n o r e p => ⟨r, s.k (bB n r).2 e p⟩) (s.mv bd sub)
theorem AtB.sub {d : D} {v : AV} (q : AtB B h R d v) (sub : ∀ n, R n → R' n) : AtB B h R' d v := q.mono (fun n o r e _ => ⟨r, e⟩) (Mv.sub sub)
/-- .. whose top is not below itself -/
def AtT (h : AH) (R : Nat → Prop) (d : D) (v : AV) : Prop := match d with
  | .lst ds => ∃ n vs, v = .ref n ∧ R n ∧ h[n]? = some (.lst vs) ∧ AtL h (fun m => R m ∧ m ≠ n) ds vs
  | .dic ds => ∃ n vs, v = .ref n ∧ R n ∧ h[n]? = some (.dic vs) ∧ AtK h (fun m => R m ∧ m ≠ n) ds vs
  | d => At h R d v
theorem AtT.toA {d : D} {v : AV} (q : AtT h R d v) : At h R d v := by
  cases d with
  | lst ds => obtain ⟨n, vs, e, r, hn, q⟩ := q; exact ⟨n, vs, e, r, hn, q.sub fun _ z => z.1⟩
  | dic ds => obtain ⟨n, vs, e, r, hn, q⟩ := q; exact ⟨n, vs, e, r, hn, q.sub fun _ z => z.1⟩
  | _ => exact q
theorem AtT.mono {d : D} {v : AV} (q : AtT h R d v) (w : Mv R R' h h') : AtT h' R' d v := by
  have up : ∀ n, Mv (fun m => R m ∧ m ≠ n) (fun m => R' m ∧ m ≠ n) h h' := fun n => ⟨fun r e p => ⟨⟨(w.k r.1 e p).1, r.2⟩, (w.k r.1 e p).2⟩, fun e => w.m e⟩
  cases d with
  | lst ds => obtain ⟨n, vs, e, r, hn, q⟩ := q; exact ⟨n, vs, e, (w.k r hn rfl).1, (w.k r hn rfl).2, AtL.mono (up n) _ _ q⟩
  | dic ds => obtain ⟨n, vs, e, r, hn, q⟩ := q; exact ⟨n, vs, e, (w.k r hn rfl).1, (w.k r hn rfl).2, AtK.mono (up n) _ _ q⟩
  | _ => exact At.mono w _ v q
theorem AtT.scal {d : D} {v : AV} (hs : SL.scal d = true) (q : At h R d v) : AtT h R' d v := by
  cases d <;> first | exact q | cases hs
/-- what an expression's value is -/
def SlAt (B : Nat → Prop) (h h' : AH) (R : Nat → Prop) (s : Sl) (v : AV) : Prop := match s with
  | .un d => At h' (Nw R h h') d v
  | .ow ds => ∃ n vs, v = .ref n ∧ h.length ≤ n ∧ n < h'.length ∧ h'[n]? = some (.lst vs) ∧ AtL h' (fun m => Nw R h h' m ∧ m ≠ n) ds vs
  | .ok ds => ∃ n vs, v = .ref n ∧ h.length ≤ n ∧ n < h'.length ∧ h'[n]? = some (.dic vs) ∧ AtK h' (fun m => Nw R h h' m ∧ m ≠ n) ds vs
  | .fr d => AtT h' (newR h h') d v
  | .jk _ _ => False
  | .bo d => AtB B h' (Nw R h h') d v
theorem SlAt.toK {s : Sl} {v : AV} (q : SlAt B h h' R s v) (hk : s.kept = true) : At h' (Nw R h h') s.d v := by
  cases s with
  | un d => exact q
  | ow ds => obtain ⟨n, vs, e, h1, h2, hn, q⟩ := q; exact ⟨n, vs, e, .inr ⟨h1, h2⟩, hn, q.sub fun _ z => z.1⟩
  | ok ds => obtain ⟨n, vs, e, h1, h2, hn, q⟩ := q; exact ⟨n, vs, e, .inr ⟨h1, h2⟩, hn, q.sub fun _ z => z.1⟩
  | fr d => exact (AtT.toA (show AtT h' (newR h h') d v from q)).sub fun n z => .inr z
  | jk c d => cases hk
  | bo d => cases hk
theorem SlAt.toB {s : Sl} {v : AV} (q : SlAt B h h' R s v) : AtB B h' (Nw R h h') s.d v := by
  cases s with
  | bo d => exact q
  | un d => exact (SlAt.toK q rfl).toB
  | ow ds => exact (SlAt.toK (B := B) (s := .ow ds) q rfl).toB
  | ok ds => exact (SlAt.toK (B := B) (s := .ok ds) q rfl).toB
  | fr d => exact (SlAt.toK (B := B) (s := .fr d) q rfl).toB
  | jk c d => exact q.elim
theorem SlAt.toV {s : Sl} {v : AV} (q : SlAt B h h' R s v) : AtB B h' (Nw R h h') s.v v := q.toB.strip
theorem SlAt.fr {s : Sl} {v : AV} (q : SlAt B h h' R s v) (hf : s.isFr = true) : AtT h' (newR h h') s.d v := by
  cases s with
  | un d => exact AtT.scal hf (show At h' (Nw R h h') d v from q)
  | ow ds => obtain ⟨n, vs, e, h1, h2, hn, q⟩ := q; exact ⟨n, vs, e, ⟨h1, h2⟩, hn, scal_atL hf q⟩
  | ok ds => obtain ⟨n, vs, e, h1, h2, hn, q⟩ := q; exact ⟨n, vs, e, ⟨h1, h2⟩, hn, scal_atK hf q⟩
  | fr d => exact q
  | jk c d => cases hf
  | bo d => cases hf
/-- the items of a list, new if elFr says so -/
theorem SlAt.lst {s : Sl} {v : AV} {xs : List D} (q : SlAt B h h' R s v) (e : s.v = .lst xs) : ∃ n vs, v = .ref n ∧ (B n ∨ Nw R h h' n) ∧ h'[n]? = some (.lst vs) ∧ AtL h' (Nw R h h') xs vs ∧ (s.elFr = true → AtL h' (newR h h') xs vs) := by
  have qv := q.toV
  rw [e] at qv
  obtain ⟨n, vs, e1, r, hn, a⟩ := qv
  refine ⟨n, vs, e1, r, hn, a, fun hf => ?_⟩
  cases s with
  | fr d =>
    have q2 := At.strip (AtT.toA (show AtT h' (newR h h') d v from q))
    rw [show SL.strip d = .lst xs from e] at q2
    obtain ⟨n2, vs2, e2, r2, hn2, a2⟩ := q2
    rw [e1] at e2; cases e2
    rw [hn] at hn2; cases hn2
    exact a2
  | un d => exact scal_atL (by unfold Sl.elFr at hf; simp only [e, SL.items] at hf; exact hf) a
  | ow d => exact scal_atL (by unfold Sl.elFr at hf; simp only [e, SL.items] at hf; exact hf) a
  | ok d => exact scal_atL (by unfold Sl.elFr at hf; simp only [e, SL.items] at hf; exact hf) a
  | jk c d => exact scal_atL (by unfold Sl.elFr at hf; simp only [e, SL.items] at hf; exact hf) a
  | bo d => exact scal_atL (by unfold Sl.elFr at hf; simp only [e, SL.items] at hf; exact hf) a
theorem SlAt.tup {s : Sl} {v : AV} {xs : List D} (q : SlAt B h h' R s v) (e : s.v = .tup xs) : ∃ n vs, v = .ref n ∧ (B n ∨ Nw R h h' n) ∧ h'[n]? = some (.tup vs) ∧ AtL h' (Nw R h h') xs vs ∧ (s.elFr = true → AtL h' (newR h h') xs vs) := by
  have qv := q.toV
  rw [e] at qv
  obtain ⟨n, vs, e1, r, hn, a⟩ := qv
  refine ⟨n, vs, e1, r, hn, a, fun hf => ?_⟩
  cases s with
  | fr d =>
    have q2 := At.strip (AtT.toA (show AtT h' (newR h h') d v from q))
    rw [show SL.strip d = .tup xs from e] at q2
    obtain ⟨n2, vs2, e2, r2, hn2, a2⟩ := q2
    rw [e1] at e2; cases e2
    rw [hn] at hn2; cases hn2
    exact a2
  | un d => exact scal_atL (by unfold Sl.elFr at hf; simp only [e, SL.items] at hf; exact hf) a
  | ow d => exact scal_atL (by unfold Sl.elFr at hf; simp only [e, SL.items] at hf; exact hf) a
  | ok d => exact scal_atL (by unfold Sl.elFr at hf; simp only [e, SL.items] at hf; exact hf) a
  | jk c d => exact scal_atL (by unfold Sl.elFr at hf; simp only [e, SL.items] at hf; exact hf) a
  | bo d => exact scal_atL (by unfold Sl.elFr at hf; simp only [e, SL.items] at hf; exact hf) a
/-- behind what is evaluated next -/
theorem SlAt.go {s : Sl} {v : AV} (q : SlAt B h h1 R s v) (bB : Bd F B h1) (bd : Bd F (Nw R h h1) h1) (m : SameM F h1 h2) (lo : ∀ n, F.M n → n < h.length) : SlAt B h h2 R s v := by
  have w : Mv (Nw R h h1) (Nw R h h2) h1 h2 := m.mv bd fun n z => z.mono m.le
  have wn : ∀ n, Mv (fun k => Nw R h h1 k ∧ k ≠ n) (fun k => Nw R h h2 k ∧ k ≠ n) h1 h2 := fun n => ⟨fun r e p => ⟨⟨(w.k r.1 e p).1, r.2⟩, (w.k r.1 e p).2⟩, fun e => w.m e⟩
  have wf : Mv (newR h h1) (newR h h2) h1 h2 := ⟨fun r e p => ⟨⟨r.1, Nat.lt_of_lt_of_le r.2 m.le⟩, m.k (fun z => by have := lo _ z; have := r.1; omega) e p⟩, fun e => m.m e⟩
  have nm : ∀ {n}, h.length ≤ n → ¬ F.M n := fun hn z => by have := lo _ z; omega
  cases s with
  | un d => exact At.mono w d v q
  | ow ds => obtain ⟨n, vs, e, q1, q2, q3, q4⟩ := q; exact ⟨n, vs, e, q1, Nat.lt_of_lt_of_le q2 m.le, m.k (nm q1) q3 rfl, AtL.mono (wn n) _ _ q4⟩
  | ok ds => obtain ⟨n, vs, e, q1, q2, q3, q4⟩ := q; exact ⟨n, vs, e, q1, Nat.lt_of_lt_of_le q2 m.le, m.k (nm q1) q3 rfl, AtK.mono (wn n) _ _ q4⟩
  | fr d => exact AtT.mono (show AtT h1 (newR h h1) d v from q) wf
  | jk c d => exact q.elim
  | bo d => exact AtB.mono (show AtB B h1 (Nw R h h1) d v from q) (fun n o r e p => ⟨r, m.k (bB n r).2 e p⟩) w
theorem SlAt.back {R2 : Nat → Prop} {s : Sl} {u : AV} {h3 : AH} (a : SlAt B h2 h3 R2 s u) (l1 : h.length ≤ h2.length) (l2 : h2.length ≤ h3.length) (sub : ∀ n, R2 n → Nw R h h2 n) : SlAt B h h3 R s u := by
  have w : ∀ n, Nw R2 h2 h3 n → Nw R h h3 n := fun n z => z.elim (fun z => (sub n z).mono l2) fun z => .inr ⟨by omega, z.2⟩
  cases s with
  | un d => exact At.sub (show At h3 (Nw R2 h2 h3) d u from a) w
  | ow ds => obtain ⟨n, vs, e, q1, q2, q3, q4⟩ := a; exact ⟨n, vs, e, by omega, q2, q3, q4.sub fun m z => ⟨w m z.1, z.2⟩⟩
  | ok ds => obtain ⟨n, vs, e, q1, q2, q3, q4⟩ := a; exact ⟨n, vs, e, by omega, q2, q3, q4.sub fun m z => ⟨w m z.1, z.2⟩⟩
  | fr d => exact AtT.mono (show AtT h3 (newR h2 h3) d u from a) (Mv.sub fun n z => ⟨Nat.le_trans l1 z.1, z.2⟩)
  | jk c d => exact a.elim
  | bo d => exact AtB.mono (show AtB B h3 (Nw R2 h2 h3) d u from a) (fun n o r e _ => ⟨r, e⟩) (Mv.sub w)
theorem SlAt.anyB {B' : Nat → Prop} {s : Sl} {u : AV} (a : SlAt B' h h1 R s u) (hk : s.kept = true) : SlAt B h h1 R s u := by
  cases s <;> first | exact a | cases hk
/-- arguments -/
def SlL (B : Nat → Prop) (h h' : AH) (R : Nat → Prop) : List Sl → List AV → Prop
  | [], vs => vs = []
  | s :: ss, vs => ∃ v r, vs = v :: r ∧ SlAt B h h' R s v ∧ SlL B h h' R ss r
theorem SlL.toK {ss : List Sl} {vs : List AV} (q : SlL B h h' R ss vs) (hk : ∀ s ∈ ss, s.kept = true) : AtL h' (Nw R h h') (ss.map Sl.d) vs := by
  induction ss generalizing vs with
  | nil => exact q
  | cons s ss ih => obtain ⟨v, r, e, q1, q⟩ := q; exact ⟨v, r, e, q1.toK (hk s (List.mem_cons_self ..)), ih q fun s hs => hk s (List.mem_cons_of_mem _ hs)⟩
theorem SlL.fr {ss : List Sl} {vs : List AV} (q : SlL B h h' R ss vs) (hf : ss.all Sl.isFr = true) : AtL h' (newR h h') (ss.map Sl.d) vs := by
  induction ss generalizing vs with
  | nil => exact q
  | cons s ss ih =>
    simp only [List.all_cons, Bool.and_eq_true] at hf
    obtain ⟨v, r, e, q1, q⟩ := q
    exact ⟨v, r, e, (q1.fr hf.1).toA, ih q hf.2⟩
theorem SlL.imp {B' : Nat → Prop} {ss : List Sl} {vs : List AV} (q : SlL B h h1 R ss vs) (w : ∀ s v, SlAt B h h1 R s v → SlAt B' h0 h2 R' s v) : SlL B' h0 h2 R' ss vs := by
  induction ss generalizing vs with
  | nil => exact q
  | cons s ss ih => obtain ⟨v, r, e, q1, q⟩ := q; exact ⟨v, r, e, w s v q1, ih q⟩
/-! ### to python's data -/
mutual
theorem to_py {p : PyData} : ∀ {d : D} {v : AV} {k : Nat}, At h R d v → pyD d = some p → p.depth < k → toD k h v = some p
  | .non, v, k, q, e, _ => by cases e; cases q; cases k <;> rfl
  | .bl _, v, k, q, e, _ => by cases e; cases q; cases k <;> rfl
  | .int _, v, k, q, e, _ => by cases e; cases q; cases k <;> rfl
  | .str _, v, k, q, e, _ => by cases e; cases q; cases k <;> rfl
  | .lst ds, v, k, ⟨n, vs, e1, _, hn, q⟩, e, hk => by
    obtain ⟨ps, e2, rfl⟩ := Option.map_eq_some_iff.mp (show (pyDs ds).map .list = some p from e)
    subst e1
    rw [PyData.depth] at hk
    cases k with
    | zero => omega
    | succ k =>
      simp only [toD, hn]
      rw [to_pys q e2 (by omega)]; rfl
  | .tup ds, v, k, ⟨n, vs, e1, _, hn, q⟩, e, hk => by
    obtain ⟨ps, e2, rfl⟩ := Option.map_eq_some_iff.mp (show (pyDs ds).map .tuple = some p from e)
    subst e1
    rw [PyData.depth] at hk
    cases k with
    | zero => omega
    | succ k =>
      simp only [toD, hn]
      rw [to_pys q e2 (by omega)]; rfl
  | .idt n d, v, k, ⟨_, q⟩, e, hk => to_py (d := d) q (by rw [pyD] at e; exact e) hk
  | .dic _, _, _, _, e, _ => by cases e
  | .obj _ _, _, _, _, e, _ => by cases e
  | .err _ _, _, _, _, e, _ => by cases e
  | .adr _, _, _, _, e, _ => by cases e
  | .gl _, _, _, _, e, _ => by cases e
  | .ty _, _, _, _, e, _ => by cases e
  | .mem _, _, _, _, e, _ => by cases e
theorem to_pys {ps : List PyData} : ∀ {ds : List D} {vs : List AV} {k : Nat}, AtL h R ds vs → pyDs ds = some ps → PyData.depthAll ps < k → vs.mapM (toD k h) = some ps
  | [], vs, k, q, e, _ => by cases e; cases q; rfl
  | d :: ds, vs, k, ⟨v, r, e1, q1, q2⟩, e, hk => by
    subst e1
    simp only [pyDs] at e
    split at e
    · rename_i x r' h1 h2
      cases e
      rw [PyData.depthAll] at hk
      rw [List.mapM_cons, to_py q1 h1 (by omega), to_pys q2 h2 (by omega)]; rfl
    · cases e
end
theorem to_pyB {p : PyData} {d : D} {v : AV} {k : Nat} (q : AtB B h R d v) (e : pyD d = some p) (hk : p.depth < k) : toD k h v = some p := by
  cases d with
  | lst ds =>
    obtain ⟨n, vs, e1, r, hn, q⟩ := q
    exact to_py (R := fun _ => True) (d := .lst ds) ⟨n, vs, e1, trivial, hn, q.sub fun _ _ => trivial⟩ e hk
  | tup ds =>
    obtain ⟨n, vs, e1, r, hn, q⟩ := q
    exact to_py (R := fun _ => True) (d := .tup ds) ⟨n, vs, e1, trivial, hn, q.sub fun _ _ => trivial⟩ e hk
  | dic ds => cases e
  | obj C ds => cases e
  | err C ds => cases e
  | non => exact to_py (R := R) q e hk
  | bl _ => exact to_py (R := R) q e hk
  | int _ => exact to_py (R := R) q e hk
  | str _ => exact to_py (R := R) q e hk
  | idt _ _ => exact to_py (R := R) q e hk
  | adr _ => cases e
  | gl _ => cases e
  | ty _ => cases e
  | mem _ => cases e
theorem eqD_ok {x y : D} {v w : AV} {r : Bool} (qx : AtB B h R x v) (qy : AtB B h R y w) (e : eqD x y = some r) : eqA h v w = some r := by
  unfold eqD at e
  split at e
  · rename_i d e' h1 h2
    split at e
    · rename_i hs
      cases e
      unfold eqA
      rw [to_pyB qx h1 hs.2.2.1, to_pyB qy h2 hs.2.2.2]
      simp only
      rw [if_pos ⟨hs.1, hs.2.1⟩]
    · cases e
  · cases e
end
end SL

set_option Elab.async false
set_option linter.all false
set_option maxRecDepth 100000
set_option maxHeartbeats 4000000
/-! Trees over heaps: operations. -/
namespace SL
open PySem
section
variable {X : EX} {F : Frm} {B : Nat → Prop} {G : Env} {c : Calls} {R R' : Nat → Prop} {h hb h0 h1 h2 h' : AH}
theorem AtL.len {ds : List D} {vs : List AV} (q : AtL h R ds vs) : vs.length = ds.length := by
  induction ds generalizing vs with
  | nil => cases q; rfl
  | cons d ds ih => obtain ⟨v, r, rfl, _, q⟩ := q; simp [ih q]
theorem AtK.len {ds : List (AKey × D)} {vs : List (AKey × AV)} (q : AtK h R ds vs) : vs.length = ds.length := by
  induction ds generalizing vs with
  | nil => cases q; rfl
  | cons d ds ih => obtain ⟨k, d⟩ := d; obtain ⟨v, r, rfl, _, q⟩ := q; simp [ih q]
theorem AtL.get {ds : List D} {vs : List AV} {i : Nat} {d : D} (q : AtL h R ds vs) (e : ds[i]? = some d) : ∃ v, vs[i]? = some v ∧ At h R d v := by
  induction ds generalizing vs i with
  | nil => simp at e
  | cons d' ds ih =>
    obtain ⟨v, r, rfl, q1, q⟩ := q
    cases i with
    | zero => cases e; exact ⟨v, rfl, q1⟩
    | succ i => obtain ⟨u, e1, e2⟩ := ih (i := i) q e; exact ⟨u, e1, e2⟩
theorem AtL.app {ds es : List D} {vs ws : List AV} (q : AtL h R ds vs) (q' : AtL h R es ws) : AtL h R (ds ++ es) (vs ++ ws) := by
  induction ds generalizing vs with
  | nil => cases q; exact q'
  | cons d ds ih => obtain ⟨v, r, rfl, q1, q⟩ := q; exact ⟨v, r ++ ws, rfl, q1, ih q⟩
theorem AtL.drop {ds : List D} {vs : List AV} (n : Nat) (q : AtL h R ds vs) : AtL h R (ds.drop n) (vs.drop n) := by
  induction n generalizing ds vs with
  | zero => exact q
  | succ n ih =>
    cases ds with
    | nil => cases q; exact rfl
    | cons d ds => obtain ⟨v, r, rfl, q1, q⟩ := q; show AtL h R (ds.drop n) (r.drop n); exact ih q
theorem AtL.take {ds : List D} {vs : List AV} (n : Nat) (q : AtL h R ds vs) : AtL h R (ds.take n) (vs.take n) := by
  induction n generalizing ds vs with
  | zero => exact rfl
  | succ n ih =>
    cases ds with
    | nil => cases q; exact rfl
    | cons d ds => obtain ⟨v, r, rfl, q1, q⟩ := q; exact ⟨v, _, rfl, q1, ih q⟩
theorem AtL.rev {ds : List D} {vs : List AV} (q : AtL h R ds vs) : AtL h R ds.reverse vs.reverse := by
  induction ds generalizing vs with
  | nil => cases q; exact rfl
  | cons d ds ih => obtain ⟨v, r, rfl, q1, q⟩ := q; rw [List.reverse_cons, List.reverse_cons]; exact (ih q).app ⟨v, [], rfl, q1, rfl⟩
theorem AtL.flat {ds : List D} {vs : List AV} (q : AtL h R ds vs) (n : Nat) : AtL h R (List.replicate n ds).flatten (List.replicate n vs).flatten := by
  induction n with
  | zero => exact rfl
  | succ n ih => rw [List.replicate_succ, List.replicate_succ, List.flatten_cons, List.flatten_cons]; exact q.app ih
theorem AtL.set {ds : List D} {vs : List AV} {d : D} {v : AV} (i : Nat) (q : AtL h R ds vs) (qv : At h R d v) : AtL h R (ds.set i d) (vs.set i v) := by
  induction ds generalizing vs i with
  | nil => cases q; exact rfl
  | cons d' ds ih =>
    obtain ⟨w, r, rfl, q1, q⟩ := q
    cases i with
    | zero => exact ⟨v, r, rfl, qv, q⟩
    | succ i => exact ⟨w, _, rfl, q1, ih i q⟩
theorem ints_ok {ds : List D} {vs : List AV} {ns : List Int} (q : AtL h R ds vs) (e : intsD ds = some ns) : intsOf vs = some ns := by
  induction ds generalizing vs ns with
  | nil => cases q; cases e; rfl
  | cons d ds ih =>
    obtain ⟨v, r, rfl, q1, q⟩ := q
    cases d with
    | int i =>
      obtain ⟨ms, e1, rfl⟩ := Option.map_eq_some_iff.mp (show (intsD ds).map (i :: ·) = some ns from e)
      cases (show v = .int i from q1)
      simp only [intsOf, ih q e1]; rfl
    | _ => cases e
theorem bools_ok {ds : List D} {vs : List AV} {ns : List Bool} (q : AtL h R ds vs) (e : boolsD ds = some ns) : boolsOf vs = some ns := by
  induction ds generalizing vs ns with
  | nil => cases q; cases e; rfl
  | cons d ds ih =>
    obtain ⟨v, r, rfl, q1, q⟩ := q
    cases d with
    | bl i =>
      obtain ⟨ms, e1, rfl⟩ := Option.map_eq_some_iff.mp (show (boolsD ds).map (i :: ·) = some ns from e)
      cases (show v = .bl i from q1)
      simp only [boolsOf, ih q e1]; rfl
    | _ => cases e
theorem atl_ints (ns : List Int) : AtL h R (ns.map .int) (ns.map .int) := by
  induction ns with
  | nil => exact rfl
  | cons n ns ih => exact ⟨_, _, rfl, rfl, ih⟩
theorem atl_rng (lo : Int) (l : List Nat) : AtL h R (l.map fun (k : Nat) => .int (lo + (k : Int))) (l.map fun (k : Nat) => .int (lo + (k : Int))) := by
  induction l with
  | nil => exact rfl
  | cons n ns ih => exact ⟨_, _, rfl, rfl, ih⟩
/-- a new list, dict, tuple; R: what stood at hb -/
theorem sl_new {ds : List D} {vs : List AV} (bd : Bd F (Nw R hb h) h) (hl : hb.length ≤ h.length) (f : Bool) (q : AtL h (Nw R hb h) ds vs) (qf : f = true → AtL h (newR hb h) ds vs) : SlAt B hb (h ++ [.lst vs]) R (mkO f ds) (.ref h.length) := by
  unfold mkO
  split
  · exact ⟨h.length, vs, rfl, ⟨hl, by simp⟩, by simp, AtL.mono (Mv.app fun n z => ⟨⟨z.1, by have := z.2; simp; omega⟩, by have := z.2; omega⟩) ds vs (qf ‹_›)⟩
  · exact ⟨h.length, vs, rfl, hl, by simp, by simp, AtL.mono (Mv.app fun n z => ⟨z.mono (by simp), by have := (bd n z).1; omega⟩) ds vs q⟩
theorem sl_newK {ds : List (AKey × D)} {vs : List (AKey × AV)} (bd : Bd F (Nw R hb h) h) (hl : hb.length ≤ h.length) (f : Bool) (q : AtK h (Nw R hb h) ds vs) (qf : f = true → AtK h (newR hb h) ds vs) : SlAt B hb (h ++ [.dic vs]) R (mkK f ds) (.ref h.length) := by
  unfold mkK
  split
  · exact ⟨h.length, vs, rfl, ⟨hl, by simp⟩, by simp, AtK.mono (Mv.app fun n z => ⟨⟨z.1, by have := z.2; simp; omega⟩, by have := z.2; omega⟩) ds vs (qf ‹_›)⟩
  · exact ⟨h.length, vs, rfl, hl, by simp, by simp, AtK.mono (Mv.app fun n z => ⟨z.mono (by simp), by have := (bd n z).1; omega⟩) ds vs q⟩
theorem sl_newT {ds : List D} {vs : List AV} (hl : hb.length ≤ h.length) (f : Bool) (q : AtL h (Nw R hb h) ds vs) (qf : f = true → AtL h (newR hb h) ds vs) : SlAt B hb (h ++ [.tup vs]) R (mkT f ds) (.ref h.length) := by
  unfold mkT
  split
  · exact ⟨h.length, vs, rfl, ⟨hl, by simp⟩, by simp, AtL.mono (Mv.app fun n z => ⟨z.1, by have := z.2; simp; omega⟩) ds vs (qf ‹_›)⟩
  · exact ⟨h.length, vs, rfl, .inr ⟨hl, by simp⟩, by simp, AtL.mono (Mv.app fun n z => z.mono (by simp)) ds vs q⟩
/-- behind an operation at h, what stood at hb looked back at -/
abbrev After (B : Nat → Prop) (hb : AH) (R : Nat → Prop) (h : AH) (Q : Sl → Prop) (u : AV) (h' : AH) : Prop := ∃ s l, h' = h ++ l ∧ plains l ∧ SlAt B hb h' R s u ∧ Q s
theorem after_un {d : D} {v : AV} {Q : Sl → Prop} (q : At h (Nw R hb h) d v) (k : Q (.un d)) : After B hb R h Q v h := ⟨.un d, [], by simp, (fun _ z => nomatch z), q, k⟩
theorem after_new {o : AO} {s : Sl} {Q : Sl → Prop} (p : o.plain = true) (a : SlAt B hb (h ++ [o]) R s (.ref h.length)) (k : Q s) : After B hb R h Q (.ref h.length) (h ++ [o]) := ⟨s, [o], rfl, .one p, a, k⟩
theorem at_int {d : D} {v : AV} {i : Int} (q : AtB B h R d v) (e : d = .int i) : v = .int i := by subst e; exact q
theorem at_bl {d : D} {v : AV} {i : Bool} (q : AtB B h R d v) (e : d = .bl i) : v = .bl i := by subst e; exact q
theorem at_str {d : D} {v : AV} {i : Str} (q : AtB B h R d v) (e : d = .str i) : v = .str i := by subst e; exact q
theorem bin_ok {op : Operator} {x y : Sl} {v w : AV} {Q : Sl → Prop} (bd : Bd F (Nw R hb h) h) (hl : hb.length ≤ h.length) (qx : SlAt B hb h R x v) (qy : SlAt B hb h R y w) (q : binD op x y Q) : (binA op v w h).wp X (After B hb R h Q) := by
  unfold binD at q
  split at q
  · rename_i i j ex ey
    cases at_int qx.toV ex
    cases at_int qy.toV ey
    cases op <;> first
      | exact after_un (d := .int _) rfl q
      | exact q.elim
      | (obtain ⟨q1, q⟩ := q
         first
           | (rw [b_mul]; exact ⟨q1, after_un (d := .int _) rfl q⟩)
           | (rw [b_fdiv]; exact ⟨q1, after_un (d := .int _) rfl q⟩)
           | (rw [b_mod]; exact ⟨q1, after_un (d := .int _) rfl q⟩)
           | (rw [b_pow]; exact ⟨q1, after_un (d := .int _) rfl q⟩)
           | (rw [b_shl]; exact ⟨q1, after_un (d := .int _) rfl q⟩)
           | (rw [b_shr]; exact ⟨q1, after_un (d := .int _) rfl q⟩))
  · rename_i xs ys ex ey
    obtain ⟨n, vs, rfl, _, e1, q1, f1⟩ := qx.lst ex
    obtain ⟨m, ws, rfl, _, e2, q2, f2⟩ := qy.lst ey
    obtain ⟨rfl, hl2, q⟩ := q
    rw [b_cat e1 e2, n_lst]
    refine ⟨by rw [List.length_append, q1.len, q2.len]; exact hl2, after_new rfl (sl_new bd hl _ (q1.app q2) fun hf => ?_) q⟩
    rw [Bool.and_eq_true] at hf
    exact (f1 hf.1).app (f2 hf.2)
  · rename_i xs k ex ey
    obtain ⟨n, vs, rfl, _, e1, q1, f1⟩ := qx.lst ex
    cases at_int qy.toV ey
    obtain ⟨rfl, hk, hl2, q⟩ := q
    simp only [binA, e1]
    rw [if_pos hk, n_lst]
    have q2 := q1.flat k.toNat
    exact ⟨by rw [q2.len]; exact hl2, after_new rfl (sl_new bd hl _ q2 fun hf => (f1 hf).flat k.toNat) q⟩
  · rename_i i j ex ey
    cases at_str qx.toV ex
    cases at_str qy.toV ey
    obtain ⟨rfl, hl, q⟩ := q
    simp only [binA]
    rw [if_pos hl]
    exact after_un (d := .str _) rfl q
  · exact q.elim
theorem key_ok {d : D} {v : AV} {k : AKey} (q : AtB B h R d v) (e : keyD d = some k) : keyOf v = some k := by
  cases d <;> first
    | (cases e; done)
    | (cases e; rw [show v = _ from q]; rfl)
theorem valK_ok {ds : List (AKey × D)} {vs : List (AKey × AV)} (k : AKey) (q : AtK h R ds vs) : (∀ d, valD ds k = some d → ∃ v, valK vs k = some v ∧ At h R d v) ∧ (valD ds k = none → valK vs k = none) := by
  induction ds generalizing vs with
  | nil => cases q; exact ⟨fun d e => (by cases e), fun _ => rfl⟩
  | cons d ds ih =>
    obtain ⟨k', d⟩ := d
    obtain ⟨v, r, rfl, q1, q⟩ := q
    by_cases c : k' = k
    · subst c
      refine ⟨fun d' e => ?_, fun e => ?_⟩
      · simp [valD] at e; subst e; exact ⟨v, by simp [valK], q1⟩
      · simp [valD] at e
    · have ih := ih q
      simp only [valD, valK, List.find?_cons, decide_eq_false c] at ih ⊢
      exact ih
theorem any_ok {ds : List (AKey × D)} {vs : List (AKey × AV)} (k : AKey) (q : AtK h R ds vs) : (vs.any fun kv => decide (kv.1 = k)) = (ds.any fun kv => decide (kv.1 = k)) := by
  induction ds generalizing vs with
  | nil => cases q; rfl
  | cons d ds ih => obtain ⟨k', d⟩ := d; obtain ⟨v, r, rfl, q1, q⟩ := q; simp [ih q]
theorem AtK.app {ds es : List (AKey × D)} {vs ws : List (AKey × AV)} (q : AtK h R ds vs) (q' : AtK h R es ws) : AtK h R (ds ++ es) (vs ++ ws) := by
  induction ds generalizing vs with
  | nil => cases q; exact q'
  | cons d ds ih => obtain ⟨k, d⟩ := d; obtain ⟨v, r, rfl, q1, q⟩ := q; exact ⟨v, r ++ ws, rfl, q1, ih q⟩
theorem putK_ok {ds : List (AKey × D)} {vs : List (AKey × AV)} (k : AKey) {d : D} {v : AV} (q : AtK h R ds vs) (qv : At h R d v) : AtK h R (putD ds k d) (putK vs k v) := by
  unfold putD putK
  rw [any_ok k q]
  split
  · rename_i hx; clear hx
    induction ds generalizing vs with
    | nil => cases q; exact rfl
    | cons d' ds ih =>
      obtain ⟨k', d'⟩ := d'
      obtain ⟨w, r, rfl, q1, q⟩ := q
      simp only [List.map_cons]
      split
      · rename_i e; subst e; exact ⟨v, _, rfl, qv, ih q⟩
      · exact ⟨w, _, rfl, q1, ih q⟩
  · exact q.app ⟨v, [], rfl, qv, rfl⟩
theorem ix_ok {x y d : D} {v w : AV} (qx : AtB B h R x v) (qy : AtB B h R y w) (e : ixD x y = some d) : (ixA v w h).wp X fun u h' => h' = h ∧ At h R d u := by
  have seqs : ∀ {xs : List D} {vs : List AV} {i : Int}, AtL h R xs vs → L2.atI xs i = some d → ∃ u, L2.atI vs i = some u ∧ At h R d u := fun {xs vs i} q e => by
    unfold L2.atI at e ⊢
    rw [q.len]
    obtain ⟨j, e1, e2⟩ := Option.bind_eq_some_iff.mp e
    obtain ⟨u, e3, e4⟩ := q.get e2
    exact ⟨u, by rw [e1]; exact e3, e4⟩
  unfold ixD at e
  split at e
  · rename_i xs i
    obtain ⟨n, vs, rfl, _, e1, q⟩ := qx
    cases (show w = .int i from qy)
    rw [ix_lst e1]
    obtain ⟨u, e3, e4⟩ := seqs q e
    exact ⟨u, e3, rfl, e4⟩
  · rename_i xs i
    obtain ⟨n, vs, rfl, _, e1, q⟩ := qx
    cases (show w = .int i from qy)
    rw [ix_tup e1]
    obtain ⟨u, e3, e4⟩ := seqs q e
    exact ⟨u, e3, rfl, e4⟩
  · rename_i xs i
    obtain ⟨n, vs, rfl, _, e1, q⟩ := qx
    cases (show w = .int i from qy)
    obtain ⟨u, e3, e4⟩ := (valK_ok (.inl i) q).1 _ e
    simp only [ixA, e1]
    exact wp_opt.mpr ⟨u, e3, rfl, e4⟩
  · rename_i xs i
    obtain ⟨n, vs, rfl, _, e1, q⟩ := qx
    cases (show w = .str i from qy)
    obtain ⟨u, e3, e4⟩ := (valK_ok (.inr i) q).1 _ e
    simp only [ixA, e1]
    exact wp_opt.mpr ⟨u, e3, rfl, e4⟩
  · cases e
theorem len_ok {x : D} {v : AV} {n : Nat} {P : AV → AH → Prop} (qx : AtB B h R x v) (e : lenD x = some n) (k : P (.int n) h) : (lenA v h).wp X P := by
  unfold lenD at e
  split at e
  · obtain ⟨m, vs, rfl, _, e1, q⟩ := qx; cases e; rw [len_lst e1, q.len]; exact k
  · obtain ⟨m, vs, rfl, _, e1, q⟩ := qx; cases e; rw [len_tup e1, q.len]; exact k
  · obtain ⟨m, vs, rfl, _, e1, q⟩ := qx; cases e; simp only [lenA, e1]; rw [q.len]; exact k
  · rename_i x
    cases (show v = .str x from qx)
    split at e
    · cases e; simp only [lenA]; rw [if_pos (by assumption)]; exact k
    · cases e
  · cases e
theorem truth_ok {x : D} {v : AV} {k : Bool} (qx : AtB B h R x v) (e : truthD x = some k) : truth h v = some k := by
  have emp : ∀ {α β : Type} {xs : List α} {ys : List β}, xs.length = ys.length → xs.isEmpty = ys.isEmpty := fun {α β xs ys} e => by
    cases xs <;> cases ys <;> simp at e ⊢
  cases x with
  | non => cases (show v = .non from qx); exact e
  | bl b => cases (show v = .bl b from qx); exact e
  | int b => cases (show v = .int b from qx); exact e
  | str b => cases (show v = .str b from qx); exact e
  | lst ds => obtain ⟨m, vs, rfl, _, e1, q⟩ := qx; simp only [truth, e1, emp q.len]; exact e
  | tup ds => obtain ⟨m, vs, rfl, _, e1, q⟩ := qx; simp only [truth, e1, emp q.len]; exact e
  | dic ds => obtain ⟨m, vs, rfl, _, e1, q⟩ := qx; simp only [truth, e1, emp q.len]; exact e
  | _ => cases e
theorem ty_ok {x : D} {v : AV} {t : Ty} (qx : AtB B h R x v) (e : tyD G x = some t) : tyOf G h v = some t := by
  cases x with
  | non => cases (show v = .non from qx); exact e
  | bl b => cases (show v = .bl b from qx); exact e
  | int b => cases (show v = .int b from qx); exact e
  | str b => cases (show v = .str b from qx); exact e
  | lst ds => obtain ⟨m, vs, rfl, _, e1, q⟩ := qx; simp only [tyOf, e1]; exact e
  | tup ds => obtain ⟨m, vs, rfl, _, e1, q⟩ := qx; simp only [tyOf, e1]; exact e
  | dic ds => obtain ⟨m, vs, rfl, _, e1, q⟩ := qx; simp only [tyOf, e1]; exact e
  | obj C ds => obtain ⟨m, vs, rfl, _, e1, q⟩ := qx; simp only [tyOf, e1]; exact e
  | _ => cases e
theorem cls_ok {t : Ty} {d : D} {v : AV} {r : Bool} (q : At h R d v) (e : clsD G t d = some r) : isOne G t v = some r := by
  cases d with
  | ty n => cases (show v = .ty n from q); exact e
  | gl n => cases (show v = .glob n from q); exact e
  | _ => cases e
theorem anyc_ok {t : Ty} {ds : List D} {vs : List AV} {r : Bool} (q : AtL h R ds vs) (e : anyD G t ds = some r) : isAny G t vs = some r := by
  induction ds generalizing vs r with
  | nil => cases q; exact e
  | cons d ds ih =>
    obtain ⟨v, rr, rfl, q1, q⟩ := q
    rw [anyD] at e
    split at e
    · rename_i a b h1 h2
      rw [isAny, cls_ok q1 h1, ih q h2]; exact e
    · cases e
theorem isi_ok {x c : D} {v w : AV} {r : Bool} {P : AV → AH → Prop} (qx : AtB B h R x v) (qc : AtB B h R c w) (e : isiD G x c = some r) (k : P (.bl r) h) : (isiA G v w h).wp X P := by
  unfold isiD at e
  split at e
  · rename_i t ht
    unfold isiA
    rw [ty_ok qx ht]
    simp only
    split at e
    · obtain ⟨m, vs, rfl, _, e1, q⟩ := qc
      simp only [e1, anyc_ok q e]; exact k
    · cases c with
      | ty n => cases (show w = .ty n from qc); simp only [cls_ok (h := h) (R := R) (d := .ty n) rfl e]; exact k
      | gl n => cases (show w = .glob n from qc); simp only [cls_ok (h := h) (R := R) (d := .gl n) rfl e]; exact k
      | _ => cases e
  · cases e
theorem pairs_ok {ds : List D} {vs : List AV} {ks : List (AKey × D)} (q : AtL h R ds vs) (e : pairsD ds = some ks) : ∃ ws, pairsOf h vs = some ws ∧ AtK h R ks ws := by
  induction ds generalizing vs ks with
  | nil => cases q; cases e; exact ⟨[], rfl, rfl⟩
  | cons d ds ih =>
    obtain ⟨v, r, rfl, q1, q⟩ := q
    unfold pairsD at e
    split at e
    · rename_i heq; cases heq
    · rename_i kd vd r' heq
      cases heq
      split at e
      · rename_i k q' h1 h2
        cases e
        obtain ⟨n, us, rfl, _, e1, v1, us', rfl, p1, v2, us'', rfl, p2, rfl⟩ := q1
        obtain ⟨ws, e3, e4⟩ := ih q h2
        refine ⟨(k, v2) :: ws, ?_, v2, ws, rfl, p2, e4⟩
        simp only [pairsOf, e1, key_ok (B := fun _ => True) (At.toB p1) h1, e3]
      · cases e
    · cases e
theorem merge_ok {ks : List (AKey × D)} {ws : List (AKey × AV)} (q : AtK h R ks ws) : AtK h R (mergeD ks) (mergeKs ws) := by
  have key : ∀ (ks : List (AKey × D)) (ws : List (AKey × AV)) (as : List (AKey × D)) (bs : List (AKey × AV)), AtK h R ks ws → AtK h R as bs → AtK h R (ks.foldl (fun acc kv => putD acc kv.1 kv.2) as) (ws.foldl (fun acc kv => putK acc kv.1 kv.2) bs) := by
    intro ks
    induction ks with
    | nil => intro ws as bs q qa; cases q; exact qa
    | cons d ks ih => intro ws as bs q qa; obtain ⟨k, d⟩ := d; obtain ⟨v, r, rfl, q1, q⟩ := q; exact ih r _ _ q (putK_ok k qa q1)
  exact key ks ws [] [] q rfl
theorem keys_ok {ds : List (AKey × D)} {vs : List (AKey × AV)} (q : AtK h R ds vs) : AtL h R (ds.map fun kv => keyDV kv.1) (vs.map fun kv => keyV kv.1) := by
  induction ds generalizing vs with
  | nil => cases q; exact rfl
  | cons d ds ih =>
    obtain ⟨k, d⟩ := d
    obtain ⟨v, r, rfl, q1, q⟩ := q
    refine ⟨_, _, rfl, ?_, ih q⟩
    cases k <;> rfl
theorem put_scal {ks : List (AKey × D)} {k : AKey} {d : D} (h1 : (ks.all fun kv => scal kv.2) = true) (h2 : scal d = true) : ((putD ks k d).all fun kv => scal kv.2) = true := by
  unfold putD
  split
  · rw [List.all_eq_true] at h1 ⊢
    intro kv hkv
    obtain ⟨kv', hm, rfl⟩ := List.mem_map.mp hkv
    split
    · exact h2
    · exact h1 _ hm
  · rw [List.all_append, h1]; simpa using h2
theorem merge_scal {ks : List (AKey × D)} (h1 : (ks.all fun kv => scal kv.2) = true) : ((mergeD ks).all fun kv => scal kv.2) = true := by
  have key : ∀ (ks as : List (AKey × D)), (ks.all fun kv => scal kv.2) = true → (as.all fun kv => scal kv.2) = true → ((ks.foldl (fun acc kv => putD acc kv.1 kv.2) as).all fun kv => scal kv.2) = true := by
    intro ks
    induction ks with
    | nil => intro as _ h; exact h
    | cons d ks ih =>
      intro as h h'
      simp only [List.all_cons, Bool.and_eq_true] at h
      exact ih _ h.2 (put_scal h' h.1)
  exact key ks [] h1 rfl
theorem keys_new {ds : List (AKey × D)} {vs : List (AKey × AV)} (q : AtK h R ds vs) : AtL h R' (ds.map fun kv => keyDV kv.1) (vs.map fun kv => keyV kv.1) := by
  induction ds generalizing vs with
  | nil => cases q; exact rfl
  | cons d ds ih =>
    obtain ⟨k, d⟩ := d
    obtain ⟨v, r, rfl, q1, q⟩ := q
    refine ⟨_, _, rfl, ?_, ih q⟩
    cases k <;> rfl
theorem blt_okD {f : Blt} {ss : List Sl} {vs : List AV} {Q : Sl → Prop} (bd : Bd F (Nw R hb h) h) (hl : hb.length ≤ h.length) (qs : SlL B hb h R ss vs) (q : bltD G f ss Q) : (bltA G f vs h).wp X (After B hb R h Q) := by
  unfold bltD at q
  split at q <;> first | exact q.elim | skip
  · obtain ⟨v, r, rfl, q1, rfl⟩ := qs
    obtain ⟨n, e, k⟩ := q
    exact len_ok q1.toV e (after_un (d := .int n) rfl k)
  · obtain ⟨v, r, rfl, q1, rfl⟩ := qs
    obtain ⟨xs, ns, ex, e, k⟩ := q
    obtain ⟨n, ws, rfl, _, e1, q1, _⟩ := q1.lst ex
    simp only [k_sum, sumA, lstOf_lst e1, Option.bind_some, ints_ok q1 e]
    exact after_un (d := .int _) rfl k
  · obtain ⟨v, r, rfl, q1, rfl⟩ := qs
    obtain ⟨xs, ns, ex, e, k⟩ := q
    obtain ⟨n, ws, rfl, _, e1, q1, _⟩ := q1.lst ex
    simp only [k_all, allA, lstOf_lst e1, Option.bind_some, bools_ok q1 e]
    exact after_un (d := .bl _) rfl k
  · obtain ⟨v, r, rfl, q1, rfl⟩ := qs
    obtain ⟨xs, ns, ex, e, k⟩ := q
    obtain ⟨n, ws, rfl, _, e1, q1, _⟩ := q1.lst ex
    simp only [k_any, anyA, lstOf_lst e1, Option.bind_some, bools_ok q1 e]
    exact after_un (d := .bl _) rfl k
  · obtain ⟨v, r, rfl, q1, rfl⟩ := qs
    split at q
    · rename_i ex
      obtain ⟨n, ws, rfl, _, e1, q2, f2⟩ := q1.lst ex
      simp only [k_list, listA, e1, n_lst]
      exact ⟨by rw [q2.len]; exact q.1, after_new rfl (sl_new bd hl _ q2 f2) q.2⟩
    · rename_i ex
      obtain ⟨n, ws, rfl, _, e1, q2, f2⟩ := q1.tup ex
      simp only [k_list, listA, e1, n_lst]
      exact ⟨by rw [q2.len]; exact q.1, after_new rfl (sl_new bd hl _ q2 f2) q.2⟩
    · rename_i xs ex
      have := q1.toV
      rw [ex] at this
      obtain ⟨n, ws, rfl, _, e1, q2⟩ := this
      simp only [k_list, listA, e1, n_lst]
      exact ⟨by rw [List.length_map, q2.len]; exact q.1, after_new rfl (sl_new bd hl true (keys_new q2) fun _ => keys_new q2) q.2⟩
    · exact q.elim
  · obtain ⟨v, r, rfl, q1, rfl⟩ := qs
    obtain ⟨xs, ex, hs, k⟩ := q
    obtain ⟨n, ws, rfl, _, e1, q2, f2⟩ := q1.lst ex
    simp only [k_tuple, tupleA, e1, n_tup]
    exact ⟨by rw [q2.len]; exact hs, after_new rfl (sl_newT hl _ q2 f2) k⟩
  · obtain ⟨v, r, rfl, q1, rfl⟩ := qs
    obtain ⟨xs, ks, ex, e, k⟩ := q
    obtain ⟨n, ws, rfl, _, e1, q1, _⟩ := q1.lst ex
    obtain ⟨us, e2, q2⟩ := pairs_ok q1 e
    simp only [k_dict, dictA, lstOf_lst e1, e2, SL.R.new, wp_ok]
    exact after_new rfl (sl_newK bd hl _ (merge_ok q2) fun hf => scal_atK (merge_scal hf) (merge_ok q2)) k
  · obtain ⟨v, r, rfl, q1, rfl⟩ := qs
    split at q
    · rename_i ex
      obtain ⟨ns, e, k⟩ := q
      obtain ⟨n, ws, rfl, _, e1, q2, f2⟩ := q1.lst ex
      simp only [k_sorted, sortedA, e1, ints_ok q2 e, SL.R.new, wp_ok]
      exact after_new rfl (sl_new bd hl true (atl_ints _) fun _ => atl_ints _) k
    · rename_i xs ex
      obtain ⟨ns, e, hn, k⟩ := q
      have := q1.toV
      rw [ex] at this
      obtain ⟨n, ws, rfl, _, e1, q2⟩ := this
      have e2 : keyInts ws = some ns := ints_ok (R := fun _ => True) (keys_new q2) e
      simp only [k_sorted, sortedA, e1, e2, SL.R.new]
      rw [if_pos hn]
      exact after_new rfl (sl_new bd hl true (atl_ints _) fun _ => atl_ints _) k
    · exact q.elim
  · obtain ⟨v, r, rfl, q1, rfl⟩ := qs
    obtain ⟨i, ex, q⟩ := q
    cases at_int q1.toV ex
    exact after_un (d := .int _) rfl q
  · obtain ⟨v, r, rfl, q1, w, r', rfl, q2, rfl⟩ := qs
    obtain ⟨i, j, ex, ey, q⟩ := q
    cases at_int q1.toV ex
    cases at_int q2.toV ey
    exact after_un (d := .int _) rfl q
  · obtain ⟨v, r, rfl, q1, w, r', rfl, q2, rfl⟩ := qs
    obtain ⟨i, j, ex, ey, q⟩ := q
    cases at_int q1.toV ex
    cases at_int q2.toV ey
    exact after_un (d := .int _) rfl q
  · obtain ⟨v, r, rfl, q1, w, r', rfl, q2, rfl⟩ := qs
    obtain ⟨r, e, k⟩ := q
    exact isi_ok q1.toV q2.toV e (after_un (d := .bl _) rfl k)
end
end SL

set_option Elab.async false
set_option linter.all false
set_option maxRecDepth 100000
set_option maxHeartbeats 4000000
/-! Trees over heaps: comparisons, what is walked, the frame of an expression. -/
namespace SL
open PySem
section
variable {X : EX} {F : Frm} {B : Nat → Prop} {G : Env} {S : Sps} {c : Calls} {R R' : Nat → Prop} {h h0 h1 h2 h3 h' : AH}
theorem pyD_strip : ∀ d : D, pyD (strip d) = pyD d
  | .idt n d => by rw [strip, pyD]; exact pyD_strip d
  | .non | .bl _ | .int _ | .str _ | .lst _ | .tup _ | .dic _ | .obj _ _ | .err _ _ | .adr _ | .gl _ | .ty _ | .mem _ => rfl
theorem strip_ns : ∀ (d : D) n d', strip d ≠ .idt n d'
  | .idt n d, m, d' => by rw [strip]; exact strip_ns d m d'
  | .non, _, _ | .bl _, _, _ | .int _, _, _ | .str _, _, _ | .lst _, _, _ | .tup _, _, _ | .dic _, _, _ | .obj _ _, _, _ | .err _ _, _, _ | .adr _, _, _ | .gl _, _, _ | .ty _, _, _ | .mem _, _, _ => by intro h; cases h
theorem py_own {x : D} {v : AV} {p : PyData} (q : AtB B h R x v) (e : pyD x = some p) : eqOwn G h v = none := by
  cases x with
  | non => cases (show v = .non from q); rfl
  | bl b => cases (show v = .bl b from q); rfl
  | int b => cases (show v = .int b from q); rfl
  | str b => cases (show v = .str b from q); rfl
  | lst ds => obtain ⟨m, vs, rfl, _, e1, q⟩ := q; simp only [eqOwn, e1]
  | tup ds => obtain ⟨m, vs, rfl, _, e1, q⟩ := q; simp only [eqOwn, e1]
  | idt n d =>
    have q2 := AtB.strip (show AtB B h R (.idt n d) v from q)
    have e2 : pyD (SL.strip (.idt n d)) = some p := by rw [pyD_strip]; exact e
    have ns := strip_ns (.idt n d)
    generalize SL.strip (.idt n d) = d' at q2 e2 ns
    cases d' with
    | non => cases (show v = .non from q2); rfl
    | bl b => cases (show v = .bl b from q2); rfl
    | int b => cases (show v = .int b from q2); rfl
    | str b => cases (show v = .str b from q2); rfl
    | lst ds => obtain ⟨m, vs, rfl, _, e1, q⟩ := q2; simp only [eqOwn, e1]
    | tup ds => obtain ⟨m, vs, rfl, _, e1, q⟩ := q2; simp only [eqOwn, e1]
    | idt n d => exact (ns n d rfl).elim
    | _ => cases e2
  | _ => cases e
theorem inD_ok {x y : D} {v w : AV} {r : Bool} (qx : AtB B h R x v) (qy : AtB B h R y w) (e : inD x y = some r) : inA h v w = some r := by
  unfold inD at e
  split at e
  · rename_i kvs
    obtain ⟨m, vs, rfl, _, e1, q⟩ := qy
    obtain ⟨k, hk, rfl⟩ := Option.map_eq_some_iff.mp e
    simp only [inA, e1, key_ok qx hk, Option.map_some, Option.some.injEq]
    cases e3 : valD kvs k with
    | none => rw [(valK_ok k q).2 e3]; rfl
    | some d => obtain ⟨u, e4, _⟩ := (valK_ok k q).1 d e3; rw [e4]; rfl
  · rename_i ys
    split at e
    · rename_i d es h1 h2
      split at e
      · rename_i hs
        cases e
        have t1 := to_pyB (k := 40) qx h1 hs.2.2.1
        have t2 := to_pyB (k := 40) qy (show pyD (.lst ys) = some (.list es) by show (pyDs ys).map PyData.list = _; rw [h2]; rfl) hs.2.2.2
        obtain ⟨m, vs, rfl, _, e1, q⟩ := qy
        simp only [inA, e1, t1, t2]
        rw [if_pos ⟨hs.1, hs.2.1⟩]
      · cases e
    · cases e
  · cases e
theorem non_iff {x : D} {v : AV} (q : AtB B h R x v) : v = .non ↔ x = .non := by
  cases x with
  | err C ds => obtain ⟨m, vs, rfl, _⟩ := q; simp
  | mem n => obtain ⟨m, vs, rfl, _⟩ := q; simp
  | idt n d => cases (show v = .ref n ∧ _ from q).1; simp
  | non => exact ⟨fun _ => rfl, fun _ => q⟩
  | bl b => cases (show v = .bl b from q); simp
  | int b => cases (show v = .int b from q); simp
  | str b => cases (show v = .str b from q); simp
  | lst ds => obtain ⟨m, vs, rfl, _⟩ := q; simp
  | tup ds => obtain ⟨m, vs, rfl, _⟩ := q; simp
  | dic ds => obtain ⟨m, vs, rfl, _⟩ := q; simp
  | obj C ds => obtain ⟨m, vs, rfl, _⟩ := q; simp
  | adr n => cases (show v = .ref n from q); simp
  | gl n => cases (show v = .glob n from q); simp
  | ty n => cases (show v = .ty n from q); simp
theorem cmp_okD {op : CmpOp} {x y : D} {v w : AV} {Q : Bool → Prop} (qx : AtB B h R x v) (qy : AtB B h R y w) (q : cmpD op x y Q) : (cmpG G c op v w h).wp X fun u h' => h' = h ∧ ∃ r, u = .bl r ∧ Q r := by
  cases op <;> simp only [cmpD] at q
  case Eq =>
    obtain ⟨r, e, k⟩ := q
    have hp : ∃ p, pyD x = some p := by unfold eqD at e; split at e <;> first | exact ⟨_, by assumption⟩ | cases e
    obtain ⟨p, hp⟩ := hp
    simp only [cmpG, py_own qx hp, cmpA, eqD_ok qx qy e]
    exact ⟨rfl, r, rfl, k⟩
  case NotEq =>
    obtain ⟨r, e, k⟩ := q
    have hp : ∃ p, pyD x = some p := by unfold eqD at e; split at e <;> first | exact ⟨_, by assumption⟩ | cases e
    obtain ⟨p, hp⟩ := hp
    simp only [cmpG, py_own qx hp, cmpA, eqD_ok qx qy e]
    exact ⟨rfl, _, rfl, k⟩
  case Lt => obtain ⟨i, j, rfl, rfl, k⟩ := q; cases (show v = .int i from qx); cases (show w = .int j from qy); exact ⟨rfl, _, rfl, k⟩
  case LtE => obtain ⟨i, j, rfl, rfl, k⟩ := q; cases (show v = .int i from qx); cases (show w = .int j from qy); exact ⟨rfl, _, rfl, k⟩
  case Gt => obtain ⟨i, j, rfl, rfl, k⟩ := q; cases (show v = .int i from qx); cases (show w = .int j from qy); exact ⟨rfl, _, rfl, k⟩
  case GtE => obtain ⟨i, j, rfl, rfl, k⟩ := q; cases (show v = .int i from qx); cases (show w = .int j from qy); exact ⟨rfl, _, rfl, k⟩
  case Is =>
    obtain ⟨rfl, q⟩ := q
    cases (show w = .non from qy)
    rcases q with ⟨rfl, k⟩ | ⟨hx, k⟩
    · cases (show v = .non from qx); exact ⟨rfl, _, rfl, k⟩
    · exact ⟨rfl, _, rfl, by rw [decide_eq_false (fun z => hx ((non_iff qx).mp z))]; exact k⟩
  case IsNot =>
    obtain ⟨rfl, q⟩ := q
    cases (show w = .non from qy)
    rcases q with ⟨rfl, k⟩ | ⟨hx, k⟩
    · cases (show v = .non from qx); exact ⟨rfl, _, rfl, k⟩
    · exact ⟨rfl, _, rfl, by rw [decide_eq_false (fun z => hx ((non_iff qx).mp z))]; exact k⟩
  case In => obtain ⟨r, e, k⟩ := q; simp only [cmpG, cmpA, inD_ok qx qy e]; exact ⟨rfl, _, rfl, k⟩
  case NotIn => obtain ⟨r, e, k⟩ := q; simp only [cmpG, cmpA, inD_ok qx qy e]; exact ⟨rfl, _, rfl, k⟩
/-! ### what is walked -/
def addrs : It → Nat → Prop
  | .lsq n, m => m = n
  | .tsq n, m => m = n
  | .rng _ _, _ => False
  | .enm n, m => m = n
  | .zip n k, m => m = n ∨ m = k
  | .zipT n k, m => m = n ∨ m = k
def Stay (S : Nat → Prop) (h h' : AH) : Prop := Mv S S h h'
def ItN (R : Nat → Prop) (J : It) (items : List D) (h' : AH) (t : Nat) : Prop :=
  (∀ d, items[t]? = some d → ∃ v l, itNext J t h' = some (some (v, h' ++ l)) ∧ plains l ∧ At (h' ++ l) (fun n => R n ∨ newR h' (h' ++ l) n) d v) ∧ (t = items.length → itNext J t h' = some none)
def ItD (h : AH) (R : Nat → Prop) (J : It) (items : List D) : Prop := ∀ h', h.length ≤ h'.length → Stay (fun n => R n ∨ addrs J n) h h' → ∀ t, ItN R J items h' t
theorem ItN.sub {J : It} {items : List D} {t : Nat} (q : ItN R J items h' t) (sub : ∀ n, R n → R' n) : ItN R' J items h' t :=
  ⟨fun d hd => let ⟨v, l, e, p, a⟩ := q.1 d hd; ⟨v, l, e, p, a.sub fun n z => z.imp (sub n) id⟩, q.2⟩
theorem stay_mv {S : Nat → Prop} {l : AH} (w : Stay S h h') (sub : ∀ n, R n → S n) : Mv R (fun n => R n ∨ newR h' (h' ++ l) n) h (h' ++ l) :=
  ⟨fun r e p => ⟨.inl r, app_get (w.k (sub _ r) e p).2⟩, fun e => let ⟨k, e1⟩ := w.m e; ⟨k, app_get e1⟩⟩
theorem itd_lsq {n : Nat} {vs : List AV} {ds : List D} (e : h[n]? = some (.lst vs)) (q : AtL h R ds vs) : ItD h R (.lsq n) ds := by
  intro h' hl w t
  have e' := (w.k (.inr rfl) e rfl).2
  refine ⟨fun d hd => ?_, fun ht => ?_⟩
  · obtain ⟨v, e1, a⟩ := q.get hd
    exact ⟨v, [], by rw [nx_lsq (lstOf_lst e'), e1]; simp, (fun _ z => nomatch z), At.mono (stay_mv w fun _ => .inl) _ _ a⟩
  · rw [nx_lsq (lstOf_lst e'), ht, ← q.len]; simp
theorem itd_tsq {n : Nat} {vs : List AV} {ds : List D} (e : h[n]? = some (.tup vs)) (q : AtL h R ds vs) : ItD h R (.tsq n) ds := by
  intro h' hl w t
  have e' := (w.k (.inr rfl) e rfl).2
  refine ⟨fun d hd => ?_, fun ht => ?_⟩
  · obtain ⟨v, e1, a⟩ := q.get hd
    exact ⟨v, [], by rw [nx_tsq e', e1]; simp, (fun _ z => nomatch z), At.mono (stay_mv w fun _ => .inl) _ _ a⟩
  · rw [nx_tsq e', ht, ← q.len]; simp
theorem rngD_len {lo : Int} {k : Nat} : (rngD lo k).length = k := by simp [rngD]
theorem itd_rng {lo : Int} {k : Nat} : ItD h R (.rng lo k) (rngD lo k) := by
  intro h' hl w t
  refine ⟨fun d hd => ?_, fun ht => ?_⟩
  · have hlt := (List.getElem?_eq_some_iff.mp hd).1
    rw [rngD_len] at hlt
    unfold rngD at hd
    rw [List.getElem?_map, List.getElem?_range hlt] at hd
    cases hd
    exact ⟨_, [], by rw [nx_rng, if_pos hlt]; simp, (fun _ z => nomatch z), rfl⟩
  · rw [rngD_len] at ht; subst ht; rw [nx_rng, if_neg (Nat.lt_irrefl _)]
theorem enmD_get {ds : List D} {d : D} : ∀ {i t : Nat}, (enmD i ds)[t]? = some d → ∃ x, ds[t]? = some x ∧ d = .tup [.int ((i + t : Nat) : Int), x] := by
  induction ds with
  | nil => intro i t e; simp [enmD] at e
  | cons x ds ih =>
    intro i t e
    cases t with
    | zero => simp [enmD] at e; exact ⟨x, rfl, by subst e; rfl⟩
    | succ t =>
      simp only [enmD, List.getElem?_cons_succ] at e ⊢
      obtain ⟨y, e1, e2⟩ := ih e
      exact ⟨y, e1, by rw [e2, show i + 1 + t = i + (t + 1) by omega]⟩
theorem enmD_len {ds : List D} : ∀ {i : Nat}, (enmD i ds).length = ds.length := by
  induction ds with
  | nil => intro i; rfl
  | cons x ds ih => intro i; simp [enmD, ih]
theorem itd_enm {n : Nat} {vs : List AV} {ds : List D} (e : h[n]? = some (.lst vs)) (q : AtL h R ds vs) : ItD h R (.enm n) (enmD 0 ds) := by
  intro h' hl w t
  have e' := (w.k (.inr rfl) e rfl).2
  refine ⟨fun d hd => ?_, fun ht => ?_⟩
  · obtain ⟨x, e2, rfl⟩ := enmD_get hd
    obtain ⟨v, e1, a⟩ := q.get e2
    refine ⟨.ref h'.length, [.tup [.int t, v]], by rw [nx_enm (lstOf_lst e'), e1]; rfl, .one rfl, h'.length, [.int t, v], rfl, .inr ⟨Nat.le_refl _, by simp⟩, by simp, _, _, rfl, ?_, v, [], rfl, ?_, rfl⟩
    · show AV.int t = .int ((0 + t : Nat) : Int); rw [Nat.zero_add]
    · exact At.mono (stay_mv w fun _ => .inl) _ _ a
  · rw [nx_enm (lstOf_lst e'), ht, enmD_len, ← q.len]; simp
theorem zipD_get {d : D} : ∀ {ds es : List D} {t : Nat}, (zipD ds es)[t]? = some d → ∃ x y, ds[t]? = some x ∧ es[t]? = some y ∧ d = .tup [x, y]
  | [], _, t, e => by simp [zipD] at e
  | _ :: _, [], t, e => by simp [zipD] at e
  | x :: ds, y :: es, 0, e => by simp [zipD] at e; exact ⟨x, y, rfl, rfl, e.symm⟩
  | x :: ds, y :: es, t + 1, e => zipD_get (ds := ds) (es := es) (t := t) (by simpa [zipD] using e)
theorem zipD_end : ∀ {ds es : List D}, ds[(zipD ds es).length]? = none ∨ es[(zipD ds es).length]? = none
  | [], _ => .inl rfl
  | _ :: _, [] => .inr rfl
  | x :: ds, y :: es => by simpa [zipD] using zipD_end (ds := ds) (es := es)
theorem zip_at {S : Nat → Prop} {vs ws : List AV} {ds es : List D} (q : AtL h R ds vs) (q2 : AtL h R es ws) (w : Stay S h h') (sub : ∀ n, R n → S n) (t : Nat) :
    (∀ d, (zipD ds es)[t]? = some d → ∃ v l, zipAt vs ws t h' = some (v, h' ++ l) ∧ plains l ∧ At (h' ++ l) (fun n => R n ∨ newR h' (h' ++ l) n) d v) ∧ (t = (zipD ds es).length → zipAt vs ws t h' = none) := by
  refine ⟨fun d hd => ?_, fun ht => ?_⟩
  · obtain ⟨x, y, e1, e2, rfl⟩ := zipD_get hd
    obtain ⟨v, e3, a⟩ := q.get e1
    obtain ⟨u, e4, a2⟩ := q2.get e2
    exact ⟨.ref h'.length, [.tup [v, u]], by simp only [zipAt, e3, e4], .one rfl, h'.length, [v, u], rfl, .inr ⟨Nat.le_refl _, by simp⟩, by simp, v, _, rfl, At.mono (stay_mv w sub) _ _ a, u, [], rfl, At.mono (stay_mv w sub) _ _ a2, rfl⟩
  · have n1 : ∀ {xs : List D} {us : List AV}, AtL h R xs us → xs[t]? = none → us[t]? = none := fun q e => by
      rw [List.getElem?_eq_none_iff] at e ⊢; rw [q.len]; exact e
    have z : ds[t]? = none ∨ es[t]? = none := by rw [ht]; exact zipD_end
    unfold zipAt
    rcases z with z | z
    · rw [n1 q z]
    · rw [n1 q2 z]; split <;> first | rfl | (rename_i z1 z2; cases z2)
theorem itd_zip {n m : Nat} {vs ws : List AV} {ds es : List D} (e : h[n]? = some (.lst vs)) (q : AtL h R ds vs) (e2 : h[m]? = some (.lst ws)) (q2 : AtL h R es ws) : ItD h R (.zip n m) (zipD ds es) := by
  intro h' hl w t
  have e' := (w.k (.inr (.inl rfl)) e rfl).2
  have e2' := (w.k (.inr (.inr rfl)) e2 rfl).2
  obtain ⟨a, b⟩ := zip_at q q2 w (fun _ => .inl) t
  refine ⟨fun d hd => ?_, fun ht => ?_⟩
  · obtain ⟨v, l, e3, k⟩ := a d hd; exact ⟨v, l, by rw [nx_zip (lstOf_lst e') (lstOf_lst e2'), e3], k⟩
  · rw [nx_zip (lstOf_lst e') (lstOf_lst e2'), b ht]
theorem itd_zipT {n m : Nat} {vs ws : List AV} {ds es : List D} (e : h[n]? = some (.tup vs)) (q : AtL h R ds vs) (e2 : h[m]? = some (.tup ws)) (q2 : AtL h R es ws) : ItD h R (.zipT n m) (zipD ds es) := by
  intro h' hl w t
  have e' := (w.k (.inr (.inl rfl)) e rfl).2
  have e2' := (w.k (.inr (.inr rfl)) e2 rfl).2
  obtain ⟨a, b⟩ := zip_at q q2 w (fun _ => .inl) t
  have nx : itNext (.zipT n m) t h' = some (zipAt vs ws t h') := by simp only [itNext, tupOf, e', e2']
  refine ⟨fun d hd => ?_, fun ht => ?_⟩
  · obtain ⟨v, l, e3, k⟩ := a d hd; exact ⟨v, l, by rw [nx, e3], k⟩
  · rw [nx, b ht]
/-! ### slots -/
def EvAt (B : Nat → Prop) (h : AH) (R : Nat → Prop) (s : Sl) (v : AV) : Prop := match s with
  | .un d => At h R d v
  | .ow ds => AtB B h R (.lst ds) v
  | .ok ks => AtB B h R (.dic ks) v
  | .bo d => AtB B h R d v
  | _ => True
def EnvE (B : Nat → Prop) (h : AH) (R : Nat → Prop) (ρ : DEnv) (σ : ASt) : Prop := σ.length = ρ.length ∧ ∀ (i : Nat) s, ρ[i]? = some (some s) → ∃ v, σ[i]? = some (some v) ∧ EvAt B h R s v
theorem EvAt.go {s : Sl} {v : AV} (q : EvAt B h R s v) (bB : Bd F B h) (bd : Bd F R h) (sm : SameM F h h') (sub : ∀ n, R n → R' n) : EvAt B h' R' s v := by
  cases s with
  | un d => exact At.go q bd sm sub
  | ow d => exact AtB.go (d := .lst d) q bB bd sm sub
  | ok d => exact AtB.go (d := .dic d) q bB bd sm sub
  | bo d => exact AtB.go (d := d) q bB bd sm sub
  | fr d => trivial
  | jk c d => trivial
theorem EvAt.sub {s : Sl} {v : AV} (q : EvAt B h R s v) (sub : ∀ n, R n → R' n) : EvAt B h R' s v := by
  cases s with
  | un d => exact At.sub q sub
  | ow d => exact AtB.sub (d := .lst d) q sub
  | ok d => exact AtB.sub (d := .dic d) q sub
  | bo d => exact AtB.sub (d := d) q sub
  | fr d => trivial
  | jk c d => trivial
theorem EnvE.sub {ρ : DEnv} {σ : ASt} (ev : EnvE B h R ρ σ) (sub : ∀ n, R n → R' n) : EnvE B h R' ρ σ := ⟨ev.1, fun i s e => let ⟨v, e1, a⟩ := ev.2 i s e; ⟨v, e1, a.sub sub⟩⟩
theorem EnvE.go {ρ : DEnv} {σ : ASt} (q : EnvE B h R ρ σ) (bB : Bd F B h) (bd : Bd F R h) (sm : SameM F h h') (sub : ∀ n, R n → R' n) : EnvE B h' R' ρ σ :=
  ⟨q.1, fun i s e => let ⟨v, e1, a⟩ := q.2 i s e; ⟨v, e1, a.go bB bd sm sub⟩⟩
theorem EnvE.set {ρ : DEnv} {σ : ASt} (q : EnvE B h R ρ σ) (i : Nat) {s : Sl} {v : AV} (a : EvAt B h R s v) : EnvE B h R (ρ.set i (some s)) (σ.set i (some v)) := by
  refine ⟨by simp [q.1], fun j s' e => ?_⟩
  by_cases c : i = j
  · subst c
    by_cases hl : i < ρ.length
    · rw [List.getElem?_set_self hl] at e; cases e
      exact ⟨v, List.getElem?_set_self (by rw [q.1]; exact hl), a⟩
    · rw [List.getElem?_eq_none (by simpa using hl)] at e; cases e
  · rw [List.getElem?_set_ne c] at e ⊢
    exact q.2 j s' e
theorem EnvE.none {ρ : DEnv} {σ : ASt} (q : EnvE B h R ρ σ) (i : Nat) : EnvE B h R (ρ.set i Option.none) (σ.set i Option.none) := by
  refine ⟨by simp [q.1], fun j s' e => ?_⟩
  by_cases c : i = j
  · subst c
    by_cases hl : i < ρ.length
    · rw [List.getElem?_set_self hl] at e; cases e
    · rw [List.getElem?_eq_none (by simpa using hl)] at e; cases e
  · rw [List.getElem?_set_ne c] at e ⊢
    exact q.2 j s' e
theorem EnvE.wipe {ρ : DEnv} {σ : ASt} (q : EnvE B h R ρ σ) : ∀ vs : List Nat, EnvE B h R (wipeD ρ vs) (SL.wipe σ vs)
  | [] => q
  | v :: vs => (EnvE.wipe q vs).none v
end
end SL

set_option Elab.async false
set_option linter.all false
set_option maxRecDepth 100000
set_option maxHeartbeats 4000000
/-! Trees over heaps: expressions. -/
namespace SL
open PySem
/-- where exceptions are looked back to -/
structure Anc where
  h : AH
  R : Nat → Prop
section
variable {F : Frm} {A : Anc} {B : Nat → Prop} {G : Env} {S : Sps} {X : XD} {c : Calls} {R R' R2 : Nat → Prop} {h h0 h1 h2 h3 h' : AH} {ρ : DEnv} {σ : ASt} {b b1 b2 : Nat} {t t1 t2 t3 : T}
structure Cxt (F : Frm) (A : Anc) (B : Nat → Prop) (h : AH) (R : Nat → Prop) (ρ : DEnv) (σ : ASt) (b : Nat) : Prop where
  i : F.I b h
  bB : Bd F B h
  bd : Bd F R h
  ev : EnvE B h R ρ σ
  sm : SameM F A.h h
  su : ∀ n, R n → Nw A.R A.h h n
theorem Cxt.go (C : Cxt F A B h R ρ σ b) (m : SameM F h h') (i : F.I b1 h') : Cxt F A B h' (Nw R h h') ρ σ b1 :=
  ⟨i, C.bB.up m, C.bd.nw C.i m, C.ev.go C.bB C.bd m fun n => .inl, C.sm.trans m, fun n z => z.elim (fun z => (C.su n z).mono m.le) fun z => .inr ⟨Nat.le_trans C.sm.le z.1, z.2⟩⟩
theorem Cxt.lo (C : Cxt F A B h R ρ σ b) : ∀ n, F.M n → n < h.length := fun n z => F.low C.i.1 z
/-- behind an exception -/
def XA (F : Frm) (A : Anc) (X : XD) : EX := fun C fs h' => ∃ ds b', SameM F A.h h' ∧ F.I b' h' ∧ AtF h' (Nw A.R A.h h') ds fs ∧ X C ds b'
theorem calmX {α : Type} {r : SL.R α} {P : α → AH → Prop} (q : r.wp (XA F A nxD) P) : r.wp noX P := q.monoX (fun _ _ _ ⟨_, _, _, _, _, z⟩ => z.elim) fun _ _ z => z
/-- behind an expression -/
abbrev Fin (F : Frm) (B : Nat → Prop) (h : AH) (R : Nat → Prop) (Q : Sl → Nat → Prop) : AV → AH → Prop := fun v h' => ∃ s b', SameM F h h' ∧ F.I b' h' ∧ SlAt B h h' R s v ∧ Q s b'
def SX (F : Frm) (B : Nat → Prop) (G : Env) (S : Sps) (c : Calls) (t : T) : Prop := ∀ {A X h R ρ σ b Q}, dX G S X t ρ b Q → Cxt F A B h R ρ σ b → (evE G c t σ h).wp (XA F A X) (Fin F B h R Q)
def ST (F : Frm) (B : Nat → Prop) (G : Env) (S : Sps) (c : Calls) (t : T) : Prop := ∀ {A X h R ρ σ b Q}, dT G S X t ρ b Q → Cxt F A B h R ρ σ b → (evT G c t σ h).wp (XA F A X) fun k h' => ∃ b', SameM F h h' ∧ F.I b' h' ∧ Q k b'
def SA (F : Frm) (B : Nat → Prop) (G : Env) (S : Sps) (c : Calls) (t : T) : Prop := ∀ {A X h R ρ σ b Q}, dA G S X t ρ b Q → Cxt F A B h R ρ σ b → (evA G c t σ h).wp (XA F A X) fun vs h' => ∃ ss b', SameM F h h' ∧ F.I b' h' ∧ SlL B h h' R ss vs ∧ (∀ s ∈ ss, s.kept = true) ∧ Q ss b'
def SL' (F : Frm) (B : Nat → Prop) (G : Env) (S : Sps) (c : Calls) (t : T) : Prop := ∀ {A X h R ρ σ b Q}, dL G S X t ρ b Q → Cxt F A B h R ρ σ b → (evA G c t σ h).wp (XA F A X) fun vs h' => ∃ ss b', SameM F h h' ∧ F.I b' h' ∧ SlL B h h' R ss vs ∧ Q ss b'
def SP (F : Frm) (B : Nat → Prop) (G : Env) (S : Sps) (c : Calls) (t : T) : Prop := ∀ {A X h R ρ σ b Q}, dP G S X t ρ b Q → Cxt F A B h R ρ σ b → (evP G c t σ h).wp (XA F A X) fun o h' => ∃ b', SameM F h h' ∧ F.I b' h' ∧ Q o b'
def SI (F : Frm) (B : Nat → Prop) (G : Env) (S : Sps) (c : Calls) (t : T) : Prop := ∀ {A X h R ρ σ b Q}, dI G S X t ρ b Q → Cxt F A B h R ρ σ b → (evI G c t σ h).wp (XA F A X) fun J h' => ∃ items k b', SameM F h h' ∧ F.I b' h' ∧ ItD h' (Nw R h h') J items ∧ (∀ n, addrs J n → B n ∨ Nw R h h' n) ∧ (k = true → ∀ n, addrs J n → Nw R h h' n) ∧ Q items k b'
def SG (F : Frm) (B : Nat → Prop) (G : Env) (S : Sps) (c : Calls) (t : T) : Prop := ∀ {h R ρ σ Q d v}, dG G S t d ρ Q → At h R d v → EnvE B h R ρ σ → (evG G c t v σ h).wp noX fun σ' h' => h' = h ∧ ∃ ρ', EnvE B h R ρ' σ' ∧ Q ρ'
def SGs (F : Frm) (B : Nat → Prop) (G : Env) (S : Sps) (c : Calls) (t : T) : Prop := ∀ {h R ρ σ Q ds vs}, dGs G S t ds ρ Q → AtL h R ds vs → EnvE B h R ρ σ → (evGs G c t vs σ h).wp noX fun σ' h' => h' = h ∧ ∃ ρ', EnvE B h R ρ' σ' ∧ Q ρ'
theorem SX.step (hs : SX F B G S c t) {K : Sl → Nat → Prop} (q : dX G S X t ρ b K) (C : Cxt F A B h R ρ σ b) {P : AV → AH → Prop} (w : ∀ v h1 s b1, SameM F h h1 → Cxt F A B h1 (Nw R h h1) ρ σ b1 → SlAt B h h1 R s v → K s b1 → P v h1) : (evE G c t σ h).wp (XA F A X) P :=
  (hs q C).mono fun v h1 ⟨s, b1, m, i, a, k⟩ => w v h1 s b1 m (C.go m i) a k
theorem ST.step (hs : ST F B G S c t) {K : Bool → Nat → Prop} (q : dT G S X t ρ b K) (C : Cxt F A B h R ρ σ b) {P : Bool → AH → Prop} (w : ∀ k h1 b1, SameM F h h1 → Cxt F A B h1 (Nw R h h1) ρ σ b1 → K k b1 → P k h1) : (evT G c t σ h).wp (XA F A X) P :=
  (hs q C).mono fun v h1 ⟨b1, m, i, k⟩ => w v h1 b1 m (C.go m i) k
theorem SP.step (hs : SP F B G S c t) {K : Option Int → Nat → Prop} (q : dP G S X t ρ b K) (C : Cxt F A B h R ρ σ b) {P : Option Int → AH → Prop} (w : ∀ k h1 b1, SameM F h h1 → Cxt F A B h1 (Nw R h h1) ρ σ b1 → K k b1 → P k h1) : (evP G c t σ h).wp (XA F A X) P :=
  (hs q C).mono fun v h1 ⟨b1, m, i, k⟩ => w v h1 b1 m (C.go m i) k
theorem SA.step (hs : SA F B G S c t) {K : List Sl → Nat → Prop} (q : dA G S X t ρ b K) (C : Cxt F A B h R ρ σ b) {P : List AV → AH → Prop} (w : ∀ vs h1 ss b1, SameM F h h1 → Cxt F A B h1 (Nw R h h1) ρ σ b1 → SlL B h h1 R ss vs → (∀ s ∈ ss, s.kept = true) → K ss b1 → P vs h1) : (evA G c t σ h).wp (XA F A X) P :=
  (hs q C).mono fun v h1 ⟨s, b1, m, i, a, a2, k⟩ => w v h1 s b1 m (C.go m i) a a2 k
theorem SL'.step (hs : SL' F B G S c t) {K : List Sl → Nat → Prop} (q : dL G S X t ρ b K) (C : Cxt F A B h R ρ σ b) {P : List AV → AH → Prop} (w : ∀ vs h1 ss b1, SameM F h h1 → Cxt F A B h1 (Nw R h h1) ρ σ b1 → SlL B h h1 R ss vs → K ss b1 → P vs h1) : (evA G c t σ h).wp (XA F A X) P :=
  (hs q C).mono fun v h1 ⟨s, b1, m, i, a, k⟩ => w v h1 s b1 m (C.go m i) a k
theorem fin_after {Q : Sl → Nat → Prop} {u : AV} (m : SameM F h h2) (i2 : F.I b2 h2) (a : After B h R h2 (fun z => Q z b2) u h3) : Fin F B h R Q u h3 := by
  obtain ⟨s, l, rfl, p, a, k⟩ := a
  exact ⟨s, b2, m.trans SameM.app, Frm.app i2 p, a, k⟩
theorem fin_un {Q : Sl → Nat → Prop} {u : AV} {d : D} (m : SameM F h h2) (i2 : F.I b2 h2) (a : At h2 (Nw R h h2) d u) (k : Q (.un d) b2) : Fin F B h R Q u h2 := ⟨.un d, b2, m, i2, a, k⟩
theorem nw2 (m1 : SameM F h h1) (m2 : SameM F h1 h2) : ∀ n, Nw (Nw R h h1) h1 h2 n → Nw R h h2 n := fun n z => z.trans m1.le m2.le
theorem nw0 : ∀ n, R n → Nw R h h n := fun _ => .inl
/-- one part, then the rest -/
theorem Fin.back {Q : Sl → Nat → Prop} {u : AV} (m : SameM F h h1) (a : Fin F B h1 (Nw R h h1) Q u h2) : Fin F B h R Q u h2 := by
  obtain ⟨s, b', m2, i, a, k⟩ := a
  exact ⟨s, b', m.trans m2, i, a.back m.le m2.le (fun n z => z), k⟩
theorem SlAt.bk {s : Sl} {v : AV} (a : SlAt B h1 h2 (Nw R h h1) s v) (m1 : SameM F h h1) (m2 : SameM F h1 h2) : SlAt B h h2 R s v := a.back m1.le m2.le fun _ z => z
theorem Cxt.fw (C1 : Cxt F A B h1 (Nw R h h1) ρ σ b1) (lo : ∀ n, F.M n → n < h.length) {s : Sl} {v : AV} (a : SlAt B h h1 R s v) (m : SameM F h1 h2) : SlAt B h h2 R s v := a.go C1.bB C1.bd m lo
/-! ### one by one -/
theorem x_var {i : Nat} : SX F B G S c (.var i) := fun {A X h R ρ σ b Q} q C => by
  rw [dX] at q
  obtain ⟨s, e, k⟩ := q
  obtain ⟨v, e1, a⟩ := C.ev.2 i s e
  rw [w_var e1]
  cases s with
  | un d => exact ⟨.un d, b, .refl, C.i, At.sub (R' := Nw R h h) (show At h R d v from a) nw0, k⟩
  | ow ds => exact ⟨.bo (.lst ds), b, .refl, C.i, AtB.sub (R' := Nw R h h) (show AtB B h R (.lst ds) v from a) nw0, k⟩
  | ok ds => exact ⟨.bo (.dic ds), b, .refl, C.i, AtB.sub (R' := Nw R h h) (show AtB B h R (.dic ds) v from a) nw0, k⟩
  | bo d => exact ⟨.bo d, b, .refl, C.i, AtB.sub (R' := Nw R h h) (show AtB B h R d v from a) nw0, k⟩
  | fr d => exact k.elim
  | jk c d => exact k.elim
theorem x_bin {op : Operator} (s1 : SX F B G S c t1) (s2 : SX F B G S c t2) : SX F B G S c (.bin op t1 t2) := fun {A X h R ρ σ b Q} q C => by
  rw [dX] at q
  rw [w_bin]
  refine s1.step q C fun v h1 x b1 m1 C1 a1 q1 => s2.step q1 C1 fun w h2 y b2 m2 C2 a2 q2 => ?_
  exact (bin_ok (C.bd.nw C.i (m1.trans m2)) (m1.trans m2).le (C1.fw C.lo a1 m2) (a2.bk m1 m2) q2).mono fun u h3 a => fin_after (m1.trans m2) C2.i a
theorem x_neg (s1 : SX F B G S c t1) : SX F B G S c (.neg t1) := fun {A X h R ρ σ b Q} q C => by
  rw [dX] at q
  rw [w_neg]
  refine s1.step q C fun v h1 x b1 m1 C1 a1 ⟨i, e, k⟩ => ?_
  cases at_int a1.toV e
  exact fin_un (d := .int _) m1 C1.i rfl k
theorem x_inv (s1 : SX F B G S c t1) : SX F B G S c (.inv t1) := fun {A X h R ρ σ b Q} q C => by
  rw [dX] at q
  rw [w_inv]
  refine s1.step q C fun v h1 x b1 m1 C1 a1 ⟨i, e, k⟩ => ?_
  cases at_int a1.toV e
  exact fin_un (d := .int _) m1 C1.i rfl k
theorem x_nt (s1 : SX F B G S c t1) : SX F B G S c (.nt t1) := fun {A X h R ρ σ b Q} q C => by
  rw [dX] at q
  rw [w_nt]
  refine s1.step q C fun v h1 x b1 m1 C1 a1 ⟨i, e, k⟩ => ?_
  cases at_bl a1.toV e
  exact ⟨i, rfl, fin_un (d := .bl _) m1 C1.i rfl k⟩
theorem x_and (s1 : SX F B G S c t1) (s2 : SX F B G S c t2) : SX F B G S c (.and t1 t2) := fun {A X h R ρ σ b Q} q C => by
  rw [dX] at q
  rw [w_and]
  refine s1.step q C fun v h1 x b1 m1 C1 a1 ⟨i, e, k⟩ => ?_
  cases at_bl a1.toV e
  refine ⟨i, rfl, ?_⟩
  cases i with
  | true => rw [if_pos rfl] at k ⊢; exact (s2 k C1).mono fun u h2 a => a.back m1
  | false => rw [if_neg (by decide)] at k ⊢; exact fin_un (d := .bl _) m1 C1.i rfl k
theorem x_or (s1 : SX F B G S c t1) (s2 : SX F B G S c t2) : SX F B G S c (.or t1 t2) := fun {A X h R ρ σ b Q} q C => by
  rw [dX] at q
  rw [w_or]
  refine s1.step q C fun v h1 x b1 m1 C1 a1 ⟨i, e, k⟩ => ?_
  cases at_bl a1.toV e
  refine ⟨i, rfl, ?_⟩
  cases i with
  | true => rw [if_pos rfl] at k ⊢; exact fin_un (d := .bl _) m1 C1.i rfl k
  | false => rw [if_neg (by decide)] at k ⊢; exact (s2 k C1).mono fun u h2 a => a.back m1
theorem x_ite (s0 : ST F B G S c t1) (s1 : SX F B G S c t2) (s2 : SX F B G S c t3) : SX F B G S c (.ite t1 t2 t3) := fun {A X h R ρ σ b Q} q C => by
  rw [dX] at q
  rw [w_ite]
  refine s0.step q C fun k h1 b1 m1 C1 q1 => ?_
  cases k with
  | true => rw [if_pos rfl] at q1 ⊢; exact (s1 q1 C1).mono fun u h2 a => a.back m1
  | false => rw [if_neg (by decide)] at q1 ⊢; exact (s2 q1 C1).mono fun u h2 a => a.back m1
theorem SlL.len {ss : List Sl} {vs : List AV} (q : SlL B h h1 R ss vs) : vs.length = ss.length := by
  induction ss generalizing vs with
  | nil => cases q; rfl
  | cons d ds ih => obtain ⟨v, r, rfl, _, q⟩ := q; simp [ih q]
theorem x_lst (s1 : SA F B G S c t1) : SX F B G S c (.lst t1) := fun {A X h R ρ σ b Q} q C => by
  rw [dX] at q
  rw [w_lst]
  refine s1.step q C fun vs h1 ss b1 m1 C1 a1 hk ⟨hl, k⟩ => ?_
  rw [n_lst]
  exact ⟨by rw [a1.len]; exact hl, fin_after (B := B) m1 C1.i (after_new rfl (sl_new C1.bd m1.le _ (a1.toK hk) a1.fr) k)⟩
theorem x_tup (s1 : SA F B G S c t1) : SX F B G S c (.tup t1) := fun {A X h R ρ σ b Q} q C => by
  rw [dX] at q
  rw [w_tup]
  refine s1.step q C fun vs h1 ss b1 m1 C1 a1 hk ⟨hl, k⟩ => ?_
  rw [n_tup]
  exact ⟨by rw [a1.len]; exact hl, fin_after (B := B) m1 C1.i (after_new rfl (sl_newT m1.le _ (a1.toK hk) a1.fr) k)⟩
theorem x_dic : SX F B G S c (.dic t1) := fun {A X h R ρ σ b Q} q C => by
  rw [dX] at q
  obtain ⟨rfl, k⟩ := q
  rw [w_dic0]
  exact fin_after (B := B) .refl C.i (after_new rfl (sl_newK (C.bd.nw C.i .refl) (Nat.le_refl _) true (ds := []) rfl fun _ => rfl) k)
theorem x_callB {f : Blt} (s1 : SL' F B G S c t1) : SX F B G S c (.callB f t1) := fun {A X h R ρ σ b Q} q C => by
  rw [dX] at q
  rw [w_callB]
  refine s1.step q C fun vs h1 ss b1 m1 C1 a1 q1 => ?_
  exact (blt_okD C1.bd m1.le a1 q1).mono fun u h3 a => fin_after m1 C1.i a
theorem look_f {fs : List (Str × Option D)} {gs : List (Str × AV)} {x : Str} {d : D} (q : AtF h R fs gs) (e : fs.lookup x = some (some d)) : ∃ v, gs.lookup x = some v ∧ At h R d v := by
  induction fs generalizing gs with
  | nil => cases e
  | cons p fs ih =>
    obtain ⟨y, o⟩ := p
    rw [List.lookup_cons] at e
    cases o with
    | none =>
      obtain ⟨v, r, rfl, q⟩ := q
      rw [List.lookup_cons]
      split at e
      · cases e
      · exact ih q e
    | some d' =>
      obtain ⟨v, r, rfl, q1, q⟩ := q
      rw [List.lookup_cons]
      split at e
      · cases e; exact ⟨v, rfl, q1⟩
      · exact ih q e
theorem x_fld {x : Str} (s1 : SX F B G S c t1) : SX F B G S c (.fld t1 x) := fun {A X h R ρ σ b Q} q C => by
  rw [dX] at q
  rw [w_fld]
  refine s1.step q C fun v h1 s b1 m1 C1 a1 ⟨Cn, fs, d, e, hf, hl, k⟩ => ?_
  have := a1.toV; rw [e] at this
  obtain ⟨n, gs, rfl, _, e1, q⟩ := this
  rw [fld_ins e1 hf]
  obtain ⟨v, e2, a⟩ := look_f q hl
  exact ⟨v, e2, fin_un m1 C1.i a k⟩
theorem x_ix (s1 : SX F B G S c t1) (s2 : SX F B G S c t2) : SX F B G S c (.ix t1 t2) := fun {A X h R ρ σ b Q} q C => by
  rw [dX] at q
  rw [w_ix]
  refine s1.step q C fun v h1 x b1 m1 C1 a1 q1 => s2.step q1 C1 fun w h2 y b2 m2 C2 a2 ⟨d, e, k⟩ => ?_
  exact (ix_ok (C1.fw C.lo a1 m2).toV (a2.bk m1 m2).toV e).mono fun u h3 ⟨e3, a⟩ => by subst e3; exact fin_un (m1.trans m2) C2.i a k
theorem x_rev (s1 : SX F B G S c t1) : SX F B G S c (.rev t1) := fun {A X h R ρ σ b Q} q C => by
  rw [dX] at q
  rw [w_rev]
  refine s1.step q C fun v h1 s b1 m1 C1 a1 ⟨xs, e, hl, k⟩ => ?_
  obtain ⟨n, vs, rfl, _, e1, q, _⟩ := a1.lst e
  simp only [revA, lstOf_lst e1, n_lst]
  exact ⟨by rw [List.length_reverse, q.len]; exact hl, fin_after (B := B) m1 C1.i (after_new rfl (sl_new C1.bd m1.le _ q.rev fun hf => (scal_atL hf q).rev) k)⟩
theorem x_slc (s1 : SX F B G S c t1) (s2 : SP F B G S c t2) (s3 : SP F B G S c t3) : SX F B G S c (.slc t1 t2 t3) := fun {A X h R ρ σ b Q} q C => by
  rw [dX] at q
  rw [w_slc]
  refine s1.step q C fun v h1 s b1 m1 C1 a1 q1 => s2.step q1 C1 fun l h2 b2 m2 C2 q2 => s3.step q2 C2 fun u h3 b3 m3 C3 ⟨xs, e, hl, k⟩ => ?_
  have mm := (m1.trans m2).trans m3
  obtain ⟨n, vs, rfl, _, e1, q, _⟩ := (C1.fw C.lo a1 (m2.trans m3)).lst e
  have ec : ∀ {R}, AtL h3 R xs vs → AtL h3 R (cutD xs l u) (cutA vs l u) := fun {R} q => by
    unfold cutD cutA; rw [q.len]; exact (q.drop _).take _
  simp only [slcA, lstOf_lst e1, n_lst]
  exact ⟨by rw [(ec q).len]; exact hl, fin_after (B := B) mm C3.i (after_new rfl (sl_new (C.bd.nw C.i mm) mm.le _ (ec q) fun hf => ec (scal_atL hf q)) k)⟩
theorem x_meth {m : Mth} (s1 : SX F B G S c t1) : SX F B G S c (.meth t1 m t2) := fun {A X h R ρ σ b Q} q C => by
  rw [dX] at q
  obtain ⟨rfl, rfl, q⟩ := q
  rw [w_meth]
  refine s1.step q C fun v h1 s b1 m1 C1 a1 ⟨i, e, k⟩ => ?_
  cases at_int a1.toV e
  refine ⟨rfl, ?_⟩
  rw [w_nil]
  exact fin_un (d := .int _) m1 C1.i rfl k
theorem x_lrange (s1 : SL' F B G S c t1) : SX F B G S c (.lrange t1) := fun {A X h R ρ σ b Q} q C => by
  rw [dX] at q
  rw [evE, wp_bind]
  refine s1.step q C fun vs h1 ss b1 m1 C1 a1 q1 => ?_
  have lenok : ∀ {n : Nat}, n < 1000000 → n ≤ sizeLine := fun hn => Nat.le_trans (Nat.le_of_lt hn) (by decide)
  rcases q1 with ⟨x, j, rfl, ex, hj, k⟩ | ⟨x, y, i, j, rfl, ex, ey, hj, k⟩
  · obtain ⟨v, r, rfl, q1, rfl⟩ := a1
    cases at_int q1.toV ex
    simp only
    rw [if_pos hj, n_lst]
    have ar : ∀ R, AtL h1 R (rngD 0 j.toNat) ((List.range j.toNat).map fun i => .int ((i : Nat) : Int)) := fun R => by
      have := atl_rng (h := h1) (R := R) 0 (List.range j.toNat)
      simpa [rngD] using this
    exact ⟨by rw [List.length_map, List.length_range]; exact lenok (by omega), fin_after (B := B) m1 C1.i (after_new rfl (sl_new C1.bd m1.le true (ar _) fun _ => ar _) k)⟩
  · obtain ⟨v, r, rfl, q1, w, r, rfl, q2, rfl⟩ := a1
    cases at_int q1.toV ex
    cases at_int q2.toV ey
    simp only
    rw [if_pos hj, n_lst]
    exact ⟨by rw [List.length_map, List.length_range]; exact lenok (by omega), fin_after (B := B) m1 C1.i (after_new rfl (sl_new C1.bd m1.le true (atl_rng i _) fun _ => atl_rng i _) k)⟩
end
end SL

set_option Elab.async false
set_option linter.all false
set_option maxRecDepth 100000
set_option maxHeartbeats 4000000
/-! Trees over heaps: calls, tests, arguments, targets. -/
namespace SL
open PySem
/-- a new instance, as the evaluator makes it -/
def mkA (G : Env) (c : Calls) (C : Str) (vs : List AV) (h1 : AH) : R AV := match G.cls C with
    | some cd => match cd.init with
      | some g => if (G.fns g).isSome = true then (c.lo g (.ref h1.length :: vs) (h1 ++ [.ins C []])).bind fun v h2 => match v with
        | .non => .ok (.ref h1.length) h2
        | _ => .bad else .bad
      | none => .bad
    | none => .bad
/-- behind a call -/
abbrev Ret (F : Frm) (h : AH) (R : Nat → Prop) (Q : Sl → Nat → Prop) (v : AV) (h' : AH) : Prop := ∃ s b', SameM F h h' ∧ F.I b' h' ∧ SlAt (fun _ => False) h h' R s v ∧ s.kept = true ∧ Q s b'
/-- what is known of calls is right -/
structure SpOk (F : Frm) (G : Env) (c : Calls) (S : Sps) : Prop where
  f : ∀ {X f ds b Q vs h R}, S.f X f ds b Q → AtL h R ds vs → Bd F R h → F.I b h → (c.fn f vs h).wp (XA F ⟨h, R⟩ X) (Ret F h R Q)
  k : ∀ {X C ds b Q vs h R}, S.k X C ds b Q → AtL h R ds vs → Bd F R h → F.I b h → (mkA G c C vs h).wp (XA F ⟨h, R⟩ X) (Ret F h R Q)
  q : ∀ {C x y b Q v w h R}, S.q C x y b Q → isObj x = some C → At h R x v → At h R y w → Bd F R h → F.I b h → ∃ g, eqOwn G h v = some g ∧ (c.lo g [v, w] h).wp noX fun u h' => ∃ r b', u = .bl r ∧ SameM F h h' ∧ F.I b' h' ∧ Q r b'
section
variable {F : Frm} {A : Anc} {B : Nat → Prop} {G : Env} {S : Sps} {X : XD} {c : Calls} {R R' R2 : Nat → Prop} {h h0 h1 h2 h3 h' : AH} {ρ : DEnv} {σ : ASt} {b b1 b2 : Nat} {t t1 t2 t3 : T}
theorem XA.back {C : Str} {fs : List (Str × AV)} (q : XA F ⟨h1, R'⟩ X C fs h') (m : SameM F A.h h1) (su : ∀ n, R' n → Nw A.R A.h h1 n) : XA F A X C fs h' := by
  obtain ⟨ds, b', m2, i, a, k⟩ := q
  exact ⟨ds, b', m.trans m2, i, a.sub fun n z => z.elim (fun z => (su n z).mono m2.le) fun z => .inr ⟨Nat.le_trans m.le z.1, z.2⟩, k⟩
theorem call_fin {Q : Sl → Nat → Prop} {u : AV} (m1 : SameM F h h1) (w : Ret F h1 (Nw R h h1) Q u h2) : Fin F B h R Q u h2 := by
  obtain ⟨s, b', m2, i2, a, hk, k⟩ := w
  exact Fin.back m1 ⟨s, b', m2, i2, a.anyB hk, k⟩
theorem x_callF {f : Str} (O : SpOk F G c S) (s1 : SA F B G S c t1) : SX F B G S c (.callF f t1) := fun {A X h R ρ σ b Q} q C => by
  rw [dX] at q
  rw [w_callF]
  refine s1.step q C fun vs h1 ss b1 m1 C1 a1 hk q1 => ?_
  exact (O.f q1 (a1.toK hk) C1.bd C1.i).monoX (fun _ _ _ z => z.back C1.sm C1.su) fun u h2 w => call_fin m1 w
theorem evE_callC {f : Str} {Y : EX} {P : AV → AH → Prop} : (evE G c (.callC f t1) σ h).wp Y P ↔ (match G.cls f with
    | some cd => match cd.init with
      | some g => (G.fns g).isSome = true
      | none => False
    | none => False) ∧ (evA G c t1 σ h).wp Y fun vs h1 => (mkA G c f vs h1).wp Y P := by
  rw [evE]
  unfold mkA
  cases G.cls f with
  | none => simp
  | some cd =>
    simp only
    cases cd.init with
    | none => simp
    | some g =>
      simp only
      by_cases hg : (G.fns g).isSome = true
      · simp only [hg, if_true, wp_bind, true_and]
        try exact Iff.rfl
      · rw [if_neg hg]; simp [hg]
theorem x_callC {f : Str} (O : SpOk F G c S) (s1 : SA F B G S c t1) : SX F B G S c (.callC f t1) := fun {A X h R ρ σ b Q} q C => by
  rw [dX] at q
  rw [evE_callC]
  refine ⟨?_, s1.step q.2 C fun vs h1 ss b1 m1 C1 a1 hk q1 => (O.k q1 (a1.toK hk) C1.bd C1.i).monoX (fun _ _ _ z => z.back C1.sm C1.su) fun u h2 w => call_fin m1 w⟩
  have hi := q.1
  unfold mkOk at hi
  cases e : G.cls f with
  | none => rw [e] at hi; cases hi
  | some cd =>
    rw [e] at hi
    simp only at hi ⊢
    cases e2 : cd.init with
    | none => rw [e2] at hi; cases hi
    | some g => rw [e2] at hi; exact hi
theorem look_none {fs : List (Str × Option D)} {gs : List (Str × AV)} {x : Str} (q : AtF h R fs gs) (e : fs.lookup x = none) : gs.lookup x = none := by
  induction fs generalizing gs with
  | nil => cases q; rfl
  | cons p fs ih =>
    obtain ⟨y, o⟩ := p
    rw [List.lookup_cons] at e
    split at e
    · cases e
    · rename_i hx
      cases o with
      | none => obtain ⟨v, r, rfl, q⟩ := q; rw [List.lookup_cons, hx]; exact ih q e
      | some d => obtain ⟨v, r, rfl, _, q⟩ := q; rw [List.lookup_cons, hx]; exact ih q e
theorem x_methO {m : Str} (O : SpOk F G c S) (s1 : SX F B G S c t1) (s2 : SA F B G S c t2) : SX F B G S c (.methO t1 m t2) := fun {A X h R ρ σ b Q} q C => by
  rw [dX] at q
  rw [evE, wp_bind]
  refine s1.step q C fun v h1 s b1 m1 C1 a1 ⟨Cn, fs, g, hk1, e, hg, hl, hs, q1⟩ => ?_
  have at1 : At h1 (Nw R h h1) (.obj Cn fs) v := by have := At.strip (a1.toK hk1); rw [show SL.strip s.d = .obj Cn fs from e] at this; exact this
  obtain ⟨n, gs, rfl, r, e1, q⟩ := id at1
  simp only [e1, hg]
  rw [if_pos ⟨by rw [look_none q hl]; rfl, hs⟩, wp_bind]
  refine s2.step q1 C1 fun vs h2 ss b2 m2 C2 a2 hk q2 => ?_
  have at2 : At h2 (Nw (Nw R h h1) h1 h2) (.obj Cn fs) (.ref n) := at1.go C1.bd m2 fun n => .inl
  exact (O.f q2 ⟨_, _, rfl, by rw [e]; exact at2, a2.toK hk⟩ C2.bd C2.i).monoX (fun _ _ _ z => z.back C2.sm C2.su) fun u h3 w => Fin.back m1 (call_fin m2 w)
theorem mate_ok {x y : D} {v w : AV} (qx : At h R x v) (qy : At h R y w) (hx : isObj x ≠ none) (e : mateD x y = true) : eqMate h v w = true := by
  cases y with
  | non => cases (show w = .non from qy); rfl
  | bl b => cases (show w = .bl b from qy); rfl
  | int b => cases (show w = .int b from qy); rfl
  | str b => cases (show w = .str b from qy); rfl
  | lst ds => obtain ⟨m, vs, rfl, _, e1, q⟩ := qy; simp only [eqMate, e1]
  | tup ds => obtain ⟨m, vs, rfl, _, e1, q⟩ := qy; simp only [eqMate, e1]
  | dic ds => obtain ⟨m, vs, rfl, _, e1, q⟩ := qy; simp only [eqMate, e1]
  | obj C ds =>
    obtain ⟨m, vs, rfl, _, e1, q⟩ := qy
    have e2 : isObj x = some C := by simpa [mateD] using e
    cases x with
    | obj C' ds' =>
      cases e2
      obtain ⟨n, ws, rfl, _, e3, _⟩ := qx
      simp [eqMate, e1, e3]
    | _ => cases e2
  | _ => cases e
theorem x_cmp {op : CmpOp} (O : SpOk F G c S) (s1 : SX F B G S c t1) (s2 : SX F B G S c t2) : SX F B G S c (.cmp op t1 t2) := fun {A X h R ρ σ b Q} q C => by
  rw [dX] at q
  rw [w_cmp]
  refine s1.step q C fun v h1 x b1 m1 C1 a1 q1 => s2.step q1 C1 fun w h2 y b2 m2 C2 a2 ⟨hk, q2⟩ => ?_
  have mm := m1.trans m2
  have A1 := C1.fw C.lo a1 m2
  have A2 := a2.bk m1 m2
  have bd2 := C.bd.nw C.i mm
  unfold cmpX at q2
  cases hx : isObj x.v with
  | none =>
    rw [hx] at q2
    exact (cmp_okD A1.toV A2.toV q2).mono fun u h3 ⟨e, r, e2, k⟩ => by subst e; subst e2; exact fin_un (d := .bl r) mm C2.i rfl k
  | some Cn =>
    rw [hx] at q2 hk
    obtain ⟨k1, k2⟩ := hk (by simp)
    have B1 : At h2 (Nw R h h2) x.v v := (A1.toK k1).strip
    have B2 : At h2 (Nw R h h2) y.v w := (A2.toK k2).strip
    obtain ⟨hm, q2⟩ := q2
    have hm2 := mate_ok B1 B2 (by rw [hx]; simp) hm
    rcases q2 with ⟨rfl, q2⟩ | ⟨rfl, q2⟩ | ⟨ho, q2⟩
    · obtain ⟨g, hg, w⟩ := O.q q2 hx B1 B2 bd2 C2.i
      simp only [cmpG, hg, hm2, if_true, wp_bind, wp_calm]
      refine w.mono fun u h3 ⟨r, b', e, m3, i3, k⟩ => ?_
      subst e
      exact fin_un (d := .bl r) (mm.trans m3) i3 rfl k
    · obtain ⟨g, hg, w⟩ := O.q q2 hx B1 B2 bd2 C2.i
      simp only [cmpG, hg, hm2, if_true, wp_bind, wp_calm]
      refine w.mono fun u h3 ⟨r, b', e, m3, i3, k⟩ => ?_
      subst e
      exact fin_un (d := .bl !r) (mm.trans m3) i3 rfl k
    · exact (cmp_okD A1.toV A2.toV q2).mono fun u h3 ⟨e, r, e2, k⟩ => by subst e; subst e2; exact fin_un (d := .bl r) mm C2.i rfl k
theorem x_chain {op op' : CmpOp} (s1 : SX F B G S c t1) (s2 : SX F B G S c t2) (s3 : SX F B G S c t3) : SX F B G S c (.chain op op' t1 t2 t3) := fun {A X h R ρ σ b Q} q C => by
  rw [dX] at q
  rw [w_chain]
  refine s1.step q C fun v h1 x b1 m1 C1 a1 q1 => s2.step q1 C1 fun w h2 y b2 m2 C2 a2 ⟨hx, hy, hk, q2⟩ => ?_
  have mm := m1.trans m2
  refine (cmp_okD (C1.fw C.lo a1 m2).toV (a2.bk m1 m2).toV q2).mono fun u h3 ⟨e, r, e2, k⟩ => ?_
  subst e; subst e2
  refine ⟨r, rfl, ?_⟩
  cases r with
  | false => rw [if_neg (by decide)] at k ⊢; exact fin_un (d := .bl _) mm C2.i rfl k
  | true =>
    rw [if_pos rfl] at k ⊢
    refine s3.step k C2 fun z h4 s b3 m3 C3 a3 k => ?_
    have A2 := C2.fw C1.lo a2 m3
    refine (cmp_okD A2.toV (R := Nw (Nw R h h1) h1 h4) (a3.bk m2 m3).toV k).mono fun u h5 ⟨e, r, e2, k⟩ => ?_
    subst e; subst e2
    exact fin_un (d := .bl _) (mm.trans m3) C3.i rfl k
/-! ### tests, arguments, ends, walks, targets -/
theorem t_val' (s1 : SX F B G S c t1) : ST F B G S c (.tVal t1) := fun {A X h R ρ σ b Q} q C => by
  rw [dT] at q
  rw [w_tVal]
  exact s1.step q C fun v h1 s b1 m1 C1 a1 ⟨k, e, q1⟩ => ⟨k, truth_ok a1.toV e, b1, m1, C1.i, q1⟩
theorem st_back {Q : Bool → Nat → Prop} {k : Bool} (m1 : SameM F h h1) (w : ∃ b', SameM F h1 h2 ∧ F.I b' h2 ∧ Q k b') : ∃ b', SameM F h h2 ∧ F.I b' h2 ∧ Q k b' := let ⟨b', m2, i, q⟩ := w; ⟨b', m1.trans m2, i, q⟩
theorem t_and' (s1 : ST F B G S c t1) (s2 : ST F B G S c t2) : ST F B G S c (.tAnd t1 t2) := fun {A X h R ρ σ b Q} q C => by
  rw [dT] at q
  rw [w_tAnd]
  refine s1.step q C fun k h1 b1 m1 C1 q1 => ?_
  cases k with
  | true => rw [if_pos rfl] at q1 ⊢; exact (s2 q1 C1).mono fun k h2 w => st_back m1 w
  | false => rw [if_neg (by decide)] at q1 ⊢; exact ⟨b1, m1, C1.i, q1⟩
theorem t_or' (s1 : ST F B G S c t1) (s2 : ST F B G S c t2) : ST F B G S c (.tOr t1 t2) := fun {A X h R ρ σ b Q} q C => by
  rw [dT] at q
  rw [w_tOr]
  refine s1.step q C fun k h1 b1 m1 C1 q1 => ?_
  cases k with
  | true => rw [if_pos rfl] at q1 ⊢; exact ⟨b1, m1, C1.i, q1⟩
  | false => rw [if_neg (by decide)] at q1 ⊢; exact (s2 q1 C1).mono fun k h2 w => st_back m1 w
theorem t_not' (s1 : ST F B G S c t1) : ST F B G S c (.tNot t1) := fun {A X h R ρ σ b Q} q C => by
  rw [dT] at q
  rw [w_tNot]
  exact s1.step q C fun k h1 b1 m1 C1 q1 => ⟨b1, m1, C1.i, q1⟩
theorem t_yes' : ST F B G S c .tYes := fun {A X h R ρ σ b Q} q C => by
  rw [dT] at q
  rw [w_tYes]
  exact ⟨b, .refl, C.i, q⟩
theorem a_nil : SA F B G S c .nil := fun {A X h R ρ σ b Q} q C => by
  rw [dA] at q
  rw [w_nil]
  exact ⟨[], b, .refl, C.i, rfl, (fun _ z => nomatch z), q⟩
theorem a_cons (s1 : SX F B G S c t1) (s2 : SA F B G S c t2) : SA F B G S c (.cons t1 t2) := fun {A X h R ρ σ b Q} q C => by
  rw [dA] at q
  rw [w_cons]
  refine s1.step q C fun v h1 s b1 m1 C1 a1 ⟨hk, q1⟩ => s2.step q1 C1 fun vs h2 ss b2 m2 C2 a2 hks k => ?_
  exact ⟨s :: ss, b2, m1.trans m2, C2.i, ⟨v, vs, rfl, C1.fw C.lo a1 m2, a2.imp fun s v a => a.bk m1 m2⟩, fun s' hs => (List.mem_cons.mp hs).elim (fun e => by rw [e]; exact hk) (hks s'), k⟩
theorem l_nil : SL' F B G S c .nil := fun {A X h R ρ σ b Q} q C => by
  rw [dL] at q
  rw [w_nil]
  exact ⟨[], b, .refl, C.i, rfl, q⟩
theorem l_cons (s1 : SX F B G S c t1) (s2 : SL' F B G S c t2) : SL' F B G S c (.cons t1 t2) := fun {A X h R ρ σ b Q} q C => by
  rw [dL] at q
  rw [w_cons]
  refine s1.step q C fun v h1 s b1 m1 C1 a1 q1 => s2.step q1 C1 fun vs h2 ss b2 m2 C2 a2 k => ?_
  exact ⟨s :: ss, b2, m1.trans m2, C2.i, ⟨v, vs, rfl, C1.fw C.lo a1 m2, a2.imp fun s v a => a.bk m1 m2⟩, k⟩
theorem p_no : SP F B G S c .skip := fun {A X h R ρ σ b Q} q C => by
  rw [dP] at q
  rw [w_pno]
  exact ⟨b, .refl, C.i, q⟩
theorem p_some (s1 : SX F B G S c t1) : SP F B G S c (.pSome t1) := fun {A X h R ρ σ b Q} q C => by
  rw [dP] at q
  rw [w_psome]
  refine s1.step q C fun v h1 s b1 m1 C1 a1 ⟨i, e, k⟩ => ?_
  cases at_int a1.toV e
  exact ⟨i, rfl, b1, m1, C1.i, k⟩
theorem i_rng1' (s1 : SL' F B G S c t1) : SI F B G S c (.iRng1 t1) := fun {A X h R ρ σ b Q} q C => by
  rw [dI] at q
  rw [w_iRng1]
  refine s1.step q C fun vs h1 ss b1 m1 C1 a1 ⟨x, j, e, ex, hj, k⟩ => ?_
  subst e
  obtain ⟨v, r, rfl, q1, rfl⟩ := a1
  cases at_int q1.toV ex
  rw [r_1]
  exact ⟨hj, _, true, b1, m1, C1.i, itd_rng, fun _ z => z.elim, fun _ _ z => z.elim, k⟩
theorem i_rng2' (s1 : SL' F B G S c t1) : SI F B G S c (.iRng2 t1) := fun {A X h R ρ σ b Q} q C => by
  rw [dI] at q
  rw [w_iRng2]
  refine s1.step q C fun vs h1 ss b1 m1 C1 a1 ⟨x, y, i, j, e, ex, ey, hj, k⟩ => ?_
  subst e
  obtain ⟨v, r, rfl, q1, w, r, rfl, q2, rfl⟩ := a1
  cases at_int q1.toV ex
  cases at_int q2.toV ey
  rw [r_2]
  exact ⟨hj, _, true, b1, m1, C1.i, itd_rng, fun _ z => z.elim, fun _ _ z => z.elim, k⟩
theorem top_k {s : Sl} {v : AV} {n : Nat} {h h1 : AH} (a : SlAt B h h1 R s v) (e : v = .ref n) (hs : ∃ xs, s.v = .lst xs ∨ s.v = .tup xs) (hk : s.kept = true) : Nw R h h1 n := by
  subst e
  have := At.strip (a.toK hk)
  obtain ⟨xs, e | e⟩ := hs <;> (rw [show SL.strip s.d = _ from e] at this; obtain ⟨m, vs, e1, r, _⟩ := this; cases e1; exact r)
theorem i_seq' (s1 : SX F B G S c t1) : SI F B G S c (.iSeq t1) := fun {A X h R ρ σ b Q} q C => by
  rw [dI] at q
  rw [w_iSeq]
  refine s1.step q C fun v h1 s b1 m1 C1 a1 ⟨xs, e, k⟩ => ?_
  unfold seqD at e
  split at e
  · rename_i ys hs
    cases e
    obtain ⟨n, vs, rfl, r, e1, q, _⟩ := a1.lst hs
    rw [seq_lst e1]
    exact ⟨_, _, b1, m1, C1.i, itd_lsq e1 q, fun m z => by cases z; exact r, fun hk m z => by cases z; exact top_k a1 rfl ⟨_, .inl hs⟩ hk, k⟩
  · rename_i ys hs
    cases e
    obtain ⟨n, vs, rfl, r, e1, q, _⟩ := a1.tup hs
    rw [seq_tup e1]
    exact ⟨_, _, b1, m1, C1.i, itd_tsq e1 q, fun m z => by cases z; exact r, fun hk m z => by cases z; exact top_k a1 rfl ⟨_, .inr hs⟩ hk, k⟩
  · cases e
theorem i_enm' (s1 : SX F B G S c t1) : SI F B G S c (.iEnm t1) := fun {A X h R ρ σ b Q} q C => by
  rw [dI] at q
  rw [w_iEnm]
  refine s1.step q C fun v h1 s b1 m1 C1 a1 ⟨xs, hs, k⟩ => ?_
  obtain ⟨n, vs, rfl, r, e1, q, _⟩ := a1.lst hs
  rw [enm_lst (lstOf_lst e1)]
  exact ⟨_, _, b1, m1, C1.i, itd_enm e1 q, fun m z => by cases z; exact r, fun hk m z => by cases z; exact top_k a1 rfl ⟨_, .inl hs⟩ hk, k⟩
theorem i_zip' (s1 : SX F B G S c t1) (s2 : SX F B G S c t2) : SI F B G S c (.iZip t1 t2) := fun {A X h R ρ σ b Q} q C => by
  rw [dI] at q
  rw [w_iZip]
  refine s1.step q C fun v h1 s b1 m1 C1 a1 q1 => s2.step q1 C1 fun w h2 s2 b2 m2 C2 a2 q2 => ?_
  have A1 := C1.fw C.lo a1 m2
  have A2 := a2.bk m1 m2
  rcases q2 with ⟨xs, ys, hs, hs2, k⟩ | ⟨xs, ys, hs, hs2, k⟩
  · obtain ⟨n, vs, rfl, r, e1, q, _⟩ := A1.lst hs
    obtain ⟨m, ws, rfl, r2, e2, q2, _⟩ := A2.lst hs2
    simp only [zipA, lstOf_lst e1, lstOf_lst e2]
    refine ⟨_, _, b2, m1.trans m2, C2.i, itd_zip e1 q e2 q2, ?_, ?_, k⟩
    · rintro k (rfl | rfl)
      · exact r
      · exact r2
    · intro hk k z
      simp only [Bool.and_eq_true] at hk
      rcases z with rfl | rfl
      · exact top_k A1 rfl ⟨_, .inl hs⟩ hk.1
      · exact top_k A2 rfl ⟨_, .inl hs2⟩ hk.2
  · obtain ⟨n, vs, rfl, r, e1, q, _⟩ := A1.tup hs
    obtain ⟨m, ws, rfl, r2, e2, q2, _⟩ := A2.tup hs2
    have l1 : lstOf h2 (.ref n) = none := by simp only [lstOf, e1]
    simp only [zipA, l1, tupOf, e1, e2]
    refine ⟨_, _, b2, m1.trans m2, C2.i, itd_zipT e1 q e2 q2, ?_, ?_, k⟩
    · rintro k (rfl | rfl)
      · exact r
      · exact r2
    · intro hk k z
      simp only [Bool.and_eq_true] at hk
      rcases z with rfl | rfl
      · exact top_k A1 rfl ⟨_, .inr hs⟩ hk.1
      · exact top_k A2 rfl ⟨_, .inr hs2⟩ hk.2
theorem g_name' {i : Nat} : SG F B G S c (.tName i) := fun {h R ρ σ Q d v} q a ev => by
  rw [dG] at q
  rw [w_tName]
  exact ⟨rfl, _, ev.set i (s := .un d) a, q⟩
theorem g_tup' (s1 : SGs F B G S c t1) : SG F B G S c (.tTup t1) := fun {h R ρ σ Q d v} q a ev => by
  rw [dG] at q
  obtain ⟨ds, e, q⟩ := q
  have a := a.strip
  rw [e] at a
  obtain ⟨n, vs, rfl, _, e1, a⟩ := a
  rw [w_tTup, tup_G e1]
  exact s1 q a ev
theorem gs_nil' : SGs F B G S c .nil := fun {h R ρ σ Q ds vs} q a ev => by
  rw [dGs] at q
  obtain ⟨rfl, q⟩ := q
  cases a
  rw [w_gnil]
  exact ⟨rfl, ρ, ev, q⟩
theorem gs_cons' (s1 : SG F B G S c t1) (s2 : SGs F B G S c t2) : SGs F B G S c (.cons t1 t2) := fun {h R ρ σ Q ds vs} q a ev => by
  rw [dGs] at q
  obtain ⟨d, r, rfl, q⟩ := q
  obtain ⟨v, ws, rfl, a1, a2⟩ := a
  rw [w_gcons]
  refine (s1 q a1 ev).mono fun σ1 h1 ⟨e, ρ1, ev1, q1⟩ => ?_
  subst e
  exact s2 q1 a2 ev1
end
end SL

set_option Elab.async false
set_option linter.all false
set_option maxRecDepth 100000
set_option maxHeartbeats 4000000
/-! Trees over heaps: comprehensions; all of the expressions. -/
namespace SL
open PySem
/-- one more place that may change -/
def Frm.plus (F : Frm) (m : Nat) : Frm where
  M := fun n => F.M n ∨ n = m
  J := fun b h => F.J b h ∧ ∃ o, h[m]? = some o ∧ o.plain = true
  loc := fun {b h h'} ⟨i, o, e, p⟩ hl w => ⟨F.loc i hl fun n z => w n (.inl z), o, by rw [w m (.inr rfl)]; exact e, p⟩
  low := fun {b h n} ⟨i, o, e, p⟩ z => z.elim (fun z => F.low i z) fun z => by subst z; exact lt_of e
  nom := fun {b h n ms kvs} ⟨i, o, e, p⟩ z e2 => z.elim (fun z => F.nom i z e2) fun z => by subst z; rw [e] at e2; cases e2; cases p
section
variable {F : Frm} {A : Anc} {B : Nat → Prop} {G : Env} {S : Sps} {X : XD} {c : Calls} {R R' R2 : Nat → Prop} {h h0 h1 h2 h3 h4 h5 h' : AH} {ρ : DEnv} {σ : ASt} {b b1 b2 N m0 : Nat} {t t1 t2 t3 : T}
theorem SameM.plus (q : SameM F h h') : SameM (F.plus m0) h h' := ⟨q.le, fun hm e p => q.k (fun z => hm (.inl z)) e p, q.m⟩
/-- new since N, but for m0 -/
def FrR (N m0 : Nat) (n : Nat) : Prop := N ≤ n ∧ n ≠ m0
abbrev Rel (α : Type) := Nat → Nat → AH → (Nat → Prop) → α → AO → Prop
/-- a state of the loop: the heap, what is gathered at m0 -/
structure Tn (F : Frm) {α : Type} (rel : Rel α) (N m0 : Nat) (hb : AH) (Rb : Nat → Prop) (h : AH) (a : α) (b : Nat) : Prop where
  sm : SameM (F.plus m0) hb h
  i : F.I b h
  lt : m0 < hb.length
  lo : ∀ n, F.M n → n < N
  hN : N ≤ m0
  bd : Bd (F.plus m0) Rb hb
  ac : ∃ o, h[m0]? = some o ∧ o.plain = true ∧ rel N m0 h (Nw Rb hb h) a o
structure RelMono {α : Type} (rel : Rel α) : Prop where
  m : ∀ {N m0 : Nat} {h h' : AH} {R R' : Nat → Prop} {a : α} {o : AO}, Mv R R' h h' → Mv (FrR N m0) (FrR N m0) h h' → rel N m0 h R a o → rel N m0 h' R' a o
def relL : Rel (Bool × List D) := fun N m0 h R a o => ∃ vs, o = .lst vs ∧ AtL h R a.2 vs ∧ (a.1 = true → AtL h (FrR N m0) a.2 vs)
def relK : Rel (Bool × List (AKey × D)) := fun N m0 h R a o => ∃ vs, o = .dic vs ∧ AtK h R a.2 vs ∧ (a.1 = true → AtK h (FrR N m0) a.2 vs)
theorem relL_mono : RelMono relL := ⟨fun w w2 ⟨vs, e, q, f⟩ => ⟨vs, e, AtL.mono w _ _ q, fun z => AtL.mono w2 _ _ (f z)⟩⟩
theorem relK_mono : RelMono relK := ⟨fun w w2 ⟨vs, e, q, f⟩ => ⟨vs, e, AtK.mono w _ _ q, fun z => AtK.mono w2 _ _ (f z)⟩⟩
section
variable {α : Type} {rel : Rel α} {hb : AH} {Rb : Nat → Prop} {a : α}
theorem Tn.nm (q : Tn F rel N m0 hb Rb h a b) : ¬ F.M m0 := fun z => by have := q.lo _ z; have := q.hN; omega
theorem Tn.ltc (q : Tn F rel N m0 hb Rb h a b) : m0 < h.length := Nat.lt_of_lt_of_le q.lt q.sm.le
/-- what is new at its state -/
theorem Tn.bdn (q : Tn F rel N m0 hb Rb h a b) : Bd (F.plus m0) (Nw Rb hb h) h := fun n z => by
  rcases z with z | z
  · exact ⟨Nat.lt_of_lt_of_le (q.bd n z).1 q.sm.le, (q.bd n z).2⟩
  · refine ⟨z.2, fun m => ?_⟩
    have := q.lt; have := z.1; have := q.hN
    rcases m with m | m
    · have := q.lo n m; omega
    · omega
theorem Tn.bdf (q : Tn F rel N m0 hb Rb h a b) : Bd F (Nw Rb hb h) h := fun n z => ⟨(q.bdn n z).1, fun m => (q.bdn n z).2 (.inl m)⟩
theorem fr_mv (lo : ∀ n, F.M n → n < N) (sm : SameM F h h') : Mv (FrR N m0) (FrR N m0) h h' := ⟨fun r e p => ⟨r, sm.k (fun z => by have := lo _ z; have := r.1; omega) e p⟩, fun e => sm.m e⟩
/-- behind what a turn evaluates, all but m0 kept -/
theorem Tn.go (rm : RelMono rel) (q : Tn F rel N m0 hb Rb h a b) (sm : SameM F h h') (i : F.I b1 h') : Tn F rel N m0 hb Rb h' a b1 := by
  obtain ⟨o, e, p, r⟩ := q.ac
  exact ⟨q.sm.trans sm.plus, i, q.lt, q.lo, q.hN, q.bd, o, sm.k q.nm e p, p, rm.m (sm.mv q.bdf fun n z => z.mono sm.le) (fr_mv q.lo sm) r⟩
theorem Tn.app (rm : RelMono rel) (q : Tn F rel N m0 hb Rb h a b) {l : List AO} (p : plains l) : Tn F rel N m0 hb Rb (h ++ l) a b := q.go rm SameM.app (Frm.app q.i p)
/-- the loop of a comprehension -/
theorem loop_ok (rm : RelMono rel) {step : D → α → Nat → (α → Nat → Prop) → Prop} {turn : AV → AH → SL.R Unit} {J : It} {items : List D} {Q : α → Nat → Prop}
    (hJ : ∀ h', SameM (F.plus m0) hb h' → ∀ t, ItN Rb J items h' t)
    (turn_ok : ∀ x a b K h v, step x a b K → Tn F rel N m0 hb Rb h a b → At h (Nw Rb hb h) x v → (turn v h).wp noX fun _ h' => ∃ a' b', Tn F rel N m0 hb Rb h' a' b' ∧ K a' b')
    (q : foldD step items a b Q) (hT : Tn F rel N m0 hb Rb h a b) (hl : items.length < bigW) : (compL J turn bigW 0 h).wp noX fun _ h' => ∃ a b, Tn F rel N m0 hb Rb h' a b ∧ Q a b := by
  have key : ∀ m t a b h, t ≤ items.length → items.length - t < m → foldD step (items.drop t) a b Q → Tn F rel N m0 hb Rb h a b → (compL J turn m t h).wp noX fun _ h' => ∃ a b, Tn F rel N m0 hb Rb h' a b ∧ Q a b := by
    intro m
    induction m with
    | zero => intro t a b h _ z; omega
    | succ m ih =>
      intro t a b h ht hm q hT
      rw [compL]
      obtain ⟨j1, j2⟩ := hJ h hT.sm t
      by_cases e : t = items.length
      · rw [j2 e]
        rw [e, List.drop_length] at q
        exact ⟨a, b, hT, q⟩
      · have hlt : t < items.length := by omega
        obtain ⟨v, l, e1, pl, av⟩ := j1 items[t] (List.getElem?_eq_getElem hlt)
        rw [e1]
        simp only [wp_bind]
        rw [List.drop_eq_getElem_cons hlt] at q
        have hT' := hT.app rm pl
        refine (turn_ok _ _ _ _ _ v q hT' (At.sub av fun n z => z.elim .inl fun z => .inr ⟨Nat.le_trans hT.sm.le z.1, z.2⟩)).mono fun _ h' ⟨a', b', hT2, q2⟩ => ?_
        exact ih (t + 1) a' b' h' hlt (by omega) q2 hT2
  exact key bigW 0 a b h (Nat.zero_le _) (by omega) q hT
theorem set_mv {o o' : AO} (e : h[m0]? = some o) (p : o.plain = true) (nm : ∀ n, R n → n ≠ m0) (sub : ∀ n, R n → R' n) : Mv R R' h (h.set m0 o') :=
  ⟨fun r e2 _ => ⟨sub _ r, by rw [List.getElem?_set_ne (fun z => nm _ r z.symm)]; exact e2⟩, fun {n ms kvs} e2 => ⟨kvs, by
    rw [List.getElem?_set_ne (fun z => by subst z; rw [e] at e2; cases e2; cases p)]; exact e2⟩⟩
/-- something new is gathered -/
theorem Tn.put {a' : α} {o' : AO} (q : Tn F rel N m0 hb Rb h a b) (p' : o'.plain = true) (r : Mv (Nw Rb hb h) (Nw Rb hb (h.set m0 o')) h (h.set m0 o') → Mv (FrR N m0) (FrR N m0) h (h.set m0 o') → rel N m0 (h.set m0 o') (Nw Rb hb (h.set m0 o')) a' o') : Tn F rel N m0 hb Rb (h.set m0 o') a' b := by
  obtain ⟨o, e, p, _⟩ := q.ac
  have w1 : Mv (Nw Rb hb h) (Nw Rb hb (h.set m0 o')) h (h.set m0 o') := set_mv e p (fun n z e => (q.bdn n z).2 (.inr e)) fun n z => z.mono (by simp)
  have w2 : Mv (FrR N m0) (FrR N m0) h (h.set m0 o') := set_mv e p (fun n z => z.2) fun _ z => z
  refine ⟨q.sm.trans ⟨by simp, fun hm e2 _ => by rw [List.getElem?_set_ne (fun z => hm (.inr z.symm))]; exact e2, w2.m⟩, Frm.set q.i q.nm p', q.lt, q.lo, q.hN, q.bd, o', List.getElem?_set_self q.ltc, p', r w1 w2⟩
end
section
variable {hb : AH} {Rb : Nat → Prop}
theorem put_l {ds : Bool × List D} {g : Bool} {d : D} {u : AV} {P : Unit → AH → Prop} (q : Tn F relL N m0 hb Rb h ds b) (a : At h (Nw Rb hb h) d u) (fa : g = true → At h (FrR N m0) d u) (hl : ds.2.length < sizeLine) (k : ∀ h', Tn F relL N m0 hb Rb h' (ds.1 && g, ds.2 ++ [d]) b → P () h') : (putLst m0 u h).wp noX P := by
  obtain ⟨o, e, p, vs, rfl, r, f⟩ := q.ac
  rw [put_lst e]
  refine ⟨by rw [r.len]; exact hl, k _ (q.put rfl fun w1 w2 => ⟨_, rfl, ?_, fun hf => ?_⟩)⟩
  · exact AtL.app (AtL.mono w1 _ _ r) ⟨u, [], rfl, At.mono w1 _ _ a, rfl⟩
  · simp only [Bool.and_eq_true] at hf
    exact AtL.app (AtL.mono w2 _ _ (f hf.1)) ⟨u, [], rfl, At.mono w2 _ _ (fa hf.2), rfl⟩
theorem put_k {ds : Bool × List (AKey × D)} {g : Bool} {d : D} {kk : AKey} {u y : AV} {P : Unit → AH → Prop} (q : Tn F relK N m0 hb Rb h ds b) (ky : keyOf y = some kk) (a : At h (Nw Rb hb h) d u) (fa : g = true → At h (FrR N m0) d u) (hl : ds.2.length < sizeLine) (k : ∀ h', Tn F relK N m0 hb Rb h' (ds.1 && g, putD ds.2 kk d) b → P () h') : (putDic m0 y u h).wp noX P := by
  obtain ⟨o, e, p, vs, rfl, r, f⟩ := q.ac
  unfold putDic
  rw [e, ky]
  simp only [wp_ite]
  rw [if_pos (by rw [r.len]; exact hl)]
  refine k _ (q.put rfl fun w1 w2 => ⟨_, rfl, putK_ok kk (AtK.mono w1 _ _ r) (At.mono w1 _ _ a), fun hf => ?_⟩)
  simp only [Bool.and_eq_true] at hf
  exact putK_ok kk (AtK.mono w2 _ _ (f hf.1)) (At.mono w2 _ _ (fa hf.2))
/-- the start of a comprehension -/
theorem tn_start {α : Type} {rel : Rel α} {a : α} {o : AO} (i : F.I b h1) (bd : Bd F R h1) (lo : ∀ n, F.M n → n < N) (hN : N ≤ h1.length) (po : o.plain = true) (r : rel N h1.length (h1 ++ [o]) (Nw R (h1 ++ [o]) (h1 ++ [o])) a o) : Tn F rel N h1.length (h1 ++ [o]) R (h1 ++ [o]) a b :=
  ⟨.refl, Frm.app i (.one po), by simp, lo, hN, fun n z => ⟨by have := (bd n z).1; simp; omega, fun m => m.elim (bd n z).2 fun e => by have := (bd n z).1; omega⟩, o, by simp, po, r⟩
/-- slots at a turn -/
theorem cxt_turn {α : Type} {rel : Rel α} {a : α} {ρ2 : DEnv} {σ2 : ASt} (bB : Bd (F.plus m0) B hb) (ev : EnvE B hb Rb ρ2 σ2) (q : Tn F rel N m0 hb Rb h a b) : Cxt F ⟨h, Nw Rb hb h⟩ B h (Nw Rb hb h) ρ2 σ2 b :=
  ⟨q.i, fun n z => ⟨Nat.lt_of_lt_of_le (bB n z).1 q.sm.le, fun m => (bB n z).2 (.inl m)⟩, q.bdf, EnvE.go (F := F.plus m0) ev bB q.bd q.sm fun n => .inl, .refl, fun _ => .inl⟩
/-- .. in the middle of one -/
theorem cxt_mid {α : Type} {rel : Rel α} {a : α} {ρ2 : DEnv} {σ2 : ASt} (C : Cxt F A B h' (Nw (Nw Rb hb h) h h') ρ2 σ2 b1) (le : hb.length ≤ h.length) (q : Tn F rel N m0 hb Rb h' a b) (l2 : h.length ≤ h'.length) : Cxt F ⟨h', Nw Rb hb h'⟩ B h' (Nw Rb hb h') ρ2 σ2 b1 :=
  ⟨C.i, C.bB, q.bdf, C.ev.sub fun n z => z.trans le l2, .refl, fun _ => .inl⟩
theorem itd_start {J : It} {items : List D} {o : AO} (j : ItD h1 R J items) (bR : Bd F R h1) (bA : ∀ n, addrs J n → n < h1.length ∧ ¬ F.M n) : ∀ h', SameM (F.plus h1.length) (h1 ++ [o]) h' → ∀ t, ItN R J items h' t := fun h' sm t =>
  j h' (Nat.le_trans (by simp) sm.le) ⟨fun {n o} r e p => ⟨r, sm.k (fun z => by
      have hb : n < h1.length ∧ ¬ F.M n := r.elim (bR n) (bA n)
      rcases z with z | z
      · exact hb.2 z
      · omega) (app_get e) p⟩, fun e => sm.m (app_get e)⟩ t
theorem nil_rel {h : AH} {R : Nat → Prop} : relL N m0 h R (true, []) (.lst []) := ⟨[], rfl, rfl, fun _ => rfl⟩
theorem nil_relK {h : AH} {R : Nat → Prop} : relK N m0 h R (true, []) (.dic []) := ⟨[], rfl, rfl, fun _ => rfl⟩
theorem fin_same {α : Type} {rel : Rel α} {a : α} {o : AO} (m1 : SameM F h h1) (q : Tn F rel N h1.length (h1 ++ [o]) (Nw R h h1) h2 a b) (hN : h.length = N) : SameM F h h2 := by
  have l1 : h1.length + 1 ≤ h2.length := by have := q.sm.le; simpa using this
  refine m1.trans ⟨by omega, fun {n o'} hm e p => q.sm.k (fun z => z.elim hm fun z => ?_) (app_get e) p, fun e => q.sm.m (app_get e)⟩
  have := lt_of e; omega
theorem fr_new (lo : n < h2.length) (z : FrR h.length m0 n) : newR h h2 n ∧ n ≠ m0 := ⟨⟨z.1, lo⟩, z.2⟩
/-- what the comprehension has made -/
theorem fin_lst {Q : Sl → Nat → Prop} {ds : Bool × List D} (m1 : SameM F h h1) (q : Tn F relL h.length h1.length (h1 ++ [.lst []]) (Nw R h h1) h2 ds b) (k : Q (mkO ds.1 ds.2) b) : Fin F B h R Q (.ref h1.length) h2 := by
  obtain ⟨o, e, p, vs, rfl, r, f⟩ := q.ac
  have hl := lt_of e
  refine ⟨mkO ds.1 ds.2, b, fin_same m1 q rfl, q.i, ?_, k⟩
  unfold mkO
  split
  · exact ⟨h1.length, vs, rfl, ⟨m1.le, hl⟩, e, AtL.mono ⟨fun r e _ => ⟨fr_new (lt_of e) r, e⟩, fun e => ⟨_, e⟩⟩ _ _ (f ‹_›)⟩
  · refine ⟨h1.length, vs, rfl, m1.le, hl, e, r.sub fun n z => ⟨?_, fun e => (q.bdn n z).2 (.inr e)⟩⟩
    exact z.elim (fun z => z.mono (by have := q.sm.le; simp at this; omega)) fun z => .inr ⟨by have := z.1; have := m1.le; simp at *; omega, z.2⟩
theorem fin_dic {Q : Sl → Nat → Prop} {ds : Bool × List (AKey × D)} (m1 : SameM F h h1) (q : Tn F relK h.length h1.length (h1 ++ [.dic []]) (Nw R h h1) h2 ds b) (k : Q (mkK ds.1 ds.2) b) : Fin F B h R Q (.ref h1.length) h2 := by
  obtain ⟨o, e, p, vs, rfl, r, f⟩ := q.ac
  have hl := lt_of e
  refine ⟨mkK ds.1 ds.2, b, fin_same m1 q rfl, q.i, ?_, k⟩
  unfold mkK
  split
  · exact ⟨h1.length, vs, rfl, ⟨m1.le, hl⟩, e, AtK.mono ⟨fun r e _ => ⟨fr_new (lt_of e) r, e⟩, fun e => ⟨_, e⟩⟩ _ _ (f ‹_›)⟩
  · refine ⟨h1.length, vs, rfl, m1.le, hl, e, r.sub fun n z => ⟨?_, fun e => (q.bdn n z).2 (.inr e)⟩⟩
    exact z.elim (fun z => z.mono (by have := q.sm.le; simp at this; omega)) fun z => .inr ⟨by have := z.1; have := m1.le; simp at *; omega, z.2⟩
theorem Bd.plus (q : Bd F B h1) {o : AO} : Bd (F.plus h1.length) B (h1 ++ [o]) := fun n z => ⟨by have := (q n z).1; simp; omega, fun m => m.elim (q n z).2 fun e => by have := (q n z).1; omega⟩
theorem EnvE.app (ev : EnvE B h R ρ σ) (bB : Bd F B h) (bd : Bd F R h) {l : AH} : EnvE B (h ++ l) R ρ σ := ev.go bB bd SameM.app fun _ z => z
/-- an item that a turn has made -/
theorem item_at {α : Type} {rel : Rel α} {a : α} {s : Sl} {u : AV} (q : Tn F rel N m0 hb Rb h a b) (m : SameM F h h') (as : SlAt B h h' (Nw Rb hb h) s u) (hk : s.kept = true) : At h' (Nw Rb hb h') s.d u ∧ (s.isFr = true → At h' (FrR N m0) s.d u) :=
  ⟨At.sub (as.toK hk) fun n z => z.trans q.sm.le m.le, fun hf => (as.fr hf).toA.sub fun n z => ⟨by have := q.hN; have := q.ltc; have := z.1; omega, by have := q.ltc; have := z.1; omega⟩⟩
end
theorem x_comp {e tg it cnd : T} {own : List Nat} (sI : SI F B G S c it) (sG : SG F B G S c tg) (sT : ST F B G S c cnd) (sE : SX F B G S c e) : SX F B G S c (.comp e tg it cnd own) := fun {A X h R ρ σ b Q} q C => by
  rw [dX] at q
  rw [w_comp]
  refine (sI q C).mono fun J h1 ⟨items, k, b1, m1, i1, j, ja, _, hl, q1⟩ => ?_
  have C1 := C.go m1 i1
  refine (loop_ok relL_mono (itd_start j C1.bd fun n z => (ja n z).elim (C1.bB n) (C1.bd n)) ?_ q1 (tn_start i1 C1.bd C.lo m1.le rfl nil_rel) hl).mono fun _ h2 ⟨ds, b2, hT, k2⟩ => fin_lst m1 hT k2
  intro x a b K h2 v st hT av
  simp only [wp_bind]
  have C2 := cxt_turn (C1.bB.plus) ((C1.ev.app C1.bB C1.bd).wipe own) hT
  refine (sG st av C2.ev).mono fun σ2 h3 ⟨e3, ρ2, ev2, st2⟩ => ?_
  subst e3
  have C3 : Cxt F ⟨h3, Nw (Nw R h h1) (h1 ++ [.lst []]) h3⟩ B h3 (Nw (Nw R h h1) (h1 ++ [.lst []]) h3) ρ2 σ2 b := ⟨C2.i, C2.bB, C2.bd, ev2, .refl, fun _ => .inl⟩
  refine calmX (sT.step st2 C3 fun k h4 b4 m4 C4 st3 => ?_)
  have hT4 := hT.go relL_mono m4 C4.i
  cases k with
  | false => rw [if_neg (by decide)] at st3; exact ⟨a, b4, hT4, st3⟩
  | true =>
    rw [if_pos rfl] at st3
    simp only [if_true, wp_bind]
    refine calmX (sE.step st3 (cxt_mid C4 hT.sm.le hT4 m4.le) fun u h5 s b5 m5 C5 a5 ⟨hk, hl2, st4⟩ => ?_)
    obtain ⟨i1, i2⟩ := item_at hT4 m5 a5 hk
    exact put_l (hT4.go relL_mono m5 C5.i) i1 i2 hl2 fun h6 hT6 => ⟨_, b5, hT6, st4⟩
end
end SL

set_option Elab.async false
set_option linter.all false
set_option maxRecDepth 100000
set_option maxHeartbeats 4000000
/-! Trees over heaps: further comprehensions; all of the expressions. -/
namespace SL
open PySem
section
variable {F : Frm} {A : Anc} {B : Nat → Prop} {G : Env} {S : Sps} {X : XD} {c : Calls} {R R' R2 : Nat → Prop} {h h0 h1 h2 h3 h5 h' : AH} {ρ : DEnv} {σ : ASt} {b b1 b2 N m0 : Nat} {t t1 t2 t3 : T}
section
variable {α : Type} {rel : Rel α} {hb : AH} {Rb : Nat → Prop} {a : α}
theorem Tn.inner (rm : RelMono rel) (q : Tn F rel N m0 hb Rb h5 a b) : Tn F rel N m0 h5 (Nw Rb hb h5) h5 a b :=
  ⟨.refl, q.i, q.ltc, q.lo, q.hN, q.bdn, let ⟨o, e, p, r⟩ := q.ac; ⟨o, e, p, rm.m (Mv.sub fun n z => .inl z) (Mv.sub fun _ z => z) r⟩⟩
theorem Tn.outer {a' : α} {b' : Nat} (rm : RelMono rel) (q : Tn F rel N m0 hb Rb h5 a b) (p : Tn F rel N m0 h5 (Nw Rb hb h5) h' a' b') : Tn F rel N m0 hb Rb h' a' b' :=
  ⟨q.sm.trans p.sm, p.i, q.lt, q.lo, q.hN, q.bd, let ⟨o, e, pl, r⟩ := p.ac; ⟨o, e, pl, rm.m (Mv.sub fun n z => z.trans q.sm.le p.sm.le) (Mv.sub fun _ z => z) r⟩⟩
theorem itd_inner {J : It} {items : List D} {R5 : Nat → Prop} (q : Tn F rel N m0 hb Rb h5 a b) (bB : Bd (F.plus m0) B hb) (j : ItD h5 R5 J items) (ja : ∀ n, addrs J n → B n ∨ R5 n) (sub : ∀ n, R5 n → Nw Rb hb h5 n) :
    ∀ h', SameM (F.plus m0) h5 h' → ∀ t, ItN (Nw Rb hb h5) J items h' t := fun h' sm t => by
  refine (j h' sm.le ⟨fun {n o} r e p => ⟨r, sm.k ?_ e p⟩, fun e => sm.m e⟩ t).sub sub
  rcases r with r | r
  · exact (q.bdn _ (sub _ r)).2
  · exact (ja _ r).elim (fun z => (bB _ z).2) fun z => (q.bdn _ (sub _ z)).2
end
theorem x_dcomp {k0 e tg it cnd : T} {own : List Nat} (sI : SI F B G S c it) (sG : SG F B G S c tg) (sT : ST F B G S c cnd) (sK : SX F B G S c k0) (sE : SX F B G S c e) : SX F B G S c (.dcomp k0 e tg it cnd own) := fun {A X h R ρ σ b Q} q C => by
  rw [dX] at q
  rw [evE]
  simp only [wp_bind, wp_calm, wp_ok]
  refine (sI q C).mono fun J h1 ⟨items, k, b1, m1, i1, j, ja, _, hl, q1⟩ => ?_
  have C1 := C.go m1 i1
  refine (loop_ok relK_mono (itd_start j C1.bd fun n z => (ja n z).elim (C1.bB n) (C1.bd n)) ?_ q1 (tn_start i1 C1.bd C.lo m1.le rfl nil_relK) hl).mono fun _ h2 ⟨ds, b2, hT, k2⟩ => fin_dic m1 hT k2
  intro x a b K h2 v st hT av
  simp only [wp_bind]
  have C2 := cxt_turn (C1.bB.plus) ((C1.ev.app C1.bB C1.bd).wipe own) hT
  refine (sG st av C2.ev).mono fun σ2 h3 ⟨e3, ρ2, ev2, st2⟩ => ?_
  subst e3
  have C3 : Cxt F ⟨h3, Nw (Nw R h h1) (h1 ++ [.dic []]) h3⟩ B h3 (Nw (Nw R h h1) (h1 ++ [.dic []]) h3) ρ2 σ2 b := ⟨C2.i, C2.bB, C2.bd, ev2, .refl, fun _ => .inl⟩
  refine calmX (sT.step st2 C3 fun k h4 b4 m4 C4 st3 => ?_)
  have hT4 := hT.go relK_mono m4 C4.i
  cases k with
  | false => rw [if_neg (by decide)] at st3; exact ⟨a, b4, hT4, st3⟩
  | true =>
    rw [if_pos rfl] at st3
    simp only [if_true, wp_bind]
    refine calmX (sK.step st3 (cxt_mid C4 hT.sm.le hT4 m4.le) fun y h5 sy b5 m5 C5 ay st4 => ?_)
    have hT5 := hT4.go relK_mono m5 C5.i
    refine calmX (sE.step st4 (cxt_mid C5 hT4.sm.le hT5 m5.le) fun u h6 s b6 m6 C6 a6 ⟨hk, hl2, kk, ek, st5⟩ => ?_)
    obtain ⟨i1, i2⟩ := item_at hT5 m6 a6 hk
    exact put_k (hT5.go relK_mono m6 C6.i) (key_ok ay.toV ek) i1 i2 hl2 fun h7 hT7 => ⟨_, b6, hT7, st5⟩
theorem x_comp2 {e tg it cnd tg1 it1 cnd1 : T} {own own1 : List Nat} (sI : SI F B G S c it) (sG : SG F B G S c tg) (sT : ST F B G S c cnd) (sI1 : SI F B G S c it1) (sG1 : SG F B G S c tg1) (sT1 : ST F B G S c cnd1) (sE : SX F B G S c e) : SX F B G S c (.comp2 e tg it cnd tg1 it1 cnd1 own own1) := fun {A X h R ρ σ b Q} q C => by
  rw [dX] at q
  rw [evE]
  simp only [wp_bind, wp_calm, wp_ok]
  refine (sI q C).mono fun J h1 ⟨items, k, b1, m1, i1, j, ja, _, hl, q1⟩ => ?_
  have C1 := C.go m1 i1
  refine (loop_ok relL_mono (itd_start j C1.bd fun n z => (ja n z).elim (C1.bB n) (C1.bd n)) ?_ q1 (tn_start i1 C1.bd C.lo m1.le rfl nil_rel) hl).mono fun _ h2 ⟨ds, b2, hT, k2⟩ => fin_lst m1 hT k2
  intro x a b K h2 v st hT av
  simp only [wp_bind]
  have C2 := cxt_turn (C1.bB.plus) ((C1.ev.app C1.bB C1.bd).wipe own) hT
  refine (sG st av C2.ev).mono fun σ2 h3 ⟨e3, ρ2, ev2, st2⟩ => ?_
  subst e3
  have C3 : Cxt F ⟨h3, Nw (Nw R h h1) (h1 ++ [.lst []]) h3⟩ B h3 (Nw (Nw R h h1) (h1 ++ [.lst []]) h3) ρ2 σ2 b := ⟨C2.i, C2.bB, C2.bd, ev2, .refl, fun _ => .inl⟩
  refine calmX (sT.step st2 C3 fun k h4 b4 m4 C4 st3 => ?_)
  have hT4 := hT.go relL_mono m4 C4.i
  cases k with
  | false => rw [if_neg (by decide)] at st3; exact ⟨a, b4, hT4, st3⟩
  | true =>
    rw [if_pos rfl] at st3
    simp only [if_true, wp_bind]
    have C4m := cxt_mid C4 hT.sm.le hT4 m4.le
    have C4w : Cxt F ⟨h4, Nw (Nw R h h1) (h1 ++ [.lst []]) h4⟩ B h4 (Nw (Nw R h h1) (h1 ++ [.lst []]) h4) (wipeD ρ2 own1) (wipe σ2 own1) b4 := ⟨C4m.i, C4m.bB, C4m.bd, C4m.ev.wipe own1, .refl, fun _ => .inl⟩
    refine calmX ((sI1 st3 C4w).mono fun J1 h5 ⟨items1, k1, b5, m5, i5, j5, ja5, _, hl5, q5⟩ => ?_)
    have hT5 := hT4.go relL_mono m5 i5
    have C5 := cxt_mid (C4w.go m5 i5) hT4.sm.le hT5 m5.le
    have sub5 : ∀ n, Nw (Nw (Nw R h h1) (h1 ++ [.lst []]) h4) h4 h5 n → Nw (Nw R h h1) (h1 ++ [.lst []]) h5 n := fun n z => z.trans hT4.sm.le m5.le
    refine (loop_ok relL_mono (itd_inner hT5 C1.bB.plus j5 ja5 sub5) ?_ q5 (hT5.inner relL_mono) hl5).mono fun _ h6 ⟨ds, b6, hT6, k6⟩ => ⟨ds, b6, hT5.outer relL_mono hT6, k6⟩
    intro x1 a1 b1' K1 h6 v1 st1 hT1 av1
    simp only [wp_bind]
    have bB5 : Bd (F.plus h1.length) B h5 := fun n z => ⟨Nat.lt_of_lt_of_le (C1.bB.plus n z).1 hT5.sm.le, (C1.bB.plus (o := .lst []) n z).2⟩
    have C6 := cxt_turn bB5 C5.ev hT1
    refine (sG1 st1 av1 C6.ev).mono fun σ3 h7 ⟨e7, ρ3, ev3, st4⟩ => ?_
    subst e7
    have C7 : Cxt F ⟨h7, Nw (Nw (Nw R h h1) (h1 ++ [.lst []]) h5) h5 h7⟩ B h7 (Nw (Nw (Nw R h h1) (h1 ++ [.lst []]) h5) h5 h7) ρ3 σ3 b1' := ⟨C6.i, C6.bB, C6.bd, ev3, .refl, fun _ => .inl⟩
    refine calmX (sT1.step st4 C7 fun k8 h8 b8 m8 C8 st5 => ?_)
    have hT8 := hT1.go relL_mono m8 C8.i
    cases k8 with
    | false => rw [if_neg (by decide)] at st5; exact ⟨a1, b8, hT8, st5⟩
    | true =>
      rw [if_pos rfl] at st5
      simp only [if_true, wp_bind]
      refine calmX (sE.step st5 (cxt_mid C8 hT1.sm.le hT8 m8.le) fun u h9 s b9 m9 C9 a9 ⟨hk, hl2, st6⟩ => ?_)
      obtain ⟨i1, i2⟩ := item_at hT8 m9 a9 hk
      exact put_l (hT8.go relL_mono m9 C9.i) i1 i2 hl2 fun h10 hT10 => ⟨_, b9, hT10, st6⟩
theorem x_dcomp2 {k0 e tg it cnd tg1 it1 cnd1 : T} {own own1 : List Nat} (sI : SI F B G S c it) (sG : SG F B G S c tg) (sT : ST F B G S c cnd) (sI1 : SI F B G S c it1) (sG1 : SG F B G S c tg1) (sT1 : ST F B G S c cnd1) (sK : SX F B G S c k0) (sE : SX F B G S c e) : SX F B G S c (.dcomp2 k0 e tg it cnd tg1 it1 cnd1 own own1) := fun {A X h R ρ σ b Q} q C => by
  rw [dX] at q
  rw [evE]
  simp only [wp_bind, wp_calm, wp_ok]
  refine (sI q C).mono fun J h1 ⟨items, k, b1, m1, i1, j, ja, _, hl, q1⟩ => ?_
  have C1 := C.go m1 i1
  refine (loop_ok relK_mono (itd_start j C1.bd fun n z => (ja n z).elim (C1.bB n) (C1.bd n)) ?_ q1 (tn_start i1 C1.bd C.lo m1.le rfl nil_relK) hl).mono fun _ h2 ⟨ds, b2, hT, k2⟩ => fin_dic m1 hT k2
  intro x a b K h2 v st hT av
  simp only [wp_bind]
  have C2 := cxt_turn (C1.bB.plus) ((C1.ev.app C1.bB C1.bd).wipe own) hT
  refine (sG st av C2.ev).mono fun σ2 h3 ⟨e3, ρ2, ev2, st2⟩ => ?_
  subst e3
  have C3 : Cxt F ⟨h3, Nw (Nw R h h1) (h1 ++ [.dic []]) h3⟩ B h3 (Nw (Nw R h h1) (h1 ++ [.dic []]) h3) ρ2 σ2 b := ⟨C2.i, C2.bB, C2.bd, ev2, .refl, fun _ => .inl⟩
  refine calmX (sT.step st2 C3 fun k h4 b4 m4 C4 st3 => ?_)
  have hT4 := hT.go relK_mono m4 C4.i
  cases k with
  | false => rw [if_neg (by decide)] at st3; exact ⟨a, b4, hT4, st3⟩
  | true =>
    rw [if_pos rfl] at st3
    simp only [if_true, wp_bind]
    have C4m := cxt_mid C4 hT.sm.le hT4 m4.le
    have C4w : Cxt F ⟨h4, Nw (Nw R h h1) (h1 ++ [.dic []]) h4⟩ B h4 (Nw (Nw R h h1) (h1 ++ [.dic []]) h4) (wipeD ρ2 own1) (wipe σ2 own1) b4 := ⟨C4m.i, C4m.bB, C4m.bd, C4m.ev.wipe own1, .refl, fun _ => .inl⟩
    refine calmX ((sI1 st3 C4w).mono fun J1 h5 ⟨items1, k1, b5, m5, i5, j5, ja5, _, hl5, q5⟩ => ?_)
    have hT5 := hT4.go relK_mono m5 i5
    have C5 := cxt_mid (C4w.go m5 i5) hT4.sm.le hT5 m5.le
    have sub5 : ∀ n, Nw (Nw (Nw R h h1) (h1 ++ [.dic []]) h4) h4 h5 n → Nw (Nw R h h1) (h1 ++ [.dic []]) h5 n := fun n z => z.trans hT4.sm.le m5.le
    refine (loop_ok relK_mono (itd_inner hT5 C1.bB.plus j5 ja5 sub5) ?_ q5 (hT5.inner relK_mono) hl5).mono fun _ h6 ⟨ds, b6, hT6, k6⟩ => ⟨ds, b6, hT5.outer relK_mono hT6, k6⟩
    intro x1 a1 b1' K1 h6 v1 st1 hT1 av1
    simp only [wp_bind]
    have bB5 : Bd (F.plus h1.length) B h5 := fun n z => ⟨Nat.lt_of_lt_of_le (C1.bB.plus n z).1 hT5.sm.le, (C1.bB.plus (o := .dic []) n z).2⟩
    have C6 := cxt_turn bB5 C5.ev hT1
    refine (sG1 st1 av1 C6.ev).mono fun σ3 h7 ⟨e7, ρ3, ev3, st4⟩ => ?_
    subst e7
    have C7 : Cxt F ⟨h7, Nw (Nw (Nw R h h1) (h1 ++ [.dic []]) h5) h5 h7⟩ B h7 (Nw (Nw (Nw R h h1) (h1 ++ [.dic []]) h5) h5 h7) ρ3 σ3 b1' := ⟨C6.i, C6.bB, C6.bd, ev3, .refl, fun _ => .inl⟩
    refine calmX (sT1.step st4 C7 fun k8 h8 b8 m8 C8 st5 => ?_)
    have hT8 := hT1.go relK_mono m8 C8.i
    cases k8 with
    | false => rw [if_neg (by decide)] at st5; exact ⟨a1, b8, hT8, st5⟩
    | true =>
      rw [if_pos rfl] at st5
      simp only [if_true, wp_bind]
      refine calmX (sK.step st5 (cxt_mid C8 hT1.sm.le hT8 m8.le) fun y h9 sy b9 m9 C9 ay st6 => ?_)
      have hT9 := hT8.go relK_mono m9 C9.i
      refine calmX (sE.step st6 (cxt_mid C9 hT8.sm.le hT9 m9.le) fun u hA s bA mA CA aA ⟨hk, hl2, kk, ek, st7⟩ => ?_)
      obtain ⟨i1, i2⟩ := item_at hT9 mA aA hk
      exact put_k (hT9.go relK_mono mA CA.i) (key_ok ay.toV ek) i1 i2 hl2 fun hB hTB => ⟨_, bA, hTB, st7⟩
/-! ### all of them -/
structure SAll (F : Frm) (B : Nat → Prop) (G : Env) (S : Sps) (c : Calls) (u : T) : Prop where
  x : SX F B G S c u
  t : ST F B G S c u
  a : SA F B G S c u
  l : SL' F B G S c u
  p : SP F B G S c u
  i : SI F B G S c u
  g : SG F B G S c u
  gs : SGs F B G S c u
theorem x_non : SX F B G S c (.non) := fun {A X h R ρ σ b Q} q C => by
  rw [dX] at q
  rw [w_non]
  exact fin_un (d := .non) .refl C.i rfl q
theorem x_bl {k : Bool} : SX F B G S c (.bl k) := fun {A X h R ρ σ b Q} q C => by
  rw [dX] at q
  rw [w_bl]
  exact fin_un (d := .bl k) .refl C.i rfl q
theorem x_int {k : Int} : SX F B G S c (.int k) := fun {A X h R ρ σ b Q} q C => by
  rw [dX] at q
  rw [w_int]
  exact fin_un (d := .int k) .refl C.i rfl q
theorem x_str {k : Str} : SX F B G S c (.str k) := fun {A X h R ρ σ b Q} q C => by
  rw [dX] at q
  rw [w_str]
  exact fin_un (d := .str k) .refl C.i rfl q
theorem x_glob {k : Str} : SX F B G S c (.glob k) := fun {A X h R ρ σ b Q} q C => by
  rw [dX] at q
  rw [w_glob]
  exact fin_un (d := .gl k) .refl C.i rfl q
theorem x_ty {k : String} : SX F B G S c (.ty k) := fun {A X h R ρ σ b Q} q C => by
  rw [dX] at q
  rw [w_ty]
  exact fin_un (d := .ty k) .refl C.i rfl q
/-- what the evaluator of trees promises, the evaluator keeps -/
theorem all_ok (O : SpOk F G c S) : ∀ u : T, SAll F B G S c u := by
  intro u
  induction u with
  | non   => exact ⟨x_non, fun q _ => False.elim q, fun q _ => False.elim q, fun q _ => False.elim q, fun q _ => False.elim q, fun q _ => False.elim q, fun q _ _ => False.elim q, fun q _ _ => False.elim q⟩
  | bl k  => exact ⟨x_bl, fun q _ => False.elim q, fun q _ => False.elim q, fun q _ => False.elim q, fun q _ => False.elim q, fun q _ => False.elim q, fun q _ _ => False.elim q, fun q _ _ => False.elim q⟩
  | int i  => exact ⟨x_int, fun q _ => False.elim q, fun q _ => False.elim q, fun q _ => False.elim q, fun q _ => False.elim q, fun q _ => False.elim q, fun q _ _ => False.elim q, fun q _ _ => False.elim q⟩
  | str x  => exact ⟨x_str, fun q _ => False.elim q, fun q _ => False.elim q, fun q _ => False.elim q, fun q _ => False.elim q, fun q _ => False.elim q, fun q _ _ => False.elim q, fun q _ _ => False.elim q⟩
  | var i  => exact ⟨x_var, fun q _ => False.elim q, fun q _ => False.elim q, fun q _ => False.elim q, fun q _ => False.elim q, fun q _ => False.elim q, fun q _ _ => False.elim q, fun q _ _ => False.elim q⟩
  | glob x  => exact ⟨x_glob, fun q _ => False.elim q, fun q _ => False.elim q, fun q _ => False.elim q, fun q _ => False.elim q, fun q _ => False.elim q, fun q _ _ => False.elim q, fun q _ _ => False.elim q⟩
  | ty x  => exact ⟨x_ty, fun q _ => False.elim q, fun q _ => False.elim q, fun q _ => False.elim q, fun q _ => False.elim q, fun q _ => False.elim q, fun q _ _ => False.elim q, fun q _ _ => False.elim q⟩
  | bin op a b ia ib => exact ⟨x_bin ia.x ib.x, fun q _ => False.elim q, fun q _ => False.elim q, fun q _ => False.elim q, fun q _ => False.elim q, fun q _ => False.elim q, fun q _ _ => False.elim q, fun q _ _ => False.elim q⟩
  | neg a ia => exact ⟨x_neg ia.x, fun q _ => False.elim q, fun q _ => False.elim q, fun q _ => False.elim q, fun q _ => False.elim q, fun q _ => False.elim q, fun q _ _ => False.elim q, fun q _ _ => False.elim q⟩
  | inv a ia => exact ⟨x_inv ia.x, fun q _ => False.elim q, fun q _ => False.elim q, fun q _ => False.elim q, fun q _ => False.elim q, fun q _ => False.elim q, fun q _ _ => False.elim q, fun q _ _ => False.elim q⟩
  | nt a ia => exact ⟨x_nt ia.x, fun q _ => False.elim q, fun q _ => False.elim q, fun q _ => False.elim q, fun q _ => False.elim q, fun q _ => False.elim q, fun q _ _ => False.elim q, fun q _ _ => False.elim q⟩
  | and a b ia ib => exact ⟨x_and ia.x ib.x, fun q _ => False.elim q, fun q _ => False.elim q, fun q _ => False.elim q, fun q _ => False.elim q, fun q _ => False.elim q, fun q _ _ => False.elim q, fun q _ _ => False.elim q⟩
  | or a b ia ib => exact ⟨x_or ia.x ib.x, fun q _ => False.elim q, fun q _ => False.elim q, fun q _ => False.elim q, fun q _ => False.elim q, fun q _ => False.elim q, fun q _ _ => False.elim q, fun q _ _ => False.elim q⟩
  | cmp op a b ia ib => exact ⟨x_cmp O ia.x ib.x, fun q _ => False.elim q, fun q _ => False.elim q, fun q _ => False.elim q, fun q _ => False.elim q, fun q _ => False.elim q, fun q _ _ => False.elim q, fun q _ _ => False.elim q⟩
  | chain op op1 a b d ia ib id => exact ⟨x_chain ia.x ib.x id.x, fun q _ => False.elim q, fun q _ => False.elim q, fun q _ => False.elim q, fun q _ => False.elim q, fun q _ => False.elim q, fun q _ _ => False.elim q, fun q _ _ => False.elim q⟩
  | ite d a b id ia ib => exact ⟨x_ite id.t ia.x ib.x, fun q _ => False.elim q, fun q _ => False.elim q, fun q _ => False.elim q, fun q _ => False.elim q, fun q _ => False.elim q, fun q _ _ => False.elim q, fun q _ _ => False.elim q⟩
  | lst a ia => exact ⟨x_lst ia.a, fun q _ => False.elim q, fun q _ => False.elim q, fun q _ => False.elim q, fun q _ => False.elim q, fun q _ => False.elim q, fun q _ _ => False.elim q, fun q _ _ => False.elim q⟩
  | tup a ia => exact ⟨x_tup ia.a, fun q _ => False.elim q, fun q _ => False.elim q, fun q _ => False.elim q, fun q _ => False.elim q, fun q _ => False.elim q, fun q _ _ => False.elim q, fun q _ _ => False.elim q⟩
  | dic a ia => exact ⟨x_dic, fun q _ => False.elim q, fun q _ => False.elim q, fun q _ => False.elim q, fun q _ => False.elim q, fun q _ => False.elim q, fun q _ _ => False.elim q, fun q _ _ => False.elim q⟩
  | callF f a ia => exact ⟨x_callF O ia.a, fun q _ => False.elim q, fun q _ => False.elim q, fun q _ => False.elim q, fun q _ => False.elim q, fun q _ => False.elim q, fun q _ _ => False.elim q, fun q _ _ => False.elim q⟩
  | callC f a ia => exact ⟨x_callC O ia.a, fun q _ => False.elim q, fun q _ => False.elim q, fun q _ => False.elim q, fun q _ => False.elim q, fun q _ => False.elim q, fun q _ _ => False.elim q, fun q _ _ => False.elim q⟩
  | callB f a ia => exact ⟨x_callB ia.l, fun q _ => False.elim q, fun q _ => False.elim q, fun q _ => False.elim q, fun q _ => False.elim q, fun q _ => False.elim q, fun q _ _ => False.elim q, fun q _ _ => False.elim q⟩
  | meth a m b ia ib => exact ⟨x_meth ia.x, fun q _ => False.elim q, fun q _ => False.elim q, fun q _ => False.elim q, fun q _ => False.elim q, fun q _ => False.elim q, fun q _ _ => False.elim q, fun q _ _ => False.elim q⟩
  | methO a m b ia ib => exact ⟨x_methO O ia.x ib.a, fun q _ => False.elim q, fun q _ => False.elim q, fun q _ => False.elim q, fun q _ => False.elim q, fun q _ => False.elim q, fun q _ _ => False.elim q, fun q _ _ => False.elim q⟩
  | fld a x ia => exact ⟨x_fld ia.x, fun q _ => False.elim q, fun q _ => False.elim q, fun q _ => False.elim q, fun q _ => False.elim q, fun q _ => False.elim q, fun q _ _ => False.elim q, fun q _ _ => False.elim q⟩
  | ix a b ia ib => exact ⟨x_ix ia.x ib.x, fun q _ => False.elim q, fun q _ => False.elim q, fun q _ => False.elim q, fun q _ => False.elim q, fun q _ => False.elim q, fun q _ _ => False.elim q, fun q _ _ => False.elim q⟩
  | slc a b d ia ib id => exact ⟨x_slc ia.x ib.p id.p, fun q _ => False.elim q, fun q _ => False.elim q, fun q _ => False.elim q, fun q _ => False.elim q, fun q _ => False.elim q, fun q _ _ => False.elim q, fun q _ _ => False.elim q⟩
  | rev a ia => exact ⟨x_rev ia.x, fun q _ => False.elim q, fun q _ => False.elim q, fun q _ => False.elim q, fun q _ => False.elim q, fun q _ => False.elim q, fun q _ _ => False.elim q, fun q _ _ => False.elim q⟩
  | lrange a ia => exact ⟨x_lrange ia.l, fun q _ => False.elim q, fun q _ => False.elim q, fun q _ => False.elim q, fun q _ => False.elim q, fun q _ => False.elim q, fun q _ _ => False.elim q, fun q _ _ => False.elim q⟩
  | comp a b d e o ia ib id ie => exact ⟨x_comp id.i ib.g ie.t ia.x, fun q _ => False.elim q, fun q _ => False.elim q, fun q _ => False.elim q, fun q _ => False.elim q, fun q _ => False.elim q, fun q _ _ => False.elim q, fun q _ _ => False.elim q⟩
  | comp2 a b d e a1 b1 d1 o p ia ib id ie ia1 ib1 id1 => exact ⟨x_comp2 id.i ib.g ie.t ib1.i ia1.g id1.t ia.x, fun q _ => False.elim q, fun q _ => False.elim q, fun q _ => False.elim q, fun q _ => False.elim q, fun q _ => False.elim q, fun q _ _ => False.elim q, fun q _ _ => False.elim q⟩
  | dcomp k0 a b d e o ik0 ia ib id ie => exact ⟨x_dcomp id.i ib.g ie.t ik0.x ia.x, fun q _ => False.elim q, fun q _ => False.elim q, fun q _ => False.elim q, fun q _ => False.elim q, fun q _ => False.elim q, fun q _ _ => False.elim q, fun q _ _ => False.elim q⟩
  | dcomp2 k0 a b d e a1 b1 d1 o p ik0 ia ib id ie ia1 ib1 id1 => exact ⟨x_dcomp2 id.i ib.g ie.t ib1.i ia1.g id1.t ik0.x ia.x, fun q _ => False.elim q, fun q _ => False.elim q, fun q _ => False.elim q, fun q _ => False.elim q, fun q _ => False.elim q, fun q _ _ => False.elim q, fun q _ _ => False.elim q⟩
  | nil   => exact ⟨fun q _ => False.elim q, fun q _ => False.elim q, a_nil, l_nil, fun q _ => False.elim q, fun q _ => False.elim q, fun q _ _ => False.elim q, gs_nil' (F := F)⟩
  | cons a b ia ib => exact ⟨fun q _ => False.elim q, fun q _ => False.elim q, a_cons ia.x ib.a, l_cons ia.x ib.l, fun q _ => False.elim q, fun q _ => False.elim q, fun q _ _ => False.elim q, gs_cons' (F := F) ia.g ib.gs⟩
  | star a b ia ib => exact ⟨fun q _ => False.elim q, fun q _ => False.elim q, fun q _ => False.elim q, fun q _ => False.elim q, fun q _ => False.elim q, fun q _ => False.elim q, fun q _ _ => False.elim q, fun q _ _ => False.elim q⟩
  | skip   => exact ⟨fun q _ => False.elim q, fun q _ => False.elim q, fun q _ => False.elim q, fun q _ => False.elim q, p_no, fun q _ => False.elim q, fun q _ _ => False.elim q, fun q _ _ => False.elim q⟩
  | pSome a ia => exact ⟨fun q _ => False.elim q, fun q _ => False.elim q, fun q _ => False.elim q, fun q _ => False.elim q, p_some ia.x, fun q _ => False.elim q, fun q _ _ => False.elim q, fun q _ _ => False.elim q⟩
  | tAnd a b ia ib => exact ⟨fun q _ => False.elim q, t_and' ia.t ib.t, fun q _ => False.elim q, fun q _ => False.elim q, fun q _ => False.elim q, fun q _ => False.elim q, fun q _ _ => False.elim q, fun q _ _ => False.elim q⟩
  | tOr a b ia ib => exact ⟨fun q _ => False.elim q, t_or' ia.t ib.t, fun q _ => False.elim q, fun q _ => False.elim q, fun q _ => False.elim q, fun q _ => False.elim q, fun q _ _ => False.elim q, fun q _ _ => False.elim q⟩
  | tNot a ia => exact ⟨fun q _ => False.elim q, t_not' ia.t, fun q _ => False.elim q, fun q _ => False.elim q, fun q _ => False.elim q, fun q _ => False.elim q, fun q _ _ => False.elim q, fun q _ _ => False.elim q⟩
  | tVal a ia => exact ⟨fun q _ => False.elim q, t_val' ia.x, fun q _ => False.elim q, fun q _ => False.elim q, fun q _ => False.elim q, fun q _ => False.elim q, fun q _ _ => False.elim q, fun q _ _ => False.elim q⟩
  | tYes   => exact ⟨fun q _ => False.elim q, t_yes', fun q _ => False.elim q, fun q _ => False.elim q, fun q _ => False.elim q, fun q _ => False.elim q, fun q _ _ => False.elim q, fun q _ _ => False.elim q⟩
  | iSeq a ia => exact ⟨fun q _ => False.elim q, fun q _ => False.elim q, fun q _ => False.elim q, fun q _ => False.elim q, fun q _ => False.elim q, i_seq' ia.x, fun q _ _ => False.elim q, fun q _ _ => False.elim q⟩
  | iRng1 a ia => exact ⟨fun q _ => False.elim q, fun q _ => False.elim q, fun q _ => False.elim q, fun q _ => False.elim q, fun q _ => False.elim q, i_rng1' ia.l, fun q _ _ => False.elim q, fun q _ _ => False.elim q⟩
  | iRng2 a ia => exact ⟨fun q _ => False.elim q, fun q _ => False.elim q, fun q _ => False.elim q, fun q _ => False.elim q, fun q _ => False.elim q, i_rng2' ia.l, fun q _ _ => False.elim q, fun q _ _ => False.elim q⟩
  | iEnm a ia => exact ⟨fun q _ => False.elim q, fun q _ => False.elim q, fun q _ => False.elim q, fun q _ => False.elim q, fun q _ => False.elim q, i_enm' ia.x, fun q _ _ => False.elim q, fun q _ _ => False.elim q⟩
  | iZip a b ia ib => exact ⟨fun q _ => False.elim q, fun q _ => False.elim q, fun q _ => False.elim q, fun q _ => False.elim q, fun q _ => False.elim q, i_zip' ia.x ib.x, fun q _ _ => False.elim q, fun q _ _ => False.elim q⟩
  | tName i  => exact ⟨fun q _ => False.elim q, fun q _ => False.elim q, fun q _ => False.elim q, fun q _ => False.elim q, fun q _ => False.elim q, fun q _ => False.elim q, g_name' (F := F), fun q _ _ => False.elim q⟩
  | tTup a ia => exact ⟨fun q _ => False.elim q, fun q _ => False.elim q, fun q _ => False.elim q, fun q _ => False.elim q, fun q _ => False.elim q, fun q _ => False.elim q, g_tup' (F := F) ia.gs, fun q _ _ => False.elim q⟩
  | tSub a b ia ib => exact ⟨fun q _ => False.elim q, fun q _ => False.elim q, fun q _ => False.elim q, fun q _ => False.elim q, fun q _ => False.elim q, fun q _ => False.elim q, fun q _ _ => False.elim q, fun q _ _ => False.elim q⟩
  | tFld a x ia => exact ⟨fun q _ => False.elim q, fun q _ => False.elim q, fun q _ => False.elim q, fun q _ => False.elim q, fun q _ => False.elim q, fun q _ => False.elim q, fun q _ _ => False.elim q, fun q _ _ => False.elim q⟩
  | expr a ia => exact ⟨fun q _ => False.elim q, fun q _ => False.elim q, fun q _ => False.elim q, fun q _ => False.elim q, fun q _ => False.elim q, fun q _ => False.elim q, fun q _ _ => False.elim q, fun q _ _ => False.elim q⟩
  | ret a ia => exact ⟨fun q _ => False.elim q, fun q _ => False.elim q, fun q _ => False.elim q, fun q _ => False.elim q, fun q _ => False.elim q, fun q _ => False.elim q, fun q _ _ => False.elim q, fun q _ _ => False.elim q⟩
  | asg a b ia ib => exact ⟨fun q _ => False.elim q, fun q _ => False.elim q, fun q _ => False.elim q, fun q _ => False.elim q, fun q _ => False.elim q, fun q _ => False.elim q, fun q _ _ => False.elim q, fun q _ _ => False.elim q⟩
  | aug i op a ia => exact ⟨fun q _ => False.elim q, fun q _ => False.elim q, fun q _ => False.elim q, fun q _ => False.elim q, fun q _ => False.elim q, fun q _ => False.elim q, fun q _ _ => False.elim q, fun q _ _ => False.elim q⟩
  | iff d a b id ia ib => exact ⟨fun q _ => False.elim q, fun q _ => False.elim q, fun q _ => False.elim q, fun q _ => False.elim q, fun q _ => False.elim q, fun q _ => False.elim q, fun q _ _ => False.elim q, fun q _ _ => False.elim q⟩
  | «for» a b d ia ib id => exact ⟨fun q _ => False.elim q, fun q _ => False.elim q, fun q _ => False.elim q, fun q _ => False.elim q, fun q _ => False.elim q, fun q _ => False.elim q, fun q _ _ => False.elim q, fun q _ _ => False.elim q⟩
  | whl a b ia ib => exact ⟨fun q _ => False.elim q, fun q _ => False.elim q, fun q _ => False.elim q, fun q _ => False.elim q, fun q _ => False.elim q, fun q _ => False.elim q, fun q _ _ => False.elim q, fun q _ _ => False.elim q⟩
  | raise x a ia => exact ⟨fun q _ => False.elim q, fun q _ => False.elim q, fun q _ => False.elim q, fun q _ => False.elim q, fun q _ => False.elim q, fun q _ => False.elim q, fun q _ _ => False.elim q, fun q _ _ => False.elim q⟩
  | tryAs a x i b ia ib => exact ⟨fun q _ => False.elim q, fun q _ => False.elim q, fun q _ => False.elim q, fun q _ => False.elim q, fun q _ => False.elim q, fun q _ => False.elim q, fun q _ _ => False.elim q, fun q _ _ => False.elim q⟩
  | done   => exact ⟨fun q _ => False.elim q, fun q _ => False.elim q, fun q _ => False.elim q, fun q _ => False.elim q, fun q _ => False.elim q, fun q _ => False.elim q, fun q _ _ => False.elim q, fun q _ _ => False.elim q⟩
  | seq a b ia ib => exact ⟨fun q _ => False.elim q, fun q _ => False.elim q, fun q _ => False.elim q, fun q _ => False.elim q, fun q _ => False.elim q, fun q _ => False.elim q, fun q _ _ => False.elim q, fun q _ _ => False.elim q⟩
  | brk   => exact ⟨fun q _ => False.elim q, fun q _ => False.elim q, fun q _ => False.elim q, fun q _ => False.elim q, fun q _ => False.elim q, fun q _ => False.elim q, fun q _ _ => False.elim q, fun q _ _ => False.elim q⟩
  | cont   => exact ⟨fun q _ => False.elim q, fun q _ => False.elim q, fun q _ => False.elim q, fun q _ => False.elim q, fun q _ => False.elim q, fun q _ => False.elim q, fun q _ _ => False.elim q, fun q _ _ => False.elim q⟩
  | par o a ia => exact ⟨fun q _ => False.elim q, fun q _ => False.elim q, fun q _ => False.elim q, fun q _ => False.elim q, fun q _ => False.elim q, fun q _ => False.elim q, fun q _ _ => False.elim q, fun q _ _ => False.elim q⟩
end
end SL

set_option Elab.async false
set_option linter.all false
set_option maxRecDepth 100000
set_option maxHeartbeats 4000000
/-! Statements of trees. -/
namespace SL
open PySem
/-- a slot's list or dict is no longer its own -/
def frz1 : Option Sl → Option Sl
  | some (.jk _ _) => none
  | some s => some (.un s.d)
  | none => none
@[simp] def frz (ρ : DEnv) (i : Nat) : DEnv := match ρ[i]? with
  | some o => ρ.set i (frz1 o)
  | none => ρ
@[simp] def frzs (ρ : DEnv) : List Nat → DEnv
  | [] => ρ
  | i :: is => frzs (frz ρ i) is
/-- no slot has anything of its own -/
@[simp] def fz (ρ : DEnv) : DEnv := ρ.map frz1
/-- the slots that are read -/
@[simp] def rds : T → List Nat
  | .var i => [i]
  | .bin _ a c => rds a ++ rds c
  | .neg a => rds a
  | .inv a => rds a
  | .nt a => rds a
  | .and a c => rds a ++ rds c
  | .or a c => rds a ++ rds c
  | .cmp _ a c => rds a ++ rds c
  | .chain _ _ a c e => rds a ++ rds c ++ rds e
  | .ite t a c => rds t ++ rds a ++ rds c
  | .lst es => rds es
  | .tup es => rds es
  | .dic es => rds es
  | .callF _ es => rds es
  | .callC _ es => rds es
  | .callB _ es => rds es
  | .lrange es => rds es
  | .meth o _ es => rds o ++ rds es
  | .methO o _ es => rds o ++ rds es
  | .fld o _ => rds o
  | .ix a c => rds a ++ rds c
  | .slc a lo hi => rds a ++ rds lo ++ rds hi
  | .rev a => rds a
  | .comp e _ it cnd _ => rds e ++ rds it ++ rds cnd
  | .comp2 e _ it cnd _ it1 cnd1 _ _ => rds e ++ rds it ++ rds cnd ++ rds it1 ++ rds cnd1
  | .dcomp k e _ it cnd _ => rds k ++ rds e ++ rds it ++ rds cnd
  | .dcomp2 k e _ it cnd _ it1 cnd1 _ _ => rds k ++ rds e ++ rds it ++ rds cnd ++ rds it1 ++ rds cnd1
  | .cons e es => rds e ++ rds es
  | .pSome e => rds e
  | .tAnd a c => rds a ++ rds c
  | .tOr a c => rds a ++ rds c
  | .tNot a => rds a
  | .tVal e => rds e
  | .iSeq e => rds e
  | .iRng1 e => rds e
  | .iRng2 e => rds e
  | .iEnm e => rds e
  | .iZip a c => rds a ++ rds c
  | _ => []
mutual
/-- the slots whose values are kept by what the expression makes -/
@[simp] def esc : T → List Nat
  | .var i => [i]
  | .bin _ a c => escB a ++ escB c
  | .neg a => escB a
  | .inv a => escB a
  | .nt a => escB a
  | .and a c => esc a ++ esc c
  | .or a c => esc a ++ esc c
  | .cmp _ a c => escB a ++ escB c
  | .chain _ _ a c e => escB a ++ escB c ++ escB e
  | .ite t a c => escT t ++ esc a ++ esc c
  | .lst es => escA es
  | .tup es => escA es
  | .callF _ es => escA es
  | .callC _ es => escA es
  | .callB _ es => escL es
  | .lrange es => escL es
  | .meth o _ es => escB o ++ escA es
  | .methO o _ es => esc o ++ escA es
  | .fld o _ => escB o
  | .ix a c => escB a ++ escB c
  | .slc a lo hi => escB a ++ escL lo ++ escL hi
  | .rev a => escB a
  | .comp e _ it cnd _ => esc e ++ escI it ++ escT cnd
  | .comp2 e _ it cnd _ it1 cnd1 _ _ => esc e ++ escI it ++ escT cnd ++ escI it1 ++ escT cnd1
  | .dcomp k e _ it cnd _ => escB k ++ esc e ++ escI it ++ escT cnd
  | .dcomp2 k e _ it cnd _ it1 cnd1 _ _ => escB k ++ esc e ++ escI it ++ escT cnd ++ escI it1 ++ escT cnd1
  | _ => []
@[simp] def escB : T → List Nat
  | .var _ => []
  | .bin op a c => esc (.bin op a c)
  | .neg a => escB a
  | .inv a => escB a
  | .nt a => escB a
  | .and a c => esc a ++ esc c
  | .or a c => esc a ++ esc c
  | .cmp _ a c => escB a ++ escB c
  | .chain _ _ a c e => escB a ++ escB c ++ escB e
  | .ite t a c => escT t ++ esc a ++ esc c
  | .lst es => escA es
  | .tup es => escA es
  | .callF _ es => escA es
  | .callC _ es => escA es
  | .callB _ es => escL es
  | .lrange es => escL es
  | .meth o _ es => escB o ++ escA es
  | .methO o _ es => esc o ++ escA es
  | .fld o _ => escB o
  | .ix a c => escB a ++ escB c
  | .slc a lo hi => escB a ++ escL lo ++ escL hi
  | .rev a => escB a
  | .comp e _ it cnd _ => esc e ++ escI it ++ escT cnd
  | .comp2 e _ it cnd _ it1 cnd1 _ _ => esc e ++ escI it ++ escT cnd ++ escI it1 ++ escT cnd1
  | .dcomp k e _ it cnd _ => escB k ++ esc e ++ escI it ++ escT cnd
  | .dcomp2 k e _ it cnd _ it1 cnd1 _ _ => escB k ++ esc e ++ escI it ++ escT cnd ++ escI it1 ++ escT cnd1
  | _ => []
@[simp] def escT : T → List Nat
  | .tAnd a c => escT a ++ escT c
  | .tOr a c => escT a ++ escT c
  | .tNot a => escT a
  | .tVal e => escB e
  | _ => []
@[simp] def escA : T → List Nat
  | .cons e es => esc e ++ escA es
  | _ => []
@[simp] def escL : T → List Nat
  | .cons e es => escB e ++ escL es
  | .pSome e => escB e
  | _ => []
@[simp] def escI : T → List Nat
  | .iRng1 es => escL es
  | .iRng2 es => escL es
  | .iEnm e => escB e
  | .iZip a c => escB a ++ escB c
  | .iSeq e => escB e
  | _ => []
end
/-- .. and those that a for walks -/
@[simp] def escF : T → List Nat
  | .iRng1 es => escL es
  | .iRng2 es => escL es
  | .iEnm e => esc e
  | .iZip a c => esc a ++ esc c
  | .iSeq e => esc e
  | _ => []
/-- what is wished at the end of a statement -/
structure DE where
  nx : DEnv → Nat → Prop
  rt : Sl → Nat → Prop
  bk : DEnv → Nat → Prop := fun _ _ => False
  ct : DEnv → Nat → Prop := fun _ _ => False
  ex : Str → List (Str × Option D) → DEnv → Nat → Prop := fun _ _ _ _ => False
/-- slots that are changed: sh: at their top, dp: below it -/
structure Mu where
  sh : List Nat
  dp : List Nat
def ownS : Option (Option Sl) → Bool
  | some (some (.un _)) => false
  | some (some _) => true
  | _ => false
@[simp] def ownIn (ρ : DEnv) (l : List Nat) : Bool := l.any fun i => ownS ρ[i]?
def Sl.own : Sl → Sl
  | .fr (.lst ds) => .ow ds
  | .fr (.dic ks) => .ok ks
  | s => s
@[simp] def slotAs (mu : Mu) (i : Nat) (s : Sl) : Sl := if (mu.dp.contains i && s.isFr) = true then .fr s.d else if mu.sh.contains i = true then s.own else .un s.d
def setAllS (mu : Mu) (ρ : DEnv) : List Nat → List Sl → DEnv
  | i :: is, s :: ss => setAllS mu (ρ.set i (some (slotAs mu i s))) is ss
  | _, _ => ρ
def scalD : D → Bool
  | .int _ => true
  | .str _ => true
  | _ => false
@[simp] def litC : T → Bool
  | .non => true | .bl _ => true | .int _ => true | .str _ => true
  | .lst .nil => true
  | _ => false
/-- a slot and places in it -/
@[simp] def pathOf : T → Option (Nat × List Nat)
  | .var i => some (i, [])
  | .ix a (.int k) => if 0 ≤ k then (pathOf a).map fun p => (p.1, p.2 ++ [k.toNat]) else none
  | _ => none
@[simp] def getP : D → List Nat → Option D
  | d, [] => some d
  | .lst ds, k :: ks => match ds[k]? with
    | some d => getP d ks
    | none => none
  | .tup ds, k :: ks => match ds[k]? with
    | some d => getP d ks
    | none => none
  | _, _ => none
/-- o.append(x); else any expression -/
@[simp] def dExpr (G : Env) (S : Sps) (X : XD) (e : T) (ρ : DEnv) (b : Nat) (K : DEnv → Nat → Prop) : Prop := match e with
  | .meth o .append (.cons x .nil) => match pathOf o with
    | some (i, ks) => match ρ[i]? with
      | some (some (.ow _)) => ks = [] ∧ dX G S X x (frzs ρ (esc x)) b fun s b1 => s.kept = true ∧ ∃ ds, (frzs ρ (esc x))[i]? = some (some (.ow ds)) ∧ ds.length < sizeLine ∧ K ((frzs ρ (esc x)).set i (some (.ow (ds ++ [s.d])))) b1
      | some (some (.fr d)) => litC x = true ∧ ∃ ds, getP d ks = some (.lst ds) ∧ ds.length < sizeLine ∧ K (ρ.set i (some (.jk 1 d))) b
      | some (some (.jk c d)) => litC x = true ∧ ∃ ds, getP d ks = some (.lst ds) ∧ ds.length + c < sizeLine ∧ K (ρ.set i (some (.jk (c + 1) d))) b
      | _ => False
    | none => False
  | e => dX G S X e (fz ρ) b fun _ b1 => K ρ b1
@[simp] def dAsg (G : Env) (S : Sps) (X : XD) (mu : Mu) (tg e : T) (ρ : DEnv) (b : Nat) (K : DEnv → Nat → Prop) : Prop := match tg with
  | .tName i => (match e with
    | .meth (.var j) .pop .nil => ∃ ds d, ρ[j]? = some (some (.ow (ds ++ [d]))) ∧ K ((ρ.set j (some (.ow ds))).set i (some (.un d))) b
    | e => if ownIn ρ (rds e) = true then
        (dX G S X e (fz ρ) b fun s b1 => s.isFr = true ∧ K (ρ.set i (some (slotAs mu i s))) b1) ∨
        (dX G S X e (frzs ρ (esc e)) b fun s b1 => s.kept = true ∧ K ((frzs ρ (esc e)).set i (some (slotAs mu i s))) b1)
      else dX G S X e ρ b fun s b1 => s.kept = true ∧ K (ρ.set i (some (slotAs mu i s))) b1)
  | .tTup ts => if ownIn ρ (rds e) = true then
        (dX G S X e (fz ρ) b fun s b1 => s.isFr = true ∧ dG G S (.tTup ts) s.d ρ fun ρ2 => K ρ2 b1) ∨
        (dX G S X e (frzs ρ (esc e)) b fun s b1 => s.kept = true ∧ dG G S (.tTup ts) s.d (frzs ρ (esc e)) fun ρ2 => K ρ2 b1)
      else dX G S X e ρ b fun s b1 => s.kept = true ∧ dG G S (.tTup ts) s.d ρ fun ρ2 => K ρ2 b1
  | .tSub (.var i) ix => (∃ s, ρ[i]? = some (some s)) ∧ dX G S X e (frzs ρ (esc e ++ escB ix)) b fun s b1 => s.kept = true ∧ dX G S X ix (frzs ρ (esc e ++ escB ix)) b1 fun k b2 =>
      (∃ ds j n, (frzs ρ (esc e ++ escB ix))[i]? = some (some (.ow ds)) ∧ k.v = .int j ∧ L2.ixN ds.length j = some n ∧ K ((frzs ρ (esc e ++ escB ix)).set i (some (.ow (ds.set n s.d)))) b2) ∨
      ∃ ks kk, (frzs ρ (esc e ++ escB ix))[i]? = some (some (.ok ks)) ∧ keyD k.v = some kk ∧ ks.length < sizeLine ∧ K ((frzs ρ (esc e ++ escB ix)).set i (some (.ok (putD ks kk s.d)))) b2
  | _ => False
@[simp] def dRet (G : Env) (S : Sps) (X : XD) (e : T) (ρ : DEnv) (b : Nat) (K : Sl → Nat → Prop) : Prop := match e with
  | .var i => ∃ s, ρ[i]? = some (some s) ∧ s.kept = true ∧ K s b
  | e => dX G S X e (fz ρ) b fun s b1 => s.kept = true ∧ K s b1
/-- what an exception's object holds -/
@[simp] def excD (G : Env) (C : Str) (ds : List D) : Option (List (Str × Option D)) := match G.err C, ds with
  | some none, [] => some []
  | some (some x), [d] => some [(x, some d)]
  | some (some x), [] => some [(x, some .non)]
  | _, _ => none
/-- for x in y: x.append(c), y a list of lists of its own -/
@[simp] def dForApp (tg it bd : T) (ρ : DEnv) (b : Nat) (E : DE) : Prop := match tg, it, bd with
  | .tName i, .iSeq (.var j), .seq (.expr (.meth (.var k) .append (.cons c .nil))) .done => i = k ∧ i ≠ j ∧ i < ρ.length ∧ litC c = true ∧ ∃ ds, ρ[j]? = some (some (.fr (.lst ds))) ∧ (∀ d ∈ ds, ∃ xs, d = .lst xs ∧ xs.length + ds.length < sizeLine) ∧ ds.length < bigW ∧
      E.nx ((ρ.set j (some (.jk ds.length (.lst ds)))).set i none) b
  | _, _, _ => False
/-- statements -/
def dS (G : Env) (S : Sps) (mu : Mu) : T → DEnv → Nat → DE → Prop
  | .done, ρ, b, E => E.nx ρ b
  | .seq a c, ρ, b, E => dS G S mu a ρ b { E with nx := fun ρ1 b1 => dS G S mu c ρ1 b1 E }
  | .expr e, ρ, b, E => dExpr G S (fun C ds b => E.ex C ds (fz ρ) b) e ρ b E.nx
  | .ret e, ρ, b, E => dRet G S (fun C ds b => E.ex C ds (fz ρ) b) e ρ b E.rt
  | .asg tg e, ρ, b, E => dAsg G S (fun C ds b => E.ex C ds (fz ρ) b) mu tg e ρ b E.nx
  | .aug i op e, ρ, b, E => ∃ d, ρ[i]? = some (some (.un d)) ∧ scalD d = true ∧ dX G S (fun C ds b => E.ex C ds (fz ρ) b) e (fz ρ) b fun s b1 => scalD s.v = true ∧ binD op (.un d) (.un s.v) fun z => z.kept = true ∧ E.nx (ρ.set i (some (.un z.d))) b1
  | .iff t a c, ρ, b, E => dT G S (fun C ds b => E.ex C ds (fz ρ) b) t (fz ρ) b fun k b1 => if k = true then dS G S mu a ρ b1 E else dS G S mu c ρ b1 E
  | .for tg it bd, ρ, b, E => dForApp tg it bd ρ b E ∨ dI G S (fun C ds b => E.ex C ds (fz ρ) b) it (frzs ρ (escF it)) b fun items k b1 => k = true ∧ items.length < bigW ∧
      foldD (fun x ρ1 b2 K => dG G S tg x ρ1 fun ρ2 => dS G S mu bd ρ2 b2 { nx := K, ct := K, rt := E.rt, bk := E.nx, ex := E.ex }) items (frzs ρ (escF it)) b1 E.nx
  | .whl t bd, ρ, b, E => ∃ I : Nat → DEnv → Nat → Prop, (∃ n, n < bigW ∧ I n ρ b) ∧ ∀ n ρ b, I n ρ b → dT G S (fun C ds b => E.ex C ds (fz ρ) b) t (fz ρ) b fun k b1 =>
      if k = true then dS G S mu bd ρ b1 { nx := fun ρ2 b2 => ∃ m, m < n ∧ I m ρ2 b2, ct := fun ρ2 b2 => ∃ m, m < n ∧ I m ρ2 b2, rt := E.rt, bk := E.nx, ex := E.ex } else E.nx ρ b1
  | .par is es, ρ, b, E => dA G S (fun C ds b => E.ex C ds (fz ρ) b) es (frzs ρ (escA es)) b fun ss b1 => ss.length = is.length ∧ E.nx (setAllS mu (frzs ρ (escA es)) is ss) b1
  | .raise C es, ρ, b, E => dA G S (fun C ds b => E.ex C ds (fz ρ) b) es (fz ρ) b fun ss b1 => ∃ fs, excD G C (ss.map Sl.d) = some fs ∧ E.ex C fs (fz ρ) b1
  | .tryAs a C i s, ρ, b, E => dS G S mu a ρ b { E with ex := fun D ds ρ1 b1 => (G.sub D C = some true ∧ dS G S mu s (ρ1.set i (some (.un (.err D ds)))) b1
      { nx := fun ρ2 b2 => E.nx (ρ2.set i none) b2, rt := E.rt, bk := fun ρ2 b2 => E.bk (ρ2.set i none) b2, ct := fun ρ2 b2 => E.ct (ρ2.set i none) b2 }) ∨ (G.sub D C ≠ some true ∧ E.ex D ds ρ1 b1) }
  | .brk, ρ, b, E => E.bk ρ b
  | .cont, ρ, b, E => E.ct ρ b
  | _, _, _, _ => False
/-- the slots that a body changes in place: at the top -/
@[simp] def muts : T → List Nat
  | .seq a c => muts a ++ muts c
  | .expr (.meth (.var i) _ _) => [i]
  | .asg (.tSub (.var i) _) _ => [i]
  | .asg _ (.meth (.var i) .pop _) => [i]
  | .iff _ a c => muts a ++ muts c
  | .for _ _ b => muts b
  | .whl _ b => muts b
  | .tryAs a _ _ s => muts a ++ muts s
  | _ => []
/-- .. below it -/
@[simp] def mutd : T → List Nat
  | .seq a c => mutd a ++ mutd c
  | .expr (.meth (.ix a (.int k)) _ _) => match pathOf a with
    | some p => [p.1]
    | none => []
  | .iff _ a c => mutd a ++ mutd c
  | .for tg it b => (match tg, it, b with
    | .tName i, .iSeq (.var j), .seq (.expr (.meth (.var k) .append _)) .done => if i = k then [j] else []
    | _, _, _ => []) ++ mutd b
  | .whl _ b => mutd b
  | .tryAs a _ _ s => mutd a ++ mutd s
  | _ => []
@[simp] def muOf (t : T) : Mu := ⟨muts t, mutd t⟩
end SL

set_option Elab.async false
set_option linter.all false
set_option maxRecDepth 100000
set_option maxHeartbeats 4000000
/-! Statements of trees over heaps: slots. -/
namespace SL
open PySem
section
variable {F : Frm} {G : Env} {S : Sps} {c : Calls} {R R0 R' : Nat → Prop} {h h0 h1 h2 h3 h' : AH} {ρ ρ' : DEnv} {σ : ASt} {b b1 b2 : Nat} {own own1 : Nat → Nat → Prop} {W : Nat → Prop}
mutual
/-- v stands for what has grown from d: lists of which at most c items are new behind -/
def AtP (c : Nat) (h : AH) (W : Nat → Prop) : D → AV → Prop
  | .lst ds, v => ∃ n vs r, v = .ref n ∧ W n ∧ h[n]? = some (.lst (vs ++ r)) ∧ r.length ≤ c ∧ AtPL c h W ds vs
  | .tup ds, v => ∃ n vs, v = .ref n ∧ W n ∧ h[n]? = some (.tup vs) ∧ AtPL c h W ds vs
  | _, _ => True
def AtPL (c : Nat) (h : AH) (W : Nat → Prop) : List D → List AV → Prop
  | [], vs => vs = []
  | d :: ds, vs => ∃ v r, vs = v :: r ∧ AtP c h W d v ∧ AtPL c h W ds r
end
mutual
theorem at_atp {k : Nat} : ∀ {d : D} {v : AV}, At h W d v → AtP k h W d v
  | .lst ds, v, ⟨n, vs, e, r, hn, q⟩ => ⟨n, vs, [], e, r, by rw [List.append_nil]; exact hn, Nat.zero_le _, at_atpl q⟩
  | .tup ds, v, ⟨n, vs, e, r, hn, q⟩ => ⟨n, vs, e, r, hn, at_atpl q⟩
  | .non, _, _ | .bl _, _, _ | .int _, _, _ | .str _, _, _ | .dic _, _, _ | .obj _ _, _, _ | .err _ _, _, _ | .adr _, _, _ | .gl _, _, _ | .ty _, _, _ | .mem _, _, _ | .idt _ _, _, _ => trivial
theorem at_atpl {k : Nat} : ∀ {ds : List D} {vs : List AV}, AtL h W ds vs → AtPL k h W ds vs
  | [], vs, q => q
  | d :: ds, vs, ⟨v, r, e, a, q⟩ => ⟨v, r, e, at_atp a, at_atpl q⟩
end
mutual
theorem AtP.mono {k k' : Nat} {W' : Nat → Prop} (hk : k ≤ k') (w : ∀ n o, W n → h[n]? = some o → ∃ o', W' n ∧ h'[n]? = some o' ∧ (o' = o ∨ ∃ xs u, o = .lst xs ∧ o' = .lst (xs ++ [u]) ∧ k + 1 ≤ k')) : ∀ (d : D) (v : AV), AtP k h W d v → AtP k' h' W' d v
  | .lst ds, v, ⟨n, vs, r, e, hw, hn, hr, q⟩ => by
    obtain ⟨o', w1, e1, z⟩ := w n _ hw hn
    rcases z with rfl | ⟨xs, u, e2, rfl, hk2⟩
    · exact ⟨n, vs, r, e, w1, e1, Nat.le_trans hr hk, AtPL.mono hk w ds vs q⟩
    · cases e2
      exact ⟨n, vs, r ++ [u], e, w1, by rw [e1, List.append_assoc], by simp; omega, AtPL.mono hk w ds vs q⟩
  | .tup ds, v, ⟨n, vs, e, hw, hn, q⟩ => by
    obtain ⟨o', w1, e1, z⟩ := w n _ hw hn
    rcases z with rfl | ⟨xs, u, e2, _⟩
    · exact ⟨n, vs, e, w1, e1, AtPL.mono hk w ds vs q⟩
    · cases e2
  | .non, _, _ | .bl _, _, _ | .int _, _, _ | .str _, _, _ | .dic _, _, _ | .obj _ _, _, _ | .err _ _, _, _ | .adr _, _, _ | .gl _, _, _ | .ty _, _, _ | .mem _, _, _ | .idt _ _, _, _ => trivial
theorem AtPL.mono {k k' : Nat} {W' : Nat → Prop} (hk : k ≤ k') (w : ∀ n o, W n → h[n]? = some o → ∃ o', W' n ∧ h'[n]? = some o' ∧ (o' = o ∨ ∃ xs u, o = .lst xs ∧ o' = .lst (xs ++ [u]) ∧ k + 1 ≤ k')) : ∀ (ds : List D) (vs : List AV), AtPL k h W ds vs → AtPL k' h' W' ds vs
  | [], vs, q => q
  | d :: ds, vs, ⟨v, r, e, a, q⟩ => ⟨v, r, e, AtP.mono hk w d v a, AtPL.mono hk w ds r q⟩
end
theorem AtPL.len {k : Nat} {ds : List D} {vs : List AV} (q : AtPL k h W ds vs) : vs.length = ds.length := by
  induction ds generalizing vs with
  | nil => cases q; rfl
  | cons d ds ih => obtain ⟨v, r, rfl, _, q⟩ := q; simp [ih q]
theorem AtPL.get {k : Nat} {ds : List D} {vs : List AV} {i : Nat} {d : D} (q : AtPL k h W ds vs) (e : ds[i]? = some d) : ∃ v, vs[i]? = some v ∧ AtP k h W d v := by
  induction ds generalizing vs i with
  | nil => simp at e
  | cons d' ds ih =>
    obtain ⟨v, r, rfl, q1, q⟩ := q
    cases i with
    | zero => cases e; exact ⟨v, rfl, q1⟩
    | succ i => obtain ⟨u, e1, e2⟩ := ih (i := i) q e; exact ⟨u, e1, e2⟩
theorem getP_app : ∀ {d : D} {ks : List Nat} {k : Nat} {d' : D}, getP d (ks ++ [k]) = some d' → ∃ d1, getP d ks = some d1 ∧ ((∃ ds, d1 = .lst ds ∧ ds[k]? = some d') ∨ ∃ ds, d1 = .tup ds ∧ ds[k]? = some d')
  | d, [], k, d', e => by
    refine ⟨d, by cases d <;> rfl, ?_⟩
    cases d with
    | lst ds =>
      simp only [List.nil_append, getP] at e
      split at e
      · rename_i d2 e2
        exact .inl ⟨ds, rfl, by rw [e2]; cases d2 <;> exact e⟩
      · cases e
    | tup ds =>
      simp only [List.nil_append, getP] at e
      split at e
      · rename_i d2 e2
        exact .inr ⟨ds, rfl, by rw [e2]; cases d2 <;> exact e⟩
      · cases e
    | _ => cases e
  | .lst ds, j :: ks, k, d', e => by
    simp only [List.cons_append, getP] at e ⊢
    split at e
    · rename_i d2 e2
      exact getP_app e
    · cases e
  | .tup ds, j :: ks, k, d', e => by
    simp only [List.cons_append, getP] at e ⊢
    split at e
    · rename_i d2 e2
      exact getP_app e
    · cases e
  | .non, _ :: _, _, _, e | .bl _, _ :: _, _, _, e | .int _, _ :: _, _, _, e | .str _, _ :: _, _, _, e | .dic _, _ :: _, _, _, e | .obj _ _, _ :: _, _, _, e | .err _ _, _ :: _, _, _, e | .adr _, _ :: _, _, _, e | .gl _, _ :: _, _, _, e | .ty _, _ :: _, _, _, e | .mem _, _ :: _, _, _, e | .idt _ _, _ :: _, _, _, e => by cases e
theorem getP_nil {d : D} : getP d [] = some d := by cases d <;> rfl
/-- a place in a slot, found -/
theorem path_ok {k : Nat} {d : D} {v : AV} : ∀ {o : T} {i : Nat} {ks : List Nat} {d' : D} {X : EX} {P : AV → AH → Prop}, pathOf o = some (i, ks) → σ[i]? = some (some v) → AtP k h W d v → getP d ks = some d' → (∀ u, AtP k h W d' u → P u h) → (evE G c o σ h).wp X P := by
  intro o
  induction o with
  | var j =>
    intro i ks d' X P e es a g w
    cases e
    rw [w_var es]
    rw [getP_nil] at g; cases g
    exact w v a
  | ix a b ih _ =>
    intro i ks d' X P e es at1 g w
    cases b with
    | int j =>
      simp only [pathOf] at e
      split at e
      · rename_i hj
        obtain ⟨p, e1, e2⟩ := Option.map_eq_some_iff.mp e
        obtain ⟨i', ks'⟩ := p
        cases e2
        obtain ⟨d1, g1, g2⟩ := getP_app g
        rw [w_ix]
        refine ih e1 es at1 g1 fun u au => ?_
        rw [w_int]
        obtain ⟨n, rfl⟩ := Int.eq_ofNat_of_zero_le hj
        rcases g2 with ⟨ds, rfl, g2⟩ | ⟨ds, rfl, g2⟩
        · obtain ⟨m, vs, r, rfl, wm, hm, _, q⟩ := au
          obtain ⟨z, e3, az⟩ := q.get (i := n) g2
          rw [ix_lst hm]
          exact ⟨z, by rw [atI_nat, List.getElem?_append_left (List.getElem?_eq_some_iff.mp e3).1]; exact e3, w z az⟩
        · obtain ⟨m, vs, rfl, wm, hm, q⟩ := au
          obtain ⟨z, e3, az⟩ := q.get (i := n) g2
          rw [ix_tup hm]
          exact ⟨z, by rw [atI_nat]; exact e3, w z az⟩
      · cases e
    | _ => cases e
  | _ => intro i ks d' X P e; cases e
theorem const_ok {t : T} {X : EX} {P : AV → AH → Prop} (ht : litC t = true) (w : ∀ u l, plains l → P u (h ++ l)) : (evE G c t σ h).wp X P := by
  unfold litC at ht
  split at ht
  · rw [w_non]; simpa using w .non [] fun _ z => nomatch z
  · rename_i k; rw [w_bl]; simpa using w (.bl k) [] fun _ z => nomatch z
  · rename_i k; rw [w_int]; simpa using w (.int k) [] fun _ z => nomatch z
  · rename_i k; rw [w_str]; simpa using w (.str k) [] fun _ z => nomatch z
  · rw [w_lst, w_nil, n_lst]; exact ⟨by decide, w _ [.lst []] (.one rfl)⟩
  · cases ht
/-! ### the state behind a statement -/
def Rg (R0 : Nat → Prop) (h0 h : AH) (own : Nat → Nat → Prop) (n : Nat) : Prop := Nw R0 h0 h n ∧ ∀ i, ¬ own i n
def SlS (h : AH) (R : Nat → Prop) (o : Nat → Prop) (s : Sl) (v : AV) : Prop := match s with
  | .un d => At h R d v
  | .ow ds => ∃ n vs, o n ∧ v = .ref n ∧ h[n]? = some (.lst vs) ∧ AtL h R ds vs
  | .ok ds => ∃ n vs, o n ∧ v = .ref n ∧ h[n]? = some (.dic vs) ∧ AtK h R ds vs
  | .fr d => AtT h o d v
  | .jk c d => AtP c h o d v
  | .bo _ => False
structure Ev (F : Frm) (h0 : AH) (R0 : Nat → Prop) (h : AH) (ρ : DEnv) (σ : ASt) (b : Nat) (own : Nat → Nat → Prop) : Prop where
  sm : SameM F h0 h
  i : F.I b h
  i0 : ∃ b0, F.I b0 h0
  bd : Bd F R0 h0
  len : σ.length = ρ.length
  sl : ∀ (i : Nat) s, ρ[i]? = some (some s) → ∃ v, σ[i]? = some (some v) ∧ SlS h (Rg R0 h0 h own) (own i) s v
  ow : ∀ i n, own i n → h0.length ≤ n ∧ n < h.length
  inj : ∀ i j n, own i n → own j n → i = j
theorem Ev.lo (q : Ev F h0 R0 h ρ σ b own) {n : Nat} (z : F.M n) : n < h0.length := by obtain ⟨b0, i0⟩ := q.i0; exact F.low i0.1 z
theorem Ev.bdN (q : Ev F h0 R0 h ρ σ b own) : Bd F (Nw R0 h0 h) h := by obtain ⟨b0, i0⟩ := q.i0; exact q.bd.nw i0 q.sm
theorem Ev.rg (q : Ev F h0 R0 h ρ σ b own) : Bd F (Rg R0 h0 h own) h := fun n z => q.bdN n z.1
theorem Ev.om (q : Ev F h0 R0 h ρ σ b own) {i n : Nat} (e : own i n) : ¬ F.M n := fun m => by have := q.lo m; have := (q.ow i n e).1; omega
theorem Ev.bB (q : Ev F h0 R0 h ρ σ b own) : Bd F (fun n => ∃ i, own i n) h := fun n ⟨i, e⟩ => ⟨(q.ow i n e).2, q.om e⟩
/-- the slots at an expression -/
theorem Ev.cxt (q : Ev F h0 R0 h ρ σ b own) : Cxt F ⟨h, Nw R0 h0 h⟩ (fun n => ∃ i, own i n) h (Rg R0 h0 h own) ρ σ b := by
  refine ⟨q.i, q.bB, q.rg, ⟨q.len, fun i s e => ?_⟩, .refl, fun n z => .inl z.1⟩
  obtain ⟨v, e1, a⟩ := q.sl i s e
  refine ⟨v, e1, ?_⟩
  cases s with
  | un d => exact a
  | ow ds => obtain ⟨n, vs, e2, rfl, e3, a⟩ := a; exact ⟨n, vs, rfl, .inl ⟨i, e2⟩, e3, a⟩
  | ok ds => obtain ⟨n, vs, e2, rfl, e3, a⟩ := a; exact ⟨n, vs, rfl, .inl ⟨i, e2⟩, e3, a⟩
  | fr d => trivial
  | jk c d => trivial
  | bo d => exact a.elim
theorem SlS.un (q : Ev F h0 R0 h ρ σ b own) {i : Nat} {s : Sl} {v : AV} (a : SlS h (Rg R0 h0 h own) (own i) s v) (hj : ∀ c d, s ≠ .jk c d) (sub : ∀ n, Rg R0 h0 h own n → R' n) (sub2 : ∀ n, own i n → R' n) : At h R' s.d v := by
  cases s with
  | un d => exact At.sub (show At h (Rg R0 h0 h own) d v from a) sub
  | ow ds => obtain ⟨n, vs, e2, rfl, e3, a⟩ := a; exact ⟨n, vs, rfl, sub2 n e2, e3, a.sub sub⟩
  | ok ds => obtain ⟨n, vs, e2, rfl, e3, a⟩ := a; exact ⟨n, vs, rfl, sub2 n e2, e3, a.sub sub⟩
  | fr d => exact (AtT.toA (show AtT h (own i) d v from a)).sub sub2
  | jk c d => exact (hj c d rfl).elim
  | bo d => exact a.elim
theorem fz_get {i : Nat} {s : Sl} (e : (fz ρ)[i]? = some (some s)) : ∃ s', ρ[i]? = some (some s') ∧ (∀ c d, s' ≠ .jk c d) ∧ s = .un s'.d := by
  unfold fz at e
  rw [List.getElem?_map] at e
  obtain ⟨o, e1, e2⟩ := Option.map_eq_some_iff.mp e
  cases o with
  | none => cases e2
  | some s' =>
    refine ⟨s', e1, ?_⟩
    cases s' with
    | jk c d => cases e2
    | _ => cases e2; exact ⟨(fun _ _ z => nomatch z), rfl⟩
/-- .. none of which has anything of its own -/
theorem Ev.cxtF (q : Ev F h0 R0 h ρ σ b own) : Cxt F ⟨h, Nw R0 h0 h⟩ (fun _ => False) h (Nw R0 h0 h) (fz ρ) σ b := by
  refine ⟨q.i, fun _ z => z.elim, q.bdN, ⟨by unfold fz; rw [List.length_map]; exact q.len, fun i s e => ?_⟩, .refl, fun n z => .inl z⟩
  obtain ⟨s', e1, hj, rfl⟩ := fz_get e
  obtain ⟨v, e2, a⟩ := q.sl i s' e1
  exact ⟨v, e2, a.un q hj (fun n z => z.1) fun n z => .inr (q.ow i n z)⟩
theorem Ev.fz (q : Ev F h0 R0 h ρ σ b own) : Ev F h0 R0 h (SL.fz ρ) σ b (fun _ _ => False) := by
  refine ⟨q.sm, q.i, q.i0, q.bd, by unfold SL.fz; rw [List.length_map]; exact q.len, fun i s e => ?_, fun _ _ z => z.elim, fun _ _ _ z => z.elim⟩
  obtain ⟨s', e1, hj, rfl⟩ := fz_get e
  obtain ⟨v, e2, a⟩ := q.sl i s' e1
  exact ⟨v, e2, a.un q hj (fun n z => ⟨z.1, fun _ w => w⟩) fun n z => ⟨.inr (q.ow i n z), fun _ w => w⟩⟩
theorem AtT.monoO {d : D} {v : AV} {W' : Nat → Prop} (q : AtT h W d v) (sm : SameM F h h') (hm : ∀ n, W n → ¬ F.M n) (sub : ∀ n, W n → W' n) : AtT h' W' d v := q.mono ⟨fun r e p => ⟨sub _ r, sm.k (hm _ r) e p⟩, fun e => sm.m e⟩
theorem SlS.mv {R R' o o' : Nat → Prop} {s : Sl} {v : AV} (a : SlS h R o s v) (w : Mv R R' h h') (w2 : Mv o o' h h') : SlS h' R' o' s v := by
  cases s with
  | un d => exact At.mono w _ _ a
  | ow ds => obtain ⟨n, vs, e2, rfl, e3, a⟩ := a; exact ⟨n, vs, (w2.k e2 e3 rfl).1, rfl, (w2.k e2 e3 rfl).2, AtL.mono w _ _ a⟩
  | ok ds => obtain ⟨n, vs, e2, rfl, e3, a⟩ := a; exact ⟨n, vs, (w2.k e2 e3 rfl).1, rfl, (w2.k e2 e3 rfl).2, AtK.mono w _ _ a⟩
  | fr d => exact AtT.mono (show AtT h o d v from a) w2
  | jk c d =>
    have plain_p : ∀ (d : D) (v : AV), AtP c h o d v → AtP c h' o' d v := fun d v a => by
      let o2 : Nat → Prop := fun n => o n ∧ ∀ ob, h[n]? = some ob → ob.plain = true
      have pl : (∀ (d : D) (v : AV), AtP c h o d v → AtP c h o2 d v) := by
        intro d
        exact pl_p d
      exact AtP.mono (Nat.le_refl _) (fun n ob z e => ⟨ob, (w2.k z.1 e (z.2 ob e)).1, (w2.k z.1 e (z.2 ob e)).2, .inl rfl⟩) d v (pl d v a)
    exact plain_p d v a
  | bo d => exact a
where
  pl_p {c : Nat} {h : AH} {o : Nat → Prop} : ∀ (d : D) (v : AV), AtP c h o d v → AtP c h (fun n => o n ∧ ∀ ob, h[n]? = some ob → ob.plain = true) d v
    | .lst ds, v, ⟨n, vs, r, e, hw, hn, hr, q⟩ => ⟨n, vs, r, e, ⟨hw, fun ob e2 => by rw [hn] at e2; cases e2; rfl⟩, hn, hr, pl_ps ds vs q⟩
    | .tup ds, v, ⟨n, vs, e, hw, hn, q⟩ => ⟨n, vs, e, ⟨hw, fun ob e2 => by rw [hn] at e2; cases e2; rfl⟩, hn, pl_ps ds vs q⟩
    | .non, _, _ | .bl _, _, _ | .int _, _, _ | .str _, _, _ | .dic _, _, _ | .obj _ _, _, _ | .err _ _, _, _ | .adr _, _, _ | .gl _, _, _ | .ty _, _, _ | .mem _, _, _ | .idt _ _, _, _ => trivial
  pl_ps {c : Nat} {h : AH} {o : Nat → Prop} : ∀ (ds : List D) (vs : List AV), AtPL c h o ds vs → AtPL c h (fun n => o n ∧ ∀ ob, h[n]? = some ob → ob.plain = true) ds vs
    | [], vs, q => q
    | d :: ds, vs, ⟨v, r, e, a, q⟩ => ⟨v, r, e, pl_p d v a, pl_ps ds r q⟩
/-- behind an expression -/
theorem Ev.go (q : Ev F h0 R0 h ρ σ b own) (sm : SameM F h h') (i : F.I b1 h') : Ev F h0 R0 h' ρ σ b1 own := by
  refine ⟨q.sm.trans sm, i, q.i0, q.bd, q.len, fun j s e => ?_, fun j n e => ?_, q.inj⟩
  · obtain ⟨v, e1, a⟩ := q.sl j s e
    exact ⟨v, e1, a.mv (sm.mv q.rg fun n z => ⟨z.1.mono sm.le, z.2⟩) ⟨fun r e p => ⟨r, sm.k (q.om r) e p⟩, fun e => sm.m e⟩⟩
  · obtain ⟨h1, h2⟩ := q.ow j n e
    exact ⟨h1, Nat.lt_of_lt_of_le h2 sm.le⟩
structure Kp (R0 : Nat → Prop) (h0 h : AH) (own : Nat → Nat → Prop) (h' : AH) (own' : Nat → Nat → Prop) : Prop where
  le : h.length ≤ h'.length
  k : Mv (Rg R0 h0 h own) (Rg R0 h0 h' own') h h'
theorem Kp.refl : Kp R0 h0 h own h own := ⟨Nat.le_refl _, Mv.sub fun _ z => z⟩
theorem Mv.trans {R1 R2 R3 : Nat → Prop} (a : Mv R1 R2 h h1) (b : Mv R2 R3 h1 h2) : Mv R1 R3 h h2 := ⟨fun r e p => b.k (a.k r e p).1 (a.k r e p).2 p, fun e => let ⟨_, e1⟩ := a.m e; b.m e1⟩
theorem Kp.trans {own2 : Nat → Nat → Prop} (a : Kp R0 h0 h own h1 own1) (b : Kp R0 h0 h1 own1 h2 own2) : Kp R0 h0 h own h2 own2 := ⟨Nat.le_trans a.le b.le, a.k.trans b.k⟩
theorem Ev.kp (q : Ev F h0 R0 h ρ σ b own) (sm : SameM F h h') : Kp R0 h0 h own h' own := ⟨sm.le, sm.mv q.rg fun n z => ⟨z.1.mono sm.le, z.2⟩⟩
/-- less of their own -/
theorem Kp.less {own' : Nat → Nat → Prop} (w : ∀ i n, own' i n → own i n) : Kp R0 h0 h own h own' := ⟨Nat.le_refl _, Mv.sub fun n z => ⟨z.1, fun i e => z.2 i (w i n e)⟩⟩
theorem Rg.new {n : Nat} (q : Ev F h0 R0 h ρ σ b own) (sm : SameM F h h') (z : Nw (Rg R0 h0 h own) h h' n) : Rg R0 h0 h' own n := by
  rcases z with z | z
  · exact ⟨z.1.mono sm.le, z.2⟩
  · exact ⟨.inr ⟨Nat.le_trans q.sm.le z.1, z.2⟩, fun i e => by have := (q.ow i n e).2; omega⟩
def setO (own : Nat → Nat → Prop) (i : Nat) (W : Nat → Prop) : Nat → Nat → Prop := fun j n => if j = i then W n else own j n
theorem setO_same {i : Nat} : setO own i W i = W := by funext n; simp [setO]
theorem setO_ne {i j : Nat} (hj : j ≠ i) : setO own i W j = own j := by funext n; simp [setO, hj]
/-- a slot is given something; W: what it has of its own from now on, all of it new -/
theorem Ev.setW (q : Ev F h0 R0 h ρ σ b own) (sm : SameM F h h') (i' : F.I b1 h') (i : Nat) {s : Sl} {v : AV} (hW : ∀ n, W n → newR h h' n) (a : SlS h' (Rg R0 h0 h' (setO own i W)) W s v) :
    Ev F h0 R0 h' (ρ.set i (some s)) (σ.set i (some v)) b1 (setO own i W) ∧ Kp R0 h0 h own h' (setO own i W) ∧ ∀ n, Rg R0 h0 h own n → Rg R0 h0 h' (setO own i W) n := by
  have sub : ∀ n, Rg R0 h0 h own n → Rg R0 h0 h' (setO own i W) n := fun n z => ⟨z.1.mono sm.le, fun k e => by
    by_cases hk : k = i
    · subst hk; rw [setO_same] at e; have := (hW n e).1; have := (q.rg n z).1; omega
    · rw [setO_ne hk] at e; exact z.2 k e⟩
  refine ⟨⟨q.sm.trans sm, i', q.i0, q.bd, by simp [q.len], fun j s' e' => ?_, fun j n e' => ?_, fun j k n e1 e2 => ?_⟩, ⟨sm.le, sm.mv q.rg sub⟩, sub⟩
  · by_cases c : i = j
    · subst c
      have hl : i < ρ.length := by
        rcases Nat.lt_or_ge i ρ.length with z | z
        · exact z
        · rw [List.getElem?_eq_none (by simpa using z)] at e'; cases e'
      rw [List.getElem?_set_self hl] at e'; cases e'
      exact ⟨v, List.getElem?_set_self (by rw [q.len]; exact hl), by rw [setO_same]; exact a⟩
    · rw [List.getElem?_set_ne c] at e'
      obtain ⟨w, e1, a1⟩ := q.sl j s' e'
      refine ⟨w, by rw [List.getElem?_set_ne c]; exact e1, ?_⟩
      rw [setO_ne (Ne.symm c)]
      exact a1.mv (sm.mv q.rg sub) ⟨fun r e p => ⟨r, sm.k (q.om r) e p⟩, fun e => sm.m e⟩
  · by_cases c : j = i
    · subst c; rw [setO_same] at e'; exact ⟨Nat.le_trans q.sm.le (hW n e').1, (hW n e').2⟩
    · rw [setO_ne c] at e'; obtain ⟨z1, z2⟩ := q.ow j n e'; exact ⟨z1, Nat.lt_of_lt_of_le z2 sm.le⟩
  · by_cases c1 : j = i
    · subst c1
      rw [setO_same] at e1
      by_cases c2 : k = j
      · exact c2.symm
      · rw [setO_ne c2] at e2; have := (hW n e1).1; have := (q.ow k n e2).2; omega
    · rw [setO_ne c1] at e1
      by_cases c2 : k = i
      · subst c2; rw [setO_same] at e2; have := (hW n e2).1; have := (q.ow j n e1).2; omega
      · rw [setO_ne c2] at e2; exact q.inj j k n e1 e2
/-- .. what an expression has made -/
theorem Ev.setSl (q : Ev F h0 R0 h ρ σ b own) (sm : SameM F h h') (i' : F.I b1 h') (i : Nat) {B : Nat → Prop} {s : Sl} {v : AV} (a : SlAt B h h' (Rg R0 h0 h own) s v) (hk : s.kept = true) : ∃ own', Ev F h0 R0 h' (ρ.set i (some s)) (σ.set i (some v)) b1 own' ∧ Kp R0 h0 h own h' own' ∧ ∀ n, Rg R0 h0 h own n → Rg R0 h0 h' own' n := by
  have sub : ∀ (W : Nat → Prop) n, (Nw (Rg R0 h0 h own) h h' n ∧ ¬ W n) → (∀ n, W n → newR h h' n) → Rg R0 h0 h' (setO own i W) n := fun W n z hW => ⟨(Rg.new q sm z.1).1, fun k e => by
    by_cases hk : k = i
    · subst hk; rw [setO_same] at e; exact z.2 e
    · rw [setO_ne hk] at e; exact (Rg.new q sm z.1).2 k e⟩
  cases s with
  | un d => exact ⟨_, q.setW (W := fun _ => False) sm i' i (fun _ z => z.elim) (At.sub (show At h' (Nw (Rg R0 h0 h own) h h') d v from a) fun n z => sub _ n ⟨z, id⟩ fun _ z => z.elim)⟩
  | ow ds =>
    obtain ⟨n, vs, rfl, n1, n2, e, a⟩ := a
    have hW : ∀ m, m = n → newR h h' m := fun m z => by subst z; exact ⟨n1, n2⟩
    exact ⟨_, q.setW (W := fun m => m = n) sm i' i hW ⟨n, vs, rfl, rfl, e, a.sub fun m z => sub _ m z hW⟩⟩
  | ok ds =>
    obtain ⟨n, vs, rfl, n1, n2, e, a⟩ := a
    have hW : ∀ m, m = n → newR h h' m := fun m z => by subst z; exact ⟨n1, n2⟩
    exact ⟨_, q.setW (W := fun m => m = n) sm i' i hW ⟨n, vs, rfl, rfl, e, a.sub fun m z => sub _ m z hW⟩⟩
  | fr d => exact ⟨_, q.setW (W := newR h h') sm i' i (fun _ z => z) (show AtT h' (newR h h') d v from a)⟩
  | jk c d => cases hk
  | bo d => cases hk
/-- a slot is given a tree -/
theorem Ev.setUn (q : Ev F h0 R0 h ρ σ b own) (i : Nat) {d : D} {v : AV} (a : At h (Rg R0 h0 h own) d v) : ∃ own', Ev F h0 R0 h (ρ.set i (some (.un d))) (σ.set i (some v)) b own' ∧ Kp R0 h0 h own h own' ∧ ∀ n, Rg R0 h0 h own n → Rg R0 h0 h own' n := by
  have sub : ∀ n, Rg R0 h0 h own n → Rg R0 h0 h (setO own i fun _ => False) n := fun n z => ⟨z.1, fun k e => by
    by_cases hk : k = i
    · subst hk; rw [setO_same] at e; exact e
    · rw [setO_ne hk] at e; exact z.2 k e⟩
  obtain ⟨e, k, _⟩ := q.setW (W := fun _ => False) .refl q.i i (fun _ z => z.elim) (s := .un d) (At.sub a sub)
  exact ⟨_, e, k, sub⟩
theorem Ev.setNone (q : Ev F h0 R0 h ρ σ b own) (i : Nat) : Ev F h0 R0 h (ρ.set i none) (σ.set i none) b own := by
  refine ⟨q.sm, q.i, q.i0, q.bd, by simp [q.len], fun j s e => ?_, q.ow, q.inj⟩
  by_cases c : i = j
  · subst c
    by_cases hl : i < ρ.length
    · rw [List.getElem?_set_self hl] at e; cases e
    · rw [List.getElem?_eq_none (by simpa using hl)] at e; cases e
  · rw [List.getElem?_set_ne c] at e ⊢
    exact q.sl j s e
/-- what a slot has is its own no longer -/
theorem Ev.frz (q : Ev F h0 R0 h ρ σ b own) (i : Nat) : ∃ own', Ev F h0 R0 h (SL.frz ρ i) σ b own' ∧ Kp R0 h0 h own h own' := by
  unfold SL.frz
  cases e : ρ[i]? with
  | none => exact ⟨own, q, .refl⟩
  | some o =>
    have hl := (List.getElem?_eq_some_iff.mp e).1
    cases o with
    | none =>
      refine ⟨own, ⟨q.sm, q.i, q.i0, q.bd, by simp [q.len], fun j s e' => ?_, q.ow, q.inj⟩, .refl⟩
      by_cases c : i = j
      · subst c; simp only [frz1] at e'; rw [List.getElem?_set_self hl] at e'; cases e'
      · rw [List.getElem?_set_ne c] at e'; exact q.sl j s e'
    | some s =>
      have sub : ∀ n, Rg R0 h0 h own n → Rg R0 h0 h (setO own i fun _ => False) n := fun n z => ⟨z.1, fun k e => by
        by_cases hk : k = i
        · subst hk; rw [setO_same] at e; exact e
        · rw [setO_ne hk] at e; exact z.2 k e⟩
      have sub2 : ∀ n, own i n → Rg R0 h0 h (setO own i fun _ => False) n := fun n z => ⟨.inr (q.ow i n z), fun k e => by
        by_cases hk : k = i
        · subst hk; rw [setO_same] at e; exact e
        · rw [setO_ne hk] at e; exact hk (q.inj k i n e z)⟩
      refine ⟨setO own i fun _ => False, ⟨q.sm, q.i, q.i0, q.bd, by simp [q.len], fun j s' e' => ?_, fun j n e' => ?_, fun j k n e1 e2 => ?_⟩, Nat.le_refl _, Mv.sub sub⟩
      · by_cases c : i = j
        · subst c
          rw [List.getElem?_set_self hl] at e'
          obtain ⟨v, e1, a⟩ := q.sl i s e
          refine ⟨v, e1, ?_⟩
          cases s with
          | jk c d => cases e'
          | un d => cases e'; exact a.un q (fun _ _ z => nomatch z) sub sub2
          | ow d => cases e'; exact a.un q (fun _ _ z => nomatch z) sub sub2
          | ok d => cases e'; exact a.un q (fun _ _ z => nomatch z) sub sub2
          | fr d => cases e'; exact a.un q (fun _ _ z => nomatch z) sub sub2
          | bo d => exact a.elim
        · rw [List.getElem?_set_ne c] at e'
          obtain ⟨v, e1, a⟩ := q.sl j s' e'
          refine ⟨v, e1, ?_⟩
          rw [setO_ne (Ne.symm c)]
          exact a.mv (Mv.sub sub) (Mv.sub fun _ z => z)
      · by_cases c : j = i
        · subst c; rw [setO_same] at e'; exact e'.elim
        · rw [setO_ne c] at e'; exact q.ow j n e'
      · by_cases c : j = i
        · subst c; rw [setO_same] at e1; exact e1.elim
        · rw [setO_ne c] at e1
          by_cases c2 : k = i
          · subst c2; rw [setO_same] at e2; exact e2.elim
          · rw [setO_ne c2] at e2; exact q.inj j k n e1 e2
theorem Ev.frzs (q : Ev F h0 R0 h ρ σ b own) (l : List Nat) : ∃ own', Ev F h0 R0 h (SL.frzs ρ l) σ b own' ∧ Kp R0 h0 h own h own' := by
  induction l generalizing ρ own with
  | nil => exact ⟨own, q, .refl⟩
  | cons i l ih => obtain ⟨o, q1, k1⟩ := q.frz i; obtain ⟨o2, q2, k2⟩ := ih q1; exact ⟨o2, q2, k1.trans k2⟩
/-- a slot's own object is changed in place -/
theorem Ev.put (q : Ev F h0 R0 h ρ σ b own) {i n : Nat} {s : Sl} {o o' : AO} (e : own i n) (hn : h[n]? = some o) (po : o.plain = true) (po' : o'.plain = true) (he : ∃ s, ρ[i]? = some (some s)) {v : AV} (hσ : σ[i]? = some (some v))
    (a : ∀ h', h' = h.set n o' → Mv (Rg R0 h0 h own) (Rg R0 h0 h' own) h h' → h'[n]? = some o' → SlS h' (Rg R0 h0 h' own) (own i) s v) : Ev F h0 R0 (h.set n o') (ρ.set i (some s)) σ b own ∧ Kp R0 h0 h own (h.set n o') own := by
  obtain ⟨n1, n2⟩ := q.ow i n e
  have keep : Mv (Rg R0 h0 h own) (Rg R0 h0 (h.set n o') own) h (h.set n o') := set_mv hn po (fun m z e2 => z.2 i (by rw [e2]; exact e)) fun m z => ⟨z.1.mono (by simp), z.2⟩
  refine ⟨⟨⟨by rw [List.length_set]; exact q.sm.le, fun {m ob} hm e p => by
      rw [List.getElem?_set_ne (fun z => by have := lt_of e; omega)]; exact q.sm.k hm e p, fun {m ms kvs} e => by
      rw [List.getElem?_set_ne (fun z => by have := lt_of e; omega)]; exact q.sm.m e⟩, Frm.set q.i (q.om e) po', q.i0, q.bd, by simp [q.len], fun j s' e' => ?_, fun j m e' => ?_, q.inj⟩, by simp, keep⟩
  rotate_right
  · obtain ⟨k1, k2⟩ := q.ow j m e'; exact ⟨k1, by rw [List.length_set]; exact k2⟩
  rotate_right
  · by_cases c : i = j
    · subst c
      obtain ⟨s0, es⟩ := he
      rw [List.getElem?_set_self (List.getElem?_eq_some_iff.mp es).1] at e'; cases e'
      exact ⟨v, hσ, a _ rfl keep (List.getElem?_set_self n2)⟩
    · rw [List.getElem?_set_ne c] at e'
      obtain ⟨w, e1, a1⟩ := q.sl j s' e'
      exact ⟨w, e1, a1.mv keep (set_mv hn po (fun m z e2 => c (q.inj i j n e (by rw [← e2]; exact z))) fun _ z => z)⟩
end
end SL

set_option Elab.async false
set_option linter.all false
set_option maxRecDepth 100000
set_option maxHeartbeats 4000000
/-! Statements of trees over heaps. -/
namespace SL
open PySem
section
variable {F : Frm} {G : Env} {S : Sps} {c : Calls} {R R0 R' : Nat → Prop} {h h0 h1 h2 h3 h' : AH} {ρ ρ' : DEnv} {σ : ASt} {b b1 b2 : Nat} {own own1 : Nat → Nat → Prop} {mu : Mu} {E : DE}
/-- behind a statement -/
def FEs (F : Frm) (h0 : AH) (R0 : Nat → Prop) (h : AH) (own : Nat → Nat → Prop) (E : DE) : FE where
  nx := fun σ' h' => ∃ ρ' b' own', Ev F h0 R0 h' ρ' σ' b' own' ∧ Kp R0 h0 h own h' own' ∧ E.nx ρ' b'
  rt := Ret F h0 R0 E.rt
  bk := fun σ' h' => ∃ ρ' b' own', Ev F h0 R0 h' ρ' σ' b' own' ∧ Kp R0 h0 h own h' own' ∧ E.bk ρ' b'
  ct := fun σ' h' => ∃ ρ' b' own', Ev F h0 R0 h' ρ' σ' b' own' ∧ Kp R0 h0 h own h' own' ∧ E.ct ρ' b'
  ex := fun σ' C fs h' => ∃ ρ' ds b' own', Ev F h0 R0 h' ρ' σ' b' own' ∧ Kp R0 h0 h own h' own' ∧ AtF h' (Rg R0 h0 h' own') ds fs ∧ E.ex C ds ρ' b'
def SS (F : Frm) (G : Env) (S : Sps) (c : Calls) (mu : Mu) (t : T) : Prop := ∀ {h0 R0 h ρ σ b own E}, dS G S mu t ρ b E → Ev F h0 R0 h ρ σ b own → (evS G c t σ h).wp (FEs F h0 R0 h own E)
theorem ex_to (v : Ev F h0 R0 h ρ σ b own) {C : Str} {fs : List (Str × AV)} (q : XA F ⟨h, Nw R0 h0 h⟩ (fun C ds b => E.ex C ds (fz ρ) b) C fs h') : (FEs F h0 R0 h own E).ex σ C fs h' := by
  obtain ⟨ds, b', sm, i, a, k⟩ := q
  exact ⟨fz ρ, ds, b', _, v.fz.go sm i, ⟨sm.le, sm.mv v.rg fun n z => ⟨z.1.mono sm.le, fun _ w => w⟩⟩, a.sub fun n z => ⟨z.trans v.sm.le sm.le, fun _ w => w⟩, k⟩
variable (A : ∀ B u, SAll F B G S c u)
/-- an expression, nothing of one's own -/
theorem ev_f (A : ∀ B u, SAll F B G S c u) {e : T} {K : Sl → Nat → Prop} (q : dX G S (fun C ds b => E.ex C ds (fz ρ) b) e (fz ρ) b K) (v : Ev F h0 R0 h ρ σ b own) : (evE G c e σ h).wp ((FEs F h0 R0 h own E).ex σ) (Fin F (fun _ => False) h (Nw R0 h0 h) K) :=
  ((A _ e).x q v.cxtF).monoX (fun _ _ _ z => ex_to v z) fun _ _ z => z
/-- .. in slots some of which have been given away -/
theorem ev_u (A : ∀ B u, SAll F B G S c u) {e : T} {K : Sl → Nat → Prop} (v : Ev F h0 R0 h ρ σ b own) {ρ1 : DEnv} {b1 : Nat} {hh : AH} (q : dX G S (fun C ds b => E.ex C ds (fz ρ) b) e ρ1 b1 K) (v1 : Ev F h0 R0 h ρ1 σ b1 own1) : (evE G c e σ h).wp ((FEs F h0 R0 h own E).ex σ) (Fin F (fun n => ∃ i, own1 i n) h (Rg R0 h0 h own1) K) :=
  ((A _ e).x q v1.cxt).monoX (fun _ _ _ z => ex_to v z) fun _ _ z => z
/-- an exception behind something else -/
theorem ex_back (v : Ev F h0 R0 h ρ σ b own) (sm : SameM F h h1) {ρ1 : DEnv} (v1 : Ev F h0 R0 h1 ρ1 σ b1 own1) {C : Str} {fs : List (Str × AV)} (q : XA F ⟨h1, Nw R0 h0 h1⟩ (fun C ds b => E.ex C ds (fz ρ) b) C fs h') : (FEs F h0 R0 h own E).ex σ C fs h' :=
  ex_to v (XA.back q sm fun n z => by
    show Nw (Nw R0 h0 h) h h1 n
    rcases z with z | z
    · exact .inl (.inl z)
    · by_cases c : n < h.length
      · exact .inl (.inr ⟨z.1, c⟩)
      · exact .inr ⟨by omega, z.2⟩)
theorem fr_sl {B : Nat → Prop} {R : Nat → Prop} {s : Sl} {v : AV} {i : Nat} (a : AtT h' (newR h h') s.d v) (hf : s.isFr = true) : SlAt B h h' R (slotAs mu i s) v ∧ (slotAs mu i s).kept = true := by
  have un : SlAt B h h' R (.un s.d) v := a.toA.sub fun n z => .inr z
  unfold slotAs
  split
  · exact ⟨a, rfl⟩
  · split
    · cases s with
      | fr d =>
        cases d with
        | lst ds => obtain ⟨n, vs, e, r, hn, q⟩ := a; exact ⟨⟨n, vs, e, r.1, r.2, hn, q.sub fun m z => ⟨.inr z.1, z.2⟩⟩, rfl⟩
        | dic ds => obtain ⟨n, vs, e, r, hn, q⟩ := a; exact ⟨⟨n, vs, e, r.1, r.2, hn, q.sub fun m z => ⟨.inr z.1, z.2⟩⟩, rfl⟩
        | _ => exact ⟨a, rfl⟩
      | un d => exact ⟨un, rfl⟩
      | ow ds => obtain ⟨n, vs, e, r, hn, q⟩ := a; exact ⟨⟨n, vs, e, r.1, r.2, hn, q.sub fun m z => ⟨.inr z.1, z.2⟩⟩, rfl⟩
      | ok ds => obtain ⟨n, vs, e, r, hn, q⟩ := a; exact ⟨⟨n, vs, e, r.1, r.2, hn, q.sub fun m z => ⟨.inr z.1, z.2⟩⟩, rfl⟩
      | jk c d => cases hf
      | bo d => cases hf
    · exact ⟨un, rfl⟩
theorem as_sl {B : Nat → Prop} {R : Nat → Prop} {s : Sl} {v : AV} {i : Nat} (a : SlAt B h h' R s v) (hk : s.kept = true) : SlAt B h h' R (slotAs mu i s) v ∧ (slotAs mu i s).kept = true := by
  by_cases hf : s.isFr = true
  · exact fr_sl (a.fr hf) hf
  · have un : SlAt B h h' R (.un s.d) v := a.toK hk
    unfold slotAs
    split
    · rename_i hc; simp only [Bool.and_eq_true] at hc; exact absurd hc.2 hf
    · split
      · cases s with
        | fr d => exact absurd rfl hf
        | un d => exact ⟨a, rfl⟩
        | ow ds => exact ⟨a, rfl⟩
        | ok ds => exact ⟨a, rfl⟩
        | jk c d => cases hk
        | bo d => cases hk
      · exact ⟨un, rfl⟩
/-- arguments one behind the other, what each has made apart -/
def SlQ (F : Frm) (B R : Nat → Prop) : AH → Nat → AH → Nat → List Sl → List AV → Prop
  | h, b, h', b', [], vs => vs = [] ∧ h' = h ∧ b' = b
  | h, b, h', b', s :: ss, vs => ∃ v r h1 b1, vs = v :: r ∧ SameM F h h1 ∧ F.I b1 h1 ∧ SlAt B h h1 R s v ∧ SlQ F B R h1 b1 h' b' ss r
theorem saq (A : ∀ B u, SAll F B G S c u) {X : XD} {an : Anc} {B R : Nat → Prop} : ∀ {es : T} {h : AH} {b : Nat} {Q : List Sl → Nat → Prop}, dA G S X es ρ b Q → Cxt F an B h R ρ σ b → (evA G c es σ h).wp (XA F an X) fun vs h' => ∃ ss b', SlQ F B R h b h' b' ss vs ∧ (∀ s ∈ ss, s.kept = true) ∧ Q ss b' := by
  intro es
  induction es with
  | nil =>
    intro h b Q q C
    rw [dA] at q
    rw [w_nil]
    exact ⟨[], b, ⟨rfl, rfl, rfl⟩, (fun _ z => nomatch z), q⟩
  | cons e es _ ih =>
    intro h b Q q C
    rw [dA] at q
    rw [w_cons]
    refine ((A B e).x q C).mono fun v h1 ⟨s, b1, m1, i1, a1, hk, q1⟩ => ?_
    have C1 : Cxt F an B h1 R ρ σ b1 := ⟨i1, C.bB.up m1, C.bd.up m1, C.ev.go C.bB C.bd m1 (fun _ z => z), C.sm.trans m1, fun n z => (C.su n z).mono m1.le⟩
    refine (ih q1 C1).mono fun vs h2 ⟨ss, b2, qq, hks, k⟩ => ⟨s :: ss, b2, ⟨v, vs, h1, b1, rfl, m1, i1, a1, qq⟩, fun s' hs => (List.mem_cons.mp hs).elim (fun e => by rw [e]; exact hk) (hks s'), k⟩
  | _ => intro h b Q q; exact False.elim q
theorem Ev.setAllS {B R : Nat → Prop} : ∀ {ss : List Sl} {is : List Nat} {vs : List AV} {h : AH} {b : Nat} {ρ : DEnv} {σ : ASt} {own : Nat → Nat → Prop}, Ev F h0 R0 h ρ σ b own → SlQ F B R h b h' b1 ss vs → (∀ n, R n → Rg R0 h0 h own n) → (∀ s ∈ ss, s.kept = true) → ss.length = is.length →
    ∃ own', Ev F h0 R0 h' (SL.setAllS mu ρ is ss) (setAll σ is vs) b1 own' ∧ Kp R0 h0 h own h' own'
  | [], is, vs, h, b, ρ, σ, own, v, ⟨e, e2, e3⟩, _, _, hl => by
    subst e; subst e2; subst e3
    cases is with
    | nil => exact ⟨own, v, .refl⟩
    | cons i is => cases hl
  | s :: ss, [], vs, h, b, ρ, σ, own, v, q, sub, hk, hl => by cases hl
  | s :: ss, i :: is, vs, h, b, ρ, σ, own, v, ⟨u, r, h1, b2, e, m1, i1, a1, q⟩, sub, hk, hl => by
    subst e
    obtain ⟨a2, k2⟩ := as_sl (mu := mu) (i := i) a1 (hk s (List.mem_cons_self ..))
    obtain ⟨own1, v1, kp1, sub1⟩ := v.setSl m1 i1 i (a2.back (R := Rg R0 h0 h own) (Nat.le_refl _) m1.le fun n z => .inl (sub n z)) k2
    obtain ⟨own2, v2, kp2⟩ := Ev.setAllS v1 q (fun n z => sub1 n (sub n z)) (fun s hs => hk s (List.mem_cons_of_mem _ hs)) (by simpa using hl)
    exact ⟨own2, v2, kp1.trans kp2⟩
/-- the targets of a tuple -/
def TG1 (F : Frm) (G : Env) (S : Sps) (c : Calls) (t : T) : Prop := ∀ {h0 R0 h ρ σ b own d v K}, dG G S t d ρ K → Ev F h0 R0 h ρ σ b own → At h (Rg R0 h0 h own) d v → (evG G c t v σ h).wp noX fun σ' h' => h' = h ∧ ∃ ρ' own', Ev F h0 R0 h ρ' σ' b own' ∧ (∀ n, Rg R0 h0 h own n → Rg R0 h0 h own' n) ∧ K ρ'
def TG2 (F : Frm) (G : Env) (S : Sps) (c : Calls) (t : T) : Prop := ∀ {h0 R0 h ρ σ b own ds vs K}, dGs G S t ds ρ K → Ev F h0 R0 h ρ σ b own → AtL h (Rg R0 h0 h own) ds vs → (evGs G c t vs σ h).wp noX fun σ' h' => h' = h ∧ ∃ ρ' own', Ev F h0 R0 h ρ' σ' b own' ∧ (∀ n, Rg R0 h0 h own n → Rg R0 h0 h own' n) ∧ K ρ'
theorem tg_name {i : Nat} : TG1 F G S c (.tName i) := fun {h0 R0 h ρ σ b own d v K} q ev a => by
  rw [dG] at q
  rw [w_tName]
  obtain ⟨own', e, _, sub⟩ := ev.setUn i a
  exact ⟨rfl, _, own', e, sub, q⟩
theorem tg_tup {t : T} (s1 : TG2 F G S c t) : TG1 F G S c (.tTup t) := fun {h0 R0 h ρ σ b own d v K} q ev a => by
  rw [dG] at q
  obtain ⟨ds, e, q⟩ := q
  have a := a.strip
  rw [e] at a
  obtain ⟨n, vs, rfl, _, e1, a⟩ := a
  rw [w_tTup, tup_G e1]
  exact s1 q ev a
theorem tg_nil : TG2 F G S c .nil := fun {h0 R0 h ρ σ b own ds vs K} q ev a => by
  rw [dGs] at q
  obtain ⟨rfl, q⟩ := q
  cases a
  rw [w_gnil]
  exact ⟨rfl, _, _, ev, fun _ z => z, q⟩
theorem tg_cons {t t2 : T} (s1 : TG1 F G S c t) (s2 : TG2 F G S c t2) : TG2 F G S c (.cons t t2) := fun {h0 R0 h ρ σ b own ds vs K} q ev a => by
  rw [dGs] at q
  obtain ⟨d, r, rfl, q⟩ := q
  obtain ⟨v, ws, rfl, a1, a2⟩ := a
  rw [w_gcons]
  refine (s1 q ev a1).mono fun σ1 h1 ⟨e, ρ1, own1, ev1, w1, q1⟩ => ?_
  subst e
  refine (s2 q1 ev1 (a2.sub w1)).mono fun σ2 h2 ⟨e, ρ2, own2, ev2, w2, q2⟩ => ?_
  exact ⟨e, ρ2, own2, ev2, fun n z => w2 n (w1 n z), q2⟩
theorem tg_all : ∀ u : T, TG1 F G S c u ∧ TG2 F G S c u := by
  intro u
  induction u with
  | tName i => exact ⟨tg_name, fun q _ _ => False.elim q⟩
  | tTup t ih => exact ⟨tg_tup ih.2, fun q _ _ => False.elim q⟩
  | nil => exact ⟨fun q _ _ => False.elim q, tg_nil⟩
  | cons a b ia ib => exact ⟨fun q _ _ => False.elim q, tg_cons ia.1 ib.2⟩
  | _ => exact ⟨fun q _ _ => False.elim q, fun q _ _ => False.elim q⟩
/-- .. of a tree at a heap behind the slots' own -/
theorem tg_go {t : T} {d : D} {u : AV} {K : DEnv → Prop} {b1 : Nat} (k : dG G S t d ρ K) (v : Ev F h0 R0 h ρ σ b own) (m1 : SameM F h h1) (i1 : F.I b1 h1) (a : At h1 (Rg R0 h0 h1 own) d u) {X : EX} :
    (evG G c t u σ h1).wp X fun σ' h' => ∃ ρ' own', Ev F h0 R0 h' ρ' σ' b1 own' ∧ Kp R0 h0 h own h' own' ∧ K ρ' :=
  (((tg_all t).1 k (v.go m1 i1) a).mono fun σ' h' ⟨e, ρ', own', ev', w', k'⟩ => by
    subst e
    exact ⟨ρ', own', ev', (v.kp m1).trans ⟨Nat.le_refl _, Mv.sub w'⟩, k'⟩).noX
end
end SL

set_option Elab.async false
set_option linter.all false
set_option maxRecDepth 100000
set_option maxHeartbeats 4000000
/-! Statements of trees over heaps: expressions, assignments, returns. -/
namespace SL
open PySem
section
variable {F : Frm} {G : Env} {S : Sps} {c : Calls} {R R0 R' : Nat → Prop} {h h0 h1 h2 h3 h' : AH} {ρ ρ' : DEnv} {σ : ASt} {b b1 b2 : Nat} {own own1 : Nat → Nat → Prop} {mu : Mu} {E : DE}
/-- o.append(const) where a slot's list, or one below, has grown -/
theorem jk_app {X : EX} {o x : T} {i k : Nat} {ks : List Nat} {d : D} {ds : List D} {v : AV} {s0 : Sl} (ep : pathOf o = some (i, ks)) (v0 : Ev F h0 R0 h ρ σ b own) (es : ρ[i]? = some (some s0)) (e1 : σ[i]? = some (some v)) (a : AtP k h (own i) d v)
    (hc : litC x = true) (hg : getP d ks = some (.lst ds)) (hl : ds.length + k < sizeLine) : (evE G c (.meth o .append (.cons x .nil)) σ h).wp X fun _ h' => Ev F h0 R0 h' (ρ.set i (some (.jk (k + 1) d))) σ b own ∧ Kp R0 h0 h own h' own := by
  rw [w_meth]
  refine path_ok ep e1 a hg fun u au => ?_
  obtain ⟨m, vs, r, rfl, wm, hm, hr, q⟩ := au
  refine ⟨m_appOk hm, ?_⟩
  rw [w_cons]
  refine const_ok hc fun w l pl => ?_
  rw [w_nil, m_app (app_get hm)]
  refine ⟨by rw [List.length_append, q.len]; omega, ?_⟩
  have v1 := v0.go SameM.app (Frm.app v0.i pl)
  have a1 : AtP k (h ++ l) (own i) d v := AtP.mono (Nat.le_refl _) (fun n o z e => ⟨o, z, app_get e, .inl rfl⟩) d v a
  obtain ⟨v2, k2⟩ := v1.put (s := .jk (k + 1) d) (o' := .lst (vs ++ r ++ [w])) wm (app_get hm) rfl rfl ⟨_, es⟩ e1 fun h' eh kp e' => by
    refine AtP.mono (Nat.le_succ _) (fun n o z e => ?_) d v a1
    by_cases c : m = n
    · subst c
      rw [app_get hm] at e; cases e
      exact ⟨_, z, e', .inr ⟨_, _, rfl, rfl, Nat.le_refl _⟩⟩
    · exact ⟨o, z, by rw [eh, List.getElem?_set_ne c]; exact e, .inl rfl⟩
  exact ⟨v2, (v0.kp SameM.app).trans k2⟩
theorem ex_ok (A : ∀ B u, SAll F B G S c u) {e : T} {K : DEnv → Nat → Prop} (q : dExpr G S (fun C ds b => E.ex C ds (fz ρ) b) e ρ b K) (v : Ev F h0 R0 h ρ σ b own) : (evE G c e σ h).wp ((FEs F h0 R0 h own E).ex σ) fun _ h' => ∃ ρ' b' own', Ev F h0 R0 h' ρ' σ b' own' ∧ Kp R0 h0 h own h' own' ∧ K ρ' b' := by
  unfold dExpr at q
  split at q
  · rename_i o x
    split at q
    · rename_i i ks ep
      split at q
      · rename_i ds0 es0
        obtain ⟨rfl, q⟩ := q
        obtain ⟨w, e1, n, vs, eo, rfl, en, al⟩ := v.sl i _ es0
        have hv : o = .var i := by
          cases o with
          | var j => cases ep; rfl
          | ix a b =>
            cases b with
            | int j =>
              simp only [pathOf] at ep
              split at ep
              · obtain ⟨p, _, e2⟩ := Option.map_eq_some_iff.mp ep
                cases p; simp at e2
              · cases ep
            | _ => cases ep
          | _ => cases ep
        subst hv
        obtain ⟨own1, v1, kp1⟩ := v.frzs (esc x)
        rw [w_meth, w_var e1]
        refine ⟨m_appOk en, ?_⟩
        rw [w_cons]
        refine (ev_u A v (hh := h) q v1).mono fun u h1 ⟨s, b1, m1, i1, a1, hk, ds, es, hl, k⟩ => ?_
        rw [w_nil]
        have v2 := v1.go m1 i1
        obtain ⟨w2, e2, n', vs', eo', rfl, en2, al2⟩ := v2.sl i _ es
        rw [e1] at e2; cases e2
        rw [m_app en2]
        obtain ⟨v3, k3⟩ := v2.put (s := .ow (ds ++ [s.d])) (o' := .lst (vs' ++ [u])) eo' en2 rfl rfl ⟨_, es⟩ e1 fun h' _ kp e' => ⟨n, _, eo', rfl, e', AtL.app (AtL.mono kp _ _ al2) ⟨u, [], rfl, At.mono kp _ _ ((a1.toK hk).sub fun m z => Rg.new v1 m1 z), rfl⟩⟩
        exact ⟨by rw [al2.len]; exact hl, _, b1, own1, v3, kp1.trans ((v1.kp m1).trans k3), k⟩
      · rename_i d es0
        obtain ⟨hc, ds, hg, hl, k⟩ := q
        obtain ⟨w, e1, a⟩ := v.sl i _ es0
        exact (jk_app (k := 0) ep v es0 e1 (at_atp (AtT.toA a)) hc hg (by omega)).mono fun _ h' ⟨v1, k1⟩ => ⟨_, b, own, v1, k1, k⟩
      · rename_i c0 d es0
        obtain ⟨hc, ds, hg, hl, k⟩ := q
        obtain ⟨w, e1, a⟩ := v.sl i _ es0
        exact (jk_app ep v es0 e1 a hc hg hl).mono fun _ h' ⟨v1, k1⟩ => ⟨_, b, own, v1, k1, k⟩
      · exact q.elim
    · exact q.elim
  · exact (ev_f A q v).mono fun u h1 ⟨s, b1, m1, i1, a1, k⟩ => ⟨ρ, b1, own, v.go m1 i1, v.kp m1, k⟩
theorem ret_ok (A : ∀ B u, SAll F B G S c u) {e : T} {K : Sl → Nat → Prop} (q : dRet G S (fun C ds b => E.ex C ds (fz ρ) b) e ρ b K) (v : Ev F h0 R0 h ρ σ b own) : (evE G c e σ h).wp ((FEs F h0 R0 h own E).ex σ) (Ret F h0 R0 K) := by
  unfold dRet at q
  split at q
  · rename_i i
    obtain ⟨s, es, hk, k⟩ := q
    obtain ⟨w, e1, a⟩ := v.sl i s es
    rw [w_var e1]
    refine ⟨s, b, v.sm, v.i, ?_, hk, k⟩
    cases s with
    | un d => exact At.sub (R' := Nw R0 h0 h) (show At h (Rg R0 h0 h own) d w from a) fun n z => z.1
    | ow ds =>
      obtain ⟨n, vs, eo, rfl, en, al⟩ := a
      obtain ⟨n1, n2⟩ := v.ow i n eo
      exact ⟨n, vs, rfl, n1, n2, en, al.sub fun m z => ⟨z.1, fun ee => z.2 i (by rw [ee]; exact eo)⟩⟩
    | ok ds =>
      obtain ⟨n, vs, eo, rfl, en, al⟩ := a
      obtain ⟨n1, n2⟩ := v.ow i n eo
      exact ⟨n, vs, rfl, n1, n2, en, al.sub fun m z => ⟨z.1, fun ee => z.2 i (by rw [ee]; exact eo)⟩⟩
    | fr d => exact AtT.mono (show AtT h (own i) d w from a) (Mv.sub fun n z => v.ow i n z)
    | jk c d => cases hk
    | bo d => cases hk
  · exact (ev_f A q v).mono fun u h1 ⟨s, b1, m1, i1, a1, hk, k⟩ => ⟨s, b1, v.sm.trans m1, i1, (a1.back v.sm.le m1.le fun _ z => z).anyB hk, hk, k⟩
theorem asg_name (A : ∀ B u, SAll F B G S c u) {i : Nat} {e : T} {K : DEnv → Nat → Prop} (q : if ownIn ρ (rds e) = true then
        (dX G S (fun C ds b => E.ex C ds (fz ρ) b) e (fz ρ) b fun s b1 => s.isFr = true ∧ K (ρ.set i (some (slotAs mu i s))) b1) ∨
        (dX G S (fun C ds b => E.ex C ds (fz ρ) b) e (frzs ρ (esc e)) b fun s b1 => s.kept = true ∧ K ((frzs ρ (esc e)).set i (some (slotAs mu i s))) b1)
      else dX G S (fun C ds b => E.ex C ds (fz ρ) b) e ρ b fun s b1 => s.kept = true ∧ K (ρ.set i (some (slotAs mu i s))) b1) (v : Ev F h0 R0 h ρ σ b own) :
    (evE G c e σ h).wp ((FEs F h0 R0 h own E).ex σ) fun u h1 => (evG G c (.tName i) u σ h1).wp ((FEs F h0 R0 h own E).ex σ) fun σ' h' => ∃ ρ' b' own', Ev F h0 R0 h' ρ' σ' b' own' ∧ Kp R0 h0 h own h' own' ∧ K ρ' b' := by
  have un : ∀ {ρ1 own1}, Ev F h0 R0 h ρ1 σ b own1 → Kp R0 h0 h own h own1 → (dX G S (fun C ds b => E.ex C ds (fz ρ) b) e ρ1 b fun s b1 => s.kept = true ∧ K (ρ1.set i (some (slotAs mu i s))) b1) → (evE G c e σ h).wp ((FEs F h0 R0 h own E).ex σ) fun u h1 => (evG G c (.tName i) u σ h1).wp ((FEs F h0 R0 h own E).ex σ) fun σ' h' => ∃ ρ' b' own', Ev F h0 R0 h' ρ' σ' b' own' ∧ Kp R0 h0 h own h' own' ∧ K ρ' b' := by
    intro ρ1 own1 v1 kp1 q
    refine (ev_u A v (hh := h) q v1).mono fun u h1 ⟨s, b1, m1, i1, a1, hk, k⟩ => ?_
    rw [w_tName]
    obtain ⟨a2, k2⟩ := as_sl (mu := mu) (i := i) a1 hk
    obtain ⟨own2, v2, kp2, _⟩ := v1.setSl m1 i1 i a2 k2
    exact ⟨_, b1, own2, v2, kp1.trans kp2, k⟩
  split at q
  · rcases q with q | q
    · refine (ev_f A q v).mono fun u h1 ⟨s, b1, m1, i1, a1, hf, k⟩ => ?_
      rw [w_tName]
      obtain ⟨a2, k2⟩ := fr_sl (mu := mu) (B := fun _ => False) (R := Rg R0 h0 h own) (i := i) (a1.fr hf) hf
      obtain ⟨own2, v2, kp2, _⟩ := v.setSl m1 i1 i a2 k2
      exact ⟨_, b1, own2, v2, kp2, k⟩
    · obtain ⟨own1, v1, kp1⟩ := v.frzs (esc e)
      exact un v1 kp1 q
  · exact un v .refl q
theorem asg_okD (A : ∀ B u, SAll F B G S c u) {tg e : T} {K : DEnv → Nat → Prop} (q : dAsg G S (fun C ds b => E.ex C ds (fz ρ) b) mu tg e ρ b K) (v : Ev F h0 R0 h ρ σ b own) : (evE G c e σ h).wp ((FEs F h0 R0 h own E).ex σ) fun u h1 => (evG G c tg u σ h1).wp ((FEs F h0 R0 h own E).ex σ) fun σ' h' => ∃ ρ' b' own', Ev F h0 R0 h' ρ' σ' b' own' ∧ Kp R0 h0 h own h' own' ∧ K ρ' b' := by
  unfold dAsg at q
  split at q
  · rename_i i
    split at q
    · rename_i j
      obtain ⟨ds, d, es, k⟩ := q
      obtain ⟨w, e1, n, vs, eo, rfl, en, al⟩ := v.sl j _ es
      rw [w_meth, w_var e1]
      refine ⟨by simp only [recvOk, en], ?_⟩
      rw [w_nil]
      have split : ∃ vs' u, vs = vs' ++ [u] ∧ AtL h (Rg R0 h0 h own) ds vs' ∧ At h (Rg R0 h0 h own) d u := by
        clear es k en
        induction ds generalizing vs with
        | nil => obtain ⟨u, r, rfl, a1, rfl⟩ := al; exact ⟨[], u, rfl, rfl, a1⟩
        | cons x xs ih =>
          obtain ⟨u, r, rfl, a1, a2⟩ := al
          obtain ⟨vs', u', rfl, a3, a4⟩ := ih _ a2
          exact ⟨u :: vs', u', rfl, ⟨u, vs', rfl, a1, a3⟩, a4⟩
      obtain ⟨vs', u, rfl, a1, a2⟩ := split
      have last : (vs' ++ [u])[(vs' ++ [u]).length - 1]? = some u := by simp
      simp only [mthA, en, last]
      rw [wp_ok, w_tName]
      obtain ⟨v2, k2⟩ := v.put (s := .ow ds) (o' := .lst (vs' ++ [u]).dropLast) eo en rfl rfl ⟨_, es⟩ e1 fun h' _ kp e' => ⟨n, vs', eo, rfl, by rw [e', List.dropLast_concat], AtL.mono kp _ _ a1⟩
      obtain ⟨own3, v3, k3, _⟩ := v2.setUn i (At.mono k2.k _ _ a2)
      exact ⟨_, b, _, v3, k2.trans k3, k⟩
    · exact asg_name A q v
  · rename_i ts
    have un : ∀ {ρ1 own1}, Ev F h0 R0 h ρ1 σ b own1 → Kp R0 h0 h own h own1 → (dX G S (fun C ds b => E.ex C ds (fz ρ) b) e ρ1 b fun s b1 => s.kept = true ∧ dG G S (.tTup ts) s.d ρ1 fun ρ2 => K ρ2 b1) → (evE G c e σ h).wp ((FEs F h0 R0 h own E).ex σ) fun u h1 => (evG G c (.tTup ts) u σ h1).wp ((FEs F h0 R0 h own E).ex σ) fun σ' h' => ∃ ρ' b' own', Ev F h0 R0 h' ρ' σ' b' own' ∧ Kp R0 h0 h own h' own' ∧ K ρ' b' := by
      intro ρ1 own1 v1 kp1 q
      refine (ev_u A v (hh := h) q v1).mono fun u h1 ⟨s, b1, m1, i1, a1, hk, k⟩ => ?_
      refine (tg_go k v1 m1 i1 ((a1.toK hk).sub fun n z => Rg.new v1 m1 z)).mono fun σ' h' ⟨ρ', own', ev', kp', k'⟩ => ⟨ρ', b1, own', ev', kp1.trans kp', k'⟩
    split at q
    · rcases q with q | q
      · refine (ev_f A q v).mono fun u h1 ⟨s, b1, m1, i1, a1, hf, k⟩ => ?_
        refine (tg_go k v m1 i1 ((a1.fr hf).toA.sub fun n z => Rg.new v m1 (.inr z))).mono fun σ' h' ⟨ρ', own', ev', kp', k'⟩ => ⟨ρ', b1, own', ev', kp', k'⟩
      · obtain ⟨own1, v1, kp1⟩ := v.frzs (esc e)
        exact un v1 kp1 q
    · exact un v .refl q
  · rename_i i ix
    obtain ⟨⟨s0, es0⟩, q⟩ := q
    obtain ⟨w, e1, _⟩ := v.sl i s0 es0
    obtain ⟨own1, v1, kp1⟩ := v.frzs (esc e ++ escB ix)
    refine (ev_u A v (hh := h) q v1).mono fun u h1 ⟨s, b1, m1, i1, a1, hk, q1⟩ => ?_
    rw [w_tSub]
    have v2 := v1.go m1 i1
    rw [w_var e1]
    refine ((A _ ix).x q1 v2.cxt).monoX (fun _ _ _ z => ex_back v m1 v2 z) fun y h2 ⟨s2, b2, m2, i2, a2, kk⟩ => ?_
    have v3 := v2.go m2 i2
    have au : At h2 (Rg R0 h0 h2 own1) s.d u := At.go (((a1.toK hk).sub fun n z => Rg.new v1 m1 z)) v2.rg m2 fun n z => ⟨z.1.mono m2.le, z.2⟩
    rcases kk with ⟨ds, j, n, es, ej, hn, k⟩ | ⟨ks, kk, es, ek, hl, k⟩
    · obtain ⟨w', e1', p, vs, eo, rfl, en, al⟩ := v3.sl i _ es
      rw [e1] at e1'; cases e1'
      cases at_int a2.toV ej
      rw [sub_lst en]
      obtain ⟨v4, k4⟩ := v3.put (s := .ow (ds.set n s.d)) (o' := .lst (vs.set n u)) eo en rfl rfl ⟨_, es⟩ e1 fun h' _ kp e' => ⟨p, _, eo, rfl, e', AtL.set n (AtL.mono kp _ _ al) (At.mono kp _ _ au)⟩
      exact ⟨n, by rw [al.len]; exact hn, _, b2, own1, v4, kp1.trans ((v1.kp m1).trans ((v2.kp m2).trans k4)), k⟩
    · obtain ⟨w', e1', p, vs, eo, rfl, en, al⟩ := v3.sl i _ es
      rw [e1] at e1'; cases e1'
      have ky := key_ok a2.toV ek
      have sp : ∀ {X : EX} {P : Unit → AH → Prop}, P () (h2.set p (.dic (putK vs kk u))) → (subP (.ref p) y u h2).wp X P := fun {X P} hp => by
        cases y with
        | int i => simp only [subP, en, ky]; rw [if_pos (by rw [al.len]; exact hl)]; exact hp
        | str x => simp only [subP, en, ky]; rw [if_pos (by rw [al.len]; exact hl)]; exact hp
        | _ => cases ky
      obtain ⟨v4, k4⟩ := v3.put (s := .ok (putD ks kk s.d)) (o' := .dic (putK vs kk u)) eo en rfl rfl ⟨_, es⟩ e1 fun h' _ kp e' => ⟨p, _, eo, rfl, e', putK_ok kk (AtK.mono kp _ _ al) (At.mono kp _ _ au)⟩
      exact sp ⟨_, b2, own1, v4, kp1.trans ((v1.kp m1).trans ((v2.kp m2).trans k4)), k⟩
  · exact q.elim
end
end SL

set_option Elab.async false
set_option linter.all false
set_option maxRecDepth 100000
set_option maxHeartbeats 4000000
/-! Statements of trees over heaps: all of them; defs. -/
namespace SL
open PySem
/-- a while, by what holds ahead of each turn -/
theorem wp_whl {cnd : ASt → AH → R Bool} {body : ASt → AH → Fl} {E : FE} (I : Nat → ASt → AH → Prop) {n : Nat} {σ : ASt} {h : AH} (h0 : I n σ h) (hn : n < bigW)
    (go : ∀ n σ h, I n σ h → (cnd σ h).wp (E.ex σ) fun k h1 => if k = true then (body σ h1).wp { nx := fun σ h => ∃ m, m < n ∧ I m σ h, ct := fun σ h => ∃ m, m < n ∧ I m σ h, rt := E.rt, bk := E.nx, ex := E.ex } else E.nx σ h1) : (whlL cnd body bigW σ h).wp E := by
  have key : ∀ m n σ h, n < m → I n σ h → (whlL cnd body m σ h).wp E := by
    intro m
    induction m with
    | zero => intro n σ h z; omega
    | succ m ih =>
      intro n σ h hm hI
      rw [whlL]
      simp only [wpF_to]
      refine (go n σ h hI).mono fun k h1 q => ?_
      cases k with
      | false => rw [if_neg (by decide)] at q ⊢; exact q
      | true =>
        rw [if_pos rfl] at q ⊢
        revert q
        cases body σ h1 <;> first | exact fun ⟨m', hm', q⟩ => ih m' _ _ (by omega) q | exact id
  exact key bigW n σ h hn h0
section
variable {F : Frm} {G : Env} {S : Sps} {c : Calls} {R R0 R' : Nat → Prop} {h h0 h1 h2 h3 h' : AH} {ρ ρ' : DEnv} {σ : ASt} {b b1 b2 : Nat} {own own1 own2 : Nat → Nat → Prop} {mu : Mu} {t t1 t2 t3 : T} {k : Nat} {ds : List D} {E : DE}
theorem FEs.mono {f : Fl} {E : DE} (kp : Kp R0 h0 h own h1 own1) (q : f.wp (FEs F h0 R0 h1 own1 E)) : f.wp (FEs F h0 R0 h own E) :=
  q.mono (fun σ h ⟨ρ, b, o, v, k, e⟩ => ⟨ρ, b, o, v, kp.trans k, e⟩) (fun _ _ z => z) (fun σ h ⟨ρ, b, o, v, k, e⟩ => ⟨ρ, b, o, v, kp.trans k, e⟩) (fun σ h ⟨ρ, b, o, v, k, e⟩ => ⟨ρ, b, o, v, kp.trans k, e⟩) fun σ C fs h ⟨ρ, ds, b, o, v, k, e⟩ => ⟨ρ, ds, b, o, v, kp.trans k, e⟩
theorem sd_seq (s1 : SS F G S c mu t1) (s2 : SS F G S c mu t2) : SS F G S c mu (.seq t1 t2) := fun {h0 R0 h ρ σ b own E} q v => by
  rw [dS] at q
  rw [s_seq]
  exact (s1 q v).mono (fun σ1 h1 ⟨ρ1, b1, o1, v1, k1, q1⟩ => FEs.mono k1 (s2 q1 v1)) (fun _ _ z => z) (fun _ _ z => z) (fun _ _ z => z) fun _ _ _ _ z => z
/-- a test, nothing of one's own -/
theorem tst_f (A : ∀ B u, SAll F B G S c u) {K : Bool → Nat → Prop} (q : dT G S (fun C ds b => E.ex C ds (fz ρ) b) t (fz ρ) b K) (v : Ev F h0 R0 h ρ σ b own) : (evT G c t σ h).wp ((FEs F h0 R0 h own E).ex σ) fun k h1 => ∃ b1, Ev F h0 R0 h1 ρ σ b1 own ∧ Kp R0 h0 h own h1 own ∧ K k b1 :=
  ((A _ t).t q v.cxtF).monoX (fun _ _ _ z => ex_to v z) fun k h1 ⟨b1, m1, i1, q1⟩ => ⟨b1, v.go m1 i1, v.kp m1, q1⟩
theorem sd_iff (A : ∀ B u, SAll F B G S c u) (s1 : SS F G S c mu t1) (s2 : SS F G S c mu t2) : SS F G S c mu (.iff t t1 t2) := fun {h0 R0 h ρ σ b own E} q v => by
  rw [dS] at q
  rw [s_iff]
  refine (tst_f A q v).mono fun k h1 ⟨b1, v2, k2, q1⟩ => ?_
  cases k with
  | true => rw [if_pos rfl] at q1 ⊢; exact FEs.mono k2 (s1 q1 v2)
  | false => rw [if_neg (by decide)] at q1 ⊢; exact FEs.mono k2 (s2 q1 v2)
theorem scal_v {d : D} {v : AV} (hd : scalD d = true) (a : AtB R h R' d v) : SlAt (fun _ => False) h1 h1 (fun _ => False) (.un d) v ∧ ((∃ x, d = .int x ∧ v = .int x) ∨ ∃ x, d = .str x ∧ v = .str x) := by
  cases d with
  | int x => cases (show v = .int x from a); exact ⟨rfl, .inl ⟨x, rfl, rfl⟩⟩
  | str x => cases (show v = .str x from a); exact ⟨rfl, .inr ⟨x, rfl, rfl⟩⟩
  | _ => cases hd
theorem sd_aug {i : Nat} {op : Operator} {e : T} (A : ∀ B u, SAll F B G S c u) : SS F G S c mu (.aug i op e) := fun {h0 R0 h ρ σ b own E} q v => by
  rw [dS] at q
  obtain ⟨d, es, hd, q⟩ := q
  obtain ⟨w, e1, a0⟩ := v.sl i _ es
  rw [s_aug e1]
  refine (ev_f A q v).mono fun u h1 ⟨s, b1, m1, i1, a1, hs, q1⟩ => ?_
  have v2 := v.go m1 i1
  obtain ⟨x1, y1⟩ := scal_v (h1 := h1) hd (At.toB (B := fun _ => False) (show At h (Rg R0 h0 h own) d w from a0))
  obtain ⟨x2, y2⟩ := scal_v (h1 := h1) hs a1.toV
  have fin := fun (X : EX) => bin_ok (X := X) (F := F) (B := fun _ => False) (R := fun _ => False) (hb := h1) (fun n z => by rcases z with z | z; exact z.elim; omega) (Nat.le_refl _) x1 x2 q1
  have same : ∀ X : EX, (augA op w u h1).wp X (After (fun _ => False) h1 (fun _ => False) h1 fun z => z.kept = true ∧ E.nx (ρ.set i (some (.un z.d))) b1) := by
    intro X
    rcases y1 with ⟨x, rfl, rfl⟩ | ⟨x, rfl, rfl⟩ <;> rcases y2 with ⟨y, e2, rfl⟩ | ⟨y, e2, rfl⟩
    · exact fin X
    · rw [e2] at q1; exact q1.elim
    · rw [e2] at q1; exact q1.elim
    · exact fin X
  refine (same _).mono fun z h2 ⟨s2, l, e2, pl, a2, hk, q2⟩ => ?_
  subst e2
  have v3 := v2.go SameM.app (Frm.app i1 pl)
  have az : At (h1 ++ l) (Rg R0 h0 (h1 ++ l) own) s2.d z := (a2.toK hk).sub fun n z => Rg.new v2 SameM.app (z.elim (fun z => z.elim) .inr)
  obtain ⟨own3, v4, k4, _⟩ := v3.setUn i az
  exact ⟨_, b1, own3, v4, (v.kp m1).trans ((v2.kp SameM.app).trans k4), q2⟩
theorem SlQ.len {B R : Nat → Prop} : ∀ {ss : List Sl} {vs : List AV} {h b h' b'}, SlQ F B R h b h' b' ss vs → vs.length = ss.length := by
  intro ss
  induction ss with
  | nil => intro vs h b h' b' q; rw [q.1]; rfl
  | cons s ss ih => intro vs h b h' b' q; obtain ⟨v, r, _, _, e, _, _, _, q⟩ := q; rw [e]; simp [ih q]
theorem sd_par {is : List Nat} {es : T} (A : ∀ B u, SAll F B G S c u) : SS F G S c mu (.par is es) := fun {h0 R0 h ρ σ b own E} q v => by
  rw [dS] at q
  rw [s_par]
  obtain ⟨o1, v1, k1⟩ := v.frzs (escA es)
  refine (saq A q v1.cxt).monoX (fun _ _ _ z => ex_to v z) fun vs h1 ⟨ss, b1, qq, hk, hl, q1⟩ => ?_
  refine ⟨by rw [qq.len]; exact hl, ?_⟩
  obtain ⟨o2, v2, k2⟩ := v1.setAllS (mu := mu) qq (fun _ z => z) hk hl
  exact ⟨_, b1, o2, v2, k1.trans k2, q1⟩
theorem sd_whl {bd : T} (A : ∀ B u, SAll F B G S c u) (s1 : SS F G S c mu bd) : SS F G S c mu (.whl t bd) := fun {h0 R0 h ρ σ b own E} q v => by
  rw [dS] at q
  obtain ⟨I, ⟨n, hn, hI⟩, go⟩ := q
  rw [evS]
  refine wp_whl (fun n σ h' => ∃ ρ b own', Ev F h0 R0 h' ρ σ b own' ∧ Kp R0 h0 h own h' own' ∧ I n ρ b) ⟨ρ, b, own, v, .refl, hI⟩ hn ?_
  rintro n σ h1 ⟨ρ1, b1, o1, v1, k1, hI⟩
  refine ((tst_f A (go n ρ1 b1 hI) v1).monoX (fun C fs h' z => ?_) fun k h2 ⟨b2, v3, k3, q2⟩ => ?_)
  · obtain ⟨ρ, ds, b, o, v, k, e⟩ := z; exact ⟨ρ, ds, b, o, v, k1.trans k, e⟩
  · cases k with
    | true =>
      rw [if_pos rfl] at q2 ⊢
      exact (FEs.mono (k1.trans k3) (s1 q2 v3)).mono (fun σ h ⟨ρ, b, o, v, k, m, hm, e⟩ => ⟨m, hm, ρ, b, o, v, k, e⟩) (fun _ _ z => z) (fun _ _ z => z) (fun σ h ⟨ρ, b, o, v, k, m, hm, e⟩ => ⟨m, hm, ρ, b, o, v, k, e⟩) fun _ _ _ _ z => z
    | false => rw [if_neg (by decide)] at q2 ⊢; exact ⟨_, b2, o1, v3, k1.trans k3, q2⟩
theorem sd_forapp {tg it bd : T} (q : dForApp tg it bd ρ b E) (v : Ev F h0 R0 h ρ σ b own) : (evS G c (.for tg it bd) σ h).wp (FEs F h0 R0 h own E) := by
  unfold dForApp at q
  split at q
  · rename_i i j k cst
    obtain ⟨rfl, hij, hi, hc, ds, es, hds, hl, q⟩ := q
    obtain ⟨w, e1, a⟩ := v.sl j _ es
    obtain ⟨n, vs, rfl, on, hn, al⟩ := (show AtT h (own j) (.lst ds) w from a)
    rw [s_for', w_iSeq, w_var e1, seq_lst hn]
    have jl : j < ρ.length := (List.getElem?_eq_some_iff.mp es).1
    have il : i < σ.length := by rw [v.len]; exact hi
    refine wp_for (fun t σt ht => ∃ bt, Ev F h0 R0 ht ((ρ.set j (some (.jk t (.lst ds)))).set i none) σt bt own ∧ bt = b ∧ Kp R0 h0 h own ht own ∧ σt[j]? = some (some (.ref n)) ∧ σt.length = σ.length ∧ ht[n]? = some (.lst vs) ∧ AtPL t ht (fun m => own j m ∧ m ≠ n) ds vs) ds.length ⟨b, ?_, rfl, .refl, e1, rfl, hn, at_atpl al⟩ hl ?_ ?_
    · -- ahead
      refine ⟨v.sm, v.i, v.i0, v.bd, by simp [v.len], fun m s e => ?_, v.ow, v.inj⟩
      by_cases c1 : i = m
      · subst c1; rw [List.getElem?_set_self (by simpa using hi)] at e; cases e
      · rw [List.getElem?_set_ne c1] at e
        by_cases c2 : j = m
        · subst c2; rw [List.getElem?_set_self jl] at e; cases e
          exact ⟨_, e1, at_atp (AtT.toA a)⟩
        · rw [List.getElem?_set_ne c2] at e; exact v.sl m s e
    · rintro t σt ht hlt ⟨bt, vt, rfl, kt, ej, ls, hn', pl⟩
      have htv : t < vs.length := by rw [al.len]; exact hlt
      have hv : vs[t]? = some vs[t] := List.getElem?_eq_getElem htv
      refine ⟨vs[t], ht, by rw [nx_lsq (lstOf_lst hn'), hv]; rfl, ?_⟩
      rw [w_tName]
      obtain ⟨xs, ex, hx⟩ := hds ds[t] (List.getElem_mem hlt)
      obtain ⟨u, eu, au⟩ := pl.get (List.getElem?_eq_getElem hlt)
      rw [hv] at eu; cases eu
      rw [ex] at au
      obtain ⟨m, us, r, em, ⟨om, mn⟩, hm, hr, qm⟩ := au
      have es' : (σt.set i (some vs[t]))[i]? = some (some (.ref m)) := by rw [List.getElem?_set_self (by rw [ls]; exact il), em]
      rw [s_seq, s_expr, w_meth, w_var es']
      refine ⟨m_appOk hm, ?_⟩
      rw [w_cons]
      refine const_ok hc fun cw l pl2 => ?_
      rw [w_nil, m_app (app_get hm)]
      refine ⟨by rw [List.length_append, qm.len]; omega, ?_⟩
      show (evS G c .done _ _).wp _
      rw [s_done]
      have v1 := vt.go SameM.app (Frm.app vt.i pl2)
      have up : ∀ (d : D) (w : AV), AtP t (ht ++ l) (own j) d w → AtP (t + 1) ((ht ++ l).set m (.lst (us ++ r ++ [cw]))) (own j) d w := fun d w a => AtP.mono (Nat.le_succ _) (fun n o z e => by
        by_cases c : m = n
        · subst c
          rw [app_get hm] at e; cases e
          exact ⟨_, z, List.getElem?_set_self (lt_of (app_get hm)), .inr ⟨_, _, rfl, rfl, Nat.le_refl _⟩⟩
        · exact ⟨o, z, by rw [List.getElem?_set_ne c]; exact e, .inl rfl⟩) d w a
      have sj : ((ρ.set j (some (Sl.jk t (.lst ds)))).set i none)[j]? = some (some (.jk t (.lst ds))) := by rw [List.getElem?_set_ne hij, List.getElem?_set_self jl]
      obtain ⟨w', e1', ap⟩ := v1.sl j _ sj
      rw [ej] at e1'; cases e1'
      obtain ⟨v2, k2⟩ := v1.put (s := .jk (t + 1) (.lst ds)) (o' := .lst (us ++ r ++ [cw])) om (app_get hm) rfl rfl ⟨_, sj⟩ ej fun h' eh kp e' => by rw [eh]; exact up _ _ ap
      refine ⟨bt, ?_, rfl, kt.trans ((vt.kp SameM.app).trans k2), by rw [List.getElem?_set_ne hij]; exact ej, by simp [ls], by rw [List.getElem?_set_ne mn]; exact app_get hn', ?_⟩
      · have e2 : (((ρ.set j (some (Sl.jk t (.lst ds)))).set i none).set j (some (.jk (t + 1) (.lst ds)))) = (ρ.set j (some (.jk (t + 1) (.lst ds)))).set i none := by
          apply List.ext_getElem?
          intro z
          simp only [List.getElem?_set, List.length_set]
          by_cases c1 : j = z <;> by_cases c2 : i = z <;> simp [c1, c2]
          · subst c1; exact absurd c2 hij
        rw [e2] at v2
        refine ⟨v2.sm, v2.i, v2.i0, v2.bd, by simp [v2.len], fun z s e => ?_, v2.ow, v2.inj⟩
        by_cases c1 : i = z
        · subst c1; rw [List.getElem?_set_self (by simpa using hi)] at e; cases e
        · obtain ⟨w3, e3, a3⟩ := v2.sl z s e
          exact ⟨w3, by rw [List.getElem?_set_ne c1]; exact e3, a3⟩
      · refine AtPL.mono (Nat.le_succ _) (fun z o hz e => ?_) ds vs (AtPL.mono (h' := ht ++ l) (Nat.le_refl _) (fun z o hz e => ⟨o, hz, app_get e, .inl rfl⟩) ds vs pl)
        by_cases c : m = z
        · subst c
          rw [app_get hm] at e; cases e
          exact ⟨_, hz, List.getElem?_set_self (lt_of (app_get hm)), .inr ⟨_, _, rfl, rfl, Nat.le_refl _⟩⟩
        · exact ⟨o, hz, by rw [List.getElem?_set_ne c]; exact e, .inl rfl⟩
    · rintro σt ht ⟨bt, vt, rfl, kt, ej, ls, hn', pl⟩
      exact ⟨by rw [nx_lsq (lstOf_lst hn'), ← al.len]; simp, _, bt, own, vt, kt, q⟩
  · exact q.elim
theorem sd_for {tg it bd : T} (A : ∀ B u, SAll F B G S c u) (s1 : SS F G S c mu bd) : SS F G S c mu (.for tg it bd) := fun {h0 R0 h ρ σ b own E} q v => by
  rw [dS] at q
  rcases q with q | q
  · exact sd_forapp q v
  rw [s_for']
  obtain ⟨o1, v1, k1⟩ := v.frzs (escF it)
  refine ((A _ it).i q v1.cxt).monoX (fun _ _ _ z => ex_to v z) fun J h1 ⟨items, k, b1, m1, i1, j, _, ja, hk, hl, q1⟩ => ?_
  have v2 := v1.go m1 i1
  have k2 := k1.trans (v1.kp m1)
  have reg : ∀ n, Nw (Rg R0 h0 h o1) h h1 n → Rg R0 h0 h1 o1 n := fun n z => Rg.new v1 m1 z
  have walk : ∀ {t : Nat} {ht : AH} {o : Nat → Nat → Prop}, h1.length ≤ ht.length → Kp R0 h0 h1 o1 ht o → ItN (Nw (Rg R0 h0 h o1) h h1) J items ht t := fun {t ht o} hle kp =>
    j ht hle ⟨fun r e p => ⟨r, (kp.k.k (r.elim (reg _) fun r => reg _ (ja hk _ r)) e p).2⟩, fun e => kp.k.m e⟩ t
  refine wp_for (fun t σ ht => ∃ ρ b o, h1.length ≤ ht.length ∧ Ev F h0 R0 ht ρ σ b o ∧ Kp R0 h0 h1 o1 ht o ∧ foldD (fun x ρ1 b2 K => dG G S tg x ρ1 fun ρ2 => dS G S mu bd ρ2 b2 { nx := K, ct := K, rt := E.rt, bk := E.nx, ex := E.ex }) (items.drop t) ρ b E.nx) items.length ⟨_, b1, o1, Nat.le_refl _, v2, .refl, q1⟩ hl ?_ ?_
  · rintro t σ ht hlt ⟨ρ3, b3, o3, hle, v3, k3, q3⟩
    obtain ⟨w, l, e1, pl, aw⟩ := (walk hle k3).1 items[t] (List.getElem?_eq_getElem hlt)
    refine ⟨w, ht ++ l, e1, ?_⟩
    rw [List.drop_eq_getElem_cons hlt] at q3
    have i4 : F.I b3 (ht ++ l) := Frm.app v3.i pl
    have v4 := v3.go SameM.app i4
    have k4 := k3.trans (v3.kp (SameM.app (l := l)))
    have kreg : ∀ n o, Nw (Rg R0 h0 h o1) h h1 n → h1[n]? = some o → o.plain = true → Rg R0 h0 (ht ++ l) o3 n := fun n o z e p => (k4.k.k (reg n z) e p).1
    have aw' : At (ht ++ l) (Rg R0 h0 (ht ++ l) o3) items[t] w := At.mono ⟨fun {n ob} r e p => ⟨?_, e⟩, fun e => ⟨_, e⟩⟩ _ _ aw
    · refine ((tg_all tg).1 q3 v4 aw').noX.mono fun σ5 h5 ⟨e5, ρ5, o5, v5, w5, q5⟩ => ?_
      subst e5
      have k5 : Kp R0 h0 h1 o1 (ht ++ l) o5 := k4.trans ⟨Nat.le_refl _, Mv.sub w5⟩
      have hle5 : h1.length ≤ (ht ++ l).length := by simp; omega
      have body := s1 q5 v5
      refine body.mono ?_ (fun _ _ z => z) ?_ ?_ ?_
      · rintro σ6 h6 ⟨ρ6, b6, o6, v6, k6, q6⟩
        exact ⟨ρ6, b6, o6, Nat.le_trans hle5 k6.le, v6, k5.trans k6, q6⟩
      · rintro σ6 h6 ⟨ρ6, b6, o6, v6, k6, q6⟩
        exact ⟨ρ6, b6, o6, v6, k2.trans (k5.trans k6), q6⟩
      · rintro σ6 h6 ⟨ρ6, b6, o6, v6, k6, q6⟩
        exact ⟨ρ6, b6, o6, Nat.le_trans hle5 k6.le, v6, k5.trans k6, q6⟩
      · rintro σ6 C fs h6 ⟨ρ6, ds6, b6, o6, v6, k6, q6⟩
        exact ⟨ρ6, ds6, b6, o6, v6, k2.trans (k5.trans k6), q6⟩
    · rcases r with r | r
      · by_cases c : n < h1.length
        · obtain ⟨o', e'⟩ : ∃ o', h1[n]? = some o' := ⟨_, List.getElem?_eq_getElem c⟩
          cases hp : o'.plain with
          | true => exact kreg n o' r e' hp
          | false =>
            cases o' with
            | memo ms kvs => obtain ⟨kv', e2⟩ := k4.k.m e'; rw [e2] at e; cases e; cases p
            | _ => cases hp
        · have := (v2.rg n (reg n r)).1; omega
      · exact Rg.new v3 SameM.app (.inr r)
  · rintro σ ht ⟨ρ3, b3, o3, hle, v3, k3, q3⟩
    rw [List.drop_length] at q3
    exact ⟨(walk hle k3).2 rfl, ρ3, b3, o3, v3, k2.trans k3, q3⟩
theorem sd_raise {C : Str} {es : T} (A : ∀ B u, SAll F B G S c u) : SS F G S c mu (.raise C es) := fun {h0 R0 h ρ σ b own E} q v => by
  rw [dS] at q
  rw [s_raise]
  refine ((A _ es).a q v.cxtF).monoX (fun _ _ _ z => ex_to v z) fun vs h1 ⟨ss, b1, m1, i1, a1, hk, fs, e, k⟩ => ?_
  have al := a1.toK hk
  have fin : ∃ gs, excFs G C vs = some gs ∧ AtF h1 (Nw (Nw R0 h0 h) h h1) fs gs := by
    unfold excD at e
    unfold excFs
    generalize ss.map Sl.d = ds at *
    split at e
    · rename_i e1; cases e; cases al; exact ⟨[], by rw [e1], rfl⟩
    · rename_i x d e1; cases e; obtain ⟨v, r, rfl, a, rfl⟩ := al; exact ⟨_, by rw [e1], v, [], rfl, a, rfl⟩
    · rename_i x e1; cases e; cases al; exact ⟨_, by rw [e1], .non, [], rfl, rfl, rfl⟩
    · cases e
  obtain ⟨gs, e1, af⟩ := fin
  exact ⟨gs, e1, ex_to v ⟨fs, b1, m1, i1, af, k⟩⟩
theorem sd_try {C : Str} {i : Nat} (s1 : SS F G S c mu t1) (s2 : SS F G S c mu t2) : SS F G S c mu (.tryAs t1 C i t2) := fun {h0 R0 h ρ σ b own E} q v => by
  rw [dS] at q
  rw [s_try]
  refine (s1 q v).mono (fun _ _ z => z) (fun _ _ z => z) (fun _ _ z => z) (fun _ _ z => z) ?_
  rintro σ1 D fs h1 ⟨ρ1, ds, b1, o1, v1, k1, af, q1⟩
  rcases q1 with ⟨e, q1⟩ | ⟨e, q1⟩
  · dsimp only
    rw [if_pos e]
    have m2 : SameM F h1 (h1 ++ [AO.exc D fs]) := SameM.app
    have v2 := v1.go m2 (Frm.app v1.i (.one rfl))
    have a2 : At (h1 ++ [.exc D fs]) (Rg R0 h0 (h1 ++ [.exc D fs]) o1) (.err D ds) (.ref h1.length) :=
      ⟨h1.length, fs, rfl, Rg.new v1 m2 (.inr ⟨Nat.le_refl _, by simp⟩), by simp, AtF.mono (Mv.app fun n z => ⟨z.1.mono (by simp), z.2⟩) _ _ af⟩
    obtain ⟨o3, v3, k3, _⟩ := v2.setUn i a2
    refine (FEs.mono (k1.trans ((v1.kp m2).trans k3)) (s2 q1 v3)).mono ?_ (fun _ _ z => z) ?_ ?_ ?_
    · rintro σ h ⟨ρ, b, o, v, k, q⟩; exact ⟨_, b, o, v.setNone i, k, q⟩
    · rintro σ h ⟨ρ, b, o, v, k, q⟩; exact ⟨_, b, o, v.setNone i, k, q⟩
    · rintro σ h ⟨ρ, b, o, v, k, q⟩; exact ⟨_, b, o, v.setNone i, k, q⟩
    · rintro σ C fs h ⟨ρ, ds, b, o, v, k, _, q⟩; exact q.elim
  · dsimp only
    rw [if_neg e]
    exact ⟨ρ1, ds, b1, o1, v1, k1, af, q1⟩
/-- all of the statements -/
theorem sd_all (A : ∀ B u, SAll F B G S c u) : ∀ u : T, SS F G S c mu u := by
  intro u
  induction u with
  | done => exact fun {h0 R0 h ρ σ b own E} q v => by rw [dS] at q; rw [s_done]; exact ⟨ρ, b, own, v, .refl, q⟩
  | brk => exact fun {h0 R0 h ρ σ b own E} q v => by rw [dS] at q; rw [s_brk]; exact ⟨ρ, b, own, v, .refl, q⟩
  | cont => exact fun {h0 R0 h ρ σ b own E} q v => by rw [dS] at q; rw [s_cont]; exact ⟨ρ, b, own, v, .refl, q⟩
  | seq a b ia ib => exact sd_seq ia ib
  | iff d a b _ ia ib => exact sd_iff A ia ib
  | aug i op a _ => exact sd_aug A
  | par o a _ => exact sd_par A
  | whl a b _ ib => exact sd_whl A ib
  | «for» a b d _ _ id => exact sd_for A id
  | raise C a _ => exact sd_raise A
  | tryAs a C i s ia is => exact sd_try ia is
  | expr e _ => exact fun {h0 R0 h ρ σ b own E} q v => by rw [dS] at q; rw [s_expr]; exact ex_ok A q v
  | ret e _ => exact fun {h0 R0 h ρ σ b own E} q v => by rw [dS] at q; rw [s_ret]; exact ret_ok A q v
  | asg a b _ _ => exact fun {h0 R0 h ρ σ b own E} q v => by rw [dS] at q; rw [s_asg]; exact asg_okD A q v
  | _ => exact fun q _ => False.elim q
@[simp] def startD (n : Nat) (ds : List D) : DEnv := ds.map (fun d => some (.un d)) ++ List.replicate (n - ds.length) none
theorem start_ev {vs : List AV} {n : Nat} (a : AtL h R ds vs) (bd : Bd F R h) (i : F.I b h) : Ev F h R h (startD n ds) (start n vs) b (fun _ _ => False) := by
  have hlv : vs.length = ds.length := a.len
  refine ⟨.refl, i, ⟨b, i⟩, bd, by simp [startD, start, hlv], fun j s e => ?_, fun _ _ e => e.elim, fun _ _ _ e => e.elim⟩
  unfold startD at e
  unfold start
  have hj : j < ds.length := by
    by_cases hj : j < ds.length
    · exact hj
    · rw [List.getElem?_append_right (by simpa using hj), List.getElem?_replicate] at e
      split at e <;> cases e
  rw [List.getElem?_append_left (by simpa using hj), List.getElem?_map] at e
  obtain ⟨d, e1, e2⟩ := Option.map_eq_some_iff.mp e
  cases e2
  obtain ⟨v, e3, av⟩ := a.get e1
  exact ⟨v, by rw [List.getElem?_append_left (by simp; omega), List.getElem?_map, e3]; rfl, av.sub fun n z => ⟨.inl z, fun _ ee => ee⟩⟩
/-- a def, by its body on trees -/
theorem fn_tree (O : SpOk F G (cD G k) S) {f : Str} {fd : FD} (mu : Mu) (hf : G.fns f = some fd) (hl : ds.length = fd.ps) {X : XD} {Q : Sl → Nat → Prop} (q : dS G S mu fd.body (startD fd.nS ds) b { nx := fun _ b' => Q (.un .non) b', rt := Q, ex := fun C ds _ b => X C ds b })
    {vs : List AV} (a : AtL h R ds vs) (bd : Bd F R h) (i : F.I b h) : (callD G (k + 1) f vs h).wp (XA F ⟨h, R⟩ X) (Ret F h R Q) := by
  refine wp_call hf (by rw [a.len]; exact hl) ?_
  have A : ∀ B u, SAll F B G S (cD G k) u := fun B u => all_ok O u
  refine (sd_all A fd.body q (start_ev a bd i)).mono ?_ (fun v h' z => z) (fun _ _ ⟨_, _, _, _, _, z⟩ => z.elim) (fun _ _ ⟨_, _, _, _, _, z⟩ => z.elim) ?_
  · rintro σ' h' ⟨ρ', b', o', v', k', q'⟩
    exact ⟨.un .non, b', v'.sm, v'.i, rfl, rfl, q'⟩
  · rintro σ' C fs h' ⟨ρ', ds', b', o', v', k', af, q'⟩
    exact ⟨ds', b', v'.sm, v'.i, af.sub fun n z => z.1, q'⟩
end
end SL

set_option Elab.async false
set_option linter.all false
set_option maxRecDepth 100000
set_option maxHeartbeats 4000000
/-! What simp knows of trees. -/
namespace SL
open PySem
@[simp] theorem z_scal_non  : scal (D.non) = true := rfl
@[simp] theorem z_scalD_non  : scalD (D.non) = false := rfl
@[simp] theorem z_isObj_non  : isObj (D.non) = none := rfl
@[simp] theorem z_truthD_non  : truthD (D.non) = some false := rfl
@[simp] theorem z_tyD_non {G : Env}  : tyD G (D.non) = some (.b "NoneType") := rfl
@[simp] theorem z_mateD_non {y : D}  : mateD y (D.non) = true := rfl
@[simp] theorem z_items_non  : items (D.non) = [] := rfl
@[simp] theorem z_scal_bl (b : Bool) : scal (D.bl b) = true := rfl
@[simp] theorem z_scalD_bl (b : Bool) : scalD (D.bl b) = false := rfl
@[simp] theorem z_isObj_bl (b : Bool) : isObj (D.bl b) = none := rfl
@[simp] theorem z_truthD_bl (b : Bool) : truthD (D.bl b) = some b := rfl
@[simp] theorem z_tyD_bl {G : Env} (b : Bool) : tyD G (D.bl b) = some (.b "bool") := rfl
@[simp] theorem z_mateD_bl {y : D} (b : Bool) : mateD y (D.bl b) = true := rfl
@[simp] theorem z_items_bl (b : Bool) : items (D.bl b) = [] := rfl
@[simp] theorem z_scal_int (i : Int) : scal (D.int i) = true := rfl
@[simp] theorem z_scalD_int (i : Int) : scalD (D.int i) = true := rfl
@[simp] theorem z_isObj_int (i : Int) : isObj (D.int i) = none := rfl
@[simp] theorem z_keyD_int (i : Int) : keyD (D.int i) = some (.inl i) := rfl
@[simp] theorem z_truthD_int (i : Int) : truthD (D.int i) = some (i != 0) := rfl
@[simp] theorem z_tyD_int {G : Env} (i : Int) : tyD G (D.int i) = some (.b "int") := rfl
@[simp] theorem z_mateD_int {y : D} (i : Int) : mateD y (D.int i) = true := rfl
@[simp] theorem z_items_int (i : Int) : items (D.int i) = [] := rfl
@[simp] theorem z_scal_str (x : Str) : scal (D.str x) = true := rfl
@[simp] theorem z_scalD_str (x : Str) : scalD (D.str x) = true := rfl
@[simp] theorem z_isObj_str (x : Str) : isObj (D.str x) = none := rfl
@[simp] theorem z_keyD_str (x : Str) : keyD (D.str x) = some (.inr x) := rfl
@[simp] theorem z_tyD_str {G : Env} (x : Str) : tyD G (D.str x) = some (.b "str") := rfl
@[simp] theorem z_mateD_str {y : D} (x : Str) : mateD y (D.str x) = true := rfl
@[simp] theorem z_items_str (x : Str) : items (D.str x) = [] := rfl
@[simp] theorem z_scal_lst (ds : List D) : scal (D.lst ds) = false := rfl
@[simp] theorem z_scalD_lst (ds : List D) : scalD (D.lst ds) = false := rfl
@[simp] theorem z_isObj_lst (ds : List D) : isObj (D.lst ds) = none := rfl
@[simp] theorem z_seqD_lst (ds : List D) : seqD (D.lst ds) = some ds := rfl
@[simp] theorem z_lenD_lst (ds : List D) : lenD (D.lst ds) = some ds.length := rfl
@[simp] theorem z_truthD_lst (ds : List D) : truthD (D.lst ds) = some (!ds.isEmpty) := rfl
@[simp] theorem z_tyD_lst {G : Env} (ds : List D) : tyD G (D.lst ds) = some (.b "list") := rfl
@[simp] theorem z_mateD_lst {y : D} (ds : List D) : mateD y (D.lst ds) = true := rfl
@[simp] theorem z_items_lst (ds : List D) : items (D.lst ds) = ds := rfl
@[simp] theorem z_scal_tup (ds : List D) : scal (D.tup ds) = false := rfl
@[simp] theorem z_scalD_tup (ds : List D) : scalD (D.tup ds) = false := rfl
@[simp] theorem z_isObj_tup (ds : List D) : isObj (D.tup ds) = none := rfl
@[simp] theorem z_seqD_tup (ds : List D) : seqD (D.tup ds) = some ds := rfl
@[simp] theorem z_lenD_tup (ds : List D) : lenD (D.tup ds) = some ds.length := rfl
@[simp] theorem z_truthD_tup (ds : List D) : truthD (D.tup ds) = some (!ds.isEmpty) := rfl
@[simp] theorem z_tyD_tup {G : Env} (ds : List D) : tyD G (D.tup ds) = some (.b "tuple") := rfl
@[simp] theorem z_mateD_tup {y : D} (ds : List D) : mateD y (D.tup ds) = true := rfl
@[simp] theorem z_items_tup (ds : List D) : items (D.tup ds) = ds := rfl
@[simp] theorem z_scal_dic (ks : List (AKey × D)) : scal (D.dic ks) = false := rfl
@[simp] theorem z_scalD_dic (ks : List (AKey × D)) : scalD (D.dic ks) = false := rfl
@[simp] theorem z_isObj_dic (ks : List (AKey × D)) : isObj (D.dic ks) = none := rfl
@[simp] theorem z_lenD_dic (ks : List (AKey × D)) : lenD (D.dic ks) = some ks.length := rfl
@[simp] theorem z_truthD_dic (ks : List (AKey × D)) : truthD (D.dic ks) = some (!ks.isEmpty) := rfl
@[simp] theorem z_tyD_dic {G : Env} (ks : List (AKey × D)) : tyD G (D.dic ks) = some (.b "dict") := rfl
@[simp] theorem z_mateD_dic {y : D} (ks : List (AKey × D)) : mateD y (D.dic ks) = true := rfl
@[simp] theorem z_items_dic (ks : List (AKey × D)) : items (D.dic ks) = ks.map (·.2) := rfl
@[simp] theorem z_scal_obj (C : Str) (fs : List (Str × Option D)) : scal (D.obj C fs) = false := rfl
@[simp] theorem z_scalD_obj (C : Str) (fs : List (Str × Option D)) : scalD (D.obj C fs) = false := rfl
@[simp] theorem z_isObj_obj (C : Str) (fs : List (Str × Option D)) : isObj (D.obj C fs) = some C := rfl
@[simp] theorem z_items_obj (C : Str) (fs : List (Str × Option D)) : items (D.obj C fs) = [] := rfl
@[simp] theorem z_scal_err (C : Str) (fs : List (Str × Option D)) : scal (D.err C fs) = false := rfl
@[simp] theorem z_scalD_err (C : Str) (fs : List (Str × Option D)) : scalD (D.err C fs) = false := rfl
@[simp] theorem z_isObj_err (C : Str) (fs : List (Str × Option D)) : isObj (D.err C fs) = none := rfl
@[simp] theorem z_mateD_err {y : D} (C : Str) (fs : List (Str × Option D)) : mateD y (D.err C fs) = false := rfl
@[simp] theorem z_items_err (C : Str) (fs : List (Str × Option D)) : items (D.err C fs) = [] := rfl
@[simp] theorem z_scal_adr (n : Nat) : scal (D.adr n) = true := rfl
@[simp] theorem z_scalD_adr (n : Nat) : scalD (D.adr n) = false := rfl
@[simp] theorem z_isObj_adr (n : Nat) : isObj (D.adr n) = none := rfl
@[simp] theorem z_mateD_adr {y : D} (n : Nat) : mateD y (D.adr n) = false := rfl
@[simp] theorem z_items_adr (n : Nat) : items (D.adr n) = [] := rfl
@[simp] theorem z_scal_gl (x : Str) : scal (D.gl x) = true := rfl
@[simp] theorem z_scalD_gl (x : Str) : scalD (D.gl x) = false := rfl
@[simp] theorem z_isObj_gl (x : Str) : isObj (D.gl x) = none := rfl
@[simp] theorem z_mateD_gl {y : D} (x : Str) : mateD y (D.gl x) = false := rfl
@[simp] theorem z_items_gl (x : Str) : items (D.gl x) = [] := rfl
@[simp] theorem z_scal_ty (x : String) : scal (D.ty x) = true := rfl
@[simp] theorem z_scalD_ty (x : String) : scalD (D.ty x) = false := rfl
@[simp] theorem z_isObj_ty (x : String) : isObj (D.ty x) = none := rfl
@[simp] theorem z_mateD_ty {y : D} (x : String) : mateD y (D.ty x) = false := rfl
@[simp] theorem z_items_ty (x : String) : items (D.ty x) = [] := rfl
@[simp] theorem z_scal_mem (ms : List Int) : scal (D.mem ms) = true := rfl
@[simp] theorem z_scalD_mem (ms : List Int) : scalD (D.mem ms) = false := rfl
@[simp] theorem z_isObj_mem (ms : List Int) : isObj (D.mem ms) = none := rfl
@[simp] theorem z_mateD_mem {y : D} (ms : List Int) : mateD y (D.mem ms) = false := rfl
@[simp] theorem z_items_mem (ms : List Int) : items (D.mem ms) = [] := rfl
@[simp] theorem z_scal_idt (n : Nat) (d : D) : scal (D.idt n d) = false := rfl
@[simp] theorem z_scalD_idt (n : Nat) (d : D) : scalD (D.idt n d) = false := rfl
@[simp] theorem z_isObj_idt (n : Nat) (d : D) : isObj (D.idt n d) = none := rfl
@[simp] theorem z_mateD_idt {y : D} (n : Nat) (d : D) : mateD y (D.idt n d) = false := rfl
@[simp] theorem z_items_idt (n : Nat) (d : D) : items (D.idt n d) = [] := rfl
@[simp] theorem z_keyDV_l {i : Int} : keyDV (.inl i) = .int i := rfl
@[simp] theorem z_keyDV_r {i : Str} : keyDV (.inr i) = .str i := rfl
@[simp] theorem z_ix_lst {xs : List D} {i : Int} : ixD (.lst xs) (.int i) = L2.atI xs i := rfl
@[simp] theorem z_ix_tup {xs : List D} {i : Int} : ixD (.tup xs) (.int i) = L2.atI xs i := rfl
@[simp] theorem z_ix_dic {xs : List (AKey × D)} {i : Int} : ixD (.dic xs) (.int i) = valD xs (.inl i) := rfl
@[simp] theorem z_ix_dis {xs : List (AKey × D)} {i : Str} : ixD (.dic xs) (.str i) = valD xs (.inr i) := rfl
@[simp] theorem z_isi_tup {G : Env} {x : D} {t : Ty} {cs : List D} (h : tyD G x = some t) : isiD G x (.tup cs) = anyD G t cs := by unfold isiD; rw [h]
@[simp] theorem z_isi_ty {G : Env} {x : D} {t : Ty} {n : String} (h : tyD G x = some t) : isiD G x (.ty n) = isOne G t (.ty n) := by unfold isiD; rw [h]; rfl
@[simp] theorem z_isi_gl {G : Env} {x : D} {t : Ty} {n : Str} (h : tyD G x = some t) : isiD G x (.gl n) = isOne G t (.glob n) := by unfold isiD; rw [h]; rfl
@[simp] theorem z_any_nil {G : Env} {t : Ty} : anyD G t [] = some false := rfl
@[simp] theorem z_any_ty {G : Env} {t : Ty} {n : String} {cs : List D} {a b : Bool} (h : isOne G t (.ty n) = some a) (h2 : anyD G t cs = some b) : anyD G t (.ty n :: cs) = some (a || b) := by unfold anyD; rw [show clsD G t (.ty n) = some a from h, h2]
@[simp] theorem z_one_ty {G : Env} {m n : String} : isOne G (.b m) (.ty n) = L2.kitB m n := rfl
@[simp] theorem z_d_un (d : D) : (Sl.un d).d = d := rfl
@[simp] theorem z_kept_un (d : D) : (Sl.un d).kept = true := rfl
@[simp] theorem z_isFr_un (d : D) : (Sl.un d).isFr = scal d := rfl
@[simp] theorem z_elFr_un (d : D) : (Sl.un d).elFr = (items (Sl.un d).v).all scal := rfl
@[simp] theorem z_ownS_un (d : D) : ownS (some (some (Sl.un d))) = false := rfl
@[simp] theorem z_frz1_un (d : D) : frz1 (some (Sl.un d)) = some (.un d) := rfl
@[simp] theorem z_own_un (d : D) : (Sl.un d).own = (Sl.un d) := rfl
@[simp] theorem z_d_ow (ds : List D) : (Sl.ow ds).d = .lst ds := rfl
@[simp] theorem z_kept_ow (ds : List D) : (Sl.ow ds).kept = true := rfl
@[simp] theorem z_isFr_ow (ds : List D) : (Sl.ow ds).isFr = ds.all scal := rfl
@[simp] theorem z_elFr_ow (ds : List D) : (Sl.ow ds).elFr = (items (Sl.ow ds).v).all scal := rfl
@[simp] theorem z_ownS_ow (ds : List D) : ownS (some (some (Sl.ow ds))) = true := rfl
@[simp] theorem z_frz1_ow (ds : List D) : frz1 (some (Sl.ow ds)) = some (.un (.lst ds)) := rfl
@[simp] theorem z_own_ow (ds : List D) : (Sl.ow ds).own = (Sl.ow ds) := rfl
@[simp] theorem z_d_ok (ks : List (AKey × D)) : (Sl.ok ks).d = .dic ks := rfl
@[simp] theorem z_kept_ok (ks : List (AKey × D)) : (Sl.ok ks).kept = true := rfl
@[simp] theorem z_isFr_ok (ks : List (AKey × D)) : (Sl.ok ks).isFr = (ks.all fun kv => scal kv.2) := rfl
@[simp] theorem z_elFr_ok (ks : List (AKey × D)) : (Sl.ok ks).elFr = (items (Sl.ok ks).v).all scal := rfl
@[simp] theorem z_ownS_ok (ks : List (AKey × D)) : ownS (some (some (Sl.ok ks))) = true := rfl
@[simp] theorem z_frz1_ok (ks : List (AKey × D)) : frz1 (some (Sl.ok ks)) = some (.un (.dic ks)) := rfl
@[simp] theorem z_own_ok (ks : List (AKey × D)) : (Sl.ok ks).own = (Sl.ok ks) := rfl
@[simp] theorem z_d_fr (d : D) : (Sl.fr d).d = d := rfl
@[simp] theorem z_kept_fr (d : D) : (Sl.fr d).kept = true := rfl
@[simp] theorem z_isFr_fr (d : D) : (Sl.fr d).isFr = true := rfl
@[simp] theorem z_elFr_fr (d : D) : (Sl.fr d).elFr = true := rfl
@[simp] theorem z_ownS_fr (d : D) : ownS (some (some (Sl.fr d))) = true := rfl
@[simp] theorem z_frz1_fr (d : D) : frz1 (some (Sl.fr d)) = some (.un d) := rfl
@[simp] theorem z_d_jk (c : Nat) (d : D) : (Sl.jk c d).d = d := rfl
@[simp] theorem z_kept_jk (c : Nat) (d : D) : (Sl.jk c d).kept = false := rfl
@[simp] theorem z_isFr_jk (c : Nat) (d : D) : (Sl.jk c d).isFr = false := rfl
@[simp] theorem z_elFr_jk (c : Nat) (d : D) : (Sl.jk c d).elFr = (items (Sl.jk c d).v).all scal := rfl
@[simp] theorem z_ownS_jk (c : Nat) (d : D) : ownS (some (some (Sl.jk c d))) = true := rfl
@[simp] theorem z_frz1_jk (c : Nat) (d : D) : frz1 (some (Sl.jk c d)) = none := rfl
@[simp] theorem z_own_jk (c : Nat) (d : D) : (Sl.jk c d).own = (Sl.jk c d) := rfl
@[simp] theorem z_d_bo (d : D) : (Sl.bo d).d = d := rfl
@[simp] theorem z_kept_bo (d : D) : (Sl.bo d).kept = false := rfl
@[simp] theorem z_isFr_bo (d : D) : (Sl.bo d).isFr = false := rfl
@[simp] theorem z_elFr_bo (d : D) : (Sl.bo d).elFr = (items (Sl.bo d).v).all scal := rfl
@[simp] theorem z_ownS_bo (d : D) : ownS (some (some (Sl.bo d))) = true := rfl
@[simp] theorem z_frz1_bo (d : D) : frz1 (some (Sl.bo d)) = some (.un d) := rfl
@[simp] theorem z_own_bo (d : D) : (Sl.bo d).own = (Sl.bo d) := rfl
@[simp] theorem z_own_frl {ds : List D} : (Sl.fr (.lst ds)).own = .ow ds := rfl
@[simp] theorem z_own_frk {ds : List (AKey × D)} : (Sl.fr (.dic ds)).own = .ok ds := rfl
@[simp] theorem z_ownS_n : ownS (some none) = false := rfl
@[simp] theorem z_ownS_z : ownS none = false := rfl
@[simp] theorem z_frz1_n : frz1 none = none := rfl
@[simp] theorem z_mkO_d {f : Bool} {ds} : (mkO f ds).d = .lst ds := by unfold mkO; split <;> rfl
@[simp] theorem z_mkO_k {f : Bool} {ds} : (mkO f ds).kept = true := by unfold mkO; split <;> rfl
@[simp] theorem z_mkO_t {ds} : mkO true ds = .fr (.lst ds) := rfl
@[simp] theorem z_mkO_o {f : Bool} {ds} : (mkO f ds).own = .ow ds := by unfold mkO; split <;> rfl
@[simp] theorem z_mkK_d {f : Bool} {ds} : (mkK f ds).d = .dic ds := by unfold mkK; split <;> rfl
@[simp] theorem z_mkK_k {f : Bool} {ds} : (mkK f ds).kept = true := by unfold mkK; split <;> rfl
@[simp] theorem z_mkK_t {ds} : mkK true ds = .fr (.dic ds) := rfl
@[simp] theorem z_mkK_o {f : Bool} {ds} : (mkK f ds).own = .ok ds := by unfold mkK; split <;> rfl
@[simp] theorem z_mkT_d {f : Bool} {ds} : (mkT f ds).d = .tup ds := by unfold mkT; split <;> rfl
@[simp] theorem z_mkT_k {f : Bool} {ds} : (mkT f ds).kept = true := by unfold mkT; split <;> rfl
@[simp] theorem z_mkT_t {ds} : mkT true ds = .fr (.tup ds) := rfl
@[simp] theorem z_mkO_f {f : Bool} {ds} : (mkO f ds).isFr = (f || ds.all scal) := by unfold mkO; cases f <;> rfl
@[simp] theorem z_mkT_f {f : Bool} {ds} : (mkT f ds).isFr = f := by unfold mkT; cases f <;> rfl
@[simp] theorem z_scal_ints {xs : List Int} : (xs.map D.int).all scal = true := by simp [List.all_map, Function.comp_def]
@[simp] theorem z_intsD {xs : List Int} : intsD (xs.map D.int) = some xs := by
  induction xs with
  | nil => rfl
  | cons x xs ih => simp only [List.map_cons, intsD, ih, Option.map_some]
@[simp] theorem z_boolsD {xs : List Bool} : boolsD (xs.map D.bl) = some xs := by
  induction xs with
  | nil => rfl
  | cons x xs ih => simp only [List.map_cons, boolsD, ih, Option.map_some]

/-! ### one step at a time, what is wished behind left alone -/
/-- a walk whose turn and whose end simp leaves alone -/
structure Tag {α : Sort _} (a : α) : Type where
def bindO {α : Type} (o : Option α) (Q : α → Prop) (_ : Tag Q := ⟨⟩) : Prop := ∃ a, o = some a ∧ Q a
def iteD (k : Bool) (A B : Prop) (_ : Tag A := ⟨⟩) (_ : Tag B := ⟨⟩) : Prop := if k = true then A else B
@[simp] theorem bindO_s {α : Type} {a : α} {Q : α → Prop} : bindO (some a) Q = Q a := by simp [bindO]
@[simp] theorem bindO_n {α : Type} {Q : α → Prop} : bindO (none : Option α) Q = False := by simp [bindO]
@[simp] theorem iteD_t {A B : Prop} : iteD true A B = A := rfl
@[simp] theorem iteD_f {A B : Prop} : iteD false A B = B := by simp [iteD]
theorem iteD_of {k : Bool} {A B : Prop} (h1 : k = true → A) (h2 : k = false → B) : iteD k A B := by cases k <;> simp_all
theorem bindO_of {α : Type} {o : Option α} {a : α} {Q : α → Prop} (h : o = some a) (q : Q a) : bindO o Q := ⟨a, h, q⟩
theorem bindO_cg {α : Type} {o o' : Option α} {Q : α → Prop} (h : o = o') : bindO o Q = bindO o' Q := by rw [h]
theorem iteD_cg {k k' : Bool} {A B : Prop} (h : k = k') : iteD k A B = iteD k' A B := by rw [h]
def foldB {α : Type} (step : D → α → Nat → (α → Nat → Prop) → Prop) (_ : Tag step) (xs : List D) (a : α) (b : Nat) (Q : α → Nat → Prop) (_ : Tag Q) : Prop := foldD step xs a b Q
theorem foldD_cg {α : Type} {step : D → α → Nat → (α → Nat → Prop) → Prop} {xs xs' : List D} {a : α} {b : Nat} {Q : α → Nat → Prop} (h : xs = xs') : foldD step xs a b Q = foldD step xs' a b Q := by rw [h]
section
variable {G : Env} {S : Sps} {X : XD} {ρ ρ' : DEnv} {b : Nat}
theorem dX_cg {t : T} {Q : Sl → Nat → Prop} (h : ρ = ρ') : dX G S X t ρ b Q = dX G S X t ρ' b Q := by rw [h]
theorem dT_cg {t : T} {Q : Bool → Nat → Prop} (h : ρ = ρ') : dT G S X t ρ b Q = dT G S X t ρ' b Q := by rw [h]
theorem dA_cg {t : T} {Q : List Sl → Nat → Prop} (h : ρ = ρ') : dA G S X t ρ b Q = dA G S X t ρ' b Q := by rw [h]
theorem dL_cg {t : T} {Q : List Sl → Nat → Prop} (h : ρ = ρ') : dL G S X t ρ b Q = dL G S X t ρ' b Q := by rw [h]
theorem dP_cg {t : T} {Q : Option Int → Nat → Prop} (h : ρ = ρ') : dP G S X t ρ b Q = dP G S X t ρ' b Q := by rw [h]
theorem dI_cg {t : T} {Q : List D → Bool → Nat → Prop} (h : ρ = ρ') : dI G S X t ρ b Q = dI G S X t ρ' b Q := by rw [h]
theorem dG_cg {t : T} {d d' : D} {Q : DEnv → Prop} (h : ρ = ρ') (h2 : d = d') : dG G S t d ρ Q = dG G S t d' ρ' Q := by rw [h, h2]
theorem dGs_cg {t : T} {d d' : List D} {Q : DEnv → Prop} (h : ρ = ρ') (h2 : d = d') : dGs G S t d ρ Q = dGs G S t d' ρ' Q := by rw [h, h2]
theorem dS_cg {t : T} {mu : Mu} {E : DE} (h : ρ = ρ') : dS G S mu t ρ b E = dS G S mu t ρ' b E := by rw [h]
theorem dAsg_cg {t e : T} {mu : Mu} {Q : DEnv → Nat → Prop} (h : ρ = ρ') : dAsg G S X mu t e ρ b Q = dAsg G S X mu t e ρ' b Q := by rw [h]
theorem dExpr_cg {e : T} {Q : DEnv → Nat → Prop} (h : ρ = ρ') : dExpr G S X e ρ b Q = dExpr G S X e ρ' b Q := by rw [h]
theorem dRet_cg {e : T} {Q : Sl → Nat → Prop} (h : ρ = ρ') : dRet G S X e ρ b Q = dRet G S X e ρ' b Q := by rw [h]
def callFD (S : Sps) (X : XD) (f : Str) (ds : List D) (b : Nat) (Q : Sl → Nat → Prop) (_ : Tag Q := ⟨⟩) : Prop := S.f X f ds b Q
def callKD (S : Sps) (X : XD) (f : Str) (ds : List D) (b : Nat) (Q : Sl → Nat → Prop) (_ : Tag Q := ⟨⟩) : Prop := S.k X f ds b Q
theorem Sf_cg {f : Str} {ds ds' : List D} {Q : Sl → Nat → Prop} (h : ds = ds') : callFD S X f ds b Q = callFD S X f ds' b Q := by rw [h]
theorem Sk_cg {f : Str} {ds ds' : List D} {Q : Sl → Nat → Prop} (h : ds = ds') : callKD S X f ds b Q = callKD S X f ds' b Q := by rw [h]
theorem Sq_cg {f : Str} {x x' y y' : D} {Q : Bool → Nat → Prop} (h : x = x') (h2 : y = y') : S.q f x y b Q = S.q f x' y' b Q := by rw [h, h2]
/-! #### values looked at -/
def intD : D → Option Int
  | .int i => some i
  | _ => none
def boolD : D → Option Bool
  | .bl i => some i
  | _ => none
def lstD : D → Option (List D)
  | .lst i => some i
  | _ => none
def tupD : D → Option (List D)
  | .tup i => some i
  | _ => none
@[simp] theorem intD_i {i : Int} : intD (.int i) = some i := rfl
@[simp] theorem boolD_i {i : Bool} : boolD (.bl i) = some i := rfl
@[simp] theorem lstD_i {i : List D} : lstD (.lst i) = some i := rfl
@[simp] theorem tupD_i {i : List D} : tupD (.tup i) = some i := rfl
theorem intD_e {d : D} {Q : Int → Prop} : (∃ i, d = .int i ∧ Q i) = bindO (intD d) Q := by
  apply propext; cases d <;> simp [intD, bindO]
theorem boolD_e {d : D} {Q : Bool → Prop} : (∃ i, d = .bl i ∧ Q i) = bindO (boolD d) Q := by
  apply propext; cases d <;> simp [boolD, bindO]
theorem lstD_e {d : D} {Q : List D → Prop} : (∃ i, d = .lst i ∧ Q i) = bindO (lstD d) Q := by
  apply propext; cases d <;> simp [lstD, bindO]
theorem tupD_e {d : D} {Q : List D → Prop} : (∃ i, d = .tup i ∧ Q i) = bindO (tupD d) Q := by
  apply propext; cases d <;> simp [tupD, bindO]
def varD (o : Option (Option Sl)) (b : Nat) (Q : Sl → Nat → Prop) (_ : Tag Q := ⟨⟩) : Prop := ∃ s, o = some (some s) ∧ (match s with | .un d => Q (.un d) b | .ow ds => Q (.bo (.lst ds)) b | .ok ks => Q (.bo (.dic ks)) b | .bo d => Q (.bo d) b | _ => False)
theorem varD_cg {o o' : Option (Option Sl)} {Q : Sl → Nat → Prop} (h : o = o') : varD o b Q = varD o' b Q := by rw [h]
@[simp] theorem varD_un {d : D} {Q : Sl → Nat → Prop} : varD (some (some (.un d))) b Q = Q (.un d) b := by simp [varD]
@[simp] theorem varD_ow {d : List D} {Q : Sl → Nat → Prop} : varD (some (some (.ow d))) b Q = Q (.bo (.lst d)) b := by simp [varD]
@[simp] theorem varD_ok {d : List (AKey × D)} {Q : Sl → Nat → Prop} : varD (some (some (.ok d))) b Q = Q (.bo (.dic d)) b := by simp [varD]
@[simp] theorem varD_bo {d : D} {Q : Sl → Nat → Prop} : varD (some (some (.bo d))) b Q = Q (.bo d) b := by simp [varD]
/-! #### expressions -/
variable {Q : Sl → Nat → Prop} {a c t es e e' : T}
@[simp ↓] theorem X_non : dX G S X .non ρ b Q = Q (.un .non) b := by rw [dX]
@[simp ↓] theorem X_bl {k : Bool} : dX G S X (.bl k) ρ b Q = Q (.un (.bl k)) b := by rw [dX]
@[simp ↓] theorem X_int {k : Int} : dX G S X (.int k) ρ b Q = Q (.un (.int k)) b := by rw [dX]
@[simp ↓] theorem X_str {k : Str} : dX G S X (.str k) ρ b Q = Q (.un (.str k)) b := by rw [dX]
@[simp ↓] theorem X_var {i : Nat} : dX G S X (.var i) ρ b Q = varD ρ[i]? b Q := by rw [dX]; rfl
@[simp ↓] theorem X_glob {x : Str} : dX G S X (.glob x) ρ b Q = Q (.un (.gl x)) b := by rw [dX]
@[simp ↓] theorem X_ty {x : String} : dX G S X (.ty x) ρ b Q = Q (.un (.ty x)) b := by rw [dX]
/-- a value as it is looked at: its tree, whether its items are new -/
abbrev Vw := D × Bool
def Sl.w (s : Sl) : Vw := (s.v, s.elFr)
@[simp] theorem w_eq {s : Sl} : s.w = (s.v, s.elFr) := rfl
def binV (op : Operator) (x y : Vw) (Q : Sl → Prop) (_ : Tag Q := ⟨⟩) : Prop := match x.1, y.1 with
  | .int i, .int j => match op with
    | .Add => Q (.un (.int (i + j)))
    | .Sub => Q (.un (.int (i - j)))
    | .Mult => CMulB i j = true ∧ Q (.un (.int (i * j)))
    | .FloorDiv => (0 < j ∧ j < 1073741824) ∧ Q (.un (.int (i / j)))
    | .Mod => 0 < j ∧ Q (.un (.int (i % j)))
    | .Pow => (0 ≤ j ∧ (Builtin.Int.intBits i : Int) * j ≤ 2 ^ 27) ∧ Q (.un (.int (i ^ j.toNat)))
    | .LShift => (0 ≤ j ∧ j ≤ 1000000 ∧ i.natAbs < 2 ^ 64) ∧ Q (.un (.int (i * 2 ^ j.toNat)))
    | .RShift => 0 ≤ j ∧ Q (.un (.int (i / 2 ^ j.toNat)))
    | .BitAnd => Q (.un (.int (Builtin.bitAnd i j)))
    | .BitOr => Q (.un (.int (Builtin.bitOr i j)))
    | .BitXor => Q (.un (.int (Builtin.bitXor i j)))
    | _ => False
  | .lst xs, .lst ys => op = .Add ∧ xs.length + ys.length ≤ sizeLine ∧ Q (mkO (x.2 && y.2) (xs ++ ys))
  | .lst xs, .int k => op = .Mult ∧ (-(2 ^ 63) ≤ k ∧ k < 2 ^ 63) ∧ (List.replicate k.toNat xs).flatten.length ≤ sizeLine ∧ Q (mkO x.2 (List.replicate k.toNat xs).flatten)
  | .str i, .str j => op = .Add ∧ i.length + j.length ≤ sizeLine ∧ Q (.un (.str (i ++ j)))
  | _, _ => False
theorem binV_cg {op : Operator} {x y x' y' : Vw} {Q : Sl → Prop} (h : x = x') (h2 : y = y') : binV op x y Q = binV op x' y' Q := by rw [h, h2]
theorem binV_e {op : Operator} {x y : Sl} {Q : Sl → Prop} : binD op x y Q = binV op x.w y.w Q := rfl
@[simp ↓] theorem X_bin {op : Operator} : dX G S X (.bin op a c) ρ b Q = dX G S X a ρ b fun x b1 => dX G S X c ρ b1 fun y b2 => binV op x.w y.w fun z => Q z b2 := by rw [dX]; rfl
section
variable {f g : Bool} {i j : Int} {xs ys : List D} {Q : Sl → Prop} {s1 s2 : Str}
@[simp] theorem V_add : binV .Add (.int i, f) (.int j, g) Q = Q (.un (.int (i + j))) := rfl
@[simp] theorem V_sub : binV .Sub (.int i, f) (.int j, g) Q = Q (.un (.int (i - j))) := rfl
@[simp] theorem V_mul : binV .Mult (.int i, f) (.int j, g) Q = (CMulB i j = true ∧ Q (.un (.int (i * j)))) := rfl
@[simp] theorem V_fdiv : binV .FloorDiv (.int i, f) (.int j, g) Q = ((0 < j ∧ j < 1073741824) ∧ Q (.un (.int (i / j)))) := rfl
@[simp] theorem V_mod : binV .Mod (.int i, f) (.int j, g) Q = (0 < j ∧ Q (.un (.int (i % j)))) := rfl
@[simp] theorem V_pow : binV .Pow (.int i, f) (.int j, g) Q = ((0 ≤ j ∧ (Builtin.Int.intBits i : Int) * j ≤ 2 ^ 27) ∧ Q (.un (.int (i ^ j.toNat)))) := rfl
@[simp] theorem V_shl : binV .LShift (.int i, f) (.int j, g) Q = ((0 ≤ j ∧ j ≤ 1000000 ∧ i.natAbs < 2 ^ 64) ∧ Q (.un (.int (i * 2 ^ j.toNat)))) := rfl
@[simp] theorem V_shr : binV .RShift (.int i, f) (.int j, g) Q = (0 ≤ j ∧ Q (.un (.int (i / 2 ^ j.toNat)))) := rfl
@[simp] theorem V_and : binV .BitAnd (.int i, f) (.int j, g) Q = Q (.un (.int (Builtin.bitAnd i j))) := rfl
@[simp] theorem V_or : binV .BitOr (.int i, f) (.int j, g) Q = Q (.un (.int (Builtin.bitOr i j))) := rfl
@[simp] theorem V_xor : binV .BitXor (.int i, f) (.int j, g) Q = Q (.un (.int (Builtin.bitXor i j))) := rfl
@[simp] theorem V_cat : binV .Add (.lst xs, f) (.lst ys, g) Q = (xs.length + ys.length ≤ sizeLine ∧ Q (mkO (f && g) (xs ++ ys))) := by simp [binV]
@[simp] theorem V_rep : binV .Mult (.lst xs, f) (.int j, g) Q = ((-(2 ^ 63) ≤ j ∧ j < 2 ^ 63) ∧ (List.replicate j.toNat xs).flatten.length ≤ sizeLine ∧ Q (mkO f (List.replicate j.toNat xs).flatten)) := by simp [binV]
@[simp] theorem V_scat : binV .Add (.str s1, f) (.str s2, g) Q = (s1.length + s2.length ≤ sizeLine ∧ Q (.un (.str (s1 ++ s2)))) := by simp [binV]
end
@[simp ↓] theorem X_neg : dX G S X (.neg a) ρ b Q = dX G S X a ρ b fun x b1 => bindO (intD x.v) fun i => Q (.un (.int (-i))) b1 := by rw [dX]; simp only [intD_e]
@[simp ↓] theorem X_inv : dX G S X (.inv a) ρ b Q = dX G S X a ρ b fun x b1 => bindO (intD x.v) fun i => Q (.un (.int (Builtin.bitNot i))) b1 := by rw [dX]; simp only [intD_e]
@[simp ↓] theorem X_nt : dX G S X (.nt a) ρ b Q = dX G S X a ρ b fun x b1 => bindO (boolD x.v) fun k => Q (.un (.bl (!k))) b1 := by rw [dX]; simp only [boolD_e]
@[simp ↓] theorem X_and : dX G S X (.and a c) ρ b Q = dX G S X a ρ b fun x b1 => bindO (boolD x.v) fun k => iteD k (dX G S X c ρ b1 Q) (Q (.un (.bl false)) b1) := by rw [dX]; simp only [boolD_e]; rfl
@[simp ↓] theorem X_or : dX G S X (.or a c) ρ b Q = dX G S X a ρ b fun x b1 => bindO (boolD x.v) fun k => iteD k (Q (.un (.bl true)) b1) (dX G S X c ρ b1 Q) := by rw [dX]; simp only [boolD_e]; rfl
/-- comparisons by value -/
def cmpB (op : CmpOp) (x y : D) : Option Bool := match op with
  | .Eq => eqD x y
  | .NotEq => (eqD x y).map (!·)
  | .Lt => match x, y with
    | .int i, .int j => some (decide (i < j))
    | _, _ => none
  | .LtE => match x, y with
    | .int i, .int j => some (decide (i ≤ j))
    | _, _ => none
  | .Gt => match x, y with
    | .int i, .int j => some (decide (j < i))
    | _, _ => none
  | .GtE => match x, y with
    | .int i, .int j => some (decide (j ≤ i))
    | _, _ => none
  | .Is => match y with
    | .non => some (match x with | .non => true | _ => false)
    | _ => none
  | .IsNot => match y with
    | .non => some (match x with | .non => false | _ => true)
    | _ => none
  | .In => inD x y
  | .NotIn => (inD x y).map (!·)
theorem cmpB_e {op : CmpOp} {x y : D} {Q : Bool → Prop} (q : bindO (cmpB op x y) Q) : cmpD op x y Q := by
  obtain ⟨r, e, k⟩ := q
  cases op <;> simp only [cmpB] at e <;> simp only [cmpD]
  case Eq => exact ⟨r, e, k⟩
  case NotEq => obtain ⟨s, e1, rfl⟩ := Option.map_eq_some_iff.mp e; exact ⟨s, e1, k⟩
  case Lt => split at e <;> first | (cases e; exact ⟨_, _, rfl, rfl, k⟩) | cases e
  case LtE => split at e <;> first | (cases e; exact ⟨_, _, rfl, rfl, k⟩) | cases e
  case Gt => split at e <;> first | (cases e; exact ⟨_, _, rfl, rfl, k⟩) | cases e
  case GtE => split at e <;> first | (cases e; exact ⟨_, _, rfl, rfl, k⟩) | cases e
  case Is =>
    split at e
    · cases e
      refine ⟨rfl, ?_⟩
      cases x <;> first | exact .inl ⟨rfl, k⟩ | exact .inr ⟨(fun z => nomatch z), k⟩
    · cases e
  case IsNot =>
    split at e
    · cases e
      refine ⟨rfl, ?_⟩
      cases x <;> first | exact .inl ⟨rfl, k⟩ | exact .inr ⟨(fun z => nomatch z), k⟩
    · cases e
  case In => exact ⟨r, e, k⟩
  case NotIn => obtain ⟨s, e1, rfl⟩ := Option.map_eq_some_iff.mp e; exact ⟨s, e1, k⟩
def cmpE (S : Sps) (op : CmpOp) (x y : Sl) (b : Nat) (Q : Bool → Nat → Prop) (_ : Tag Q := ⟨⟩) : Prop := (isObj x.v ≠ none → x.kept = true ∧ y.kept = true) ∧ cmpX S op x.v y.v b Q
theorem cmpE_cg {op : CmpOp} {x y x' y' : Sl} {Q : Bool → Nat → Prop} (h : x = x') (h2 : y = y') : cmpE S op x y b Q = cmpE S op x' y' b Q := by rw [h, h2]
@[simp ↓] theorem X_cmp {op : CmpOp} : dX G S X (.cmp op a c) ρ b Q = dX G S X a ρ b fun x b1 => dX G S X c ρ b1 fun y b2 => cmpE S op x y b2 fun r b3 => Q (.un (.bl r)) b3 := by rw [dX]; rfl
/-- not of objects -/
theorem cmpE_of {op : CmpOp} {x y : Sl} {Q : Bool → Nat → Prop} (h : isObj x.v = none) (q : bindO (cmpB op x.v y.v) fun r => Q r b) : cmpE S op x y b Q := ⟨fun z => absurd h z, by unfold cmpX; rw [h]; exact cmpB_e q⟩
theorem cmpB_i {op : CmpOp} {x y : D} {Q : Bool → Prop} : cmpD op x y Q = bindO (cmpB op x y) Q := by
  apply propext
  refine ⟨fun q => ?_, cmpB_e⟩
  cases op <;> simp only [cmpD] at q
  case Eq => exact q
  case NotEq => obtain ⟨r, e, k⟩ := q; exact ⟨!r, by simp [cmpB, e], k⟩
  case Lt => obtain ⟨i, j, rfl, rfl, k⟩ := q; exact ⟨_, rfl, k⟩
  case LtE => obtain ⟨i, j, rfl, rfl, k⟩ := q; exact ⟨_, rfl, k⟩
  case Gt => obtain ⟨i, j, rfl, rfl, k⟩ := q; exact ⟨_, rfl, k⟩
  case GtE => obtain ⟨i, j, rfl, rfl, k⟩ := q; exact ⟨_, rfl, k⟩
  case Is =>
    obtain ⟨rfl, q⟩ := q
    rcases q with ⟨rfl, k⟩ | ⟨hx, k⟩
    · exact ⟨_, rfl, k⟩
    · refine ⟨false, ?_, k⟩
      cases x <;> first | rfl | exact absurd rfl hx
  case IsNot =>
    obtain ⟨rfl, q⟩ := q
    rcases q with ⟨rfl, k⟩ | ⟨hx, k⟩
    · exact ⟨_, rfl, k⟩
    · refine ⟨true, ?_, k⟩
      cases x <;> first | rfl | exact absurd rfl hx
  case In => exact q
  case NotIn => obtain ⟨r, e, k⟩ := q; exact ⟨!r, by simp [cmpB, e], k⟩
@[simp] theorem cmpE_v {op : CmpOp} {x y : Sl} {Q : Bool → Nat → Prop} (h : isObj x.v = none) : cmpE S op x y b Q = bindO (cmpB op x.v y.v) fun r => Q r b := by
  unfold cmpE cmpX
  rw [h]
  simp [cmpB_i]
section
variable {i j : Int} {x y : D}
@[simp] theorem B_eq : cmpB .Eq x y = eqD x y := rfl
@[simp] theorem B_ne : cmpB .NotEq x y = (eqD x y).map (!·) := rfl
@[simp] theorem B_lt : cmpB .Lt (.int i) (.int j) = some (decide (i < j)) := rfl
@[simp] theorem B_le : cmpB .LtE (.int i) (.int j) = some (decide (i ≤ j)) := rfl
@[simp] theorem B_gt : cmpB .Gt (.int i) (.int j) = some (decide (j < i)) := rfl
@[simp] theorem B_ge : cmpB .GtE (.int i) (.int j) = some (decide (j ≤ i)) := rfl
@[simp] theorem B_in : cmpB .In x y = inD x y := rfl
@[simp] theorem B_ni : cmpB .NotIn x y = (inD x y).map (!·) := rfl
end
@[simp ↓] theorem X_chain {op op' : CmpOp} : dX G S X (.chain op op' a c e) ρ b Q = dX G S X a ρ b fun x b1 => dX G S X c ρ b1 fun y b2 => (isObj x.v = none ∧ isObj y.v = none ∧ y.kept = true) ∧ bindO (cmpB op x.v y.v) fun r => iteD r (dX G S X e ρ b2 fun z b3 => bindO (cmpB op' y.v z.v) fun r2 => Q (.un (.bl r2)) b3) (Q (.un (.bl false)) b2) := by
  rw [dX]; simp only [cmpB_i, iteD, and_assoc]
@[simp ↓] theorem X_ite : dX G S X (.ite t a c) ρ b Q = dT G S X t ρ b fun k b1 => iteD k (dX G S X a ρ b1 Q) (dX G S X c ρ b1 Q) := by rw [dX]; rfl
@[simp ↓] theorem X_lst : dX G S X (.lst es) ρ b Q = dA G S X es ρ b fun ss b1 => ss.length ≤ sizeLine ∧ Q (mkO (ss.all Sl.isFr) (ss.map Sl.d)) b1 := by rw [dX]
@[simp ↓] theorem X_tup : dX G S X (.tup es) ρ b Q = dA G S X es ρ b fun ss b1 => ss.length ≤ sizeLine ∧ Q (mkT (ss.all Sl.isFr) (ss.map Sl.d)) b1 := by rw [dX]
@[simp ↓] theorem X_dic : dX G S X (.dic .nil) ρ b Q = Q (.fr (.dic [])) b := by rw [dX]; simp
@[simp ↓] theorem X_callF {f : Str} : dX G S X (.callF f es) ρ b Q = dA G S X es ρ b fun ss b1 => callFD S X f (ss.map Sl.d) b1 Q := by rw [dX]; rfl
@[simp ↓] theorem X_callC {f : Str} : dX G S X (.callC f es) ρ b Q = (mkOk G f = true ∧ dA G S X es ρ b fun ss b1 => callKD S X f (ss.map Sl.d) b1 Q) := by rw [dX]; rfl
def bltV (G : Env) (f : Blt) (ss : List Vw) (Q : Sl → Prop) (_ : Tag Q := ⟨⟩) : Prop := match f, ss with
  | .len, [x] => bindO (lenD x.1) fun n => Q (.un (.int n))
  | .sum, [x] => bindO ((lstD x.1).bind intsD) fun ns => Q (.un (.int ns.sum))
  | .all, [x] => bindO ((lstD x.1).bind boolsD) fun ns => Q (.un (.bl (ns.all id)))
  | .any, [x] => bindO ((lstD x.1).bind boolsD) fun ns => Q (.un (.bl (ns.any id)))
  | .list, [x] => match x.1 with
    | .lst xs => xs.length ≤ sizeLine ∧ Q (mkO x.2 xs)
    | .tup xs => xs.length ≤ sizeLine ∧ Q (mkO x.2 xs)
    | .dic xs => xs.length ≤ sizeLine ∧ Q (.fr (.lst (xs.map fun kv => keyDV kv.1)))
    | _ => False
  | .tuple, [x] => bindO (lstD x.1) fun xs => xs.length ≤ sizeLine ∧ Q (mkT x.2 xs)
  | .dict, [x] => bindO ((lstD x.1).bind pairsD) fun ks => Q (mkK (ks.all fun kv => scal kv.2) (mergeD ks))
  | .sorted, [x] => match x.1 with
    | .lst xs => bindO (intsD xs) fun ns => Q (.fr (.lst ((isort ns).map .int)))
    | .dic xs => bindO (intsD (xs.map fun kv => keyDV kv.1)) fun ns => ns.length < 64 ∧ Q (.fr (.lst ((isort ns).map .int)))
    | _ => False
  | .int, [x] => bindO (intD x.1) fun i => Q (.un (.int i))
  | .max, [x, y] => bindO (intD x.1) fun i => bindO (intD y.1) fun j => Q (.un (.int (if j > i then j else i)))
  | .min, [x, y] => bindO (intD x.1) fun i => bindO (intD y.1) fun j => Q (.un (.int (if j < i then j else i)))
  | .isinstance, [x, c] => bindO (isiD G x.1 c.1) fun r => Q (.un (.bl r))
  | _, _ => False
theorem bltV_cg {f : Blt} {ss ss' : List Vw} {Q : Sl → Prop} (h : ss = ss') : bltV G f ss Q = bltV G f ss' Q := by rw [h]
theorem bltV_e {f : Blt} {ss : List Sl} {Q : Sl → Prop} (q : bltV G f (ss.map Sl.w) Q) : bltD G f ss Q := by
  unfold bltV at q
  unfold bltD
  match ss with
  | [] => cases f <;> exact q
  | [x] =>
    cases f <;> simp only [List.map_cons, List.map_nil, w_eq] at q ⊢ <;> try exact q
    · obtain ⟨ns, e, k⟩ := q; obtain ⟨xs, e1, e2⟩ := Option.bind_eq_some_iff.mp e
      refine ⟨xs, ns, ?_, e2, k⟩; revert e1; cases x.v <;> simp [lstD]
    · obtain ⟨ns, e, k⟩ := q; obtain ⟨xs, e1, e2⟩ := Option.bind_eq_some_iff.mp e
      refine ⟨xs, ns, ?_, e2, k⟩; revert e1; cases x.v <;> simp [lstD]
    · obtain ⟨ns, e, k⟩ := q; obtain ⟨xs, e1, e2⟩ := Option.bind_eq_some_iff.mp e
      refine ⟨xs, ns, ?_, e2, k⟩; revert e1; cases x.v <;> simp [lstD]
    · obtain ⟨xs, e1, k⟩ := q
      refine ⟨xs, ?_, k⟩; revert e1; cases x.v <;> simp [lstD]
    · obtain ⟨ns, e, k⟩ := q; obtain ⟨xs, e1, e2⟩ := Option.bind_eq_some_iff.mp e
      refine ⟨xs, ns, ?_, e2, k⟩; revert e1; cases x.v <;> simp [lstD]
    · obtain ⟨i, e1, k⟩ := q
      refine ⟨i, ?_, k⟩; revert e1; cases x.v <;> simp [intD]
  | [x, y] =>
    cases f <;> simp only [List.map_cons, List.map_nil, w_eq] at q ⊢ <;> try exact q
    · obtain ⟨i, e1, j, e2, k⟩ := q
      refine ⟨i, j, ?_, ?_, k⟩
      · revert e1; cases x.v <;> simp [intD]
      · revert e2; cases y.v <;> simp [intD]
    · obtain ⟨i, e1, j, e2, k⟩ := q
      refine ⟨i, j, ?_, ?_, k⟩
      · revert e1; cases x.v <;> simp [intD]
      · revert e2; cases y.v <;> simp [intD]
  | x :: y :: z :: r => cases f <;> exact q
end
theorem szl {n : Nat} (h : n ≤ 1000000) : n ≤ sizeLine := Nat.le_trans h (by decide)
theorem szl' {n : Nat} (h : n < 1000000) : n < sizeLine := Nat.lt_of_lt_of_le h (by decide)
theorem bgw {n : Nat} (h : n < 1000000) : n < bigW := Nat.lt_of_lt_of_le h (by decide)
end SL

set_option Elab.async false
set_option linter.all false
set_option maxRecDepth 100000
set_option maxHeartbeats 4000000
/-! What simp knows of trees: calls, loops, statements. -/
namespace SL
open PySem
section
variable {G : Env} {S : Sps} {X : XD} {ρ ρ' : DEnv} {b : Nat} {Q : Sl → Nat → Prop} {a c t es e e' : T}
theorem bltV_i {f : Blt} {ss : List Sl} {Q : Sl → Prop} : bltD G f ss Q = bltV G f (ss.map Sl.w) Q := by
  apply propext
  refine ⟨fun q => ?_, bltV_e⟩
  unfold bltD at q
  unfold bltV
  match ss with
  | [] => cases f <;> exact q
  | [x] =>
    cases f <;> simp only [List.map_cons, List.map_nil, w_eq] at q ⊢ <;> try exact q
    · obtain ⟨xs, ns, e, e2, k⟩ := q; exact ⟨ns, by rw [e]; exact e2, k⟩
    · obtain ⟨xs, ns, e, e2, k⟩ := q; exact ⟨ns, by rw [e]; exact e2, k⟩
    · obtain ⟨xs, ns, e, e2, k⟩ := q; exact ⟨ns, by rw [e]; exact e2, k⟩
    · obtain ⟨xs, e, k⟩ := q; exact ⟨xs, by rw [e]; rfl, k⟩
    · obtain ⟨xs, ns, e, e2, k⟩ := q; exact ⟨ns, by rw [e]; exact e2, k⟩
    · obtain ⟨i, e, k⟩ := q; exact ⟨i, by rw [e]; rfl, k⟩
  | [x, y] =>
    cases f <;> simp only [List.map_cons, List.map_nil, w_eq] at q ⊢ <;> try exact q
    · obtain ⟨i, j, e, e2, k⟩ := q; exact ⟨i, by rw [e]; rfl, j, by rw [e2]; rfl, k⟩
    · obtain ⟨i, j, e, e2, k⟩ := q; exact ⟨i, by rw [e]; rfl, j, by rw [e2]; rfl, k⟩
  | x :: y :: z :: r => cases f <;> exact q
@[simp ↓] theorem X_callB {f : Blt} : dX G S X (.callB f es) ρ b Q = dL G S X es ρ b fun ss b1 => bltV G f (ss.map Sl.w) fun s => Q s b1 := by rw [dX]; simp only [bltV_i]
section
variable {x y : D} {f g : Bool} {Q : Sl → Prop} {xs : List D} {ks : List (AKey × D)}
@[simp] theorem L_len : bltV G .len [(x, f)] Q = bindO (lenD x) fun n => Q (.un (.int n)) := rfl
@[simp] theorem L_sum : bltV G .sum [(.lst xs, f)] Q = bindO (intsD xs) fun ns => Q (.un (.int ns.sum)) := rfl
@[simp] theorem L_all : bltV G .all [(.lst xs, f)] Q = bindO (boolsD xs) fun ns => Q (.un (.bl (ns.all id))) := rfl
@[simp] theorem L_any : bltV G .any [(.lst xs, f)] Q = bindO (boolsD xs) fun ns => Q (.un (.bl (ns.any id))) := rfl
@[simp] theorem L_listL : bltV G .list [(.lst xs, f)] Q = (xs.length ≤ sizeLine ∧ Q (mkO f xs)) := rfl
@[simp] theorem L_listT : bltV G .list [(.tup xs, f)] Q = (xs.length ≤ sizeLine ∧ Q (mkO f xs)) := rfl
@[simp] theorem L_listK : bltV G .list [(.dic ks, f)] Q = (ks.length ≤ sizeLine ∧ Q (.fr (.lst (ks.map fun kv => keyDV kv.1)))) := rfl
@[simp] theorem L_tuple : bltV G .tuple [(.lst xs, f)] Q = (xs.length ≤ sizeLine ∧ Q (mkT f xs)) := by simp [bltV]
@[simp] theorem L_dict : bltV G .dict [(.lst xs, f)] Q = bindO (pairsD xs) fun ks => Q (mkK (ks.all fun kv => scal kv.2) (mergeD ks)) := rfl
@[simp] theorem L_sortL : bltV G .sorted [(.lst xs, f)] Q = bindO (intsD xs) fun ns => Q (.fr (.lst ((isort ns).map .int))) := rfl
@[simp] theorem L_sortK : bltV G .sorted [(.dic ks, f)] Q = bindO (intsD (ks.map fun kv => keyDV kv.1)) fun ns => ns.length < 64 ∧ Q (.fr (.lst ((isort ns).map .int))) := rfl
@[simp] theorem L_int : bltV G .int [(x, f)] Q = bindO (intD x) fun i => Q (.un (.int i)) := rfl
@[simp] theorem L_max : bltV G .max [(x, f), (y, g)] Q = bindO (intD x) fun i => bindO (intD y) fun j => Q (.un (.int (if j > i then j else i))) := rfl
@[simp] theorem L_min : bltV G .min [(x, f), (y, g)] Q = bindO (intD x) fun i => bindO (intD y) fun j => Q (.un (.int (if j < i then j else i))) := rfl
@[simp] theorem L_isi : bltV G .isinstance [(x, f), (y, g)] Q = bindO (isiD G x y) fun r => Q (.un (.bl r)) := rfl
end
def lrngV (ds : List D) (Q : Sl → Prop) : Prop := match ds with
  | [x] => bindO (intD x) fun j => (-(2 ^ 62) ≤ j ∧ j < 1000000) ∧ Q (.fr (.lst (rngD 0 j.toNat)))
  | [x, y] => bindO (intD x) fun i => bindO (intD y) fun j => (-(2 ^ 62) ≤ i ∧ i < 2 ^ 62 ∧ -(2 ^ 62) ≤ j ∧ j < 2 ^ 62 ∧ j - i < 1000000) ∧ Q (.fr (.lst (rngD i (j - i).toNat)))
  | _ => False
@[simp] theorem lrng1 {x : D} {Q : Sl → Prop} : lrngV [x] Q = bindO (intD x) fun j => (-(2 ^ 62) ≤ j ∧ j < 1000000) ∧ Q (.fr (.lst (rngD 0 j.toNat))) := rfl
@[simp] theorem lrng2 {x y : D} {Q : Sl → Prop} : lrngV [x, y] Q = bindO (intD x) fun i => bindO (intD y) fun j => (-(2 ^ 62) ≤ i ∧ i < 2 ^ 62 ∧ -(2 ^ 62) ≤ j ∧ j < 2 ^ 62 ∧ j - i < 1000000) ∧ Q (.fr (.lst (rngD i (j - i).toNat))) := rfl
theorem lrngV_e {ss : List Sl} {Q : Sl → Prop} : ((∃ x j, ss = [x] ∧ x.v = .int j ∧ (-(2 ^ 62) ≤ j ∧ j < 1000000) ∧ Q (.fr (.lst (rngD 0 j.toNat)))) ∨
      ∃ x y i j, ss = [x, y] ∧ x.v = .int i ∧ y.v = .int j ∧ (-(2 ^ 62) ≤ i ∧ i < 2 ^ 62 ∧ -(2 ^ 62) ≤ j ∧ j < 2 ^ 62 ∧ j - i < 1000000) ∧ Q (.fr (.lst (rngD i (j - i).toNat)))) = lrngV (ss.map Sl.v) Q := by
  apply propext
  match ss with
  | [] => simp [lrngV]
  | [x] =>
    simp only [List.map_cons, List.map_nil, lrng1, ← intD_e]
    constructor
    · rintro (⟨_, j, e, q⟩ | ⟨_, _, _, _, e, _⟩)
      · cases e; exact ⟨j, q⟩
      · cases e
    · rintro ⟨j, q⟩; exact .inl ⟨x, j, rfl, q⟩
  | [x, y] =>
    simp only [List.map_cons, List.map_nil, lrng2, ← intD_e]
    constructor
    · rintro (⟨_, _, e, _⟩ | ⟨_, _, i, j, e, h1, h2, q⟩)
      · cases e
      · cases e; exact ⟨i, h1, j, h2, q⟩
    · rintro ⟨i, h1, j, h2, q⟩; exact .inr ⟨x, y, i, j, rfl, h1, h2, q⟩
  | x :: y :: z :: r => simp [lrngV]
@[simp ↓] theorem X_lrange : dX G S X (.lrange es) ρ b Q = dL G S X es ρ b fun ss b1 => lrngV (ss.map Sl.v) fun s => Q s b1 := by rw [dX]; simp only [← lrngV_e]
@[simp ↓] theorem X_bits : dX G S X (.meth a .bit_length .nil) ρ b Q = dX G S X a ρ b fun x b1 => bindO (intD x.v) fun i => Q (.un (.int (Builtin.Int.intBits i : Nat))) b1 := by rw [dX]; simp only [intD_e, true_and]
/-- a method of one's own -/
def metG (G : Env) (d : D) (m : Str) : Option Str := match d with
  | .obj C fs => if fs.lookup m = none then (((G.cls C).bind fun cd => cd.meth.lookup m).filter fun g => (G.fns g).isSome) else none
  | _ => none
@[simp ↓] theorem X_methO {m : Str} : dX G S X (.methO a m es) ρ b Q = dX G S X a ρ b fun x b1 => x.kept = true ∧ bindO (metG G x.v m) fun g => dA G S X es ρ b1 fun ss b2 => callFD S X g (x.v :: ss.map Sl.d) b2 Q := by
  unfold callFD
  rw [dX]
  congr 1
  funext x b1
  apply propext
  constructor
  · rintro ⟨C, fs, g, hk, e, h1, h2, h3, q⟩
    exact ⟨hk, g, by rw [e]; simp only [metG, h2, if_true, h1]; simp [h3], q⟩
  · rintro ⟨hk, g, e, q⟩
    cases hx : x.v with
    | obj C fs =>
      rw [hx] at e q
      simp only [metG] at e
      split at e
      · rename_i h2
        obtain ⟨h1, h3⟩ := Option.filter_eq_some_iff.mp e
        exact ⟨C, fs, g, hk, rfl, h1, h2, h3, q⟩
      · cases e
    | _ => rw [hx] at e; cases e
/-- a field -/
def fldD (G : Env) (d : D) (x : Str) : Option D := match d with
  | .obj C fs => if hasFld G C x = true then (fs.lookup x).join else none
  | _ => none
@[simp ↓] theorem X_fld {x : Str} : dX G S X (.fld a x) ρ b Q = dX G S X a ρ b fun v b1 => bindO (fldD G v.v x) fun d => Q (.un d) b1 := by
  rw [dX]
  congr 1
  funext v b1
  apply propext
  constructor
  · rintro ⟨C, fs, d, e, h1, h2, q⟩
    exact ⟨d, by rw [e]; simp [fldD, h1, h2], q⟩
  · rintro ⟨d, e, q⟩
    cases hx : v.v with
    | obj C fs =>
      rw [hx] at e
      simp only [fldD] at e
      split at e
      · rename_i h1
        exact ⟨C, fs, d, rfl, h1, Option.join_eq_some_iff.mp e, q⟩
      · cases e
    | _ => rw [hx] at e; cases e
@[simp ↓] theorem X_ix : dX G S X (.ix a c) ρ b Q = dX G S X a ρ b fun x b1 => dX G S X c ρ b1 fun y b2 => bindO (ixD x.v y.v) fun d => Q (.un d) b2 := by rw [dX]; rfl
@[simp ↓] theorem X_slc : dX G S X (.slc a c e) ρ b Q = dX G S X a ρ b fun x b1 => dP G S X c ρ b1 fun l b2 => dP G S X e ρ b2 fun u b3 => bindO (lstD x.v) fun xs => (cutD xs l u).length ≤ sizeLine ∧ Q (mkO (xs.all scal) (cutD xs l u)) b3 := by rw [dX]; simp only [lstD_e]
@[simp ↓] theorem X_rev : dX G S X (.rev a) ρ b Q = dX G S X a ρ b fun x b1 => bindO (lstD x.v) fun xs => xs.length ≤ sizeLine ∧ Q (mkO (xs.all scal) xs.reverse) b1 := by rw [dX]; simp only [lstD_e]
@[simp ↓] theorem X_comp {tg it cnd : T} {own : List Nat} : dX G S X (.comp e tg it cnd own) ρ b Q = dI G S X it ρ b fun items _ b1 => items.length < bigW ∧ foldB (fun x (acc : Bool × List D) b2 K => dG G S tg x (wipeD ρ own) fun ρ2 => dT G S nxD cnd ρ2 b2 fun k b3 =>
        iteD k (dX G S nxD e ρ2 b3 fun y b4 => y.kept = true ∧ acc.2.length < sizeLine ∧ K (acc.1 && y.isFr, acc.2 ++ [y.d]) b4) (K acc b3)) ⟨⟩ items (true, []) b1 (fun ds b5 => Q (mkO ds.1 ds.2) b5) ⟨⟩ := by rw [dX]; rfl
@[simp ↓] theorem X_comp2 {tg it cnd tg1 it1 cnd1 : T} {own own1 : List Nat} : dX G S X (.comp2 e tg it cnd tg1 it1 cnd1 own own1) ρ b Q = dI G S X it ρ b fun items _ b1 => items.length < bigW ∧ foldB (fun x (acc : Bool × List D) b2 K => dG G S tg x (wipeD ρ own) fun ρ2 => dT G S nxD cnd ρ2 b2 fun k b3 =>
        iteD k (dI G S nxD it1 (wipeD ρ2 own1) b3 fun items1 _ b4 => items1.length < bigW ∧ foldB (fun x1 (acc1 : Bool × List D) b5 K1 => dG G S tg1 x1 (wipeD ρ2 own1) fun ρ3 => dT G S nxD cnd1 ρ3 b5 fun k1 b6 =>
          iteD k1 (dX G S nxD e ρ3 b6 fun y b7 => y.kept = true ∧ acc1.2.length < sizeLine ∧ K1 (acc1.1 && y.isFr, acc1.2 ++ [y.d]) b7) (K1 acc1 b6)) ⟨⟩ items1 acc b4 K ⟨⟩) (K acc b3)) ⟨⟩ items (true, []) b1 (fun ds b5 => Q (mkO ds.1 ds.2) b5) ⟨⟩ := by rw [dX]; rfl
@[simp ↓] theorem X_dcomp {k0 tg it cnd : T} {own : List Nat} : dX G S X (.dcomp k0 e tg it cnd own) ρ b Q = dI G S X it ρ b fun items _ b1 => items.length < bigW ∧ foldB (fun x (acc : Bool × List (AKey × D)) b2 K => dG G S tg x (wipeD ρ own) fun ρ2 => dT G S nxD cnd ρ2 b2 fun k b3 =>
        iteD k (dX G S nxD k0 ρ2 b3 fun y b4 => dX G S nxD e ρ2 b4 fun z b5 => z.kept = true ∧ acc.2.length < sizeLine ∧ bindO (keyD y.v) fun kk => K (acc.1 && z.isFr, putD acc.2 kk z.d) b5) (K acc b3)) ⟨⟩ items (true, []) b1 (fun ds b5 => Q (mkK ds.1 ds.2) b5) ⟨⟩ := by rw [dX]; rfl
@[simp ↓] theorem X_dcomp2 {k0 tg it cnd tg1 it1 cnd1 : T} {own own1 : List Nat} : dX G S X (.dcomp2 k0 e tg it cnd tg1 it1 cnd1 own own1) ρ b Q = dI G S X it ρ b fun items _ b1 => items.length < bigW ∧ foldB (fun x (acc : Bool × List (AKey × D)) b2 K => dG G S tg x (wipeD ρ own) fun ρ2 => dT G S nxD cnd ρ2 b2 fun k b3 =>
        iteD k (dI G S nxD it1 (wipeD ρ2 own1) b3 fun items1 _ b4 => items1.length < bigW ∧ foldB (fun x1 (acc1 : Bool × List (AKey × D)) b5 K1 => dG G S tg1 x1 (wipeD ρ2 own1) fun ρ3 => dT G S nxD cnd1 ρ3 b5 fun k1 b6 =>
          iteD k1 (dX G S nxD k0 ρ3 b6 fun y b7 => dX G S nxD e ρ3 b7 fun z b8 => z.kept = true ∧ acc1.2.length < sizeLine ∧ bindO (keyD y.v) fun kk => K1 (acc1.1 && z.isFr, putD acc1.2 kk z.d) b8) (K1 acc1 b6)) ⟨⟩ items1 acc b4 K ⟨⟩) (K acc b3)) ⟨⟩ items (true, []) b1 (fun ds b5 => Q (mkK ds.1 ds.2) b5) ⟨⟩ := by rw [dX]; rfl
@[simp ↓] theorem P_no {Q : Option Int → Nat → Prop} : dP G S X .skip ρ b Q = Q none b := by rw [dP]
@[simp ↓] theorem P_some {Q : Option Int → Nat → Prop} : dP G S X (.pSome e) ρ b Q = dX G S X e ρ b fun x b1 => bindO (intD x.v) fun i => Q (some i) b1 := by rw [dP]; simp only [intD_e]
@[simp ↓] theorem T_and {Q : Bool → Nat → Prop} : dT G S X (.tAnd a c) ρ b Q = dT G S X a ρ b fun k b1 => iteD k (dT G S X c ρ b1 Q) (Q false b1) := by rw [dT]; rfl
@[simp ↓] theorem T_or {Q : Bool → Nat → Prop} : dT G S X (.tOr a c) ρ b Q = dT G S X a ρ b fun k b1 => iteD k (Q true b1) (dT G S X c ρ b1 Q) := by rw [dT]; rfl
@[simp ↓] theorem T_not {Q : Bool → Nat → Prop} : dT G S X (.tNot a) ρ b Q = dT G S X a ρ b fun k b1 => Q (!k) b1 := by rw [dT]
@[simp ↓] theorem T_yes {Q : Bool → Nat → Prop} : dT G S X .tYes ρ b Q = Q true b := by rw [dT]
@[simp ↓] theorem T_val {Q : Bool → Nat → Prop} : dT G S X (.tVal a) ρ b Q = dX G S X a ρ b fun x b1 => bindO (truthD x.v) fun k => Q k b1 := by rw [dT]; rfl
@[simp ↓] theorem A_nil {Q : List Sl → Nat → Prop} : dA G S X .nil ρ b Q = Q [] b := by rw [dA]
@[simp ↓] theorem A_cons {Q : List Sl → Nat → Prop} : dA G S X (.cons e es) ρ b Q = dX G S X e ρ b fun x b1 => x.kept = true ∧ dA G S X es ρ b1 fun ss b2 => Q (x :: ss) b2 := by rw [dA]
@[simp ↓] theorem Lk_nil {Q : List Sl → Nat → Prop} : dL G S X .nil ρ b Q = Q [] b := by rw [dL]
@[simp ↓] theorem Lk_cons {Q : List Sl → Nat → Prop} : dL G S X (.cons e es) ρ b Q = dX G S X e ρ b fun x b1 => dL G S X es ρ b1 fun ss b2 => Q (x :: ss) b2 := by rw [dL]
@[simp ↓] theorem I_rng1 {Q : List D → Bool → Nat → Prop} : dI G S X (.iRng1 (.cons a .nil)) ρ b Q = dX G S X a ρ b fun x b1 => bindO (intD x.v) fun j => (-(2 ^ 62) ≤ j ∧ j < 2 ^ 62) ∧ Q (rngD 0 j.toNat) true b1 := by
  rw [dI, Lk_cons]
  congr 1
  funext x b1
  rw [Lk_nil, ← intD_e]
  apply propext
  constructor
  · rintro ⟨_, j, e, q⟩; cases e; exact ⟨j, q⟩
  · rintro ⟨j, q⟩; exact ⟨x, j, rfl, q⟩
@[simp ↓] theorem I_rng2 {Q : List D → Bool → Nat → Prop} : dI G S X (.iRng2 (.cons a (.cons c .nil))) ρ b Q = dX G S X a ρ b fun x b1 => dX G S X c ρ b1 fun y b2 => bindO (intD x.v) fun i => bindO (intD y.v) fun j => (-(2 ^ 62) ≤ i ∧ i < 2 ^ 62 ∧ -(2 ^ 62) ≤ j ∧ j < 2 ^ 62) ∧ Q (rngD i (j - i).toNat) true b2 := by
  rw [dI, Lk_cons]
  congr 1
  funext x b1
  rw [Lk_cons]
  congr 1
  funext y b2
  rw [Lk_nil]
  simp only [← intD_e]
  apply propext
  constructor
  · rintro ⟨_, _, i, j, e, h1, h2, q⟩; cases e; exact ⟨i, h1, j, h2, q⟩
  · rintro ⟨i, h1, j, h2, q⟩; exact ⟨x, y, i, j, rfl, h1, h2, q⟩
@[simp ↓] theorem I_enm {Q : List D → Bool → Nat → Prop} : dI G S X (.iEnm a) ρ b Q = dX G S X a ρ b fun x b1 => bindO (lstD x.v) fun xs => Q (enmD 0 xs) x.kept b1 := by rw [dI]; simp only [lstD_e]
def zipV (x y : D) : Option (List D) := match x, y with
  | .lst xs, .lst ys => some (zipD xs ys)
  | .tup xs, .tup ys => some (zipD xs ys)
  | _, _ => none
@[simp] theorem zipV_l {xs ys : List D} : zipV (.lst xs) (.lst ys) = some (zipD xs ys) := rfl
@[simp] theorem zipV_t {xs ys : List D} : zipV (.tup xs) (.tup ys) = some (zipD xs ys) := rfl
@[simp ↓] theorem I_zip {Q : List D → Bool → Nat → Prop} : dI G S X (.iZip a c) ρ b Q = dX G S X a ρ b fun x b1 => dX G S X c ρ b1 fun y b2 => bindO (zipV x.v y.v) fun zs => Q zs (x.kept && y.kept) b2 := by
  rw [dI]
  congr 1
  funext x b1
  congr 1
  funext y b2
  apply propext
  constructor
  · rintro (⟨xs, ys, e1, e2, q⟩ | ⟨xs, ys, e1, e2, q⟩)
    · rw [e1, e2]; exact ⟨_, rfl, q⟩
    · rw [e1, e2]; exact ⟨_, rfl, q⟩
  · rintro ⟨zs, e, q⟩
    cases h1 : x.v <;> cases h2 : y.v <;> rw [h1, h2] at e <;> first | (cases e; exact .inl ⟨_, _, rfl, rfl, q⟩) | (cases e; exact .inr ⟨_, _, rfl, rfl, q⟩) | cases e
@[simp ↓] theorem I_seq {Q : List D → Bool → Nat → Prop} : dI G S X (.iSeq a) ρ b Q = dX G S X a ρ b fun x b1 => bindO (seqD x.v) fun xs => Q xs x.kept b1 := by rw [dI]; rfl
@[simp ↓] theorem G_name {i : Nat} {v : D} {Q : DEnv → Prop} : dG G S (.tName i) v ρ Q = Q (ρ.set i (some (.un v))) := by rw [dG]
@[simp ↓] theorem G_tup {ts : T} {v : D} {Q : DEnv → Prop} : dG G S (.tTup ts) v ρ Q = bindO (tupD (strip v)) fun vs => dGs G S ts vs ρ Q := by rw [dG]; simp only [tupD_e]
@[simp ↓] theorem Gs_nil {Q : DEnv → Prop} : dGs G S .nil [] ρ Q = Q ρ := by rw [dGs]; simp
@[simp ↓] theorem Gs_cons {ts : T} {v : D} {vs : List D} {Q : DEnv → Prop} : dGs G S (.cons t ts) (v :: vs) ρ Q = dG G S t v ρ fun ρ1 => dGs G S ts vs ρ1 Q := by
  rw [dGs]
  apply propext
  constructor
  · rintro ⟨_, _, e, q⟩; cases e; exact q
  · intro q; exact ⟨v, vs, rfl, q⟩
/-! #### statements -/
variable {mu : Mu} {E : DE}
@[simp ↓] theorem S_done : dS G S mu .done ρ b E = E.nx ρ b := by rw [dS]
@[simp] theorem S_seq : dS G S mu (.seq a c) ρ b E = dS G S mu a ρ b { E with nx := fun ρ1 b1 => dS G S mu c ρ1 b1 E } := by rw [dS]
@[simp ↓] theorem S_expr : dS G S mu (.expr e) ρ b E = dExpr G S (fun C ds b => E.ex C ds (fz ρ) b) e ρ b E.nx := by rw [dS]
@[simp ↓] theorem S_ret : dS G S mu (.ret e) ρ b E = dRet G S (fun C ds b => E.ex C ds (fz ρ) b) e ρ b E.rt := by rw [dS]
@[simp ↓] theorem S_asg {tg : T} : dS G S mu (.asg tg e) ρ b E = dAsg G S (fun C ds b => E.ex C ds (fz ρ) b) mu tg e ρ b E.nx := by rw [dS]
def unD (o : Option (Option Sl)) : Option D := match o with
  | some (some (.un d)) => some d
  | _ => none
@[simp] theorem unD_u {d : D} : unD (some (some (.un d))) = some d := rfl
@[simp ↓] theorem S_aug {i : Nat} {op : Operator} : dS G S mu (.aug i op e) ρ b E = bindO (unD ρ[i]?) fun d => scalD d = true ∧ dX G S (fun C ds b => E.ex C ds (fz ρ) b) e (fz ρ) b fun s b1 => scalD s.v = true ∧ binV op (strip d, true) (strip s.v, true) fun z => E.nx (ρ.set i (some (.un z.d))) b1 := by
  rw [dS]
  apply propext
  have key : ∀ {d : D} {s : Sl} {Q : Sl → Prop}, scalD d = true → scalD s.v = true → (binD op (.un d) (.un s.v) fun z => z.kept = true ∧ Q z) = binV op (strip d, true) (strip s.v, true) Q := by
    intro d s Q h1 h2
    generalize s.v = y at *
    cases d <;> first | cases h1 | skip
    all_goals cases y <;> first | cases h2 | skip
    all_goals cases op <;> simp [binD, binV, Sl.v]
  have hF : ∀ {d : D}, scalD d = true → (dX G S (fun C ds b => E.ex C ds (fz ρ) b) e (fz ρ) b fun s b1 => scalD s.v = true ∧ binD op (.un d) (.un s.v) fun z => z.kept = true ∧ E.nx (ρ.set i (some (.un z.d))) b1) =
      (dX G S (fun C ds b => E.ex C ds (fz ρ) b) e (fz ρ) b fun s b1 => scalD s.v = true ∧ binV op (strip d, true) (strip s.v, true) fun z => E.nx (ρ.set i (some (.un z.d))) b1) := by
    intro d h1
    congr 1
    funext s b1
    apply propext
    constructor
    · rintro ⟨h2, q⟩; exact ⟨h2, by rw [← key h1 h2]; exact q⟩
    · rintro ⟨h2, q⟩; exact ⟨h2, by rw [key h1 h2]; exact q⟩
  constructor
  · rintro ⟨d, e1, h1, q⟩
    exact ⟨d, by rw [e1]; rfl, h1, by rw [← hF h1]; exact q⟩
  · rintro ⟨d, e1, h1, q⟩
    have e2 : ρ[i]? = some (some (.un d)) := by
      revert e1; unfold unD; split
      · rename_i e; intro z; cases z; exact e
      · intro z; cases z
    exact ⟨d, e2, h1, by rw [hF h1]; exact q⟩
@[simp ↓] theorem S_iff : dS G S mu (.iff t a c) ρ b E = dT G S (fun C ds b => E.ex C ds (fz ρ) b) t (fz ρ) b fun k b1 => iteD k (dS G S mu a ρ b1 E) (dS G S mu c ρ b1 E) := by rw [dS]; rfl
@[simp ↓] theorem S_for {tg it bd : T} : dS G S mu (.for tg it bd) ρ b E = (dForApp tg it bd ρ b E ∨ dI G S (fun C ds b => E.ex C ds (fz ρ) b) it (frzs ρ (escF it)) b fun items k b1 => k = true ∧ items.length < bigW ∧
      foldB (fun x ρ1 b2 K => dG G S tg x ρ1 fun ρ2 => dS G S mu bd ρ2 b2 { nx := K, ct := K, rt := E.rt, bk := E.nx, ex := E.ex }) ⟨⟩ items (frzs ρ (escF it)) b1 E.nx ⟨⟩) := by rw [dS]; rfl
@[simp ↓] theorem S_par {is : List Nat} : dS G S mu (.par is es) ρ b E = dA G S (fun C ds b => E.ex C ds (fz ρ) b) es (frzs ρ (escA es)) b fun ss b1 => ss.length = is.length ∧ E.nx (setAllS mu (frzs ρ (escA es)) is ss) b1 := by rw [dS]
@[simp ↓] theorem S_raise {C : Str} : dS G S mu (.raise C es) ρ b E = dA G S (fun C ds b => E.ex C ds (fz ρ) b) es (fz ρ) b fun ss b1 => bindO (excD G C (ss.map Sl.d)) fun fs => E.ex C fs (fz ρ) b1 := by rw [dS]; rfl
@[simp ↓] theorem S_brk : dS G S mu .brk ρ b E = E.bk ρ b := by rw [dS]
@[simp ↓] theorem S_cont : dS G S mu .cont ρ b E = E.ct ρ b := by rw [dS]
@[simp] theorem St_nil {ρ : DEnv} {ss : List Sl} : setAllS mu ρ [] ss = ρ := by cases ss <;> rfl
@[simp] theorem St_cons {ρ : DEnv} {i : Nat} {is : List Nat} {s : Sl} {ss : List Sl} : setAllS mu ρ (i :: is) (s :: ss) = setAllS mu (ρ.set i (some (slotAs mu i s))) is ss := rfl
end
end SL

set_option Elab.async false
set_option linter.all false
set_option maxRecDepth 100000
set_option maxHeartbeats 4000000
/-! Specs of defs on trees; the laws' helpers. -/
namespace SL
open PySem
@[simp] theorem kb_NoneType_int : L2.kitB "NoneType" "int" = some false := by decide +kernel
@[simp] theorem kb_NoneType_bool : L2.kitB "NoneType" "bool" = some false := by decide +kernel
@[simp] theorem kb_NoneType_str : L2.kitB "NoneType" "str" = some false := by decide +kernel
@[simp] theorem kb_NoneType_list : L2.kitB "NoneType" "list" = some false := by decide +kernel
@[simp] theorem kb_NoneType_tuple : L2.kitB "NoneType" "tuple" = some false := by decide +kernel
@[simp] theorem kb_NoneType_dict : L2.kitB "NoneType" "dict" = some false := by decide +kernel
@[simp] theorem kb_bool_int : L2.kitB "bool" "int" = some true := by decide +kernel
@[simp] theorem kb_bool_bool : L2.kitB "bool" "bool" = some true := by decide +kernel
@[simp] theorem kb_bool_str : L2.kitB "bool" "str" = some false := by decide +kernel
@[simp] theorem kb_bool_list : L2.kitB "bool" "list" = some false := by decide +kernel
@[simp] theorem kb_bool_tuple : L2.kitB "bool" "tuple" = some false := by decide +kernel
@[simp] theorem kb_bool_dict : L2.kitB "bool" "dict" = some false := by decide +kernel
@[simp] theorem kb_int_int : L2.kitB "int" "int" = some true := by decide +kernel
@[simp] theorem kb_int_bool : L2.kitB "int" "bool" = some false := by decide +kernel
@[simp] theorem kb_int_str : L2.kitB "int" "str" = some false := by decide +kernel
@[simp] theorem kb_int_list : L2.kitB "int" "list" = some false := by decide +kernel
@[simp] theorem kb_int_tuple : L2.kitB "int" "tuple" = some false := by decide +kernel
@[simp] theorem kb_int_dict : L2.kitB "int" "dict" = some false := by decide +kernel
@[simp] theorem kb_str_int : L2.kitB "str" "int" = some false := by decide +kernel
@[simp] theorem kb_str_bool : L2.kitB "str" "bool" = some false := by decide +kernel
@[simp] theorem kb_str_str : L2.kitB "str" "str" = some true := by decide +kernel
@[simp] theorem kb_str_list : L2.kitB "str" "list" = some false := by decide +kernel
@[simp] theorem kb_str_tuple : L2.kitB "str" "tuple" = some false := by decide +kernel
@[simp] theorem kb_str_dict : L2.kitB "str" "dict" = some false := by decide +kernel
@[simp] theorem kb_list_int : L2.kitB "list" "int" = some false := by decide +kernel
@[simp] theorem kb_list_bool : L2.kitB "list" "bool" = some false := by decide +kernel
@[simp] theorem kb_list_str : L2.kitB "list" "str" = some false := by decide +kernel
@[simp] theorem kb_list_list : L2.kitB "list" "list" = some true := by decide +kernel
@[simp] theorem kb_list_tuple : L2.kitB "list" "tuple" = some false := by decide +kernel
@[simp] theorem kb_list_dict : L2.kitB "list" "dict" = some false := by decide +kernel
@[simp] theorem kb_tuple_int : L2.kitB "tuple" "int" = some false := by decide +kernel
@[simp] theorem kb_tuple_bool : L2.kitB "tuple" "bool" = some false := by decide +kernel
@[simp] theorem kb_tuple_str : L2.kitB "tuple" "str" = some false := by decide +kernel
@[simp] theorem kb_tuple_list : L2.kitB "tuple" "list" = some false := by decide +kernel
@[simp] theorem kb_tuple_tuple : L2.kitB "tuple" "tuple" = some true := by decide +kernel
@[simp] theorem kb_tuple_dict : L2.kitB "tuple" "dict" = some false := by decide +kernel
@[simp] theorem kb_dict_int : L2.kitB "dict" "int" = some false := by decide +kernel
@[simp] theorem kb_dict_bool : L2.kitB "dict" "bool" = some false := by decide +kernel
@[simp] theorem kb_dict_str : L2.kitB "dict" "str" = some false := by decide +kernel
@[simp] theorem kb_dict_list : L2.kitB "dict" "list" = some false := by decide +kernel
@[simp] theorem kb_dict_tuple : L2.kitB "dict" "tuple" = some false := by decide +kernel
@[simp] theorem kb_dict_dict : L2.kitB "dict" "dict" = some true := by decide +kernel
/-- a def's spec: P ds b Q X is what is to be shown where it is called with ds -/
abbrev Pr := List D → Nat → (Sl → Nat → Prop) → XD → Prop
abbrev Pq := D → D → Nat → (Bool → Nat → Prop) → Prop
def PS (F : Frm) (G : Env) (k : Nat) (f : Str) (P : Pr) : Prop := ∀ {ds b Q X vs h R}, P ds b Q X → AtL h R ds vs → Bd F R h → F.I b h → (callD G k f vs h).wp (XA F ⟨h, R⟩ X) (Ret F h R Q)
/-- .. of a class's maker, of an own == -/
def MS (F : Frm) (G : Env) (k : Nat) (C : Str) (P : Pr) : Prop := ∀ {ds b Q X vs h R}, P ds b Q X → AtL h R ds vs → Bd F R h → F.I b h → (mkA G (cD G k) C vs h).wp (XA F ⟨h, R⟩ X) (Ret F h R Q)
def QS (F : Frm) (G : Env) (k : Nat) (C : Str) (P : Pq) : Prop := ∀ {x y b Q v w h R}, P x y b Q → isObj x = some C → At h R x v → At h R y w → Bd F R h → F.I b h → ∃ g, eqOwn G h v = some g ∧ ((cD G k).lo g [v, w] h).wp noX fun u h' => ∃ r b', u = .bl r ∧ SameM F h h' ∧ F.I b' h' ∧ Q r b'
/-- specs by name -/
def mkS (l lk : List (Str × Pr)) (lq : List (Str × Pq)) : Sps where
  f := fun X f ds b Q => match l.lookup f with
    | some P => P ds b Q X
    | none => False
  k := fun X f ds b Q => match lk.lookup f with
    | some P => P ds b Q X
    | none => False
  q := fun C x y b Q => match lq.lookup C with
    | some P => P x y b Q
    | none => False
theorem lookup_mem' {α : Type} {x : Str} {b : α} : ∀ {l : List (Str × α)}, l.lookup x = some b → (x, b) ∈ l
  | [], h => by cases h
  | (y, v) :: r, h => by
    rw [List.lookup_cons] at h
    split at h
    · rename_i e; cases h; rw [beq_iff_eq.mp e]; exact List.mem_cons_self ..
    · exact List.mem_cons_of_mem _ (lookup_mem' h)
theorem spok {F : Frm} {G : Env} {k : Nat} {l lk : List (Str × Pr)} {lq : List (Str × Pq)} (h : ∀ p ∈ l, PS F G k p.1 p.2) (hk : ∀ p ∈ lk, MS F G k p.1 p.2) (hq : ∀ p ∈ lq, QS F G k p.1 p.2) : SpOk F G (cD G k) (mkS l lk lq) where
  f := fun {X f ds b Q vs h' R} q a bd i => by
    simp only [mkS] at q
    split at q
    · rename_i P e; rw [cD_fn]; exact h (f, P) (lookup_mem' e) q a bd i
    · exact q.elim
  k := fun {X f ds b Q vs h' R} q a bd i => by
    simp only [mkS] at q
    split at q
    · rename_i P e; exact hk (f, P) (lookup_mem' e) q a bd i
    · exact q.elim
  q := fun {C x y b Q v w h' R} q o a a2 bd i => by
    simp only [mkS] at q
    split at q
    · rename_i P e; exact hq (C, P) (lookup_mem' e) q o a a2 bd i
    · exact q.elim
/-- a table of specs that hold from depth d on -/
def Tab (d : Nat) (K : Nat → Str → Pr → Prop) (l : List (Str × Pr)) : Prop := ∀ p ∈ l, ∀ j, d ≤ j → K j p.1 p.2
def TabQ (F : Frm) (G : Env) (d : Nat) (l : List (Str × Pq)) : Prop := ∀ p ∈ l, ∀ j, d ≤ j → QS F G j p.1 p.2
theorem Tab.nil {d : Nat} {K : Nat → Str → Pr → Prop} : Tab d K [] := fun p hp => by cases hp
theorem Tab.cons {d : Nat} {K : Nat → Str → Pr → Prop} {f : Str} {P : Pr} {l : List (Str × Pr)} (h : ∀ j, d ≤ j → K j f P) (t : Tab d K l) : Tab d K ((f, P) :: l) := fun p hp => by
  rcases List.mem_cons.mp hp with rfl | hp
  · exact h
  · exact t p hp
theorem TabQ.nil {F : Frm} {G : Env} {d : Nat} : TabQ F G d [] := fun p hp => by cases hp
theorem TabQ.cons {F : Frm} {G : Env} {d : Nat} {f : Str} {P : Pq} {l : List (Str × Pq)} (h : ∀ j, d ≤ j → QS F G j f P) (t : TabQ F G d l) : TabQ F G d ((f, P) :: l) := fun p hp => by
  rcases List.mem_cons.mp hp with rfl | hp
  · exact h
  · exact t p hp
/-- a def's spec, by its body -/
theorem ps_def {F : Frm} {G : Env} {k d : Nat} {f : Str} {fd : FD} {P : Pr} {l lk : List (Str × Pr)} {lq : List (Str × Pq)} (hk : d < k) (hf : G.fns f = some fd) (t : Tab d (PS F G) l) (tk : Tab d (MS F G) lk) (tq : TabQ F G d lq)
    (body : ∀ S, S = mkS l lk lq → ∀ {ds b Q X}, P ds b Q X → ds.length = fd.ps ∧ dS G S (muOf fd.body) fd.body (startD fd.nS ds) b { nx := fun _ b' => Q (.un .non) b', rt := Q, ex := fun C ds _ b => X C ds b }) : PS F G k f P := by
  obtain ⟨k, rfl⟩ : ∃ j, k = j + 1 := ⟨k - 1, by omega⟩
  intro ds b Q X vs h R q a bd i
  obtain ⟨hl, q⟩ := body _ rfl q
  exact fn_tree (spok (fun p hp => t p hp k (by omega)) (fun p hp => tk p hp k (by omega)) fun p hp => tq p hp k (by omega)) _ hf hl q a bd i
/-! ### the purse -/
def purseF (p : Nat) : Frm where
  M := fun n => n = p
  J := fun b h => Purse h p b
  loc := fun {b h h'} ⟨a, s, c, t, e, q⟩ hl w => ⟨a, s, c, t, by rw [w p rfl]; exact e, q⟩
  low := fun {b h n} ⟨a, s, c, t, e, q⟩ m => by subst m; exact lt_of e
  nom := fun {b h n ms kvs} ⟨a, s, c, t, e, q⟩ m e2 => by subst m; rw [e] at e2; cases e2
def drawP (p : Nat) : Pr := fun ds b Q _ => ∃ m, ds = [.adr p, .int m] ∧ 1 ≤ m ∧ m < 2 ^ 27 ∧ 1 ≤ b ∧ ∀ d, 0 ≤ d → d < m → Q (.un (.int d)) (b - 1)
theorem draw_ps {G : Env} (hm : G.fns "_law_mixed" = some ⟨4, 3, B_mixed⟩) (hf : G.fns "_law_draw" = some ⟨5, 2, B_draw⟩) {p k : Nat} (hk : 2 ≤ k) : PS (purseF p) G k "_law_draw" (drawP p) := by
  rintro ds b Q X vs h R ⟨m, rfl, h1, h2, hb, q⟩ a bd i
  obtain ⟨v, r, rfl, av, w, r', rfl, aw, rfl⟩ := a
  cases (show v = .ref p from av)
  cases (show w = .int m from aw)
  obtain ⟨k, rfl⟩ : ∃ j, k = j + 2 := ⟨k - 2, by omega⟩
  have i' : Purse h p ((b - 1) + 1) := by rw [Nat.sub_add_cancel hb]; exact i.1
  refine ((draw_ok hm hf k i' h1 h2).noX).mono fun u h' ⟨⟨d, e, d0, d1⟩, sm, hl, pu⟩ => ?_
  subst e
  obtain ⟨_, _, _, _, ep, _⟩ := i.1
  obtain ⟨_, _, _, _, ep', _⟩ := id pu
  have same : ∀ n o, n ≠ p → h[n]? = some o → h'[n]? = some o := fun n o hn e => by rw [sm.2 n (lt_of e) hn]; exact e
  have sm' : SameM (purseF p) h h' := ⟨sm.1, fun {n o} hn e _ => same n o hn e, fun {n ms kvs} e => ⟨kvs, same n _ (fun z => by subst z; rw [ep] at e; cases e) e⟩⟩
  refine ⟨.un (.int d), b - 1, sm', ⟨pu, fun n ms kvs e => ?_⟩, rfl, rfl, q d d0 d1⟩
  have hn : n ≠ p := fun z => by subst z; rw [ep'] at e; cases e
  exact i.2 n ms kvs (by rw [← sm.2 n (by rw [← hl]; exact lt_of e) hn]; exact e)
/-! ### loops -/
section
variable {b : Nat}
/-- [f x for x in xs if p x], new items -/
theorem fold_fr {f : D → D} {p : D → Bool} {step : D → Bool × List D → Nat → (Bool × List D → Nat → Prop) → Prop} {xs : List D} {Q : Bool × List D → Nat → Prop}
    (h : ∀ x ∈ xs, ∀ fl acc, acc.length < sizeLine → ∀ K, K (fl, if p x = true then acc ++ [f x] else acc) b → step x (fl, acc) b K) : ∀ {fl acc}, acc.length + xs.length ≤ sizeLine → Q (fl, acc ++ (xs.filter p).map f) b → foldD step xs (fl, acc) b Q := by
  induction xs with
  | nil => intro fl acc _ q; simpa [foldD] using q
  | cons x xs ih =>
    intro fl acc hl q
    rw [foldD]
    simp only [List.length_cons] at hl
    refine h x (List.mem_cons_self ..) fl acc (by omega) _ ?_
    cases hp : p x with
    | true => exact ih (fun y hy => h y (List.mem_cons_of_mem _ hy)) (by simp; omega) (by simpa [List.filter_cons, hp] using q)
    | false => exact ih (fun y hy => h y (List.mem_cons_of_mem _ hy)) (by simp; omega) (by simpa [List.filter_cons, hp] using q)
/-- .. all of them -/
theorem fold_map {f : D → D} {step : D → Bool × List D → Nat → (Bool × List D → Nat → Prop) → Prop} {xs : List D} {Q : Bool × List D → Nat → Prop}
    (h : ∀ x ∈ xs, ∀ fl acc, acc.length < sizeLine → ∀ K, K (fl, acc ++ [f x]) b → step x (fl, acc) b K) {fl acc} (hl : acc.length + xs.length ≤ sizeLine) (q : Q (fl, acc ++ xs.map f) b) : foldD step xs (fl, acc) b Q :=
  fold_fr (p := fun _ => true) (fun x hx fl acc ha K k => h x hx fl acc ha K (by simpa using k)) hl (by rw [List.filter_eq_self.mpr (fun _ _ => rfl)]; exact q)
/-- .. items that may be lent -/
theorem fold_un {f : D → D} {p : D → Bool} {step : D → Bool × List D → Nat → (Bool × List D → Nat → Prop) → Prop} {xs : List D} {Q : Bool × List D → Nat → Prop}
    (h : ∀ x ∈ xs, ∀ fl acc, acc.length < sizeLine → ∀ K, (∀ fl, K (fl, if p x = true then acc ++ [f x] else acc) b) → step x (fl, acc) b K) : ∀ {fl acc}, acc.length + xs.length ≤ sizeLine → (∀ fl, Q (fl, acc ++ (xs.filter p).map f) b) → foldD step xs (fl, acc) b Q := by
  induction xs with
  | nil => intro fl acc _ q; simpa [foldD] using q fl
  | cons x xs ih =>
    intro fl acc hl q
    rw [foldD]
    simp only [List.length_cons] at hl
    refine h x (List.mem_cons_self ..) fl acc (by omega) _ fun fl => ?_
    cases hp : p x with
    | true => exact ih (fun y hy => h y (List.mem_cons_of_mem _ hy)) (by simp; omega) fun fl => by simpa [List.filter_cons, hp] using q fl
    | false => exact ih (fun y hy => h y (List.mem_cons_of_mem _ hy)) (by simp; omega) fun fl => by simpa [List.filter_cons, hp] using q fl
/-- a walk that always goes to its end: an invariant by what is walked -/
theorem fold_inv {α : Type} {step : D → α → Nat → (α → Nat → Prop) → Prop} {items : List D} {a : α} {b : Nat} {Q : α → Nat → Prop} (I : Nat → α → Nat → Prop) (h0 : I 0 a b)
    (go : ∀ t x a b, items[t]? = some x → I t a b → ∀ K : α → Nat → Prop, (∀ a' b', I (t + 1) a' b' → K a' b') → step x a b K) (fin : ∀ a b, I items.length a b → Q a b) : foldD step items a b Q := by
  have key : ∀ (rest : List D) (t : Nat) (a : α) (b : Nat), t ≤ items.length → items.drop t = rest → I t a b → foldD step rest a b Q := by
    intro rest
    induction rest with
    | nil =>
      intro t a b ht e hI
      rw [foldD]
      have hlen : items.length ≤ t := by simpa using e
      exact fin a b (by rw [Nat.le_antisymm hlen ht]; exact hI)
    | cons x xs ih =>
      intro t a b ht e hI
      rw [foldD]
      have hx : items[t]? = some x := by
        have := congrArg (fun l => l[0]?) e
        simpa using this
      refine go t x a b hx hI _ fun a' b' hI' => ih (t + 1) a' b' ((List.getElem?_eq_some_iff.mp hx).1) ?_ hI'
      rw [← List.tail_drop, e]; rfl
  exact key items 0 a b (Nat.zero_le _) rfl h0
end
/-! ### data -/
theorem pyDs_int (xs : List Int) : pyDs (xs.map .int) = some (xs.map .int) := by
  induction xs with
  | nil => rfl
  | cons x xs ih => simp [pyDs, pyD, ih]
theorem depthAll_int (xs : List Int) : PyData.depthAll (xs.map .int) = 0 := by
  induction xs with
  | nil => rfl
  | cons x xs ih => rw [List.map_cons, PyData.depthAll, ih, PyData.depth]; rfl
theorem can_int (xs : List Int) : PyData.canLayAll0 (xs.map .int) = true := by
  induction xs with
  | nil => rfl
  | cons x xs ih => rw [List.map_cons, PyData.canLayAll0, ih, PyData.canLay0]; rfl
theorem shaped_int (xs : List Int) : SeqAt.shaped (.list (xs.map .int)) = true ∧ (PyData.list (xs.map .int)).depth = 1 := by
  have d : (PyData.list (xs.map .int)).depth = 1 := by rw [PyData.depth, depthAll_int]
  refine ⟨?_, d⟩
  unfold SeqAt.shaped
  rw [d, PyData.canLay0, can_int]; rfl
@[simp] theorem inD_int (x : Int) (xs : List Int) : inD (.int x) (.lst (xs.map .int)) = some (decide (x ∈ xs)) := by
  unfold inD
  simp only [pyD, pyDs_int]
  rw [if_pos ⟨rfl, (shaped_int xs).1, by rw [PyData.depth]; decide, by rw [(shaped_int xs).2]; decide⟩]
  congr 1
  induction xs with
  | nil => rfl
  | cons y ys ih => rw [List.map_cons, List.any_cons, ih, eqv_int]; simp [eq_comm]
theorem eqvAll_int : ∀ xs ys : List Int, PyData.eqvAll (xs.map .int) (ys.map .int) = decide (xs = ys)
  | [], [] => by rw [List.map_nil, PyData.eqvAll]; rfl
  | [], y :: ys => by rw [List.map_nil, List.map_cons, PyData.eqvAll]; rfl
  | x :: xs, [] => by rw [List.map_nil, List.map_cons, PyData.eqvAll]; rfl
  | x :: xs, y :: ys => by
    rw [List.map_cons, List.map_cons, PyData.eqvAll, eqvAll_int xs ys, eqv_int]
    by_cases h1 : x = y <;> by_cases h2 : xs = ys <;> simp [h1, h2]
@[simp] theorem eqD_ints (xs ys : List Int) : eqD (.lst (xs.map .int)) (.lst (ys.map .int)) = some (decide (xs = ys)) := by
  unfold eqD
  simp only [pyD, pyDs_int, Option.map_some]
  rw [if_pos ⟨(shaped_int xs).1, (shaped_int ys).1, by rw [(shaped_int xs).2]; decide, by rw [(shaped_int ys).2]; decide⟩, PyData.eqv, eqvAll_int]
@[simp] theorem eqD_bl {a b : Bool} : eqD (.bl a) (.bl b) = some (decide (a = b)) := by cases a <;> cases b <;> rfl
@[simp] theorem eqD_int {a b : Int} : eqD (.int a) (.int b) = some (decide (a = b)) := by
  unfold eqD
  simp only [pyD]
  rw [if_pos ⟨rfl, rfl, by rw [PyData.depth]; decide, by rw [PyData.depth]; decide⟩, PyData.eqv]; rfl
@[simp] theorem eqD_non : eqD .non .non = some true := rfl
/-- rows of ints -/
abbrev iL (xs : List Int) : D := .lst (xs.map .int)
abbrev iLL (xss : List (List Int)) : D := .lst (xss.map iL)
theorem pyDs_ints (xs : List (List Int)) : pyDs (xs.map iL) = some (xs.map fun r => .list (r.map .int)) := by
  induction xs with
  | nil => rfl
  | cons x xs ih => simp [pyDs, pyD, ih, pyDs_int]
theorem depthAll_ints (xs : List (List Int)) : PyData.depthAll (xs.map fun r => .list (r.map .int)) ≤ 1 := by
  induction xs with
  | nil => exact Nat.zero_le _
  | cons x xs ih => rw [List.map_cons, PyData.depthAll, (shaped_int x).2]; exact Nat.max_le.mpr ⟨Nat.le_refl _, ih⟩
theorem can_ints (xs : List (List Int)) : PyData.canLayAll0 (xs.map fun r => .list (r.map .int)) = true := by
  induction xs with
  | nil => rfl
  | cons x xs ih => rw [List.map_cons, PyData.canLayAll0, ih, PyData.canLay0, can_int]; rfl
theorem shaped_ints (xs : List (List Int)) : SeqAt.shaped (.list (xs.map fun r => .list (r.map .int))) = true ∧ (PyData.list (xs.map fun r => .list (r.map .int))).depth ≤ 2 := by
  have d : (PyData.list (xs.map fun r => .list (r.map .int))).depth ≤ 2 := by rw [PyData.depth]; have := depthAll_ints xs; omega
  refine ⟨?_, d⟩
  unfold SeqAt.shaped
  rw [PyData.canLay0, can_ints]
  simp
  have : (PyData.list (xs.map fun r => .list (r.map .int))).depth < 40 := by omega
  first | exact this | (exact Nat.lt_of_le_of_lt d (by decide)) | (exact Nat.le_trans d (by decide))
theorem eqvAll_ints : ∀ xs ys : List (List Int), PyData.eqvAll (xs.map fun r => .list (r.map .int)) (ys.map fun r => .list (r.map .int)) = decide (xs = ys)
  | [], [] => by rw [List.map_nil, PyData.eqvAll]; rfl
  | [], y :: ys => by rw [List.map_nil, List.map_cons, PyData.eqvAll]; rfl
  | x :: xs, [] => by rw [List.map_nil, List.map_cons, PyData.eqvAll]; rfl
  | x :: xs, y :: ys => by
    rw [List.map_cons, List.map_cons, PyData.eqvAll, eqvAll_ints xs ys, PyData.eqv, eqvAll_int]
    by_cases h1 : x = y <;> by_cases h2 : xs = ys <;> simp [h1, h2]
@[simp] theorem eqD_iLL (xs ys : List (List Int)) : eqD (.lst (xs.map iL)) (.lst (ys.map iL)) = some (decide (xs = ys)) := by
  unfold eqD
  simp only [pyD, pyDs_ints, Option.map_some]
  rw [if_pos ⟨(shaped_ints xs).1, (shaped_ints ys).1, by have := (shaped_ints xs).2; omega, by have := (shaped_ints ys).2; omega⟩, PyData.eqv, eqvAll_ints]
end SL

set_option Elab.async false
set_option linter.all false
set_option maxRecDepth 100000
set_option maxHeartbeats 4000000
/-! Makers: fields of a new instance. -/
namespace SL
open PySem
def fldP (G : Env) (x : Str) (y v : AV) (h1 : AH) : R Unit := match y with
    | .ref n => match h1[n]? with
      | some (.ins C fs) => if fs.length < 100 ∧ hasFld G C x = true then .ok () (gst x v fs (h1.set n (.ins C (putFld fs x v)))) else .bad
      | _ => .bad
    | _ => .bad
theorem w_tFld {G : Env} {c : Calls} {σ : ASt} {h : AH} {X : EX} {o : T} {x : Str} {v : AV} {P : ASt → AH → Prop} : (evG G c (.tFld o x) v σ h).wp X P ↔ (evE G c o σ h).wp X fun y h1 => (fldP G x y v h1).wp X fun _ h2 => P σ h2 := by
  rw [evG]; simp only [wp_bind]
  have : ∀ y h1, ((match y with
    | .ref n => match h1[n]? with
      | some (.ins C fs) => if fs.length < 100 ∧ hasFld G C x = true then .ok σ (gst x v fs (h1.set n (.ins C (putFld fs x v)))) else .bad
      | _ => .bad
    | _ => .bad : R ASt)).wp X P ↔ (fldP G x y v h1).wp X fun _ h2 => P σ h2 := by
    intro y h1
    unfold fldP
    cases y with
    | ref n =>
      simp only
      split
      · split <;> rfl
      · rfl
    | _ => rfl
  constructor <;> intro q <;> refine q.mono fun y h1 q => ?_
  · exact (this y h1).mp q
  · exact (this y h1).mpr q
section
variable {F : Frm} {G : Env} {S : Sps} {c : Calls} {R : Nat → Prop} {h h1 hc : AH} {ρ : DEnv} {σ : ASt} {b : Nat} {own : Nat → Nat → Prop} {E : DE}
/-- a new instance that is being made: its fields so far, all of them new -/
structure Mk (F : Frm) (h : AH) (R : Nat → Prop) (hc : AH) (ρ : DEnv) (σ : ASt) (b : Nat) (own : Nat → Nat → Prop) (n0 : Nat) (C : Str) (fs : List (Str × Option D)) : Prop where
  ev : Ev F h R hc ρ σ b own
  ow : own 0 n0
  s0 : σ[0]? = some (some (.ref n0))
  r0 : ρ[0]? = some none
  ob : ∃ vs, hc[n0]? = some (.ins C vs) ∧ AtF hc (fun n => newR h hc n ∧ n ≠ n0) fs vs
theorem atf_len {R : Nat → Prop} {h : AH} {fs : List (Str × Option D)} {vs : List (Str × AV)} (q : AtF h R fs vs) : vs.length = fs.length := by
  induction fs generalizing vs with
  | nil => cases q; rfl
  | cons p fs ih =>
    obtain ⟨y, o⟩ := p
    cases o with
    | none => obtain ⟨v, r, rfl, q⟩ := q; simp [ih q]
    | some d => obtain ⟨v, r, rfl, _, q⟩ := q; simp [ih q]
theorem put_new {R : Nat → Prop} {h : AH} {fs : List (Str × Option D)} {vs : List (Str × AV)} {x : Str} {v : AV} {d : D} (q : AtF h R fs vs) (hx : (fs.any fun p => decide (p.1 = x)) = false) (a : At h R d v) : AtF h R (fs ++ [(x, some d)]) (putFld vs x v) := by
  induction fs generalizing vs with
  | nil => cases q; exact ⟨v, [], rfl, a, rfl⟩
  | cons p fs ih =>
    obtain ⟨y, o⟩ := p
    simp only [List.any_cons, Bool.or_eq_false_iff, decide_eq_false_iff_not] at hx
    cases o with
    | none =>
      obtain ⟨w, r, rfl, q⟩ := q
      simp only [putFld, if_neg hx.1]
      exact ⟨w, _, rfl, ih q hx.2⟩
    | some d' =>
      obtain ⟨w, r, rfl, a1, q⟩ := q
      simp only [putFld, if_neg hx.1]
      exact ⟨w, _, rfl, a1, ih q hx.2⟩
/-- an object of one's own that no slot tells of is changed -/
theorem Ev.put0 (q : Ev F h R hc ρ σ b own) {i n : Nat} {o o' : AO} (e : own i n) (hn : hc[n]? = some o) (po : o.plain = true) (po' : o'.plain = true) (hr : ρ[i]? = some none) : Ev F h R (hc.set n o') ρ σ b own := by
  obtain ⟨n1, n2⟩ := q.ow i n e
  have keep : Mv (Rg R h hc own) (Rg R h (hc.set n o') own) hc (hc.set n o') := set_mv hn po (fun m z e2 => z.2 i (by rw [e2]; exact e)) fun m z => ⟨z.1.mono (by simp), z.2⟩
  refine ⟨⟨by rw [List.length_set]; exact q.sm.le, fun {m ob} hm e p => by
      rw [List.getElem?_set_ne (fun z => by have := lt_of e; omega)]; exact q.sm.k hm e p, fun {m ms kvs} e => by
      rw [List.getElem?_set_ne (fun z => by have := lt_of e; omega)]; exact q.sm.m e⟩, Frm.set q.i (q.om e) po', q.i0, q.bd, q.len, fun j s' e' => ?_, fun j m e' => ?_, q.inj⟩
  · by_cases c : i = j
    · subst c; rw [hr] at e'; cases e'
    · obtain ⟨w, e1, a1⟩ := q.sl j s' e'
      exact ⟨w, e1, a1.mv keep (set_mv hn po (fun m z e2 => c (q.inj i j n e (by rw [← e2]; exact z))) fun _ z => z)⟩
  · obtain ⟨k1, k2⟩ := q.ow j m e'; exact ⟨k1, by rw [List.length_set]; exact k2⟩
theorem AtF.mono' {R R' : Nat → Prop} {h h' : AH} {fs : List (Str × Option D)} {vs : List (Str × AV)} (q : AtF h R fs vs) (w : Mv R R' h h') : AtF h' R' fs vs := AtF.mono w fs vs q
/-- self.x = e, e something new -/
theorem mk_fld (A : ∀ B u, SAll F B G S c u) {n0 : Nat} {C x : Str} {fs : List (Str × Option D)} {e : T} {E' : FE} (m : Mk F h R hc ρ σ b own n0 C fs) (hx : (fs.any fun p => decide (p.1 = x)) = false) (hk : x ≠ "known") (hf : hasFld G C x = true) (hl : fs.length < 100)
    {d : D} (q : dX G S nxD e (fz ρ) b fun s b1 => s.isFr = true ∧ s.d = d ∧ b1 = b) (go : ∀ h1, Mk F h R h1 ρ σ b own n0 C (fs ++ [(x, some d)]) → E'.nx σ h1) : (evS G c (.asg (.tFld (.var 0) x) e) σ hc).wp E' := by
  rw [s_asg]
  refine (calmX ((A _ e).x q (A := ⟨hc, Nw R h hc⟩) m.ev.cxtF)).noX.mono fun u h1 ⟨s, b1, m1, i1, a1, hfr, hd, hb⟩ => ?_
  subst hb
  subst hd
  rw [w_tFld, w_var m.s0]
  obtain ⟨vs, e0, af⟩ := m.ob
  obtain ⟨o1, o2⟩ := m.ev.ow 0 n0 m.ow
  have e1 : h1[n0]? = some (.ins C vs) := m1.k (m.ev.om m.ow) e0 rfl
  simp only [fldP, e1]
  rw [if_pos ⟨by rw [atf_len af]; exact hl, hf⟩]
  have hg : gst x u vs (h1.set n0 (.ins C (putFld vs x u))) = h1.set n0 (.ins C (putFld vs x u)) := by unfold gst; rw [if_neg hk]
  rw [hg, wp_ok]
  have v1 := m.ev.go m1 i1
  have v2 := v1.put0 (o' := .ins C (putFld vs x u)) m.ow e1 rfl rfl m.r0
  have w1 : Mv (fun n => newR h hc n ∧ n ≠ n0) (fun n => newR h h1 n ∧ n ≠ n0) hc h1 := ⟨fun r e p => ⟨⟨⟨r.1.1, Nat.lt_of_lt_of_le r.1.2 m1.le⟩, r.2⟩, m1.k (fun z => by have := m.ev.lo z; have := r.1.1; omega) e p⟩, fun e => m1.m e⟩
  have w2 : Mv (fun n => newR h h1 n ∧ n ≠ n0) (fun n => newR h (h1.set n0 (.ins C (putFld vs x u))) n ∧ n ≠ n0) h1 (h1.set n0 (.ins C (putFld vs x u))) := set_mv e1 rfl (fun n z => z.2) fun n z => ⟨⟨z.1.1, by rw [List.length_set]; exact z.1.2⟩, z.2⟩
  have au : At h1 (fun n => newR h h1 n ∧ n ≠ n0) s.d u := (a1.fr hfr).toA.sub fun n z => ⟨⟨Nat.le_trans m.ev.sm.le z.1, z.2⟩, by have := z.1; omega⟩
  refine go _ ⟨v2, m.ow, m.s0, m.r0, putFld vs x u, List.getElem?_set_self (lt_of e1), ?_⟩
  exact (put_new (af.mono' w1) hx au).mono' w2
/-- self.known = {} behind self.bits = masks -/
theorem mk_known {n0 : Nat} {C : Str} {fs : List (Str × Option D)} {ms : List Int} {E' : FE} (m : Mk F h R hc ρ σ b own n0 C fs) (hx : (fs.any fun p => decide (p.1 = "known")) = false) (hf : hasFld G C "known" = true) (hl : fs.length < 100) (hb : fs.lookup ("bits" : Str) = some (some (.lst (ms.map .int))))
    (q : ∀ h1 b', Mk F h R h1 ρ σ b' own n0 C (fs ++ [(("known" : Str), some (D.mem ms))]) → b' = b → E'.nx σ h1) : (evS G c (.asg (.tFld (.var 0) "known") (.dic .nil)) σ hc).wp E' := by
  rw [s_asg, w_dic0, w_tFld, w_var m.s0]
  obtain ⟨vs, e0, af⟩ := m.ob
  obtain ⟨o1, o2⟩ := m.ev.ow 0 n0 m.ow
  have e1 : (hc ++ [AO.dic []])[n0]? = some (.ins C vs) := app_get e0
  simp only [fldP, e1]
  rw [if_pos ⟨by rw [atf_len af]; exact hl, hf⟩]
  -- the ghost
  obtain ⟨bv, eb, ab⟩ := look_f af hb
  obtain ⟨bn, bs, rfl, bnew, ebn, al⟩ := ab
  have hne : n0 ≠ hc.length := by omega
  have ed : ((hc ++ [AO.dic []]).set n0 (.ins C (putFld vs "known" (.ref hc.length))))[hc.length]? = some (.dic []) := by rw [List.getElem?_set_ne hne]; simp
  have em : masksOf ((hc ++ [AO.dic []]).set n0 (.ins C (putFld vs "known" (.ref hc.length)))) (.ref bn) = some ms := by
    simp only [masksOf]
    rw [List.getElem?_set_ne (Ne.symm bnew.2), app_get ebn]
    exact ints_ok al z_intsD
  have hg : gst "known" (.ref hc.length) vs ((hc ++ [AO.dic []]).set n0 (.ins C (putFld vs "known" (.ref hc.length)))) = ((hc ++ [AO.dic []]).set n0 (.ins C (putFld vs "known" (.ref hc.length)))).set hc.length (.memo ms []) := by
    unfold gst
    rw [if_pos rfl]
    simp only [ed, eb, Option.bind_some, em]
  rw [hg, wp_ok]
  have v1 := m.ev.go (h' := hc ++ [AO.dic []]) SameM.app (Frm.app m.ev.i (.one rfl))
  have v2 := v1.put0 (o' := .ins C (putFld vs "known" (.ref hc.length))) m.ow e1 rfl rfl m.r0
  generalize hh2 : (hc ++ [AO.dic []]).set n0 (.ins C (putFld vs "known" (.ref hc.length))) = h2 at *
  have l2 : h2.length = hc.length + 1 := by rw [← hh2]; simp
  -- the dict becomes a memo
  have nM : ¬ F.M hc.length := fun z => by have := m.ev.lo z; have := m.ev.sm.le; omega
  have low : ∀ {k : Nat}, k < hc.length → (h2.set hc.length (.memo ms []))[k]? = h2[k]? := fun hk => List.getElem?_set_ne (by omega)
  have v3 : Ev F h R (h2.set hc.length (.memo ms [])) ρ σ b own := by
    have same : ∀ {k o}, k ≠ hc.length → h2[k]? = some o → (h2.set hc.length (.memo ms []))[k]? = some o := fun hk e => by rw [List.getElem?_set_ne (Ne.symm hk)]; exact e
    have reg : Mv (Rg R h hc own) (Rg R h (h2.set hc.length (.memo ms [])) own) h2 (h2.set hc.length (.memo ms [])) := ⟨fun {k o} r e p => ⟨⟨r.1.elim .inl fun z => .inr ⟨z.1, by rw [List.length_set]; omega⟩, r.2⟩, same (by have := (m.ev.rg k r).1; omega) e⟩, fun {k ms' kvs} e => ⟨kvs, same (fun z => by subst z; rw [ed] at e; cases e) e⟩⟩
    have ownm : ∀ j, Mv (own j) (own j) h2 (h2.set hc.length (.memo ms [])) := fun j => ⟨fun {k o} r e p => ⟨r, same (by have := (m.ev.ow j k r).2; omega) e⟩, fun {k ms' kvs} e => ⟨kvs, same (fun z => by subst z; rw [ed] at e; cases e) e⟩⟩
    refine ⟨⟨by rw [List.length_set]; exact v2.sm.le, fun {k o} hm e p => same (by have := lt_of e; have := m.ev.sm.le; omega) (v2.sm.k hm e p), fun {k ms' kvs} e => ?_⟩, ⟨F.loc v2.i.1 (by simp) fun k hk => List.getElem?_set_ne (fun z => nM (by rw [z]; exact hk)), fun k ms' kvs e => ?_⟩, v2.i0, v2.bd, v2.len, fun j s e => ?_, fun j k e => ⟨(v2.ow j k e).1, by rw [List.length_set]; exact (v2.ow j k e).2⟩, v2.inj⟩
    · obtain ⟨kv', e'⟩ := v2.sm.m e
      exact ⟨kv', same (by have := lt_of e; have := m.ev.sm.le; omega) e'⟩
    · by_cases ck : hc.length = k
      · subst ck; rw [List.getElem?_set_self (by omega)] at e; cases e; exact ⟨fun _ z => (nomatch z), .nil⟩
      · rw [List.getElem?_set_ne ck] at e; exact v2.i.2 k ms' kvs e
    · obtain ⟨w, e1, a⟩ := m.ev.sl j s e
      refine ⟨w, e1, ?_⟩
      have p1 : Mv (Rg R h hc own) (Rg R h hc own) hc h2 := ⟨fun {k o} r e p => ⟨r, by rw [← hh2, List.getElem?_set_ne (fun z => r.2 0 (by rw [← z]; exact m.ow))]; exact app_get e⟩, fun {k ms' kvs} e => ⟨kvs, by rw [← hh2, List.getElem?_set_ne (fun z => by subst z; rw [e0] at e; cases e)]; exact app_get e⟩⟩
      have hj : j ≠ 0 := fun z => by subst z; rw [m.r0] at e; cases e
      have p2 : Mv (own j) (own j) hc h2 := ⟨fun {k o} r e p => ⟨r, by rw [← hh2, List.getElem?_set_ne (fun z => hj (m.ev.inj j 0 k r (by rw [← z]; exact m.ow)))]; exact app_get e⟩, fun {k ms' kvs} e => ⟨kvs, by rw [← hh2, List.getElem?_set_ne (fun z => by subst z; rw [e0] at e; cases e)]; exact app_get e⟩⟩
      exact a.mv (p1.trans reg) (p2.trans (ownm j))
  have eo : (h2.set hc.length (.memo ms []))[n0]? = some (.ins C (putFld vs "known" (.ref hc.length))) := by
    rw [List.getElem?_set_ne (Ne.symm hne), ← hh2, List.getElem?_set_self (by simp; omega)]
  refine q _ b ⟨v3, m.ow, m.s0, m.r0, putFld vs "known" (.ref hc.length), eo, put_new (d := .mem ms) ?_ hx ⟨hc.length, [], rfl, List.getElem?_set_self (by omega)⟩⟩ rfl
  refine af.mono' ⟨fun {k o} r e p => ⟨⟨⟨r.1.1, by rw [List.length_set, l2]; have := r.1.2; omega⟩, r.2⟩, ?_⟩, fun {k ms' kvs} e => ⟨kvs, ?_⟩⟩
  · rw [low r.1.2, ← hh2, List.getElem?_set_ne (Ne.symm r.2)]; exact app_get e
  · rw [low (lt_of e), ← hh2, List.getElem?_set_ne (fun z => by subst z; rw [e0] at e; cases e)]; exact app_get e
end
end SL

set_option Elab.async false
set_option linter.all false
/-! Bodies of defs, as the laws' programs read. -/
namespace SL
open PySem
def B_is_count : T := (.seq (.ret (.and (.callB .isinstance (.cons (.var 0) (.cons (.ty "int") .nil))) (.and (.nt (.callB .isinstance (.cons (.var 0) (.cons (.ty "bool") .nil)))) (.cmp .GtE (.var 0) (.int 0))))) .done)
def F_is_count : FD := ⟨1, 1, B_is_count⟩
def B_is_rising : T := (.seq (.iff (.tOr (.tNot (.tVal (.callB .isinstance (.cons (.var 0) (.cons (.ty "list") .nil))))) (.tNot (.tVal (.callB .all (.cons (.comp (.and (.callF "is_count" (.cons (.var 2) .nil)) (.cmp .Lt (.var 2) (.var 1))) (.tName 2) (.iSeq (.var 0)) .tYes [2]) .nil))))) (.seq (.ret (.bl false)) .done) .done) (.seq (.ret (.callB .all (.cons (.comp (.cmp .Lt (.ix (.var 0) (.bin .Sub (.var 3) (.int 1))) (.ix (.var 0) (.var 3))) (.tName 3) (.iRng2 (.cons (.int 1) (.cons (.callB .len (.cons (.var 0) .nil)) .nil))) .tYes [3]) .nil))) .done))
def F_is_rising : FD := ⟨4, 2, B_is_rising⟩
def B_bits_of : T := (.seq (.asg (.tName 1) (.int 0)) (.seq (.for (.tName 2) (.iSeq (.var 0)) (.seq (.aug 1 .BitOr (.bin .LShift (.int 1) (.var 2))) .done)) (.seq (.ret (.var 1)) .done)))
def F_bits_of : FD := ⟨3, 1, B_bits_of⟩
def B_Recipe___init : T := (.seq (.iff (.tNot (.tVal (.callF "is_count" (.cons (.var 1) .nil)))) (.seq .skip .done) .done) (.seq (.iff (.tOr (.tNot (.tVal (.callB .isinstance (.cons (.var 2) (.cons (.ty "list") .nil))))) (.tOr (.tVal (.cmp .Eq (.var 2) (.lst .nil))) (.tNot (.tVal (.callB .all (.cons (.comp (.callF "is_rising" (.cons (.var 3) (.cons (.var 1) .nil))) (.tName 3) (.iSeq (.var 2)) .tYes [3]) .nil)))))) (.seq .skip .done) .done) (.seq (.asg (.tFld (.var 0) "old") (.var 1)) (.seq (.asg (.tFld (.var 0) "rows") (.comp (.callB .list (.cons (.var 3) .nil)) (.tName 3) (.iSeq (.var 2)) .tYes [3])) (.seq (.asg (.tFld (.var 0) "bits") (.comp (.callF "bits_of" (.cons (.var 3) .nil)) (.tName 3) (.iSeq (.var 2)) .tYes [3])) (.seq (.asg (.tFld (.var 0) "known") (.dic .nil)) .done))))))
def F_Recipe___init : FD := ⟨4, 3, B_Recipe___init⟩
def B_Recipe_many : T := (.seq (.ret (.fld (.var 0) "old")) .done)
def F_Recipe_many : FD := ⟨1, 1, B_Recipe_many⟩
def B_Recipe_needs : T := (.seq (.ret (.comp (.callB .list (.cons (.var 1) .nil)) (.tName 1) (.iSeq (.fld (.var 0) "rows")) .tYes [1])) .done)
def F_Recipe_needs : FD := ⟨2, 1, B_Recipe_needs⟩
def B_Recipe_size : T := (.seq (.ret (.callB .len (.cons (.fld (.var 0) "rows") .nil))) .done)
def F_Recipe_size : FD := ⟨1, 1, B_Recipe_size⟩
def B_Recipe___eq : T := (.seq (.ret (.and (.callB .isinstance (.cons (.var 1) (.cons (.glob "Recipe") .nil))) (.and (.cmp .Eq (.fld (.var 0) "old") (.fld (.var 1) "old")) (.cmp .Eq (.fld (.var 0) "rows") (.fld (.var 1) "rows"))))) .done)
def F_Recipe___eq : FD := ⟨2, 2, B_Recipe___eq⟩
def B_check_recipe : T := (.seq (.iff (.tNot (.tVal (.callB .isinstance (.cons (.var 0) (.cons (.glob "Recipe") .nil))))) (.seq .skip .done) .done) .done)
def F_check_recipe : FD := ⟨1, 1, B_check_recipe⟩
def B_check_block : T := (.seq (.iff (.tOr (.tNot (.tVal (.callF "is_count" (.cons (.var 1) .nil)))) (.tVal (.cmp .GtE (.var 1) (.callB .len (.cons (.fld (.var 0) "rows") .nil))))) (.seq .skip .done) .done) .done)
def F_check_block : FD := ⟨2, 2, B_check_block⟩
def B_needs_of : T := (.seq (.expr (.callF "check_recipe" (.cons (.var 0) .nil))) (.seq (.expr (.callF "check_block" (.cons (.var 0) (.cons (.var 1) .nil)))) (.seq (.ret (.callB .list (.cons (.ix (.fld (.var 0) "rows") (.var 1)) .nil))) .done)))
def F_needs_of : FD := ⟨2, 2, B_needs_of⟩
def B_users_of : T := (.seq (.expr (.callF "check_recipe" (.cons (.var 0) .nil))) (.seq (.iff (.tOr (.tNot (.tVal (.callF "is_count" (.cons (.var 1) .nil)))) (.tVal (.cmp .GtE (.var 1) (.fld (.var 0) "old")))) (.seq .skip .done) .done) (.seq (.ret (.comp (.var 2) (.tTup (.cons (.tName 2) (.cons (.tName 3) .nil))) (.iEnm (.fld (.var 0) "rows")) (.tVal (.cmp .In (.var 1) (.var 3))) [2, 3])) .done)))
def F_users_of : FD := ⟨4, 2, B_users_of⟩
def B_used_in : T := (.seq (.ret (.callB .sorted (.cons (.dcomp2 (.var 1) (.bl true) (.tName 2) (.iSeq (.fld (.var 0) "rows")) .tYes (.tName 1) (.iSeq (.var 2)) .tYes [2, 1] [1]) .nil))) .done)
def F_used_in : FD := ⟨3, 1, B_used_in⟩
def B_used : T := (.seq (.expr (.callF "check_recipe" (.cons (.var 0) .nil))) (.seq (.ret (.callF "used_in" (.cons (.var 0) .nil))) .done))
def F_used : FD := ⟨1, 1, B_used⟩
def B_idle : T := (.seq (.expr (.callF "check_recipe" (.cons (.var 0) .nil))) (.seq (.asg (.tName 1) (.callF "used_in" (.cons (.var 0) .nil))) (.seq (.ret (.comp (.var 2) (.tName 2) (.iRng1 (.cons (.fld (.var 0) "old") .nil)) (.tVal (.cmp .NotIn (.var 2) (.var 1))) [2])) .done)))
def F_idle : FD := ⟨3, 1, B_idle⟩
def B_law_purse : T := (.seq (.asg (.tName 2) (.callB .sum (.cons (.slc (.var 0) (.pSome (.var 1)) (.pSome (.bin .Add (.var 1) (.int 1)))) .nil))) (.seq (.ret (.lst (.cons (.bin .Mod (.callB .int (.cons (.callB .max (.cons (.bin .Sub (.var 2) (.bin .Pow (.int 10) (.int 18))) (.cons (.int 0) .nil))) .nil)) (.bin .Pow (.bin .Pow (.int 10) (.int 60)) (.int 8))) (.cons (.bin .Mod (.callB .int (.cons (.var 2) .nil)) (.int 2147483629)) (.cons (.int 0) (.cons (.var 1) .nil)))))) .done))
def F_law_purse : FD := ⟨3, 2, B_law_purse⟩
def B_law_purses : T := (.seq (.ret (.comp (.callF "_law_purse" (.cons (.var 0) (.cons (.var 2) .nil))) (.tName 2) (.iRng1 (.cons (.callB .max (.cons (.int 1) (.cons (.callB .min (.cons (.var 1) (.cons (.callB .len (.cons (.var 0) .nil)) .nil))) .nil))) .nil)) .tYes [2])) .done)
def F_law_purses : FD := ⟨3, 2, B_law_purses⟩
def B_law_one_of : T := (.seq (.ret (.ix (.var 1) (.callF "_law_draw" (.cons (.var 0) (.cons (.callB .len (.cons (.var 1) .nil)) .nil))))) .done)
def F_law_one_of : FD := ⟨2, 2, B_law_one_of⟩
def B_law_same : T := (.seq (.iff (.tVal (.callB .isinstance (.cons (.var 0) (.cons (.ty "dict") .nil)))) (.seq (.ret (.callB .dict (.cons (.comp (.tup (.cons (.var 1) (.cons (.callF "_law_same" (.cons (.ix (.var 0) (.var 1)) .nil)) .nil))) (.tName 1) (.iSeq (.var 0)) .tYes [1]) .nil))) .done) .done) (.seq (.iff (.tVal (.callB .isinstance (.cons (.var 0) (.cons (.ty "list") .nil)))) (.seq (.ret (.comp (.callF "_law_same" (.cons (.var 2) .nil)) (.tName 2) (.iSeq (.var 0)) .tYes [2])) .done) .done) (.seq (.ret (.ite (.tVal (.callB .isinstance (.cons (.var 0) (.cons (.ty "tuple") .nil)))) (.callB .tuple (.cons (.comp (.callF "_law_same" (.cons (.var 2) .nil)) (.tName 2) (.iSeq (.var 0)) .tYes [2]) .nil)) (.var 0))) .done)))
def F_law_same : FD := ⟨3, 1, B_law_same⟩
def B_law_exact : T := (.seq (.iff (.tVal (.callB .isinstance (.cons (.var 0) (.cons (.tup (.cons (.ty "list") (.cons (.ty "tuple") .nil))) .nil)))) (.seq (.asg (.tName 2) (.and (.cmp .Eq (.callB .isinstance (.cons (.var 1) (.cons (.ty "list") .nil))) (.callB .isinstance (.cons (.var 0) (.cons (.ty "list") .nil)))) (.cmp .Eq (.callB .isinstance (.cons (.var 1) (.cons (.ty "tuple") .nil))) (.callB .isinstance (.cons (.var 0) (.cons (.ty "tuple") .nil)))))) (.seq (.ret (.and (.var 2) (.and (.cmp .Eq (.callB .len (.cons (.var 0) .nil)) (.callB .len (.cons (.var 1) .nil))) (.callB .all (.cons (.comp (.callF "_law_exact" (.cons (.var 3) (.cons (.var 4) .nil))) (.tTup (.cons (.tName 3) (.cons (.tName 4) .nil))) (.iZip (.var 0) (.var 1)) .tYes [3, 4]) .nil))))) .done)) .done) (.seq (.iff (.tVal (.callB .isinstance (.cons (.var 0) (.cons (.ty "dict") .nil)))) (.seq (.asg (.tName 2) (.and (.callB .isinstance (.cons (.var 1) (.cons (.ty "dict") .nil))) (.callF "_law_exact" (.cons (.callB .list (.cons (.var 0) .nil)) (.cons (.callB .list (.cons (.var 1) .nil)) .nil))))) (.seq (.ret (.and (.var 2) (.callB .all (.cons (.comp (.callF "_law_exact" (.cons (.ix (.var 0) (.var 5)) (.cons (.ix (.var 1) (.var 5)) .nil))) (.tName 5) (.iSeq (.var 0)) .tYes [5]) .nil)))) .done)) .done) (.seq (.asg (.tName 2) (.cmp .Eq (.callB .isinstance (.cons (.var 0) (.cons (.ty "int") .nil))) (.callB .isinstance (.cons (.var 1) (.cons (.ty "int") .nil))))) (.seq (.ret (.and (.var 2) (.and (.cmp .Eq (.callB .isinstance (.cons (.var 0) (.cons (.ty "bool") .nil))) (.callB .isinstance (.cons (.var 1) (.cons (.ty "bool") .nil)))) (.cmp .Eq (.var 0) (.var 1))))) .done))))
def F_law_exact : FD := ⟨6, 2, B_law_exact⟩
def B_law_row : T := (.seq (.iff (.tVal (.cmp .Eq (.var 2) (.int 0))) (.seq (.ret (.comp (.var 3) (.tName 3) (.iRng1 (.cons (.var 1) .nil)) (.tVal (.cmp .Eq (.callF "_law_draw" (.cons (.var 0) (.cons (.int 3) .nil))) (.int 0))) [3])) .done) .done) (.seq (.iff (.tVal (.cmp .Eq (.var 2) (.int 1))) (.seq (.asg (.tName 4) (.callF "_law_draw" (.cons (.var 0) (.cons (.bin .Add (.var 1) (.int 1)) .nil)))) (.seq (.ret (.lrange (.cons (.var 4) (.cons (.callB .min (.cons (.var 1) (.cons (.bin .Add (.bin .Add (.var 4) (.int 1)) (.callF "_law_draw" (.cons (.var 0) (.cons (.int 3) .nil)))) .nil))) .nil)))) .done)) .done) (.seq (.iff (.tVal (.cmp .Eq (.var 2) (.int 2))) (.seq (.ret (.ite (.tVal (.cmp .Gt (.var 1) (.int 0))) (.callB .sorted (.cons (.callB .dict (.cons (.comp (.tup (.cons (.callF "_law_draw" (.cons (.var 0) (.cons (.var 1) .nil))) (.cons (.bl true) .nil))) (.tName 5) (.iRng1 (.cons (.bin .Add (.int 1) (.callF "_law_draw" (.cons (.var 0) (.cons (.int 2) .nil)))) .nil)) .tYes [5]) .nil)) .nil)) (.lst .nil))) .done) .done) (.seq (.ret (.comp (.var 3) (.tName 3) (.iRng1 (.cons (.var 1) .nil)) (.tVal (.cmp .Gt (.callF "_law_draw" (.cons (.var 0) (.cons (.int 4) .nil))) (.int 0))) [3])) .done))))
def F_law_row : FD := ⟨6, 3, B_law_row⟩
def B_law_recipe : T := (.seq (.asg (.tTup (.cons (.tName 3) (.cons (.tName 4) (.cons (.tName 5) .nil)))) (.tup (.cons (.bin .Add (.int 1) (.callF "_law_draw" (.cons (.var 0) (.cons (.var 1) .nil)))) (.cons (.callF "_law_draw" (.cons (.var 0) (.cons (.bin .Add (.var 2) (.int 1)) .nil))) (.cons (.callF "_law_draw" (.cons (.var 0) (.cons (.int 6) .nil))) .nil))))) (.seq (.iff (.tVal (.cmp .Lt (.var 5) (.int 4))) (.seq (.ret (.lst (.cons (.var 4) (.cons (.comp (.callF "_law_row" (.cons (.var 0) (.cons (.var 4) (.cons (.var 5) .nil)))) (.tName 6) (.iRng1 (.cons (.var 3) .nil)) .tYes [6]) .nil)))) .done) .done) (.seq (.asg (.tName 7) (.lst (.cons (.callF "_law_row" (.cons (.var 0) (.cons (.var 4) (.cons (.int 3) .nil)))) (.cons (.callF "_law_row" (.cons (.var 0) (.cons (.var 4) (.cons (.int 0) .nil)))) .nil)))) (.seq (.iff (.tVal (.cmp .Eq (.var 5) (.int 4))) (.seq (.ret (.lst (.cons (.var 4) (.cons (.comp (.callB .list (.cons (.callF "_law_one_of" (.cons (.var 0) (.cons (.var 7) .nil))) .nil)) (.tName 6) (.iRng1 (.cons (.var 3) .nil)) .tYes [6]) .nil)))) .done) .done) (.seq (.ret (.lst (.cons (.var 4) (.cons (.comp (.ite (.tVal (.cmp .Eq (.callF "_law_draw" (.cons (.var 0) (.cons (.int 3) .nil))) (.int 0))) (.callF "_law_row" (.cons (.var 0) (.cons (.var 4) (.cons (.callF "_law_draw" (.cons (.var 0) (.cons (.int 4) .nil))) .nil)))) (.callB .list (.cons (.ix (.var 7) (.int 0)) .nil))) (.tName 6) (.iRng1 (.cons (.var 3) .nil)) .tYes [6]) .nil)))) .done)))))
def F_law_recipe : FD := ⟨8, 3, B_law_recipe⟩
def B_law_made : T := (.seq (.ret (.callC "Recipe" (.cons (.ix (.var 0) (.int 0)) (.cons (.comp (.callB .list (.cons (.var 1) .nil)) (.tName 1) (.iSeq (.ix (.var 0) (.int 1))) .tYes [1]) .nil)))) .done)
def F_law_made : FD := ⟨2, 1, B_law_made⟩
def B_law_union : T := (.seq (.ret (.callB .sorted (.cons (.callB .dict (.cons (.comp (.tup (.cons (.var 2) (.cons (.bl true) .nil))) (.tName 2) (.iSeq (.bin .Add (.var 0) (.var 1))) .tYes [2]) .nil)) .nil))) .done)
def F_law_union : FD := ⟨3, 2, B_law_union⟩
end SL

set_option Elab.async false
set_option linter.all false
set_option maxRecDepth 100000
set_option maxHeartbeats 4000000
/-! What defs compute: counts, rows, recipes. -/
namespace SL
open PySem
/-! ### walks over lists that are told -/
section
variable {b : Nat} {α : Type}
theorem fold_frM {g f : α → D} {p : α → Bool} {step : D → Bool × List D → Nat → (Bool × List D → Nat → Prop) → Prop} {xs : List α} {Q : Bool × List D → Nat → Prop}
    (h : ∀ x ∈ xs, ∀ fl acc, acc.length < sizeLine → ∀ K, K (fl, if p x = true then acc ++ [f x] else acc) b → step (g x) (fl, acc) b K) : ∀ {fl acc}, acc.length + xs.length ≤ sizeLine → Q (fl, acc ++ (xs.filter p).map f) b → foldD step (xs.map g) (fl, acc) b Q := by
  induction xs with
  | nil => intro fl acc _ q; simpa [foldD] using q
  | cons x xs ih =>
    intro fl acc hl q
    rw [List.map_cons, foldD]
    simp only [List.length_cons] at hl
    refine h x (List.mem_cons_self ..) fl acc (by omega) _ ?_
    cases hp : p x with
    | true => exact ih (fun y hy => h y (List.mem_cons_of_mem _ hy)) (by simp; omega) (by simpa [List.filter_cons, hp] using q)
    | false => exact ih (fun y hy => h y (List.mem_cons_of_mem _ hy)) (by simp; omega) (by simpa [List.filter_cons, hp] using q)
theorem fold_mapM {g f : α → D} {step : D → Bool × List D → Nat → (Bool × List D → Nat → Prop) → Prop} {xs : List α} {Q : Bool × List D → Nat → Prop}
    (h : ∀ x ∈ xs, ∀ fl acc, acc.length < sizeLine → ∀ K, K (fl, acc ++ [f x]) b → step (g x) (fl, acc) b K) {fl acc} (hl : acc.length + xs.length ≤ sizeLine) (q : Q (fl, acc ++ xs.map f) b) : foldD step (xs.map g) (fl, acc) b Q :=
  fold_frM (p := fun _ => true) (fun x hx fl acc ha K k => h x hx fl acc ha K (by simpa using k)) hl (by rw [List.filter_eq_self.mpr (fun _ _ => rfl)]; exact q)
theorem fold_unM {g f : α → D} {p : α → Bool} {step : D → Bool × List D → Nat → (Bool × List D → Nat → Prop) → Prop} {xs : List α} {Q : Bool × List D → Nat → Prop}
    (h : ∀ x ∈ xs, ∀ fl acc, acc.length < sizeLine → ∀ K, (∀ fl, K (fl, if p x = true then acc ++ [f x] else acc) b) → step (g x) (fl, acc) b K) : ∀ {fl acc}, acc.length + xs.length ≤ sizeLine → (∀ fl, Q (fl, acc ++ (xs.filter p).map f) b) → foldD step (xs.map g) (fl, acc) b Q := by
  induction xs with
  | nil => intro fl acc _ q; simpa [foldD] using q fl
  | cons x xs ih =>
    intro fl acc hl q
    rw [List.map_cons, foldD]
    simp only [List.length_cons] at hl
    refine h x (List.mem_cons_self ..) fl acc (by omega) _ fun fl => ?_
    cases hp : p x with
    | true => exact ih (fun y hy => h y (List.mem_cons_of_mem _ hy)) (by simp; omega) fun fl => by simpa [List.filter_cons, hp] using q fl
    | false => exact ih (fun y hy => h y (List.mem_cons_of_mem _ hy)) (by simp; omega) fun fl => by simpa [List.filter_cons, hp] using q fl
/-- a fold that is told by a function -/
theorem fold_fn {β : Type} {g : α → D} {f : β → α → β} {step : D → β → Nat → (β → Nat → Prop) → Prop} {xs : List α} {Q : β → Nat → Prop} (h : ∀ x ∈ xs, ∀ a K, K (f a x) b → step (g x) a b K) {a : β} (q : Q (xs.foldl f a) b) : foldD step (xs.map g) a b Q := by
  induction xs generalizing a with
  | nil => exact q
  | cons x xs ih => exact h x (List.mem_cons_self ..) a _ (ih (fun y hy => h y (List.mem_cons_of_mem _ hy)) q)
end
@[simp] theorem boolsD_map {α : Type} {xs : List α} {f : α → Bool} : boolsD (xs.map fun a => D.bl (f a)) = some (xs.map f) := by
  have := z_boolsD (xs := xs.map f); rwa [List.map_map] at this
@[simp] theorem szn_1 : 1 ≤ sizeLine := by decide
@[simp] theorem szn_2 : 2 ≤ sizeLine := by decide
@[simp] theorem szn_3 : 3 ≤ sizeLine := by decide
@[simp] theorem szn_4 : 4 ≤ sizeLine := by decide
@[simp] theorem szn_5 : 5 ≤ sizeLine := by decide
@[simp] theorem szn_6 : 6 ≤ sizeLine := by decide
@[simp] theorem szn_7 : 7 ≤ sizeLine := by decide
@[simp] theorem szn_8 : 8 ≤ sizeLine := by decide
@[simp] theorem szn_9 : 9 ≤ sizeLine := by decide
@[simp] theorem szn_10 : 10 ≤ sizeLine := by decide
@[simp] theorem szn_11 : 11 ≤ sizeLine := by decide
@[simp] theorem szn_12 : 12 ≤ sizeLine := by decide
@[simp] theorem szn_13 : 13 ≤ sizeLine := by decide
@[simp] theorem szn_14 : 14 ≤ sizeLine := by decide
@[simp] theorem szn_15 : 15 ≤ sizeLine := by decide
@[simp] theorem szn_16 : 16 ≤ sizeLine := by decide
@[simp] theorem szn_17 : 17 ≤ sizeLine := by decide
@[simp] theorem szn_18 : 18 ≤ sizeLine := by decide
@[simp] theorem szn_19 : 19 ≤ sizeLine := by decide
@[simp] theorem szn_20 : 20 ≤ sizeLine := by decide
@[simp] theorem szn_21 : 21 ≤ sizeLine := by decide
@[simp] theorem szn_22 : 22 ≤ sizeLine := by decide
@[simp] theorem szn_23 : 23 ≤ sizeLine := by decide
@[simp] theorem szn_24 : 24 ≤ sizeLine := by decide
@[simp] theorem szn_25 : 25 ≤ sizeLine := by decide
@[simp] theorem szn_26 : 26 ≤ sizeLine := by decide
@[simp] theorem szn_27 : 27 ≤ sizeLine := by decide
@[simp] theorem szn_28 : 28 ≤ sizeLine := by decide
@[simp] theorem szn_29 : 29 ≤ sizeLine := by decide
@[simp] theorem szn_30 : 30 ≤ sizeLine := by decide
@[simp] theorem szn_31 : 31 ≤ sizeLine := by decide
@[simp] theorem szn_32 : 32 ≤ sizeLine := by decide
@[simp] theorem szn_33 : 33 ≤ sizeLine := by decide
@[simp] theorem szn_34 : 34 ≤ sizeLine := by decide
@[simp] theorem szn_35 : 35 ≤ sizeLine := by decide
@[simp] theorem szn_36 : 36 ≤ sizeLine := by decide
@[simp] theorem szn_37 : 37 ≤ sizeLine := by decide
@[simp] theorem szn_38 : 38 ≤ sizeLine := by decide
@[simp] theorem szn_39 : 39 ≤ sizeLine := by decide
@[simp] theorem szn_40 : 40 ≤ sizeLine := by decide
@[simp] theorem szn_41 : 41 ≤ sizeLine := by decide
@[simp] theorem szn_42 : 42 ≤ sizeLine := by decide
@[simp] theorem szn_43 : 43 ≤ sizeLine := by decide
@[simp] theorem szn_44 : 44 ≤ sizeLine := by decide
@[simp] theorem szn_45 : 45 ≤ sizeLine := by decide
@[simp] theorem szn_46 : 46 ≤ sizeLine := by decide
@[simp] theorem szn_47 : 47 ≤ sizeLine := by decide
@[simp] theorem szn_48 : 48 ≤ sizeLine := by decide
@[simp] theorem szn_49 : 49 ≤ sizeLine := by decide
@[simp] theorem szn_50 : 50 ≤ sizeLine := by decide
@[simp] theorem szn_51 : 51 ≤ sizeLine := by decide
@[simp] theorem szn_52 : 52 ≤ sizeLine := by decide
@[simp] theorem szn_53 : 53 ≤ sizeLine := by decide
@[simp] theorem szn_54 : 54 ≤ sizeLine := by decide
@[simp] theorem szn_55 : 55 ≤ sizeLine := by decide
@[simp] theorem szn_56 : 56 ≤ sizeLine := by decide
@[simp] theorem szn_57 : 57 ≤ sizeLine := by decide
@[simp] theorem szn_58 : 58 ≤ sizeLine := by decide
@[simp] theorem szn_59 : 59 ≤ sizeLine := by decide
@[simp] theorem szn_60 : 60 ≤ sizeLine := by decide
@[simp] theorem z_scal_ints' {xs : List Int} : xs.all (scal ∘ D.int) = true := by simp [Function.comp_def]
@[simp] theorem z_scal_bls {xs : List Bool} : xs.all (scal ∘ D.bl) = true := by simp [Function.comp_def]
theorem rngD_e {lo : Int} {n : Nat} : rngD lo n = (List.range n).map fun (k : Nat) => D.int (lo + (k : Int)) := rfl
theorem enmD_e {ds : List D} : ∀ {i : Nat}, enmD i ds = (ds.zipIdx i).map fun p => .tup [.int (p.2 : Int), p.1] := by
  induction ds with
  | nil => intro i; rfl
  | cons d ds ih => intro i; rw [enmD, ih]; simp
theorem zipD_same {ds : List D} : zipD ds ds = ds.map fun x => .tup [x, x] := by
  induction ds with
  | nil => rfl
  | cons d ds ih => simp [zipD, ih]
/-! ### counts -/
abbrev Body (G : Env) (S : Sps) (F : FD) (P : Pr) : Prop := ∀ {ds b Q X}, P ds b Q X → ds.length = F.ps ∧ dS G S (muOf F.body) F.body (startD F.nS ds) b { nx := fun _ b' => Q (.un .non) b', rt := Q, ex := fun C ds _ b => X C ds b }
variable {G : Env} {S : Sps}
abbrev Knows (S : Sps) (f : Str) (P : Pr) : Prop := ∀ X ds b Q, callFD S X f ds b Q = P ds b Q X
def countP : Pr := fun ds b Q _ => ∃ i : Int, ds = [.int i] ∧ Q (.un (.bl (decide (0 ≤ i)))) b
@[simp ↓] theorem countP_e {i : Int} {b Q X} : countP [.int i] b Q X = Q (.un (.bl (decide (0 ≤ i)))) b := by simp [countP]
theorem count_body : Body G S F_is_count countP := by
  rintro ds b Q X ⟨i, rfl, q⟩
  refine ⟨rfl, ?_⟩
  by_cases h : 0 ≤ i <;> simpa [F_is_count, B_is_count, h] using q
def Rising (xs : List Int) (m : Int) : Prop := (∀ x ∈ xs, 0 ≤ x ∧ x < m) ∧ xs.Pairwise (· < ·)
instance {xs : List Int} {m : Int} : Decidable (Rising xs m) := by unfold Rising; infer_instance
theorem iL_inj {xs ys : List Int} : (xs.map D.int = ys.map D.int) = (xs = ys) := by
  apply propext
  constructor
  · intro h; exact (List.map_inj_right (fun a b e => by cases e; rfl)).mp h
  · rintro rfl; rfl
def risingP : Pr := fun ds b Q _ => ∃ (xs : List Int) (m : Int), ds = [iL xs, .int m] ∧ xs.length ≤ 1000 ∧ Q (.un (.bl (decide (Rising xs m)))) b
@[simp ↓] theorem risingP_e {xs : List Int} {m : Int} {b Q X} : risingP [.lst (xs.map .int), .int m] b Q X = (xs.length ≤ 1000 ∧ Q (.un (.bl (decide (Rising xs m)))) b) := by
  simp only [risingP, List.cons.injEq, D.lst.injEq, D.int.injEq, and_true, iL_inj]
  apply propext
  constructor
  · rintro ⟨_, _, ⟨rfl, rfl⟩, q⟩; exact q
  · intro q; exact ⟨_, _, ⟨rfl, rfl⟩, q⟩
theorem pair_of_next {xs : List Int} (h : ∀ j, (hj : j + 1 < xs.length) → xs[j] < xs[j + 1]) : xs.Pairwise (· < ·) := by
  rw [List.pairwise_iff_getElem]
  intro i j hi hj hij
  induction j with
  | zero => omega
  | succ j ih =>
    by_cases c : i = j
    · subst c; exact h i hj
    · exact Int.lt_trans (ih (by omega) (by omega)) (h j hj)
theorem rising_body (e1 : Knows S "is_count" countP) : Body G S F_is_rising risingP := by
  rintro ds b Q X ⟨xs, m, rfl, hl, q⟩
  refine ⟨rfl, ?_⟩
  have hw : xs.length < bigW := bgw (by omega)
  simp [F_is_rising, B_is_rising, hw]
  refine fold_mapM (f := fun i => .bl (decide (0 ≤ i ∧ i < m))) (fun i hi fl acc ha K hK => ?_) (szl (by simp; omega)) ?_
  · by_cases h : 0 ≤ i <;> simpa [e1, ha, h] using hK
  · simp
    refine iteD_of (fun h => ?_) fun h => ?_
    · have : ¬ Rising xs m := fun z => by simp at h; obtain ⟨x, hx, hh⟩ := h; have := z.1 x hx; have := hh this.1; omega
      rw [decide_eq_false this] at q; simpa using q
    · simp
      refine ⟨by omega, by rw [rngD_len]; exact bgw (by omega), ?_⟩
      rw [rngD_e]
      simp at h
      refine fold_mapM (f := fun j => .bl (decide (∃ h : j + 1 < xs.length, xs[j] < xs[j + 1]))) (fun j hj fl acc ha K hK => ?_) (szl (by simp; omega)) ?_
      · have hj2 : j + 1 < xs.length := by have := List.mem_range.mp hj; omega
        have e1 : L2.atI (xs.map D.int) (1 + (j : Int) - 1) = some (.int xs[j]) := by
          rw [show (1 + (j : Int) - 1) = ((j : Nat) : Int) by omega, atI_nat]; simp
        have e2 : L2.atI (xs.map D.int) (1 + (j : Int)) = some (.int xs[j + 1]) := by
          rw [show (1 + (j : Int)) = ((j + 1 : Nat) : Int) by omega, atI_nat]; simp [hj2]
        simp [hj2] at hK
        simp [e1, e2, ha]
        exact hK
      · simp
        have : (List.range (xs.length - 1)).all (fun j => decide (∃ h : j + 1 < xs.length, xs[j] < xs[j + 1])) = decide (Rising xs m) := by
          rw [Bool.eq_iff_iff, List.all_eq_true, decide_eq_true_iff]
          constructor
          · intro z
            refine ⟨fun x hx => h x hx, pair_of_next fun j hj => ?_⟩
            obtain ⟨_, w⟩ := of_decide_eq_true (z j (List.mem_range.mpr (by omega)))
            exact w
          · intro z j hj
            have hj2 : j + 1 < xs.length := by have := List.mem_range.mp hj; omega
            exact decide_eq_true ⟨hj2, List.pairwise_iff_getElem.mp z.2 j (j + 1) (by omega) hj2 (by omega)⟩
        rw [this]; exact q
/-- the number whose bits are some blocks -/
def bitsI (r : List Int) : Int := r.foldl (fun z i => Builtin.bitOr z (2 ^ i.toNat)) 0
def bitsP : Pr := fun ds b Q _ => ∃ xs : List Int, ds = [iL xs] ∧ xs.length ≤ 1000 ∧ (∀ x ∈ xs, 0 ≤ x ∧ x ≤ 1000) ∧ Q (.un (.int (bitsI xs))) b
@[simp ↓] theorem bitsP_e {xs : List Int} {b Q X} : bitsP [.lst (xs.map .int)] b Q X = (xs.length ≤ 1000 ∧ (∀ x ∈ xs, 0 ≤ x ∧ x ≤ 1000) ∧ Q (.un (.int (bitsI xs))) b) := by
  simp only [bitsP, List.cons.injEq, D.lst.injEq, and_true, iL_inj]
  apply propext
  constructor
  · rintro ⟨_, rfl, q⟩; exact q
  · intro q; exact ⟨_, rfl, q⟩
theorem bits_body : Body G S F_bits_of bitsP := by
  rintro ds b Q X ⟨xs, rfl, hl, hx, q⟩
  refine ⟨rfl, ?_⟩
  have hw : xs.length < bigW := bgw (by omega)
  simp [F_bits_of, B_bits_of, hw]
  refine fold_inv (fun t ρ b' => b' = b ∧ ∃ o, ρ = [some (.un (iL xs)), some (.un (.int (bitsI (xs.take t)))), o]) ⟨rfl, none, by simp [bitsI]⟩ ?_ ?_
  · rintro t x ρ b' hx' ⟨rfl, o, rfl⟩ K hK
    rw [List.getElem?_map] at hx'
    obtain ⟨i, hi, rfl⟩ := Option.map_eq_some_iff.mp hx'
    obtain ⟨h0, h1⟩ := hx i (List.mem_of_getElem? hi)
    simp [h0]
    refine ⟨by omega, hK _ _ ⟨rfl, some (.un (.int i)), ?_⟩⟩
    have : xs.take (t + 1) = xs.take t ++ [i] := by rw [List.take_succ, hi]; rfl
    rw [this]
    simp [bitsI, List.foldl_append]
  · rintro ρ b' ⟨rfl, o, rfl⟩
    simp
    exact q
end SL

set_option Elab.async false
set_option linter.all false
set_option maxRecDepth 100000
set_option maxHeartbeats 4000000
/-! Recipes: their maker. -/
namespace SL
open PySem
section
variable {F : Frm} {G : Env} {S : Sps} {c : Calls} {R : Nat → Prop} {h h1 hc : AH} {ρ : DEnv} {σ : ASt} {b b1 : Nat} {own : Nat → Nat → Prop}
theorem Mk.go {n0 : Nat} {C : Str} {fs : List (Str × Option D)} (m : Mk F h R hc ρ σ b own n0 C fs) (sm : SameM F hc h1) (i : F.I b1 h1) : Mk F h R h1 ρ σ b1 own n0 C fs := by
  obtain ⟨vs, e0, af⟩ := m.ob
  refine ⟨m.ev.go sm i, m.ow, m.s0, m.r0, vs, sm.k (m.ev.om m.ow) e0 rfl, AtF.mono ⟨fun r e p => ⟨⟨⟨r.1.1, Nat.lt_of_lt_of_le r.1.2 sm.le⟩, r.2⟩, sm.k (fun z => by have := m.ev.lo z; have := r.1.1; omega) e p⟩, fun e => sm.m e⟩ _ _ af⟩
/-- a test that says no -/
theorem mk_no (A : ∀ B u, SAll F B G S c u) {n0 : Nat} {C : Str} {fs : List (Str × Option D)} {t s : T} {E' : FE} (m : Mk F h R hc ρ σ b own n0 C fs)
    (q : dT G S nxD t (fz ρ) b fun k b1 => k = false ∧ b1 = b) (go : ∀ h1, Mk F h R h1 ρ σ b own n0 C fs → E'.nx σ h1) : (evS G c (.iff t s .done) σ hc).wp E' := by
  rw [s_iff]
  refine (calmX ((A _ t).t q (A := ⟨hc, Nw R h hc⟩) m.ev.cxtF)).noX.mono fun k h1 ⟨b1, m1, i1, hk, hb⟩ => ?_
  subst hk; subst hb
  rw [if_neg (by decide), s_done]
  exact go h1 (m.go m1 i1)
end
/-- a recipe: many, rows -/
def rcp (m : Int) (rows : List (List Int)) : D := .obj "Recipe" [("old", some (.int m)), ("rows", some (iLL rows)), ("bits", some (iL (rows.map bitsI))), ("known", some (.mem (rows.map bitsI)))]
def recCD : CD := ⟨some "Recipe.__init__", [("many", "Recipe.many"), ("needs", "Recipe.needs"), ("size", "Recipe.size"), ("__eq__", "Recipe.__eq__")], ["old", "rows", "bits", "known"]⟩
/-- a law's classes know Recipe -/
structure RecG (G : Env) : Prop where
  cls : G.cls "Recipe" = some recCD
  ini : (G.fns "Recipe.__init__").isSome = true
  met : (G.fns "Recipe.many").isSome = true ∧ (G.fns "Recipe.needs").isSome = true ∧ (G.fns "Recipe.size").isSome = true ∧ (G.fns "Recipe.__eq__").isSome = true
  sub : G.sub "Recipe" "Recipe" = some true
  subT : ∀ t ∈ (["NoneType", "bool", "int", "str", "list", "tuple", "dict"] : List String), G.subT t "Recipe" = some false
variable {G : Env} {S : Sps}
theorem RecG.mkk (q : RecG G) : mkOk G "Recipe" = true := by
  simp only [mkOk, q.cls, recCD]; exact q.ini
theorem RecG.fld (q : RecG G) {x : Str} (h : (["old", "rows", "bits", "known"] : List Str).contains x = true) : hasFld G "Recipe" x = true := by
  simp only [hasFld, q.cls, recCD]; exact h
theorem eqD_iLL0 {xs : List (List Int)} : eqD (.lst (xs.map iL)) (.lst []) = some (decide (xs = [])) := eqD_iLL xs []
theorem eqD_iL0 {xs : List Int} : eqD (.lst (xs.map D.int)) (.lst []) = some (decide (xs = [])) := eqD_ints xs []
/-- rows that make a recipe -/
def okRows (m : Int) (rows : List (List Int)) : Prop := 0 ≤ m ∧ m ≤ 1000 ∧ rows ≠ [] ∧ rows.length ≤ 1000 ∧ ∀ r ∈ rows, Rising r m ∧ r.length ≤ 1000
def makeP : Pr := fun ds b Q _ => ∃ m rows, ds = [.int m, iLL rows] ∧ okRows m rows ∧ Q (.fr (rcp m rows)) b
theorem iLL_inj {xs ys : List (List Int)} : (xs.map iL = ys.map iL) = (xs = ys) := by
  apply propext
  constructor
  · intro h; exact (List.map_inj_right (fun a b e => by
      have e2 : a.map D.int = b.map D.int := by injection e
      rw [iL_inj] at e2; exact e2)).mp h
  · rintro rfl; rfl
@[simp ↓] theorem makeP_e {m : Int} {rows : List (List Int)} {b Q X} : makeP [.int m, .lst (rows.map iL)] b Q X = (okRows m rows ∧ Q (.fr (rcp m rows)) b) := by
  simp only [makeP, List.cons.injEq, D.lst.injEq, D.int.injEq, and_true, iLL_inj]
  apply propext
  constructor
  · rintro ⟨_, _, ⟨rfl, rfl⟩, q⟩; exact q
  · intro q; exact ⟨_, _, ⟨rfl, rfl⟩, q⟩
theorem make_ms {F : Frm} {k : Nat} (g : RecG G) (hf : G.fns "Recipe.__init__" = some F_Recipe___init) (h1 : ∀ j, 2 ≤ j → PS F G j "is_count" countP) (h2 : ∀ j, 2 ≤ j → PS F G j "is_rising" risingP) (h3 : ∀ j, 2 ≤ j → PS F G j "bits_of" bitsP) (hk : 3 < k) : MS F G k "Recipe" makeP := by
  rintro ds b Q X vs h R ⟨m, rows, rfl, ⟨hm0, hm, hr, hl, hrow⟩, q⟩ a bd i
  obtain ⟨j, rfl⟩ : ∃ j, k = j + 2 := ⟨k - 2, by omega⟩
  have e1 := g.cls
  obtain ⟨v1, r1, rfl, av1, v2, r2, rfl, av2, rfl⟩ := a
  have A : ∀ B u, SAll F B G (mkS [("is_count", countP), ("is_rising", risingP), ("bits_of", bitsP)] [] []) (cD G j) u := fun B u => all_ok (spok (fun p hp => by
    rcases List.mem_cons.mp hp with rfl | hp
    · exact h1 j (by omega)
    rcases List.mem_cons.mp hp with rfl | hp
    · exact h2 j (by omega)
    rcases List.mem_cons.mp hp with rfl | hp
    · exact h3 j (by omega)
    cases hp) (fun p hp => by cases hp) fun p hp => by cases hp) u
  generalize hS : mkS [("is_count", countP), ("is_rising", risingP), ("bits_of", bitsP)] [] [] = S at A
  have k1 : Knows S "is_count" countP := fun _ _ _ _ => by rw [← hS]; rfl
  have k2 : Knows S "is_rising" risingP := fun _ _ _ _ => by rw [← hS]; rfl
  have k3 : Knows S "bits_of" bitsP := fun _ _ _ _ => by rw [← hS]; rfl
  unfold mkA
  rw [e1]
  simp only [recCD, g.ini, if_true, wp_bind, lo_cD]
  show (callD G (j + 1) _ _ _).wp _ _
  have ow0 : ∀ i n, (fun (i n : Nat) => i = 0 ∧ n = h.length) i n → h.length ≤ n ∧ n < (h ++ [AO.ins "Recipe" []]).length := fun i n z => by obtain ⟨rfl, rfl⟩ := z; exact ⟨Nat.le_refl _, by simp⟩
  have mv0 : Mv R (Rg R h (h ++ [AO.ins "Recipe" []]) fun i n => i = 0 ∧ n = h.length) h (h ++ [AO.ins "Recipe" []]) := ⟨fun r e _ => ⟨⟨.inl r, fun i z => by have := lt_of e; omega⟩, app_get e⟩, fun e => ⟨_, app_get e⟩⟩
  have m0 : Mk F h R (h ++ [AO.ins "Recipe" []]) [none, some (.un (.int m)), some (.un (iLL rows)), none] (start 4 [.ref h.length, v1, v2]) b (fun i n => i = 0 ∧ n = h.length) h.length "Recipe" [] := by
    refine ⟨⟨SameM.app, Frm.app i (.one rfl), ⟨b, i⟩, bd, rfl, fun j s e => ?_, ow0, fun i j n z1 z2 => by omega⟩, ⟨rfl, rfl⟩, rfl, rfl, [], by simp, rfl⟩
    match j with
    | 0 => cases e
    | 1 => cases e; exact ⟨v1, rfl, At.mono mv0 _ _ av1⟩
    | 2 => cases e; exact ⟨v2, rfl, At.mono mv0 _ _ av2⟩
    | 3 => cases e
    | n + 4 => simp at e
  refine wp_call hf rfl ?_
  have hw : rows.length < bigW := bgw (by omega)
  show (evS G (cD G j) B_Recipe___init (start 4 [.ref h.length, v1, v2]) _).wp _
  unfold B_Recipe___init
  rw [s_seq]
  refine mk_no A m0 (by simp [k1, hm0]) fun hA mA => ?_
  show (evS G (cD G j) _ _ _).wp _
  rw [s_seq]
  refine mk_no A mA ?_ fun hB mB => ?_
  · simp [k2, eqD_iLL0, hr, hw]
    refine fold_mapM (f := fun r => .bl true) (fun r hrm fl acc ha K hK => ?_) (szl (by simp; omega)) ?_
    · obtain ⟨h1, h2⟩ := hrow r hrm
      simp [k2, h1, h2, ha]; exact hK
    · simp
  show (evS G (cD G j) _ _ _).wp _
  rw [s_seq]
  refine mk_fld A mB rfl (by decide) (g.fld (by decide)) (by decide) (d := .int m) (by simp) fun hC mC => ?_
  show (evS G (cD G j) _ _ _).wp _
  rw [s_seq]
  refine mk_fld A mC (by rfl) (by decide) (g.fld (by decide)) (by simp) (d := iLL rows) ?_ fun hD mD => ?_
  · simp [hw]
    refine fold_mapM (f := iL) (fun r hrm fl acc ha K hK => ?_) (szl (by simp; omega)) ?_
    · obtain ⟨h1, h2⟩ := hrow r hrm
      simp [ha]; exact ⟨szl (by omega), hK⟩
    · simp
  show (evS G (cD G j) _ _ _).wp _
  rw [s_seq]
  refine mk_fld A mD (by rfl) (by decide) (g.fld (by decide)) (by simp) (d := iL (rows.map bitsI)) ?_ fun hE mE => ?_
  · simp [hw]
    refine fold_mapM (f := fun r => .int (bitsI r)) (fun r hrm fl acc ha K hK => ?_) (szl (by simp; omega)) ?_
    · obtain ⟨h1, h2⟩ := hrow r hrm
      simp [ha, k3, h2]
      refine ⟨fun x hx => ?_, hK⟩
      have := h1.1 x hx; omega
    · simp [Function.comp_def]
  show (evS G (cD G j) _ _ _).wp _
  rw [s_seq]
  refine mk_known (ms := rows.map bitsI) mE (by rfl) (g.fld (by decide)) (by simp) rfl ?_
  rintro hF b' mF rfl
  dsimp only
  rw [s_done]
  dsimp only
  rw [wp_ok]
  obtain ⟨ws, eo, af⟩ := mF.ob
  refine ⟨.fr (rcp m rows), b', mF.ev.sm, mF.ev.i, ?_, rfl, q⟩
  show At hF (newR h hF) (rcp m rows) (.ref h.length)
  refine ⟨h.length, ws, rfl, ⟨Nat.le_refl _, lt_of eo⟩, eo, ?_⟩
  exact af.sub fun n z => z.1
theorem RecG.old (g : RecG G) {m : Int} {rows : List (List Int)} : fldD G (rcp m rows) "old" = some (.int m) := by
  simp only [fldD, rcp]; rw [if_pos (g.fld (by decide))]; rfl
theorem RecG.rows (g : RecG G) {m : Int} {rows : List (List Int)} : fldD G (rcp m rows) "rows" = some (iLL rows) := by
  simp only [fldD, rcp]; rw [if_pos (g.fld (by decide))]; rfl
theorem RecG.bits (g : RecG G) {m : Int} {rows : List (List Int)} : fldD G (rcp m rows) "bits" = some (iL (rows.map bitsI)) := by
  simp only [fldD, rcp]; rw [if_pos (g.fld (by decide))]; rfl
theorem RecG.known (g : RecG G) {m : Int} {rows : List (List Int)} : fldD G (rcp m rows) "known" = some (.mem (rows.map bitsI)) := by
  simp only [fldD, rcp]; rw [if_pos (g.fld (by decide))]; rfl
theorem RecG.ty (g : RecG G) {m : Int} {rows : List (List Int)} : tyD G (rcp m rows) = some (.own "Recipe") := by
  simp only [tyD, rcp, g.cls]; rfl
theorem RecG.isR (g : RecG G) {m : Int} {rows : List (List Int)} : isiD G (rcp m rows) (.gl "Recipe") = some true := by
  rw [z_isi_gl g.ty]; exact g.sub
theorem RecG.isN (g : RecG G) {d : D} {t : String} (ht : tyD G d = some (.b t)) (hm : t ∈ (["NoneType", "bool", "int", "str", "list", "tuple", "dict"] : List String)) : isiD G d (.gl "Recipe") = some false := by
  rw [z_isi_gl ht]; exact g.subT t hm
theorem filter_pos {α : Type} {p : α → Bool} {a : α} (h : p a = true) : Option.filter p (some a) = some a := by simp [Option.filter, h]
theorem RecG.m_many (g : RecG G) {m : Int} {rows : List (List Int)} : metG G (rcp m rows) "many" = some ("Recipe.many" : Str) := by
  simp only [metG, rcp, g.cls]
  rw [if_pos (show List.lookup _ _ = none from rfl)]
  show Option.filter _ (some ("Recipe.many" : Str)) = _
  exact filter_pos g.met.1
theorem RecG.m_needs (g : RecG G) {m : Int} {rows : List (List Int)} : metG G (rcp m rows) "needs" = some ("Recipe.needs" : Str) := by
  simp only [metG, rcp, g.cls]
  rw [if_pos (show List.lookup _ _ = none from rfl)]
  show Option.filter _ (some ("Recipe.needs" : Str)) = _
  exact filter_pos g.met.2.1
theorem RecG.m_size (g : RecG G) {m : Int} {rows : List (List Int)} : metG G (rcp m rows) "size" = some ("Recipe.size" : Str) := by
  simp only [metG, rcp, g.cls]
  rw [if_pos (show List.lookup _ _ = none from rfl)]
  show Option.filter _ (some ("Recipe.size" : Str)) = _
  exact filter_pos g.met.2.2.1
end SL

set_option Elab.async false
set_option linter.all false
set_option maxRecDepth 100000
set_option maxHeartbeats 4000000
/-! Recipes: what their functions tell. -/
namespace SL
open PySem
variable {G : Env} {S : Sps}
@[simp] theorem strip_rec {m : Int} {rows : List (List Int)} : strip (rcp m rows) = rcp m rows := rfl
@[simp] theorem isObj_rec {m : Int} {rows : List (List Int)} : isObj (rcp m rows) = some "Recipe" := rfl
theorem rec_inj {m m' : Int} {rows rows' : List (List Int)} (h : rcp m rows = rcp m' rows') : m = m' ∧ rows = rows' := by
  simp only [rcp, D.obj.injEq, List.cons.injEq, Prod.mk.injEq, Option.some.injEq, D.int.injEq, D.lst.injEq, true_and] at h
  exact ⟨h.1, by have := h.2.1; rwa [iLL_inj] at this⟩
@[simp] theorem rec_eq {m m' : Int} {rows rows' : List (List Int)} : (rcp m rows = rcp m' rows') = (m = m' ∧ rows = rows') := propext ⟨rec_inj, fun ⟨a, b⟩ => by subst a; subst b; rfl⟩
/-- of one recipe -/
def recP (f : Int → List (List Int) → Sl) : Pr := fun ds b Q _ => ∃ m rows, ds = [rcp m rows] ∧ okRows m rows ∧ Q (f m rows) b
@[simp ↓] theorem recP_e {f : Int → List (List Int) → Sl} {m : Int} {rows : List (List Int)} {b Q X} : recP f [rcp m rows] b Q X = (okRows m rows ∧ Q (f m rows) b) := by
  apply propext
  constructor
  · rintro ⟨_, _, e, q⟩
    simp only [List.cons.injEq, rec_eq, and_true] at e
    obtain ⟨rfl, rfl⟩ := e
    exact q
  · intro q; exact ⟨_, _, rfl, q⟩
/-- of a recipe and a number -/
def recIP (pre : Int → List (List Int) → Int → Prop) (f : Int → List (List Int) → Int → Sl) : Pr := fun ds b Q _ => ∃ m rows i, ds = [rcp m rows, .int i] ∧ okRows m rows ∧ pre m rows i ∧ Q (f m rows i) b
@[simp ↓] theorem recIP_e {pre : Int → List (List Int) → Int → Prop} {f : Int → List (List Int) → Int → Sl} {m i : Int} {rows : List (List Int)} {b Q X} : recIP pre f [rcp m rows, .int i] b Q X = (okRows m rows ∧ pre m rows i ∧ Q (f m rows i) b) := by
  apply propext
  constructor
  · rintro ⟨_, _, _, e, q⟩
    simp only [List.cons.injEq, rec_eq, D.int.injEq, and_true] at e
    obtain ⟨⟨rfl, rfl⟩, rfl⟩ := e
    exact q
  · intro q; exact ⟨_, _, _, rfl, q⟩
abbrev manyP : Pr := recP fun m _ => .un (.int m)
abbrev needsP : Pr := recP fun _ rows => .fr (iLL rows)
abbrev sizeP : Pr := recP fun _ rows => .un (.int rows.length)
abbrev checkP : Pr := recP fun _ _ => .un .non
theorem many_body (g : RecG G) : Body G S F_Recipe_many manyP := by
  rintro ds b Q X ⟨m, rows, rfl, ok, q⟩
  refine ⟨rfl, ?_⟩
  simpa [F_Recipe_many, B_Recipe_many, g.old] using q
theorem size_body (g : RecG G) : Body G S F_Recipe_size sizeP := by
  rintro ds b Q X ⟨m, rows, rfl, ok, q⟩
  refine ⟨rfl, ?_⟩
  simpa [F_Recipe_size, B_Recipe_size, g.rows] using q
theorem needs_body (g : RecG G) : Body G S F_Recipe_needs needsP := by
  rintro ds b Q X ⟨m, rows, rfl, ok, q⟩
  refine ⟨rfl, ?_⟩
  obtain ⟨h0, h1, h2, h3, h4⟩ := ok
  have hw : rows.length < bigW := bgw (by omega)
  simp [F_Recipe_needs, B_Recipe_needs, g.rows, hw]
  refine fold_mapM (f := iL) (fun r hr fl acc ha K hK => ?_) (szl (by simp; omega)) (by simpa using q)
  obtain ⟨_, hl⟩ := h4 r hr
  simp [ha]; exact ⟨szl (by omega), hK⟩
theorem check_body (g : RecG G) : Body G S F_check_recipe checkP := by
  rintro ds b Q X ⟨m, rows, rfl, ok, q⟩
  refine ⟨rfl, ?_⟩
  simpa [F_check_recipe, B_check_recipe, g.isR] using q
abbrev blockP : Pr := recIP (fun _ rows i => 0 ≤ i ∧ i < rows.length) fun _ _ _ => .un .non
theorem block_body (g : RecG G) (e1 : Knows S "is_count" countP) : Body G S F_check_block blockP := by
  rintro ds b Q X ⟨m, rows, i, rfl, ok, ⟨h0, h1⟩, q⟩
  refine ⟨rfl, ?_⟩
  have : ¬ (rows.length : Int) ≤ i := by omega
  simpa [F_check_block, B_check_block, g.rows, e1, h0, this] using q
abbrev needsOfP : Pr := recIP (fun _ rows i => 0 ≤ i ∧ i < rows.length) fun _ rows i => .fr (iL (rows.getD i.toNat []))
theorem needsOf_body (g : RecG G) (e1 : Knows S "check_recipe" checkP) (e2 : Knows S "check_block" blockP) : Body G S F_needs_of needsOfP := by
  rintro ds b Q X ⟨m, rows, i, rfl, ok, ⟨h0, h1⟩, q⟩
  refine ⟨rfl, ?_⟩
  obtain ⟨n, rfl⟩ := Int.eq_ofNat_of_zero_le h0
  have hn : n < rows.length := by omega
  have e3 : L2.atI (rows.map iL) ((n : Nat) : Int) = some (iL rows[n]) := by rw [atI_nat]; simp [hn]
  have hl := (ok.2.2.2.2 rows[n] (List.getElem_mem hn)).2
  simp [hn] at q
  simp [F_needs_of, B_needs_of, g.rows, e1, e2, ok, h0, hn, e3]
  exact ⟨szl (by omega), q⟩
def usersOf (rows : List (List Int)) (i : Int) : List Int := (rows.zipIdx.filter fun p => decide (i ∈ p.1)).map fun p => ((p.2 : Nat) : Int)
abbrev usersP : Pr := recIP (fun m _ i => 0 ≤ i ∧ i < m) fun _ rows i => .fr (iL (usersOf rows i))
theorem users_body (g : RecG G) (e1 : Knows S "check_recipe" checkP) (e2 : Knows S "is_count" countP) : Body G S F_users_of usersP := by
  rintro ds b Q X ⟨m, rows, i, rfl, ok, ⟨h0, h1⟩, q⟩
  refine ⟨rfl, ?_⟩
  have hw : (enmD 0 (rows.map iL)).length < bigW := bgw (by rw [enmD_len, List.length_map]; have := ok.2.2.2.1; omega)
  have : ¬ m ≤ i := by omega
  simp [F_users_of, B_users_of, g.rows, g.old, e1, e2, ok, h0, this, hw]
  rw [enmD_e, List.zipIdx_map, List.map_map]
  refine fold_frM (p := fun p => decide (i ∈ p.1)) (f := fun p => .int (p.2 : Nat)) (fun p hp fl acc ha K hK => ?_) (szl (by have := ok.2.2.2.1; simp; omega)) ?_
  · by_cases h : i ∈ p.1
    · simp [h] at hK; simp [h, ha]; exact hK
    · simp [h] at hK; simp [h]; exact hK
  · simp
    have e : (rows.zipIdx.filter fun p => decide (i ∈ p.1)).map (fun p => D.int ((p.2 : Nat) : Int)) = (usersOf rows i).map D.int := by unfold usersOf; rw [List.map_map]; rfl
    rw [e]; exact q
/-! ### rows made of lists -/
def ddI (L : List Int) (x : Int) : List Int := if x ∈ L then L else L ++ [x]
def dedI (xs : List Int) : List Int := xs.foldl ddI []
def tk (i : Int) : AKey × D := (.inl i, .bl true)
theorem put_tk {L : List Int} {x : Int} : putD (L.map tk) (.inl x) (.bl true) = (ddI L x).map tk := by
  unfold putD ddI
  have hany : ((L.map tk).any fun kv => decide (kv.1 = .inl x)) = decide (x ∈ L) := by
    rw [Bool.eq_iff_iff, List.any_eq_true, decide_eq_true_iff]
    constructor
    · rintro ⟨kv, hm, he⟩
      obtain ⟨i, hi, rfl⟩ := List.mem_map.mp hm
      simp [tk] at he; subst he; exact hi
    · intro h; exact ⟨tk x, List.mem_map_of_mem h, by simp [tk]⟩
  rw [hany]
  by_cases h : x ∈ L
  · simp only [h, decide_true, if_true, List.map_map]
    refine List.map_congr_left fun i hi => ?_
    simp only [Function.comp_def, tk]
    exact ite_self _
  · simp [h, tk]
theorem dd_mem {L : List Int} {x y : Int} : y ∈ ddI L x ↔ y ∈ L ∨ y = x := by
  unfold ddI; split
  · constructor
    · exact .inl
    · rintro (h | rfl) <;> assumption
  · simp
theorem dd_nodup {L : List Int} {x : Int} (h : L.Nodup) : (ddI L x).Nodup := by
  unfold ddI; split
  · exact h
  · rename_i hx
    rw [List.nodup_append]
    exact ⟨h, by simp, fun a ha c hc => by simp at hc; subst hc; exact fun z => hx (z ▸ ha)⟩
theorem foldl_dd {xs : List Int} : ∀ {L : List Int}, L.Nodup → (xs.foldl ddI L).Nodup ∧ ∀ y, y ∈ xs.foldl ddI L ↔ y ∈ L ∨ y ∈ xs := by
  induction xs with
  | nil => intro L h; exact ⟨h, by simp⟩
  | cons x xs ih =>
    intro L h
    obtain ⟨h1, h2⟩ := ih (dd_nodup (x := x) h)
    refine ⟨h1, fun y => ?_⟩
    rw [List.foldl_cons, h2, dd_mem, List.mem_cons, or_assoc]
theorem ded_spec (xs : List Int) : (dedI xs).Nodup ∧ ∀ y, y ∈ dedI xs ↔ y ∈ xs := by
  obtain ⟨h1, h2⟩ := foldl_dd (xs := xs) (L := []) .nil
  exact ⟨h1, fun y => by rw [dedI, h2]; simp⟩
theorem insJ_mem {a x : Int} {l : List Int} : x ∈ insI a l ↔ x = a ∨ x ∈ l := by
  induction l with
  | nil => simp [insI]
  | cons b r ih => unfold insI; split <;> simp [ih]; (constructor <;> rintro (h | h | h) <;> simp [h])
theorem insJ_sorted {a : Int} {l : List Int} (h : l.Pairwise (· < ·)) (ha : a ∉ l) : (insI a l).Pairwise (· < ·) := by
  induction l with
  | nil => simp [insI]
  | cons b r ih =>
    rw [List.pairwise_cons] at h
    simp only [List.mem_cons, not_or] at ha
    unfold insI; split
    · rename_i hab
      rw [List.pairwise_cons]
      refine ⟨fun x hx => ?_, List.pairwise_cons.mpr h⟩
      rcases List.mem_cons.mp hx with rfl | hx
      · omega
      · have := h.1 x hx; omega
    · rename_i hab
      rw [List.pairwise_cons]
      refine ⟨fun x hx => ?_, ih h.2 ha.2⟩
      rcases insJ_mem.mp hx with rfl | hx
      · omega
      · exact h.1 x hx
theorem isort_spec {l : List Int} (h : l.Nodup) : (isort l).Pairwise (· < ·) ∧ ∀ x, x ∈ isort l ↔ x ∈ l := by
  induction l with
  | nil => exact ⟨.nil, fun x => Iff.rfl⟩
  | cons a l ih =>
    rw [List.nodup_cons] at h
    obtain ⟨h1, h2⟩ := ih h.2
    refine ⟨insJ_sorted h1 fun z => h.1 ((h2 a).mp z), fun x => ?_⟩
    show x ∈ insI a (isort l) ↔ _
    rw [insJ_mem, h2, List.mem_cons]
/-- two rising lists of the same items are one -/
theorem rising_one : ∀ {xs ys : List Int}, xs.Pairwise (· < ·) → ys.Pairwise (· < ·) → (∀ x, x ∈ xs ↔ x ∈ ys) → xs = ys
  | [], [], _, _, _ => rfl
  | [], y :: ys, _, _, h => absurd ((h y).mpr (List.mem_cons_self ..)) (by simp)
  | x :: xs, [], _, _, h => absurd ((h x).mp (List.mem_cons_self ..)) (by simp)
  | x :: xs, y :: ys, p, q, h => by
    rw [List.pairwise_cons] at p q
    have hxy : x = y := by
      have h1 := (h x).mp (List.mem_cons_self ..)
      have h2 := (h y).mpr (List.mem_cons_self ..)
      rcases List.mem_cons.mp h1 with e | h1
      · exact e
      · rcases List.mem_cons.mp h2 with e | h2
        · exact e.symm
        · have := q.1 x h1; have := p.1 y h2; omega
    subst hxy
    congr 1
    refine rising_one p.2 q.2 fun z => ?_
    constructor
    · intro hz
      rcases List.mem_cons.mp ((h z).mp (List.mem_cons_of_mem _ hz)) with rfl | hz'
      · exact absurd (p.1 z hz) (by omega)
      · exact hz'
    · intro hz
      rcases List.mem_cons.mp ((h z).mpr (List.mem_cons_of_mem _ hz)) with rfl | hz'
      · exact absurd (q.1 z hz) (by omega)
      · exact hz'
def sortD (xs : List Int) : List Int := isort (dedI xs)
theorem sortD_spec (xs : List Int) : (sortD xs).Pairwise (· < ·) ∧ ∀ x, x ∈ sortD xs ↔ x ∈ xs := by
  obtain ⟨h1, h2⟩ := ded_spec xs
  obtain ⟨h3, h4⟩ := isort_spec h1
  exact ⟨h3, fun x => by rw [sortD, h4, h2]⟩
/-- a rising list within a bound is no longer than it -/
theorem rising_len {xs : List Int} {m : Int} (h : Rising xs m) (h0 : 0 ≤ m) : (xs.length : Int) ≤ m := by
  have key : ∀ (xs : List Int) (lo : Int), lo ≤ m → (∀ x ∈ xs, lo ≤ x ∧ x < m) → xs.Pairwise (· < ·) → (xs.length : Int) ≤ m - lo := by
    intro xs
    induction xs with
    | nil => intro lo h _ _; simp; omega
    | cons x xs ih =>
      intro lo h1 h2 h3
      rw [List.pairwise_cons] at h3
      have hx := h2 x (List.mem_cons_self ..)
      have := ih (x + 1) (by omega) (fun y hy => ⟨by have := h3.1 y hy; omega, (h2 y (List.mem_cons_of_mem _ hy)).2⟩) h3.2
      simp only [List.length_cons]; omega
  have := key xs 0 h0 h.1 h.2
  omega
theorem ded_len {xs : List Int} {m : Nat} (h : ∀ x ∈ xs, 0 ≤ x ∧ x < (m : Int)) : (dedI xs).length ≤ m := by
  have h1 := sortD_spec xs
  have h2 : (sortD xs).length = (dedI xs).length := by
    have len : ∀ l : List Int, (isort l).length = l.length := by
      intro l
      induction l with
      | nil => rfl
      | cons a l ih =>
        have : ∀ (a : Int) (l : List Int), (insI a l).length = l.length + 1 := by
          intro a l
          induction l with
          | nil => rfl
          | cons b r ih => unfold insI; split <;> simp [ih]
        show (insI a (isort l)).length = _
        rw [this, ih]; rfl
    exact len _
  have := rising_len (xs := sortD xs) (m := m) ⟨fun x hx => h x ((h1.2 x).mp hx), h1.1⟩ (by omega)
  omega
@[simp] theorem keys_tk {L : List Int} : intsD ((L.map tk).map fun kv => keyDV kv.1) = some L := by
  rw [List.map_map]; exact z_intsD
@[simp] theorem keys_tk' {L : List Int} : intsD (L.map ((fun kv => keyDV kv.1) ∘ tk)) = some L := z_intsD
/-- which old blocks are used -/
def usedOf (rows : List (List Int)) : List Int := sortD rows.flatten
theorem used_eq {m : Int} {rows : List (List Int)} (ok : okRows m rows) : Rising (usedOf rows) m ∧ ∀ x, x ∈ usedOf rows ↔ ∃ r ∈ rows, x ∈ r := by
  obtain ⟨h1, h2⟩ := sortD_spec rows.flatten
  have h3 : ∀ x, x ∈ usedOf rows ↔ ∃ r ∈ rows, x ∈ r := fun x => by rw [usedOf, h2, List.mem_flatten]
  refine ⟨⟨fun x hx => ?_, h1⟩, h3⟩
  obtain ⟨r, hr, hx⟩ := (h3 x).mp hx
  exact (ok.2.2.2.2 r hr).1.1 x hx
def recSP (f : Int → List (List Int) → Sl) : Pr := fun ds b Q _ => ∃ m rows, ds = [rcp m rows] ∧ okRows m rows ∧ m < 64 ∧ Q (f m rows) b
@[simp ↓] theorem recSP_e {f : Int → List (List Int) → Sl} {m : Int} {rows : List (List Int)} {b Q X} : recSP f [rcp m rows] b Q X = (okRows m rows ∧ m < 64 ∧ Q (f m rows) b) := by
  apply propext
  constructor
  · rintro ⟨_, _, e, q⟩
    simp only [List.cons.injEq, rec_eq, and_true] at e
    obtain ⟨rfl, rfl⟩ := e
    exact q
  · intro q; exact ⟨_, _, rfl, q⟩
abbrev usedInP : Pr := recSP fun _ rows => .fr (iL (usedOf rows))
theorem fold_ded {step : D → Bool × List (AKey × D) → Nat → (Bool × List (AKey × D) → Nat → Prop) → Prop} {b : Nat} {xs : List Int} {fl : Bool} {L : List Int} {Q : Bool × List (AKey × D) → Nat → Prop}
    (h : ∀ x ∈ xs, ∀ L : List Int, L.length < sizeLine → ∀ K, K (fl, (ddI L x).map tk) b → step (.int x) (fl, L.map tk) b K) (hl : L.length + xs.length ≤ sizeLine) (q : Q (fl, (xs.foldl ddI L).map tk) b) : foldD step (xs.map .int) (fl, L.map tk) b Q := by
  induction xs generalizing L with
  | nil => exact q
  | cons x xs ih =>
    rw [List.map_cons, foldD]
    simp only [List.length_cons] at hl
    refine h x (List.mem_cons_self ..) L (by omega) _ (ih (fun y hy => h y (List.mem_cons_of_mem _ hy)) ?_ q)
    have : (ddI L x).length ≤ L.length + 1 := by unfold ddI; split <;> simp
    omega
theorem dd_len {L : List Int} {xs : List Int} : (xs.foldl ddI L).length ≤ L.length + xs.length := by
  induction xs generalizing L with
  | nil => simp
  | cons x xs ih =>
    have : (ddI L x).length ≤ L.length + 1 := by unfold ddI; split <;> simp
    have := ih (L := ddI L x)
    simp only [List.foldl_cons, List.length_cons]; omega
theorem usedIn_body (g : RecG G) : Body G S F_used_in usedInP := by
  rintro ds b Q X ⟨m, rows, rfl, ok, hm, q⟩
  refine ⟨rfl, ?_⟩
  have hr := ok.2.2.2.1
  have hw : rows.length < bigW := bgw (by omega)
  simp [F_used_in, B_used_in, g.rows, hw]
  refine fold_inv (fun t (a : Bool × List (AKey × D)) b' => b' = b ∧ a = (true, (((rows.take t).flatten).foldl ddI []).map tk)) ⟨rfl, rfl⟩ ?_ ?_
  · rintro t x a b' hx ⟨rfl, rfl⟩ K hK
    rw [List.getElem?_map] at hx
    obtain ⟨r, hr1, rfl⟩ := Option.map_eq_some_iff.mp hx
    obtain ⟨hri, hrl⟩ := ok.2.2.2.2 r (List.mem_of_getElem? hr1)
    have hw2 : r.length < bigW := bgw (by omega)
    simp [hw2]
    have htk : rows.take (t + 1) = rows.take t ++ [r] := by rw [List.take_succ, hr1]; rfl
    have lenb : (((rows.take t).flatten).foldl ddI []).length ≤ 1000 := by
      have := ded_len (xs := (rows.take t).flatten) (m := 1000) fun x hx => by
        obtain ⟨r, hr, hx⟩ := List.mem_flatten.mp hx
        have := (ok.2.2.2.2 r (List.mem_of_mem_take hr)).1.1 x hx
        have := ok.2.1
        omega
      exact this
    refine fold_ded (fun x hx L hL K' hK' => ?_) (szl (by omega)) ?_
    · have hL' : ¬ sizeLine ≤ L.length := by omega
      simp [hL, put_tk]; exact hK'
    · refine hK _ _ ⟨rfl, ?_⟩
      rw [htk, List.flatten_append, List.foldl_append]; simp
  · rintro a b' ⟨rfl, rfl⟩
    simp
    refine ⟨?_, q⟩
    have := ded_len (xs := rows.flatten) (m := 63) fun x hx => by
      obtain ⟨r, hr, hx⟩ := List.mem_flatten.mp hx
      have := (ok.2.2.2.2 r hr).1.1 x hx
      omega
    have : (rows.flatten.foldl ddI []).length ≤ 63 := this
    omega
abbrev usedP : Pr := usedInP
theorem used_body (g : RecG G) (e1 : Knows S "check_recipe" checkP) (e2 : Knows S "used_in" usedInP) : Body G S F_used usedP := by
  rintro ds b Q X ⟨m, rows, rfl, ok, hm, q⟩
  refine ⟨rfl, ?_⟩
  simpa [F_used, B_used, e1, e2, ok, hm] using q
def idleOf (m : Int) (rows : List (List Int)) : List Int := ((List.range m.toNat).map fun (k : Nat) => (k : Int)).filter fun x => !decide (x ∈ usedOf rows)
abbrev idleP : Pr := recSP fun m rows => .fr (iL (idleOf m rows))
theorem idle_body (g : RecG G) (e1 : Knows S "check_recipe" checkP) (e2 : Knows S "used_in" usedInP) : Body G S F_idle idleP := by
  rintro ds b Q X ⟨m, rows, rfl, ok, hm, q⟩
  refine ⟨rfl, ?_⟩
  have h0 := ok.1
  have hw : (rngD 0 m.toNat).length < bigW := by rw [rngD_len]; exact bgw (by omega)
  simp [F_idle, B_idle, g.old, e1, e2, ok, hm, hw]
  refine ⟨by omega, ?_⟩
  rw [rngD_e]
  refine fold_frM (p := fun k => !decide (((k : Nat) : Int) ∈ usedOf rows)) (f := fun k => .int ((k : Nat) : Int)) (fun k hk fl acc ha K hK => ?_) (szl (by simp; omega)) ?_
  · by_cases h : ((k : Nat) : Int) ∈ usedOf rows
    · simp [h] at hK; simp [h]; exact hK
    · simp [h] at hK; simp [h, ha]; exact hK
  · simp
    have e : ((List.range m.toNat).filter fun k => !decide (((k : Nat) : Int) ∈ usedOf rows)).map (fun k => D.int ((k : Nat) : Int)) = (idleOf m rows).map D.int := by
      unfold idleOf; rw [List.filter_map, List.map_map]; rfl
    rw [e]; exact q
end SL

set_option Elab.async false
set_option linter.all false
set_option maxRecDepth 100000
set_option maxHeartbeats 4000000
/-! The laws' own helpers on trees. -/
namespace SL
open PySem
variable {G : Env} {S : Sps}
/-! ### an own == -/
def eqPr (G : Env) : Pr := fun ds b Q _ => ∃ m rows y, ds = [rcp m rows, y] ∧ okRows m rows ∧ ((∃ m' rows', y = rcp m' rows' ∧ Q (.un (.bl (decide (m = m' ∧ rows = rows')))) b) ∨ ∃ t, tyD G y = some (.b t) ∧ t ∈ (["NoneType", "bool", "int", "str", "list", "tuple", "dict"] : List String) ∧ strip y = y ∧ Q (.un (.bl false)) b)
theorem eq_body (g : RecG G) : Body G S F_Recipe___eq (eqPr G) := by
  rintro ds b Q X ⟨m, rows, y, rfl, ok, q⟩
  refine ⟨rfl, ?_⟩
  rcases q with ⟨m', rows', rfl, q⟩ | ⟨t, ht, hm, hs, q⟩
  · by_cases h : m = m'
    · simpa [F_Recipe___eq, B_Recipe___eq, g.isR, g.old, g.rows, h] using q
    · simpa [F_Recipe___eq, B_Recipe___eq, g.isR, g.old, g.rows, h] using q
  · simpa [F_Recipe___eq, B_Recipe___eq, g.isN ht hm, hs] using q
def eqQ (G : Env) : Pq := fun x y b Q => eqPr G [x, y] b (fun s b1 => ∃ r, s = .un (.bl r) ∧ Q r b1) nxD
theorem eq_qs {F : Frm} {k : Nat} (g : RecG G) (h : ∀ j, 0 < j → PS F G j "Recipe.__eq__" (eqPr G)) (hk : 1 < k) : QS F G k "Recipe" (eqQ G) := by
  rintro x y b Q v w h' R q hx ax ay bd i
  refine ⟨"Recipe.__eq__", ?_, ?_⟩
  · obtain ⟨m, rows, y', e, _⟩ := q
    simp only [List.cons.injEq, and_true] at e
    obtain ⟨rfl, rfl⟩ := e
    obtain ⟨n, vs, rfl, _, en, _⟩ := ax
    simp only [eqOwn, en, g.cls]
    simp only [Option.bind_some]
    exact filter_pos g.met.2.2.2
  · rw [lo_cD]
    refine (calmX (h (k - 1) (by omega) q ⟨_, _, rfl, ax, _, _, rfl, ay, rfl⟩ bd i)).mono fun u h1 ⟨s, b', m1, i1, a1, _, r, e, k⟩ => ?_
    subst e
    exact ⟨r, b', a1, m1, i1, k⟩
/-! ### exactness -/
mutual
def good : D → Prop
  | .non => True
  | .bl _ => True
  | .int _ => True
  | .lst ds => ds.length ≤ 1000 ∧ goods ds
  | .tup ds => ds.length ≤ 1000 ∧ goods ds
  | _ => False
def goods : List D → Prop
  | [] => True
  | d :: ds => good d ∧ goods ds
end
mutual
def dep : D → Nat
  | .lst ds => deps ds + 1
  | .tup ds => deps ds + 1
  | _ => 0
def deps : List D → Nat
  | [] => 0
  | d :: ds => max (dep d) (deps ds)
end
theorem goods_mem {ds : List D} (h : goods ds) : ∀ x ∈ ds, good x := by
  induction ds with
  | nil => intro x hx; cases hx
  | cons d ds ih =>
    intro x hx
    rcases List.mem_cons.mp hx with rfl | hx
    · exact h.1
    · exact ih h.2 x hx
theorem goods_of {ds : List D} (h : ∀ x ∈ ds, good x) : goods ds := by
  induction ds with
  | nil => trivial
  | cons d ds ih => exact ⟨h d (List.mem_cons_self ..), ih fun x hx => h x (List.mem_cons_of_mem _ hx)⟩
theorem deps_mem {ds : List D} : ∀ x ∈ ds, dep x ≤ deps ds := by
  induction ds with
  | nil => intro x hx; cases hx
  | cons d ds ih =>
    intro x hx
    rw [deps]
    rcases List.mem_cons.mp hx with rfl | hx
    · omega
    · have := ih x hx; omega
theorem deps_of {ds : List D} {n : Nat} (h : ∀ x ∈ ds, dep x ≤ n) : deps ds ≤ n := by
  induction ds with
  | nil => exact Nat.zero_le _
  | cons d ds ih => rw [deps]; exact Nat.max_le.mpr ⟨h d (List.mem_cons_self ..), ih fun x hx => h x (List.mem_cons_of_mem _ hx)⟩
def exactP (n : Nat) : Pr := fun ds b Q _ => ∃ x, ds = [x, x] ∧ good x ∧ dep x < n ∧ Q (.un (.bl true)) b
theorem exactP_of {n : Nat} {x : D} {b Q X} (h : good x ∧ dep x < n ∧ Q (.un (.bl true)) b) : exactP n [x, x] b Q X := ⟨x, rfl, h⟩
theorem exact_body {n : Nat} (e1 : Knows S "_law_exact" (exactP n)) : Body G S F_law_exact (exactP (n + 1)) := by
  rintro ds b Q X ⟨x, rfl, hx, hd, q⟩
  refine ⟨rfl, ?_⟩
  have seq : ∀ xs : List D, xs.length ≤ 1000 → goods xs → deps xs < n → ∀ (step : D → Bool × List D → Nat → (Bool × List D → Nat → Prop) → Prop) (Q' : Bool × List D → Nat → Prop),
      (∀ y ∈ xs, ∀ fl acc, acc.length < sizeLine → ∀ K, exactP n [y, y] b (fun s b1 => s = .un (.bl true) ∧ b1 = b ∧ K (fl, acc ++ [.bl true]) b) nxD → step (.tup [y, y]) (fl, acc) b K) → Q' (true, xs.map fun _ => .bl true) b → foldD step (zipD xs xs) (true, []) b Q' := by
    intro xs h1 h2 h3 step Q' hs q'
    rw [zipD_same]
    refine fold_mapM (f := fun _ => .bl true) (fun y hy fl acc ha K hK => hs y hy fl acc ha K (exactP_of ⟨goods_mem h2 y hy, ?_, rfl, rfl, hK⟩)) (szl (by simp; omega)) q'
    have := deps_mem y hy; omega
  cases x with
  | int i => simpa [F_law_exact, B_law_exact, anyD, clsD] using q
  | bl i => simpa [F_law_exact, B_law_exact, anyD, clsD] using q
  | non => simpa [F_law_exact, B_law_exact, anyD, clsD] using q
  | lst xs =>
    obtain ⟨h1, h2⟩ := hx
    rw [dep] at hd
    have hw : (zipD xs xs).length < bigW := by rw [zipD_same, List.length_map]; exact bgw (by omega)
    simp [F_law_exact, B_law_exact, anyD, clsD, hw]
    refine seq xs h1 h2 (by omega) _ _ (fun y hy fl acc ha K hK => ?_) ?_
    · simp [e1]
      obtain ⟨z, ez, g1, g2, _, _, k⟩ := hK
      simp at ez; subst ez
      exact exactP_of ⟨g1, g2, by simp [ha]; exact k⟩
    · simp; rw [show (xs.all fun _ => true) = true from List.all_eq_true.mpr fun _ _ => rfl]; exact q
  | tup xs =>
    obtain ⟨h1, h2⟩ := hx
    rw [dep] at hd
    have hw : (zipD xs xs).length < bigW := by rw [zipD_same, List.length_map]; exact bgw (by omega)
    simp [F_law_exact, B_law_exact, anyD, clsD, hw]
    refine seq xs h1 h2 (by omega) _ _ (fun y hy fl acc ha K hK => ?_) ?_
    · simp [e1]
      obtain ⟨z, ez, g1, g2, _, _, k⟩ := hK
      simp at ez; subst ez
      exact exactP_of ⟨g1, g2, by simp [ha]; exact k⟩
    · simp; rw [show (xs.all fun _ => true) = true from List.all_eq_true.mpr fun _ _ => rfl]; exact q
  | _ => exact hx.elim
theorem exact_ps {F : Frm} (hf : G.fns "_law_exact" = some F_law_exact) : ∀ n k, n ≤ k → PS F G k "_law_exact" (exactP n)
  | 0, k, _ => by
    rintro ⟨x, _, _, hd, _⟩
    exact absurd hd (Nat.not_lt_zero _)
  | n + 1, k, hk => ps_def (fd := F_law_exact) (d := n) (l := [("_law_exact", exactP n)]) (by omega) hf (.cons (fun j hj => exact_ps hf n j hj) .nil) .nil .nil fun S hS {ds b Q X} q => exact_body (fun _ _ _ _ => by rw [hS]; rfl) q
/-! ### copies -/
def cpy : D → Sl
  | .lst ds => .fr (.lst ds)
  | .tup ds => .fr (.tup ds)
  | d => .un d
theorem cpy_d {x : D} : (cpy x).d = x := by cases x <;> rfl
theorem cpy_k {x : D} : (cpy x).kept = true := by cases x <;> rfl
theorem cpy_f {x : D} (h : good x) : (cpy x).isFr = true := by cases x <;> first | rfl | exact h.elim
def sameP (n : Nat) : Pr := fun ds b Q _ => ∃ x, ds = [x] ∧ good x ∧ dep x < n ∧ Q (cpy x) b
@[simp ↓] theorem sameP_e {n : Nat} {x : D} {b Q X} : sameP n [x] b Q X = (good x ∧ dep x < n ∧ Q (cpy x) b) := by simp [sameP]
theorem same_body {n : Nat} (e1 : Knows S "_law_same" (sameP n)) : Body G S F_law_same (sameP (n + 1)) := by
  rintro ds b Q X ⟨x, rfl, hx, hd, q⟩
  refine ⟨rfl, ?_⟩
  cases x with
  | int i => simpa [F_law_same, B_law_same, cpy] using q
  | bl i => simpa [F_law_same, B_law_same, cpy] using q
  | non => simpa [F_law_same, B_law_same, cpy] using q
  | lst xs =>
    obtain ⟨h1, h2⟩ := hx
    rw [dep] at hd
    have hw : xs.length < bigW := bgw (by omega)
    simp [F_law_same, B_law_same, hw]
    refine fold_map (f := id) (fun y hy fl acc ha K hK => ?_) (szl (by simp; omega)) ?_
    · have g1 := goods_mem h2 y hy
      have := deps_mem y hy
      simp [e1, cpy_d, cpy_k, cpy_f g1, g1, ha]
      exact ⟨by omega, hK⟩
    · simp; exact q
  | tup xs =>
    obtain ⟨h1, h2⟩ := hx
    rw [dep] at hd
    have hw : xs.length < bigW := bgw (by omega)
    simp [F_law_same, B_law_same, hw]
    refine fold_map (f := id) (fun y hy fl acc ha K hK => ?_) (szl (by simp; omega)) ?_
    · have g1 := goods_mem h2 y hy
      have := deps_mem y hy
      simp [e1, cpy_d, cpy_k, cpy_f g1, g1, ha]
      exact ⟨by omega, hK⟩
    · simp; exact ⟨szl (by omega), q⟩
  | _ => exact hx.elim
theorem same_ps {F : Frm} (hf : G.fns "_law_same" = some F_law_same) : ∀ n k, n ≤ k → PS F G k "_law_same" (sameP n)
  | 0, k, _ => by
    rintro ⟨x, _, _, hd, _⟩
    exact absurd hd (Nat.not_lt_zero _)
  | n + 1, k, hk => ps_def (fd := F_law_same) (d := n) (l := [("_law_same", sameP n)]) (by omega) hf (.cons (fun j hj => same_ps hf n j hj) .nil) .nil .nil fun S hS {ds b Q X} q => same_body (fun _ _ _ _ => by rw [hS]; rfl) q
theorem good_iL {xs : List Int} (h : xs.length ≤ 1000) : good (iL xs) := ⟨by simpa using h, goods_of fun x hx => by obtain ⟨i, _, rfl⟩ := List.mem_map.mp hx; trivial⟩
theorem dep_iL {xs : List Int} : dep (iL xs) ≤ 1 := by
  show deps _ + 1 ≤ 1
  have : deps (xs.map D.int) ≤ 0 := deps_of fun x hx => by obtain ⟨i, _, rfl⟩ := List.mem_map.mp hx; exact Nat.le_refl _
  omega
theorem good_iLL {xs : List (List Int)} (h : xs.length ≤ 1000) (h2 : ∀ r ∈ xs, r.length ≤ 1000) : good (iLL xs) := ⟨by simpa using h, goods_of fun x hx => by obtain ⟨i, hi, rfl⟩ := List.mem_map.mp hx; exact good_iL (h2 i hi)⟩
theorem dep_iLL {xs : List (List Int)} : dep (iLL xs) ≤ 2 := by
  show deps _ + 1 ≤ 2
  have : deps (xs.map iL) ≤ 1 := deps_of fun x hx => by obtain ⟨i, _, rfl⟩ := List.mem_map.mp hx; exact dep_iL
  omega
/-! ### what is drawn -/
@[simp ↓] theorem drawP_e {p : Nat} {m : Int} {b Q X} : drawP p [.adr p, .int m] b Q X = (1 ≤ m ∧ m < 2 ^ 27 ∧ 1 ≤ b ∧ ∀ d, 0 ≤ d → d < m → Q (.un (.int d)) (b - 1)) := by simp [drawP]
def oneP (p : Nat) : Pr := fun ds b Q _ => ∃ xs, ds = [.adr p, .lst xs] ∧ xs ≠ [] ∧ xs.length < 2 ^ 27 ∧ 1 ≤ b ∧ ∀ d ∈ xs, Q (.un d) (b - 1)
@[simp ↓] theorem oneP_e {p : Nat} {xs : List D} {b Q X} : oneP p [.adr p, .lst xs] b Q X = (xs ≠ [] ∧ xs.length < 2 ^ 27 ∧ 1 ≤ b ∧ ∀ d ∈ xs, Q (.un d) (b - 1)) := by simp [oneP]
theorem one_body {p : Nat} (e1 : Knows S "_law_draw" (drawP p)) : Body G S F_law_one_of (oneP p) := by
  rintro ds b Q X ⟨xs, rfl, h0, hl, hb, q⟩
  refine ⟨rfl, ?_⟩
  have : 0 < xs.length := List.length_pos_iff.mpr h0
  simp [F_law_one_of, B_law_one_of, e1]
  refine ⟨by omega, by omega, hb, fun d h1 h2 => ?_⟩
  obtain ⟨n, rfl⟩ := Int.eq_ofNat_of_zero_le h1
  have hn : n < xs.length := by omega
  rw [atI_nat, List.getElem?_eq_getElem hn]
  simp
  exact q _ (List.getElem_mem hn)
/-- rows -/
theorem Rising.nil {m : Int} : Rising [] m := ⟨fun _ z => (nomatch z), .nil⟩
theorem Rising.snoc {L : List Int} {t m : Int} (h : Rising L t) (h0 : 0 ≤ t) (h1 : t < m) : Rising (L ++ [t]) m := by
  refine ⟨fun x hx => ?_, ?_⟩
  · rcases List.mem_append.mp hx with hx | hx
    · have := h.1 x hx; omega
    · simp at hx; omega
  · rw [List.pairwise_append]
    refine ⟨h.2, by simp, fun a ha c hc => ?_⟩
    simp at hc; subst hc; exact (h.1 a ha).2
theorem Rising.up {L : List Int} {t m : Int} (h : Rising L t) (h1 : t ≤ m) : Rising L m := ⟨fun x hx => by have := h.1 x hx; omega, h.2⟩
def rowP (p : Nat) : Pr := fun ds b Q _ => ∃ old way : Int, ds = [.adr p, .int old, .int way] ∧ 0 ≤ old ∧ old ≤ 100 ∧ 0 ≤ way ∧ way < 4 ∧ 200 ≤ b ∧ ∀ r b', Rising r old → b ≤ b' + 200 → Q (.fr (iL r)) b'
@[simp ↓] theorem rowP_e {p : Nat} {old way : Int} {b Q X} : rowP p [.adr p, .int old, .int way] b Q X = (0 ≤ old ∧ old ≤ 100 ∧ 0 ≤ way ∧ way < 4 ∧ 200 ≤ b ∧ ∀ r b', Rising r old → b ≤ b' + 200 → Q (.fr (iL r)) b') := by
  apply propext
  constructor
  · rintro ⟨_, _, e, q⟩; simp at e; obtain ⟨rfl, rfl⟩ := e; exact q
  · intro q; exact ⟨_, _, rfl, q⟩
/-- blocks that are drawn one by one -/
theorem pick_ok {b : Nat} {n : Nat} {step : D → Bool × List D → Nat → (Bool × List D → Nat → Prop) → Prop} {Q : Bool × List D → Nat → Prop}
    (h : ∀ (t : Nat) acc b', t < n → acc.length < sizeLine → b ≤ b' + t → ∀ K : Bool × List D → Nat → Prop, (b ≤ b' + t → K (true, acc ++ [.int t]) (b' - 1)) → (K (true, acc) (b' - 1)) → step (.int t) (true, acc) b' K) (hn : n ≤ 1000)
    (q : ∀ (L : List Int) b', Rising L n → b ≤ b' + n → Q (true, L.map .int) b') (hb : n ≤ b) : foldD step (rngD 0 n) (true, []) b Q := by
  rw [rngD_e]
  refine fold_inv (fun t (a : Bool × List D) b' => ∃ L : List Int, a = (true, L.map .int) ∧ Rising L t ∧ b ≤ b' + t) ⟨[], rfl, .nil, by omega⟩ ?_ ?_
  · rintro t x a b' hx ⟨L, rfl, hL, hb'⟩ K hK
    rw [List.getElem?_map] at hx
    obtain ⟨k, hk, rfl⟩ := Option.map_eq_some_iff.mp hx
    have ht : t < n := by have := (List.getElem?_eq_some_iff.mp hk).1; simpa using this
    rw [List.getElem?_range ht] at hk; cases hk
    have len := rising_len hL (by omega)
    rw [Int.zero_add]
    refine h t (L.map .int) b' ht (szl' (by simp; omega)) hb' K (fun _ => hK _ _ ⟨L ++ [(t : Int)], by simp, hL.snoc (by omega) (by omega), by omega⟩) (hK _ _ ⟨L, rfl, hL.up (by omega), by omega⟩)
  · rintro a b' ⟨L, rfl, hL, hb'⟩
    simp at hL hb'
    exact q L b' hL (by omega)
theorem rng_iL {lo : Int} {n : Nat} : rngD lo n = (((List.range n).map fun (k : Nat) => lo + (k : Int)).map D.int) := by rw [rngD, List.map_map]; rfl
theorem rng_rising {lo m : Int} {n : Nat} (h0 : 0 ≤ lo) (h : lo + n ≤ m ∨ n = 0) : Rising ((List.range n).map fun (k : Nat) => lo + (k : Int)) m := by
  refine ⟨fun x hx => ?_, ?_⟩
  · obtain ⟨k, hk, rfl⟩ := List.mem_map.mp hx
    have := List.mem_range.mp hk; omega
  · rw [List.pairwise_map]
    exact List.pairwise_lt_range.imp fun h => by omega
theorem pairs_tk {L : List Int} : pairsD (L.map fun i => D.tup [.int i, .bl true]) = some (L.map tk) := by
  induction L with
  | nil => rfl
  | cons x L ih => simp [pairsD, ih, tk]
theorem merge_tk {L : List Int} : mergeD (L.map tk) = (dedI L).map tk := by
  have key : ∀ (L A : List Int), (L.map tk).foldl (fun acc kv => putD acc kv.1 kv.2) (A.map tk) = (L.foldl ddI A).map tk := by
    intro L
    induction L with
    | nil => intro A; rfl
    | cons x L ih => intro A; rw [List.map_cons, List.foldl_cons]; show (L.map tk).foldl _ (putD (A.map tk) (.inl x) (.bl true)) = _; rw [put_tk, ih]; rfl
  exact key L []
theorem row_body {p : Nat} (e1 : Knows S "_law_draw" (drawP p)) : Body G S F_law_row (rowP p) := by
  rintro ds b Q X ⟨old, way, rfl, h0, h1, hw0, hw1, hb, q⟩
  refine ⟨rfl, ?_⟩
  obtain ⟨n, rfl⟩ := Int.eq_ofNat_of_zero_le h0
  have hbw : (rngD 0 n).length < bigW := by rw [rngD_len]; exact bgw (by omega)
  have hw : way = 0 ∨ way = 1 ∨ way = 2 ∨ way = 3 := by omega
  rcases hw with rfl | rfl | rfl | rfl
  · simp [F_law_row, B_law_row, hbw]
    refine ⟨by omega, ?_⟩
    refine pick_ok (fun t acc b' ht ha hb' K k1 k2 => ?_) (by omega) (fun L b' hL hb' => ?_) (by omega)
    · simp [e1]
      refine ⟨by omega, fun d d0 d1 => iteD_of (fun _ => ?_) fun _ => by simpa using k2⟩
      simp [ha]; exact k1 hb'
    · simp; exact q L b' hL (by omega)
  · simp [F_law_row, B_law_row, e1]
    refine ⟨by omega, by omega, by omega, fun d d0 d1 => ?_⟩
    refine ⟨by omega, fun d2 d20 d21 => ?_⟩
    refine ⟨by split <;> omega, ?_⟩
    rw [rng_iL]
    exact q _ _ (rng_rising d0 (by split <;> omega)) (by omega)
  · simp [F_law_row, B_law_row, e1]
    refine iteD_of (fun hn => ?_) fun hn => ?_
    · simp at hn
      simp [e1]
      refine ⟨by omega, fun d d0 d1 => ?_⟩
      have hbw2 : (rngD 0 (1 + d).toNat).length < bigW := by rw [rngD_len]; exact bgw (by omega)
      refine ⟨by omega, hbw2, ?_⟩
      refine fold_inv (fun t (a : Bool × List D) b' => ∃ L : List Int, a = (true, L.map fun i => D.tup [.int i, .bl true]) ∧ (∀ x ∈ L, 0 ≤ x ∧ x < (n : Int)) ∧ L.length = t ∧ b ≤ b' + t + 1) ⟨[], rfl, (fun _ z => nomatch z), rfl, by omega⟩ ?_ ?_
      · rintro t x a b' hx ⟨L, rfl, hL, hl, hb'⟩ K hK
        have ht : t < (1 + d).toNat := by have := (List.getElem?_eq_some_iff.mp hx).1; rwa [rngD_len] at this
        simp [e1, show (1 : Int) ≤ n by omega]
        refine ⟨by omega, by omega, fun d2 d20 d21 => ?_⟩
        refine ⟨by rw [hl]; exact szl' (by omega), hK _ _ ⟨L ++ [d2], by simp, fun x hx => ?_, by simp [hl], by omega⟩⟩
        rcases List.mem_append.mp hx with hx | hx
        · exact hL x hx
        · simp at hx; subst hx; exact ⟨d20, d21⟩
      · rintro a b' ⟨L, rfl, hL, hl, hb'⟩
        rw [rngD_len] at hl hb'
        simp [pairs_tk, merge_tk]
        refine ⟨by have := ded_len (xs := L) (m := 63) ; have h3 : (dedI L).length ≤ L.length := by { have := dd_len (L := []) (xs := L); simpa [dedI] using this }; omega, ?_⟩
        obtain ⟨s1, s2⟩ := sortD_spec L
        exact q _ _ ⟨fun x hx => hL x ((s2 x).mp hx), s1⟩ (by omega)
    · simp at hn
      simp
      exact q [] b .nil (by omega)
  · simp [F_law_row, B_law_row, hbw]
    refine ⟨by omega, ?_⟩
    refine pick_ok (fun t acc b' ht ha hb' K k1 k2 => ?_) (by omega) (fun L b' hL hb' => ?_) (by omega)
    · simp [e1]
      refine ⟨by omega, fun d d0 d1 => iteD_of (fun _ => ?_) fun _ => by simpa using k2⟩
      simp [ha]; exact k1 hb'
    · simp; exact q L b' hL (by omega)
end SL

set_option Elab.async false
set_option linter.all false
set_option maxRecDepth 100000
set_option maxHeartbeats 4000000
/-! The laws' own recipes. -/
namespace SL
open PySem
variable {G : Env} {S : Sps}
def recipeP (p : Nat) : Pr := fun ds b Q _ => ∃ mn mo : Int, ds = [.adr p, .int mn, .int mo] ∧ 1 ≤ mn ∧ mn ≤ 50 ∧ 0 ≤ mo ∧ mo ≤ 60 ∧ 30000 ≤ b ∧
  ∀ m rows b', 0 ≤ m → m ≤ mo → rows ≠ [] → (rows.length : Int) ≤ mn → (∀ r ∈ rows, Rising r m) → b ≤ b' + 30000 → Q (.fr (.lst [.int m, iLL rows])) b'
@[simp ↓] theorem recipeP_e {p : Nat} {mn mo : Int} {b Q X} : recipeP p [.adr p, .int mn, .int mo] b Q X = (1 ≤ mn ∧ mn ≤ 50 ∧ 0 ≤ mo ∧ mo ≤ 60 ∧ 30000 ≤ b ∧
  ∀ m rows b', 0 ≤ m → m ≤ mo → rows ≠ [] → (rows.length : Int) ≤ mn → (∀ r ∈ rows, Rising r m) → b ≤ b' + 30000 → Q (.fr (.lst [.int m, iLL rows])) b') := by
  apply propext
  constructor
  · rintro ⟨_, _, e, q⟩; simp at e; obtain ⟨rfl, rfl⟩ := e; exact q
  · intro q; exact ⟨_, _, rfl, q⟩
/-- rows that are drawn one by one -/
theorem rows_ok {b : Nat} {n : Nat} {m : Int} {step : D → Bool × List D → Nat → (Bool × List D → Nat → Prop) → Prop} {Q : Bool × List D → Nat → Prop}
    (h : ∀ x acc b', acc.length < sizeLine → b ≤ b' + 300 * n → ∀ K : Bool × List D → Nat → Prop, (∀ r b2, Rising r m → b' ≤ b2 + 300 → K (true, acc ++ [iL r]) b2) → step x (true, acc) b' K) (hn : n ≤ 1000)
    (q : ∀ (rows : List (List Int)) b', rows.length = n → (∀ r ∈ rows, Rising r m) → b ≤ b' + 300 * n → Q (true, rows.map iL) b') : foldD step (rngD 0 n) (true, []) b Q := by
  refine fold_inv (fun t (a : Bool × List D) b' => t ≤ n ∧ ∃ L : List (List Int), a = (true, L.map iL) ∧ L.length = t ∧ (∀ r ∈ L, Rising r m) ∧ b ≤ b' + 300 * t) ⟨Nat.zero_le _, [], rfl, rfl, (fun _ z => nomatch z), by omega⟩ ?_ ?_
  · rintro t x a b' hx ⟨_, L, rfl, hl, hL, hb'⟩ K hK
    have ht : t < n := by have := (List.getElem?_eq_some_iff.mp hx).1; rwa [rngD_len] at this
    refine h x _ b' (szl' (by simp; omega)) (by omega) K fun r b2 hr hb2 => hK _ _ ⟨by omega, L ++ [r], by simp, by simp [hl], fun r' hr' => ?_, by omega⟩
    rcases List.mem_append.mp hr' with hr' | hr'
    · exact hL r' hr'
    · simp at hr'; subst hr'; exact hr
  · rintro a b' ⟨_, L, rfl, hl, hL, hb'⟩
    rw [rngD_len] at hl hb'
    exact q L b' hl hL hb'
theorem recipe_body {p : Nat} (e1 : Knows S "_law_draw" (drawP p)) (e2 : Knows S "_law_row" (rowP p)) (e3 : Knows S "_law_one_of" (oneP p)) : Body G S F_law_recipe (recipeP p) := by
  rintro ds b Q X ⟨mn, mo, rfl, h1, h2, h3, h4, hb, q⟩
  refine ⟨rfl, ?_⟩
  simp [F_law_recipe, B_law_recipe, e1]
  refine ⟨by omega, by omega, by omega, fun d d0 d1 => ⟨by omega, by omega, by omega, fun m m0 m1 => ⟨by omega, fun w w0 w1 => ?_⟩⟩⟩
  obtain ⟨n, hn⟩ := Int.eq_ofNat_of_zero_le (show 0 ≤ 1 + d by omega)
  rw [hn]
  have hn0 : 0 < n := by omega
  have hn1 : n ≤ 50 := by omega
  have hbw : (rngD 0 n).length < bigW := by rw [rngD_len]; exact bgw (by omega)
  have fin : ∀ (rows : List (List Int)) b', rows.length = n → (∀ r ∈ rows, Rising r m) → b ≤ b' + 30000 → Q (.fr (.lst [.int m, iLL rows])) b' := fun rows b' hl hr hb' =>
    q m rows b' m0 (by omega) (fun z => by subst z; simp at hl; omega) (by omega) hr hb'
  refine iteD_of (fun hw => ?_) fun hw => ?_
  · simp at hw
    simp [hbw]
    refine ⟨by omega, rows_ok (m := m) (fun x acc b' ha hb' K hK => ?_) (by omega) fun rows b' hl hr hb' => ?_⟩
    · simp [e2]
      refine ⟨m0, by omega, w0, hw, by omega, fun r b2 hr hb2 => ?_⟩
      simp [ha]; exact hK r b2 hr (by omega)
    · simp; exact fin rows b' hl hr (by omega)
  · simp at hw
    simp [e2]
    refine ⟨m0, by omega, by omega, fun r1 b1 hr1 hb1 => ⟨m0, by omega, by omega, fun r2 b2 hr2 hb2 => ?_⟩⟩
    refine iteD_of (fun hw2 => ?_) fun hw2 => ?_
    · simp [hbw]
      refine ⟨by omega, rows_ok (m := m) (fun x acc b' ha hb' K hK => ?_) (by omega) fun rows b' hl hr hb' => ?_⟩
      · simp [e3]
        refine ⟨by omega, ?_, ?_⟩
        · have := rising_len hr1 m0
          simp [ha]; exact ⟨szl (by omega), hK r1 _ hr1 (by omega)⟩
        · have := rising_len hr2 m0
          simp [ha]; exact ⟨szl (by omega), hK r2 _ hr2 (by omega)⟩
      · simp; exact fin rows b' hl hr (by omega)
    · simp [hbw]
      refine ⟨by omega, rows_ok (m := m) (fun x acc b' ha hb' K hK => ?_) (by omega) fun rows b' hl hr hb' => ?_⟩
      · simp [e1, e2]
        refine ⟨by omega, fun d2 d20 d21 => iteD_of (fun hd2 => ?_) fun hd2 => ?_⟩
        · simp [e1, e2]
          refine ⟨by omega, fun d3 d30 d31 => ⟨m0, by omega, d30, d31, by omega, fun r b3 hr hb3 => ?_⟩⟩
          simp [ha]; exact hK r b3 hr (by omega)
        · have := rising_len hr1 m0
          simp [ha, L2.atI, L2.ixN]; exact ⟨szl (by omega), hK r1 _ hr1 (by omega)⟩
      · simp; exact fin rows b' hl hr (by omega)
/-- a recipe as the laws keep it -/
abbrev own (m : Int) (rows : List (List Int)) : D := .lst [.int m, iLL rows]
def madeP : Pr := fun ds b Q _ => ∃ m rows, ds = [own m rows] ∧ okRows m rows ∧ Q (.fr (rcp m rows)) b
@[simp ↓] theorem madeP_e {m : Int} {rows : List (List Int)} {b Q X} : madeP [.lst [.int m, .lst (rows.map iL)]] b Q X = (okRows m rows ∧ Q (.fr (rcp m rows)) b) := by
  apply propext
  constructor
  · rintro ⟨_, _, e, q⟩
    simp only [List.cons.injEq, D.lst.injEq, D.int.injEq, and_true, iLL_inj] at e
    obtain ⟨rfl, rfl⟩ := e; exact q
  · intro q; exact ⟨_, _, rfl, q⟩
abbrev KnowsK (S : Sps) (f : Str) (P : Pr) : Prop := ∀ X ds b Q, callKD S X f ds b Q = P ds b Q X
@[simp] theorem atI_c0 {α : Type} {x : α} {xs : List α} : L2.atI (x :: xs) 0 = some x := by rw [atI_0]; rfl
@[simp] theorem atI_c1 {α : Type} {x y : α} {xs : List α} : L2.atI (x :: y :: xs) 1 = some y := by rw [atI_1]; rfl
@[simp] theorem atI_c2 {α : Type} {x y z : α} {xs : List α} : L2.atI (x :: y :: z :: xs) 2 = some z := by rw [atI_2]; rfl
theorem made_body (g : RecG G) (e1 : KnowsK S "Recipe" makeP) : Body G S F_law_made madeP := by
  rintro ds b Q X ⟨m, rows, rfl, ok, q⟩
  refine ⟨rfl, ?_⟩
  have hr := ok.2.2.2.1
  have hw : rows.length < bigW := bgw (by omega)
  simp [F_law_made, B_law_made, g.mkk, hw]
  refine fold_mapM (f := iL) (fun r hr fl acc ha K hK => ?_) (szl (by simp; omega)) ?_
  · obtain ⟨_, hl⟩ := ok.2.2.2.2 r hr
    simp [ha]; exact ⟨szl (by omega), hK⟩
  · simp [e1, ok, q]
def unionP : Pr := fun ds b Q _ => ∃ xs ys, ds = [iL xs, iL ys] ∧ xs.length ≤ 1000 ∧ ys.length ≤ 1000 ∧ (∀ x, x ∈ xs ∨ x ∈ ys → 0 ≤ x ∧ x < 63) ∧ Q (.fr (iL (sortD (xs ++ ys)))) b
@[simp ↓] theorem unionP_e {xs ys : List Int} {b Q X} : unionP [.lst (xs.map .int), .lst (ys.map .int)] b Q X = (xs.length ≤ 1000 ∧ ys.length ≤ 1000 ∧ (∀ x, x ∈ xs ∨ x ∈ ys → 0 ≤ x ∧ x < 63) ∧ Q (.fr (iL (sortD (xs ++ ys)))) b) := by
  apply propext
  constructor
  · rintro ⟨_, _, e, q⟩
    simp only [List.cons.injEq, D.lst.injEq, and_true, iL_inj] at e
    obtain ⟨rfl, rfl⟩ := e; exact q
  · intro q; exact ⟨_, _, rfl, q⟩
theorem union_body : Body G S F_law_union unionP := by
  rintro ds b Q X ⟨xs, ys, rfl, h1, h2, h3, q⟩
  refine ⟨rfl, ?_⟩
  have hw : xs.length + ys.length < bigW := bgw (by omega)
  simp [F_law_union, B_law_union, hw]
  refine ⟨szl (by omega), ?_⟩
  rw [← List.map_append]
  refine fold_mapM (f := fun i => .tup [.int i, .bl true]) (fun i hi fl acc ha K hK => ?_) (szl (by simp; omega)) ?_
  · simp [ha]; exact hK
  · simp only [List.nil_append]
    simp [-List.map_append, pairs_tk, merge_tk]
    refine ⟨?_, q⟩
    have := ded_len (xs := xs ++ ys) (m := 63) fun x hx => h3 x (List.mem_append.mp hx)
    omega
end SL

set_option Elab.async false
set_option linter.all false
set_option maxRecDepth 100000
set_option maxHeartbeats 4000000
/-! What comes after a statement, kept closed until it is reached. -/
namespace SL
open PySem
variable {G : Env} {S : Sps}
def seqK (G : Env) (S : Sps) (mu : Mu) (c : T) (E : DE) : DEnv → Nat → Prop := fun ρ b => dS G S mu c ρ b E
theorem S_seqK {mu : Mu} {a c : T} {ρ : DEnv} {b : Nat} {E : DE} : dS G S mu (.seq a c) ρ b E = dS G S mu a ρ b { E with nx := seqK G S mu c E } := by rw [dS]; rfl
theorem seqK_e {mu : Mu} {c : T} {ρ : DEnv} {b : Nat} {E : DE} : seqK G S mu c E ρ b = dS G S mu c ρ b E := rfl
end SL

set_option Elab.async false
set_option linter.all false
set_option maxRecDepth 100000
set_option maxHeartbeats 1000000
/-! A law's purse is made of its script. -/
namespace SL
open PySem
theorem ints_map : ∀ ns : List Int, intsOf (ns.map AV.int) = some ns := by
  intro ns
  induction ns with
  | nil => rfl
  | cons n ns ih => simp [intsOf, ih]
theorem cutA_map {ns : List Int} {lo hi : Option Int} : ∃ ms : List Int, cutA (ns.map AV.int) lo hi = ms.map AV.int ∧ ms.length ≤ ns.length := by
  unfold cutA
  exact ⟨_, by rw [← List.map_drop, ← List.map_take], ((List.take_sublist _ _).trans (List.drop_sublist _ _)).length_le⟩
theorem purse_ok {G : Env} (hf : G.fns "_law_purse" = some ⟨3, 2, B_purse⟩) (k : Nat) {ns : List Int} {h : AH} (h0 : h[0]? = some (scr ns)) (hl : ns.length ≤ 63) :
    (callD G (k + 1) "_law_purse" [.ref 0, .int 0] h).wp noX fun v h' => ∃ c, v = .ref (h.length + 1) ∧ ∃ a s : Int, 0 ≤ a ∧ 0 ≤ s ∧ s < 2 ^ 62 ∧ h' = h ++ [.lst c, .lst [.int a, .int s, .int 0, .int 0]] := by
  refine wp_call hf rfl ?_
  have hl0 : lstOf h (.ref 0) = some (ns.map AV.int) := by simp [lstOf, h0, scr]
  obtain ⟨ms, hc, hms⟩ := cutA_map (ns := ns) (lo := some 0) (hi := some 1)
  have e1 : slcA (.ref 0) (some 0) (some 1) h = .ok (.ref h.length) (h ++ [.lst (ms.map AV.int)]) := by
    unfold slcA; rw [hl0]; show newLst (cutA (ns.map AV.int) (some 0) (some 1)) h = _; rw [hc]; unfold newLst; rw [if_pos (by rw [List.length_map]; exact szl (by omega))]; rfl
  have e2 : sumA (.ref h.length) (h ++ [.lst (ms.map AV.int)]) = .ok (.int ms.sum) (h ++ [.lst (ms.map AV.int)]) := by
    have : lstOf (h ++ [AO.lst (ms.map AV.int)]) (.ref h.length) = some (ms.map AV.int) := by simp [lstOf]
    unfold sumA; rw [this]; simp [ints_map]
  simp [B_purse, start, e1, e2]
  refine ⟨by decide +kernel, by decide +kernel, by decide +kernel, _, _, ?_, _, ?_, ?_, rfl, rfl, rfl⟩
  · exact Int.emod_nonneg _ (by decide +kernel)
  · exact Int.emod_nonneg _ (by decide +kernel)
  · have := Int.emod_lt_of_pos ms.sum (show (0 : Int) < 2147483629 by decide); omega
theorem put_at_end {h l : AH} {v : AV} : putLst h.length v (h ++ [.lst []] ++ l) = .ok () (h ++ .lst [v] :: l) := by
  have e : (h ++ [AO.lst []] ++ l)[h.length]? = some (.lst []) := by simp
  unfold putLst
  rw [e]
  show (if ([] : List AV).length < sizeLine then R.ok () ((h ++ [AO.lst []] ++ l).set h.length (.lst ([] ++ [v]))) else .bad) = _
  rw [if_pos (szl' (by simp)), List.append_assoc, List.set_append_right _ _ (Nat.le_refl _), Nat.sub_self]; rfl
theorem purses_ok {G : Env} (hf : G.fns "_law_purse" = some ⟨3, 2, B_purse⟩) (hs : G.fns "_law_purses" = some ⟨3, 2, B_purses⟩) (k : Nat) {ns : List Int} {h : AH} (h0 : h[0]? = some (scr ns)) (hl : ns.length ≤ 63) :
    (callD G (k + 2) "_law_purses" [.ref 0, .int 1] h).wp noX fun v h' => ∃ c, v = .ref h.length ∧ ∃ a s : Int, 0 ≤ a ∧ 0 ≤ s ∧ s < 2 ^ 62 ∧ h' = h ++ [.lst [.ref (h.length + 2)], .lst c, .lst [.int a, .int s, .int 0, .int 0]] := by
  refine wp_call hs rfl ?_
  have e1 : lenA (.ref 0) h = .ok (.int ns.length) h := by simp [lenA, h0, scr]
  have hx : (if (1 : Int) < (if (ns.length : Int) < 1 then (ns.length : Int) else 1) then (if (ns.length : Int) < 1 then (ns.length : Int) else 1) else 1) = 1 := by split <;> split <;> omega
  simp [B_purses, start, w_comp, e1]
  simp only [hx]
  refine ⟨by omega, ?_⟩
  refine wp_comp (fun i h' => (i = 0 ∧ h' = h ++ [.lst []]) ∨ (i = 1 ∧ ∃ (c : List AV) (a s : Int), 0 ≤ a ∧ 0 ≤ s ∧ s < 2 ^ 62 ∧ h' = h ++ [.lst [.ref (h.length + 2)], .lst c, .lst [.int a, .int s, .int 0, .int 0]])) 1 (.inl ⟨rfl, rfl⟩) (bgw (by omega)) ?_ ?_
  · rintro i h' hi hI
    obtain rfl : i = 0 := by omega
    rcases hI with ⟨_, rfl⟩ | ⟨z, _⟩
    · refine ⟨.int 0, _, rfl, ?_⟩
      simp [wp_bind, wipe]
      refine (purse_ok hf k (ns := ns) (h := h ++ [.lst []]) (by rw [List.getElem?_append_left (by have := (List.getElem?_eq_some_iff.mp h0).1; omega)]; exact h0) hl).mono ?_
      rintro v h' ⟨c, rfl, a, s, ha, hs1, hs2, rfl⟩
      rw [put_at_end]
      refine ⟨c, a, ha, s, hs1, by omega, ?_⟩
      simp
    · omega
  · rintro h' (⟨z, _⟩ | ⟨_, c, a, s, ha, hs1, hs2, rfl⟩)
    · omega
    · exact ⟨rfl, c, a, ha, s, hs1, by omega, rfl⟩
theorem law_B {G : Env} {nS k : Nat} {body : T} (hf : G.fns "law" = some ⟨nS + 2, 1, .seq (.for (.tName 1) (.iSeq (.callF "_law_purses" (.cons (.var 0) (.cons (.int 1) .nil)))) body) (.seq (.ret (.bl true)) .done)⟩)
    (h1 : G.fns "_law_purse" = some ⟨3, 2, B_purse⟩) (h2 : G.fns "_law_purses" = some ⟨3, 2, B_purses⟩) (hk : 2 ≤ k)
    (H : ∀ p, ∃ S mu, SpOk (purseF p) G (cD G k) S ∧ dS G S mu body (none :: some (.un (.adr p)) :: List.replicate nS none) 1000000 { nx := fun _ _ => True, ct := fun _ _ => True, rt := fun _ _ => False, ex := fun _ _ _ _ => False }) : Answers G (k + 1) "law" 63 := by
  intro ns hl
  have w : (callD G (k + 1) "law" [.ref 0] [scr ns]).wp noX fun v _ => v = .bl true := by
    refine wp_call hf rfl ?_
    obtain ⟨j, rfl⟩ : ∃ j, k = j + 2 := ⟨k - 2, by omega⟩
    simp [start, s_for']
    rw [fn_cD]
    refine (purses_ok h1 h2 j (ns := ns) (h := [scr ns]) rfl hl).mono ?_
    rintro v h' ⟨c, rfl, a, s, ha, hs1, hs2, rfl⟩
    have eq : seqA (.ref [scr ns].length) ([scr ns] ++ [.lst [.ref ([scr ns].length + 2)], .lst c, .lst [.int a, .int s, .int 0, .int 0]]) = .ok (.lsq 1) [scr ns, .lst [.ref 3], .lst c, .lst [.int a, .int s, .int 0, .int 0]] := rfl
    rw [eq]
    show Fl.wp _ _
    refine wp_for (fun i σ h' => (i = 0 ∧ σ = some (.ref 0) :: List.replicate (nS + 1) none ∧ h' = [scr ns, .lst [.ref 3], .lst c, .lst [.int a, .int s, .int 0, .int 0]]) ∨ (i = 1 ∧ h'[1]? = some (.lst [.ref 3]))) 1 (.inl ⟨rfl, rfl, rfl⟩) (bgw (by omega)) ?_ ?_
    · rintro i σ h' hi hI
      obtain rfl : i = 0 := by omega
      rcases hI with ⟨_, rfl, rfl⟩ | ⟨z, _⟩
      · refine ⟨.ref 3, _, rfl, ?_⟩
        obtain ⟨S, mu, O, q⟩ := H 3
        have A : ∀ B u, SAll (purseF 3) B G S (cD G (j + 2)) u := fun B u => all_ok O u
        have pu : Purse [scr ns, .lst [.ref 3], .lst c, .lst [.int a, .int s, .int 0, .int 0]] 3 1000000 := ⟨a, s, 0, 0, rfl, ha, hs1, hs2, by omega, by decide⟩
        have mo : MemOk [scr ns, .lst [.ref 3], .lst c, .lst [.int a, .int s, .int 0, .int 0]] := by
          intro n ms kvs e
          rcases n with _ | _ | _ | _ | n <;> cases e
        have v : Ev (purseF 3) [scr ns, .lst [.ref 3], .lst c, .lst [.int a, .int s, .int 0, .int 0]] (fun _ => False) [scr ns, .lst [.ref 3], .lst c, .lst [.int a, .int s, .int 0, .int 0]] (none :: some (.un (.adr 3)) :: List.replicate nS none) (some (.ref 0) :: some (.ref 3) :: List.replicate nS none) 1000000 (fun _ _ => False) := by
          refine ⟨.refl, ⟨pu, mo⟩, ⟨_, pu, mo⟩, fun _ z => z.elim, by simp, fun i s e => ?_, fun _ _ z => z.elim, fun _ _ _ z => z.elim⟩
          match i, e with
          | 0, e => cases e
          | 1, e => cases e; exact ⟨_, rfl, rfl⟩
          | i + 2, e =>
            rw [List.getElem?_cons_succ, List.getElem?_cons_succ, List.getElem?_replicate] at e
            split at e <;> cases e
        have fin : ∀ σ h', (∃ ρ' b' own', Ev (purseF 3) [scr ns, .lst [.ref 3], .lst c, .lst [.int a, .int s, .int 0, .int 0]] (fun _ => False) h' ρ' σ b' own' ∧ Kp (fun _ => False) [scr ns, .lst [.ref 3], .lst c, .lst [.int a, .int s, .int 0, .int 0]] [scr ns, .lst [.ref 3], .lst c, .lst [.int a, .int s, .int 0, .int 0]] (fun _ _ => False) h' own' ∧ True) → h'[1]? = some (.lst [.ref 3]) := by
          rintro σ h' ⟨_, _, _, v', _⟩
          exact v'.sm.k (n := 1) (o := .lst [.ref 3]) (by show ¬ 1 = 3; decide) rfl rfl
        simp
        refine (sd_all (mu := mu) A body q v).mono (fun σ h' z => fin σ h' z) ?_ ?_ (fun σ h' z => fin σ h' z) ?_
        · rintro v h' ⟨_, _, _, _, _, _, z⟩; exact z.elim
        · rintro σ h' ⟨_, _, _, _, _, z⟩; exact z.elim
        · rintro σ C fs h' ⟨_, _, _, _, _, _, _, z⟩; exact z.elim
      · omega
    · rintro σ h' (⟨z, _⟩ | ⟨_, e⟩)
      · omega
      · refine ⟨?_, trivial⟩
        simp [itNext, lstOf, e]
  cases e : callD G (k + 1) "law" [.ref 0] [scr ns] with
  | ok v h => rw [e] at w; exact ⟨h, by rw [show v = .bl true from w]⟩
  | exc C fs h => rw [e] at w; exact w.elim
  | bad => rw [e] at w; exact w.elim
end SL

set_option Elab.async false
set_option linter.all false
set_option maxRecDepth 100000
set_option maxHeartbeats 4000000
namespace K03
open PySem SL
def prog : Program := PySem.Challenge.pw_sparecells_k03_whole_recipes
def topS (i : Nat) : Stmt := PySem.Challenge.pw_sparecells_k03_whole_recipes.main.body.getD i (.Pass ⟨0, 0, 0, 0⟩)
def Γ : CE := ⟨["is_count", "is_rising", "bits_of", "check_recipe", "check_block", "needs_of", "users_of", "used_in", "used", "idle", "_law_purse", "_law_mixed", "_law_draw", "_law_purses", "_law_one_of", "_law_same", "_law_exact", "_law_row", "_law_recipe", "_law_made", "_law_union", "_law_kept_right", "_law_looks_right", "_law_equal_right", "law"], ["Recipe"]⟩

def c_is_count : Cd := ⟨"is_count", "is_count", topS 7, ["value"], ["value"]⟩
def c_is_rising : Cd := ⟨"is_rising", "is_rising", topS 8, ["value", "many", "late", "at"], ["value", "many"]⟩
def c_bits_of : Cd := ⟨"bits_of", "bits_of", topS 9, ["blocks", "found", "block"], ["blocks"]⟩
def c_Recipe___init : Cd := ⟨"__init__", "Recipe.__init__", L2.inClass (topS 11) 0, ["self", "many", "needs", "row"], ["self", "many", "needs"]⟩
def c_Recipe_many : Cd := ⟨"many", "Recipe.many", L2.inClass (topS 11) 1, ["self"], ["self"]⟩
def c_Recipe_needs : Cd := ⟨"needs", "Recipe.needs", L2.inClass (topS 11) 2, ["self", "row"], ["self"]⟩
def c_Recipe_size : Cd := ⟨"size", "Recipe.size", L2.inClass (topS 11) 3, ["self"], ["self"]⟩
def c_Recipe___eq : Cd := ⟨"__eq__", "Recipe.__eq__", L2.inClass (topS 11) 4, ["self", "other"], ["self", "other"]⟩
def c_check_recipe : Cd := ⟨"check_recipe", "check_recipe", topS 12, ["value"], ["value"]⟩
def c_check_block : Cd := ⟨"check_block", "check_block", topS 13, ["recipe", "value"], ["recipe", "value"]⟩
def c_needs_of : Cd := ⟨"needs_of", "needs_of", topS 14, ["recipe", "block"], ["recipe", "block"]⟩
def c_users_of : Cd := ⟨"users_of", "users_of", topS 15, ["recipe", "block", "late", "row"], ["recipe", "block"]⟩
def c_used_in : Cd := ⟨"used_in", "used_in", topS 16, ["recipe", "block", "row"], ["recipe"]⟩
def c_used : Cd := ⟨"used", "used", topS 17, ["recipe"], ["recipe"]⟩
def c_idle : Cd := ⟨"idle", "idle", topS 18, ["recipe", "some", "block"], ["recipe"]⟩
def c_law_purse : Cd := ⟨"_law_purse", "_law_purse", topS 20, ["_law_script", "_law_at", "_law_seed"], ["_law_script", "_law_at"]⟩
def c_law_mixed : Cd := ⟨"_law_mixed", "_law_mixed", topS 21, ["_law_seed", "_law_spin", "_law_at", "_law_mixed_here"], ["_law_seed", "_law_spin", "_law_at"]⟩
def c_law_draw : Cd := ⟨"_law_draw", "_law_draw", topS 22, ["_law_purse_here", "_law_many", "_law_drawn", "_law_found", "_law_piece"], ["_law_purse_here", "_law_many"]⟩
def c_law_purses : Cd := ⟨"_law_purses", "_law_purses", topS 23, ["_law_script", "_law_few", "_law_at"], ["_law_script", "_law_few"]⟩
def c_law_one_of : Cd := ⟨"_law_one_of", "_law_one_of", topS 24, ["_law_purse_here", "_law_some"], ["_law_purse_here", "_law_some"]⟩
def c_law_same : Cd := ⟨"_law_same", "_law_same", topS 25, ["_law_thing", "_law_key", "_law_item"], ["_law_thing"]⟩
def c_law_exact : Cd := ⟨"_law_exact", "_law_exact", topS 26, ["_law_mine", "_law_theirs", "_law_alike", "_law_a", "_law_b", "_law_key"], ["_law_mine", "_law_theirs"]⟩
def c_law_row : Cd := ⟨"_law_row", "_law_row", topS 27, ["_law_purse_here", "_law_old", "_law_way", "_law_block", "_law_first", "_law_spin"], ["_law_purse_here", "_law_old", "_law_way"]⟩
def c_law_recipe : Cd := ⟨"_law_recipe", "_law_recipe", topS 28, ["_law_purse_here", "_law_most_new", "_law_most_old", "_law_new", "_law_old", "_law_way", "_law_block", "_law_parts"], ["_law_purse_here", "_law_most_new", "_law_most_old"]⟩
def c_law_made : Cd := ⟨"_law_made", "_law_made", topS 29, ["_law_recipe_here", "_law_row_here"], ["_law_recipe_here"]⟩
def c_law_union : Cd := ⟨"_law_union", "_law_union", topS 30, ["_law_one", "_law_other", "_law_block"], ["_law_one", "_law_other"]⟩
def c_law_kept_right : Cd := ⟨"_law_kept_right", "_law_kept_right", topS 31, ["_law_recipe_here", "_law_lent", "_law_made_here", "_law_row_here", "_law_turn", "_law_told"], ["_law_recipe_here"]⟩
def c_law_looks_right : Cd := ⟨"_law_looks_right", "_law_looks_right", topS 32, ["_law_recipe_here", "_law_made_here", "_law_some", "_law_row_here", "_law_turn", "_law_told", "_law_block", "_law_late", "_law_new"], ["_law_recipe_here", "_law_made_here"]⟩
def c_law_equal_right : Cd := ⟨"_law_equal_right", "_law_equal_right", topS 33, ["_law_purse_here", "_law_recipe_here", "_law_made_here", "_law_twin", "_law_others", "_law_at", "_law_row_here", "_law_other"], ["_law_purse_here", "_law_recipe_here", "_law_made_here"]⟩
def c_law : Cd := ⟨"law", "law", topS 34, ["_law_script", "_law_purse_here", "_law_lot", "_law_made_here", "_law_recipe_here", "_law_at"], ["_law_script"]⟩

def b_is_count : T := (.seq (.ret (.and (.callB .isinstance (.cons (.var 0) (.cons (.ty "int") .nil))) (.and (.nt (.callB .isinstance (.cons (.var 0) (.cons (.ty "bool") .nil)))) (.cmp .GtE (.var 0) (.int 0))))) .done)
def f_is_count : FD := ⟨1, 1, b_is_count⟩
def b_is_rising : T := (.seq (.iff (.tOr (.tNot (.tVal (.callB .isinstance (.cons (.var 0) (.cons (.ty "list") .nil))))) (.tNot (.tVal (.callB .all (.cons (.comp (.and (.callF "is_count" (.cons (.var 2) .nil)) (.cmp .Lt (.var 2) (.var 1))) (.tName 2) (.iSeq (.var 0)) .tYes [2]) .nil))))) (.seq (.ret (.bl false)) .done) .done) (.seq (.ret (.callB .all (.cons (.comp (.cmp .Lt (.ix (.var 0) (.bin .Sub (.var 3) (.int 1))) (.ix (.var 0) (.var 3))) (.tName 3) (.iRng2 (.cons (.int 1) (.cons (.callB .len (.cons (.var 0) .nil)) .nil))) .tYes [3]) .nil))) .done))
def f_is_rising : FD := ⟨4, 2, b_is_rising⟩
def b_bits_of : T := (.seq (.asg (.tName 1) (.int 0)) (.seq (.for (.tName 2) (.iSeq (.var 0)) (.seq (.aug 1 .BitOr (.bin .LShift (.int 1) (.var 2))) .done)) (.seq (.ret (.var 1)) .done)))
def f_bits_of : FD := ⟨3, 1, b_bits_of⟩
def b_Recipe___init : T := (.seq (.iff (.tNot (.tVal (.callF "is_count" (.cons (.var 1) .nil)))) (.seq .skip .done) .done) (.seq (.iff (.tOr (.tNot (.tVal (.callB .isinstance (.cons (.var 2) (.cons (.ty "list") .nil))))) (.tOr (.tVal (.cmp .Eq (.var 2) (.lst .nil))) (.tNot (.tVal (.callB .all (.cons (.comp (.callF "is_rising" (.cons (.var 3) (.cons (.var 1) .nil))) (.tName 3) (.iSeq (.var 2)) .tYes [3]) .nil)))))) (.seq .skip .done) .done) (.seq (.asg (.tFld (.var 0) "old") (.var 1)) (.seq (.asg (.tFld (.var 0) "rows") (.comp (.callB .list (.cons (.var 3) .nil)) (.tName 3) (.iSeq (.var 2)) .tYes [3])) (.seq (.asg (.tFld (.var 0) "bits") (.comp (.callF "bits_of" (.cons (.var 3) .nil)) (.tName 3) (.iSeq (.var 2)) .tYes [3])) (.seq (.asg (.tFld (.var 0) "known") (.dic .nil)) .done))))))
def f_Recipe___init : FD := ⟨4, 3, b_Recipe___init⟩
def b_Recipe_many : T := (.seq (.ret (.fld (.var 0) "old")) .done)
def f_Recipe_many : FD := ⟨1, 1, b_Recipe_many⟩
def b_Recipe_needs : T := (.seq (.ret (.comp (.callB .list (.cons (.var 1) .nil)) (.tName 1) (.iSeq (.fld (.var 0) "rows")) .tYes [1])) .done)
def f_Recipe_needs : FD := ⟨2, 1, b_Recipe_needs⟩
def b_Recipe_size : T := (.seq (.ret (.callB .len (.cons (.fld (.var 0) "rows") .nil))) .done)
def f_Recipe_size : FD := ⟨1, 1, b_Recipe_size⟩
def b_Recipe___eq : T := (.seq (.ret (.and (.callB .isinstance (.cons (.var 1) (.cons (.glob "Recipe") .nil))) (.and (.cmp .Eq (.fld (.var 0) "old") (.fld (.var 1) "old")) (.cmp .Eq (.fld (.var 0) "rows") (.fld (.var 1) "rows"))))) .done)
def f_Recipe___eq : FD := ⟨2, 2, b_Recipe___eq⟩
def b_check_recipe : T := (.seq (.iff (.tNot (.tVal (.callB .isinstance (.cons (.var 0) (.cons (.glob "Recipe") .nil))))) (.seq .skip .done) .done) .done)
def f_check_recipe : FD := ⟨1, 1, b_check_recipe⟩
def b_check_block : T := (.seq (.iff (.tOr (.tNot (.tVal (.callF "is_count" (.cons (.var 1) .nil)))) (.tVal (.cmp .GtE (.var 1) (.callB .len (.cons (.fld (.var 0) "rows") .nil))))) (.seq .skip .done) .done) .done)
def f_check_block : FD := ⟨2, 2, b_check_block⟩
def b_needs_of : T := (.seq (.expr (.callF "check_recipe" (.cons (.var 0) .nil))) (.seq (.expr (.callF "check_block" (.cons (.var 0) (.cons (.var 1) .nil)))) (.seq (.ret (.callB .list (.cons (.ix (.fld (.var 0) "rows") (.var 1)) .nil))) .done)))
def f_needs_of : FD := ⟨2, 2, b_needs_of⟩
def b_users_of : T := (.seq (.expr (.callF "check_recipe" (.cons (.var 0) .nil))) (.seq (.iff (.tOr (.tNot (.tVal (.callF "is_count" (.cons (.var 1) .nil)))) (.tVal (.cmp .GtE (.var 1) (.fld (.var 0) "old")))) (.seq .skip .done) .done) (.seq (.ret (.comp (.var 2) (.tTup (.cons (.tName 2) (.cons (.tName 3) .nil))) (.iEnm (.fld (.var 0) "rows")) (.tVal (.cmp .In (.var 1) (.var 3))) [2, 3])) .done)))
def f_users_of : FD := ⟨4, 2, b_users_of⟩
def b_used_in : T := (.seq (.ret (.callB .sorted (.cons (.dcomp2 (.var 1) (.bl true) (.tName 2) (.iSeq (.fld (.var 0) "rows")) .tYes (.tName 1) (.iSeq (.var 2)) .tYes [2, 1] [1]) .nil))) .done)
def f_used_in : FD := ⟨3, 1, b_used_in⟩
def b_used : T := (.seq (.expr (.callF "check_recipe" (.cons (.var 0) .nil))) (.seq (.ret (.callF "used_in" (.cons (.var 0) .nil))) .done))
def f_used : FD := ⟨1, 1, b_used⟩
def b_idle : T := (.seq (.expr (.callF "check_recipe" (.cons (.var 0) .nil))) (.seq (.asg (.tName 1) (.callF "used_in" (.cons (.var 0) .nil))) (.seq (.ret (.comp (.var 2) (.tName 2) (.iRng1 (.cons (.fld (.var 0) "old") .nil)) (.tVal (.cmp .NotIn (.var 2) (.var 1))) [2])) .done)))
def f_idle : FD := ⟨3, 1, b_idle⟩
def b_law_purse : T := (.seq (.asg (.tName 2) (.callB .sum (.cons (.slc (.var 0) (.pSome (.var 1)) (.pSome (.bin .Add (.var 1) (.int 1)))) .nil))) (.seq (.ret (.lst (.cons (.bin .Mod (.callB .int (.cons (.callB .max (.cons (.bin .Sub (.var 2) (.bin .Pow (.int 10) (.int 18))) (.cons (.int 0) .nil))) .nil)) (.bin .Pow (.bin .Pow (.int 10) (.int 60)) (.int 8))) (.cons (.bin .Mod (.callB .int (.cons (.var 2) .nil)) (.int 2147483629)) (.cons (.int 0) (.cons (.var 1) .nil)))))) .done))
def f_law_purse : FD := ⟨3, 2, b_law_purse⟩
def b_law_mixed : T := (.seq (.asg (.tName 3) (.bin .Add (.bin .Mult (.var 0) (.int 69069)) (.bin .Mult (.bin .Mult (.int 104729) (.var 1)) (.var 1)))) (.seq (.asg (.tName 3) (.bin .Mod (.callB .int (.cons (.bin .Add (.bin .Add (.var 3) (.bin .Mult (.int 7919) (.var 2))) (.var 1)) .nil)) (.int 2147483647))) (.seq (.asg (.tName 3) (.bin .Mod (.callB .int (.cons (.bin .Add (.bin .Mult (.var 3) (.var 3)) (.int 40503)) .nil)) (.int 2147483629))) (.seq (.ret (.bin .Mod (.callB .int (.cons (.bin .Mult (.var 3) (.int 48271)) .nil)) (.int 2147483587))) .done))))
def f_law_mixed : FD := ⟨4, 3, b_law_mixed⟩
def b_law_draw : T := (.seq (.iff (.tVal (.cmp .Gt (.ix (.var 0) (.int 0)) (.int 0))) (.seq (.asg (.tName 2) (.bin .Mod (.callB .int (.cons (.ix (.var 0) (.int 0)) .nil)) (.var 1))) (.seq (.asg (.tSub (.var 0) (.int 0)) (.bin .FloorDiv (.ix (.var 0) (.int 0)) (.var 1))) (.seq (.ret (.var 2)) .done))) .done) (.seq (.asg (.tName 3) (.int 0)) (.seq (.for (.tName 4) (.iRng1 (.cons (.bin .Add (.int 1) (.bin .FloorDiv (.meth (.var 1) .bit_length .nil) (.int 28))) .nil)) (.seq (.asg (.tSub (.var 0) (.int 2)) (.bin .Add (.ix (.var 0) (.int 2)) (.int 1))) (.seq (.asg (.tName 3) (.bin .Add (.bin .Mult (.var 3) (.int 2147483587)) (.callF "_law_mixed" (.cons (.ix (.var 0) (.int 1)) (.cons (.ix (.var 0) (.int 2)) (.cons (.ix (.var 0) (.int 3)) .nil)))))) .done))) (.seq (.ret (.bin .Mod (.callB .int (.cons (.var 3) .nil)) (.var 1))) .done))))
def f_law_draw : FD := ⟨5, 2, b_law_draw⟩
def b_law_purses : T := (.seq (.ret (.comp (.callF "_law_purse" (.cons (.var 0) (.cons (.var 2) .nil))) (.tName 2) (.iRng1 (.cons (.callB .max (.cons (.int 1) (.cons (.callB .min (.cons (.var 1) (.cons (.callB .len (.cons (.var 0) .nil)) .nil))) .nil))) .nil)) .tYes [2])) .done)
def f_law_purses : FD := ⟨3, 2, b_law_purses⟩
def b_law_one_of : T := (.seq (.ret (.ix (.var 1) (.callF "_law_draw" (.cons (.var 0) (.cons (.callB .len (.cons (.var 1) .nil)) .nil))))) .done)
def f_law_one_of : FD := ⟨2, 2, b_law_one_of⟩
def b_law_same : T := (.seq (.iff (.tVal (.callB .isinstance (.cons (.var 0) (.cons (.ty "dict") .nil)))) (.seq (.ret (.callB .dict (.cons (.comp (.tup (.cons (.var 1) (.cons (.callF "_law_same" (.cons (.ix (.var 0) (.var 1)) .nil)) .nil))) (.tName 1) (.iSeq (.var 0)) .tYes [1]) .nil))) .done) .done) (.seq (.iff (.tVal (.callB .isinstance (.cons (.var 0) (.cons (.ty "list") .nil)))) (.seq (.ret (.comp (.callF "_law_same" (.cons (.var 2) .nil)) (.tName 2) (.iSeq (.var 0)) .tYes [2])) .done) .done) (.seq (.ret (.ite (.tVal (.callB .isinstance (.cons (.var 0) (.cons (.ty "tuple") .nil)))) (.callB .tuple (.cons (.comp (.callF "_law_same" (.cons (.var 2) .nil)) (.tName 2) (.iSeq (.var 0)) .tYes [2]) .nil)) (.var 0))) .done)))
def f_law_same : FD := ⟨3, 1, b_law_same⟩
def b_law_exact : T := (.seq (.iff (.tVal (.callB .isinstance (.cons (.var 0) (.cons (.tup (.cons (.ty "list") (.cons (.ty "tuple") .nil))) .nil)))) (.seq (.asg (.tName 2) (.and (.cmp .Eq (.callB .isinstance (.cons (.var 1) (.cons (.ty "list") .nil))) (.callB .isinstance (.cons (.var 0) (.cons (.ty "list") .nil)))) (.cmp .Eq (.callB .isinstance (.cons (.var 1) (.cons (.ty "tuple") .nil))) (.callB .isinstance (.cons (.var 0) (.cons (.ty "tuple") .nil)))))) (.seq (.ret (.and (.var 2) (.and (.cmp .Eq (.callB .len (.cons (.var 0) .nil)) (.callB .len (.cons (.var 1) .nil))) (.callB .all (.cons (.comp (.callF "_law_exact" (.cons (.var 3) (.cons (.var 4) .nil))) (.tTup (.cons (.tName 3) (.cons (.tName 4) .nil))) (.iZip (.var 0) (.var 1)) .tYes [3, 4]) .nil))))) .done)) .done) (.seq (.iff (.tVal (.callB .isinstance (.cons (.var 0) (.cons (.ty "dict") .nil)))) (.seq (.asg (.tName 2) (.and (.callB .isinstance (.cons (.var 1) (.cons (.ty "dict") .nil))) (.callF "_law_exact" (.cons (.callB .list (.cons (.var 0) .nil)) (.cons (.callB .list (.cons (.var 1) .nil)) .nil))))) (.seq (.ret (.and (.var 2) (.callB .all (.cons (.comp (.callF "_law_exact" (.cons (.ix (.var 0) (.var 5)) (.cons (.ix (.var 1) (.var 5)) .nil))) (.tName 5) (.iSeq (.var 0)) .tYes [5]) .nil)))) .done)) .done) (.seq (.asg (.tName 2) (.cmp .Eq (.callB .isinstance (.cons (.var 0) (.cons (.ty "int") .nil))) (.callB .isinstance (.cons (.var 1) (.cons (.ty "int") .nil))))) (.seq (.ret (.and (.var 2) (.and (.cmp .Eq (.callB .isinstance (.cons (.var 0) (.cons (.ty "bool") .nil))) (.callB .isinstance (.cons (.var 1) (.cons (.ty "bool") .nil)))) (.cmp .Eq (.var 0) (.var 1))))) .done))))
def f_law_exact : FD := ⟨6, 2, b_law_exact⟩
def b_law_row : T := (.seq (.iff (.tVal (.cmp .Eq (.var 2) (.int 0))) (.seq (.ret (.comp (.var 3) (.tName 3) (.iRng1 (.cons (.var 1) .nil)) (.tVal (.cmp .Eq (.callF "_law_draw" (.cons (.var 0) (.cons (.int 3) .nil))) (.int 0))) [3])) .done) .done) (.seq (.iff (.tVal (.cmp .Eq (.var 2) (.int 1))) (.seq (.asg (.tName 4) (.callF "_law_draw" (.cons (.var 0) (.cons (.bin .Add (.var 1) (.int 1)) .nil)))) (.seq (.ret (.lrange (.cons (.var 4) (.cons (.callB .min (.cons (.var 1) (.cons (.bin .Add (.bin .Add (.var 4) (.int 1)) (.callF "_law_draw" (.cons (.var 0) (.cons (.int 3) .nil)))) .nil))) .nil)))) .done)) .done) (.seq (.iff (.tVal (.cmp .Eq (.var 2) (.int 2))) (.seq (.ret (.ite (.tVal (.cmp .Gt (.var 1) (.int 0))) (.callB .sorted (.cons (.callB .dict (.cons (.comp (.tup (.cons (.callF "_law_draw" (.cons (.var 0) (.cons (.var 1) .nil))) (.cons (.bl true) .nil))) (.tName 5) (.iRng1 (.cons (.bin .Add (.int 1) (.callF "_law_draw" (.cons (.var 0) (.cons (.int 2) .nil)))) .nil)) .tYes [5]) .nil)) .nil)) (.lst .nil))) .done) .done) (.seq (.ret (.comp (.var 3) (.tName 3) (.iRng1 (.cons (.var 1) .nil)) (.tVal (.cmp .Gt (.callF "_law_draw" (.cons (.var 0) (.cons (.int 4) .nil))) (.int 0))) [3])) .done))))
def f_law_row : FD := ⟨6, 3, b_law_row⟩
def b_law_recipe : T := (.seq (.asg (.tTup (.cons (.tName 3) (.cons (.tName 4) (.cons (.tName 5) .nil)))) (.tup (.cons (.bin .Add (.int 1) (.callF "_law_draw" (.cons (.var 0) (.cons (.var 1) .nil)))) (.cons (.callF "_law_draw" (.cons (.var 0) (.cons (.bin .Add (.var 2) (.int 1)) .nil))) (.cons (.callF "_law_draw" (.cons (.var 0) (.cons (.int 6) .nil))) .nil))))) (.seq (.iff (.tVal (.cmp .Lt (.var 5) (.int 4))) (.seq (.ret (.lst (.cons (.var 4) (.cons (.comp (.callF "_law_row" (.cons (.var 0) (.cons (.var 4) (.cons (.var 5) .nil)))) (.tName 6) (.iRng1 (.cons (.var 3) .nil)) .tYes [6]) .nil)))) .done) .done) (.seq (.asg (.tName 7) (.lst (.cons (.callF "_law_row" (.cons (.var 0) (.cons (.var 4) (.cons (.int 3) .nil)))) (.cons (.callF "_law_row" (.cons (.var 0) (.cons (.var 4) (.cons (.int 0) .nil)))) .nil)))) (.seq (.iff (.tVal (.cmp .Eq (.var 5) (.int 4))) (.seq (.ret (.lst (.cons (.var 4) (.cons (.comp (.callB .list (.cons (.callF "_law_one_of" (.cons (.var 0) (.cons (.var 7) .nil))) .nil)) (.tName 6) (.iRng1 (.cons (.var 3) .nil)) .tYes [6]) .nil)))) .done) .done) (.seq (.ret (.lst (.cons (.var 4) (.cons (.comp (.ite (.tVal (.cmp .Eq (.callF "_law_draw" (.cons (.var 0) (.cons (.int 3) .nil))) (.int 0))) (.callF "_law_row" (.cons (.var 0) (.cons (.var 4) (.cons (.callF "_law_draw" (.cons (.var 0) (.cons (.int 4) .nil))) .nil)))) (.callB .list (.cons (.ix (.var 7) (.int 0)) .nil))) (.tName 6) (.iRng1 (.cons (.var 3) .nil)) .tYes [6]) .nil)))) .done)))))
def f_law_recipe : FD := ⟨8, 3, b_law_recipe⟩
def b_law_made : T := (.seq (.ret (.callC "Recipe" (.cons (.ix (.var 0) (.int 0)) (.cons (.comp (.callB .list (.cons (.var 1) .nil)) (.tName 1) (.iSeq (.ix (.var 0) (.int 1))) .tYes [1]) .nil)))) .done)
def f_law_made : FD := ⟨2, 1, b_law_made⟩
def b_law_union : T := (.seq (.ret (.callB .sorted (.cons (.callB .dict (.cons (.comp (.tup (.cons (.var 2) (.cons (.bl true) .nil))) (.tName 2) (.iSeq (.bin .Add (.var 0) (.var 1))) .tYes [2]) .nil)) .nil))) .done)
def f_law_union : FD := ⟨3, 2, b_law_union⟩
def b_law_kept_right : T := (.seq (.asg (.tName 1) (.callF "_law_same" (.cons (.ix (.var 0) (.int 1)) .nil))) (.seq (.asg (.tName 2) (.callC "Recipe" (.cons (.ix (.var 0) (.int 0)) (.cons (.var 1) .nil)))) (.seq (.for (.tName 3) (.iSeq (.var 1)) (.seq (.expr (.meth (.var 3) .append (.cons (.int 0) .nil))) .done)) (.seq (.expr (.meth (.var 1) .append (.cons (.lst .nil) .nil))) (.seq (.for (.tName 4) (.iRng1 (.cons (.int 2) .nil)) (.seq (.asg (.tName 5) (.methO (.var 2) "needs" .nil)) (.seq (.iff (.tNot (.tVal (.callF "_law_exact" (.cons (.lst (.cons (.methO (.var 2) "many" .nil) (.cons (.var 5) (.cons (.methO (.var 2) "size" .nil) .nil)))) (.cons (.lst (.cons (.ix (.var 0) (.int 0)) (.cons (.ix (.var 0) (.int 1)) (.cons (.callB .len (.cons (.ix (.var 0) (.int 1)) .nil)) .nil)))) .nil))))) (.seq (.ret (.bl false)) .done) .done) (.seq (.expr (.meth (.ix (.var 5) (.int 0)) .append (.cons .non .nil))) (.seq (.expr (.meth (.var 5) .append (.cons .non .nil))) .done))))) (.seq (.ret (.bl true)) .done))))))
def f_law_kept_right : FD := ⟨6, 1, b_law_kept_right⟩
def b_law_looks_right : T := (.seq (.asg (.tName 2) (.lst .nil)) (.seq (.for (.tName 3) (.iSeq (.ix (.var 0) (.int 1))) (.seq (.asg (.tName 2) (.callF "_law_union" (.cons (.var 2) (.cons (.var 3) .nil)))) .done)) (.seq (.for (.tName 4) (.iRng1 (.cons (.int 2) .nil)) (.seq (.asg (.tName 5) (.lst (.cons (.callF "used" (.cons (.var 1) .nil)) (.cons (.callF "idle" (.cons (.var 1) .nil)) .nil)))) (.seq (.iff (.tNot (.tVal (.callF "_law_exact" (.cons (.var 5) (.cons (.lst (.cons (.var 2) (.cons (.comp (.var 6) (.tName 6) (.iRng1 (.cons (.ix (.var 0) (.int 0)) .nil)) (.tVal (.cmp .NotIn (.var 6) (.var 2))) [6]) .nil))) .nil))))) (.seq (.ret (.bl false)) .done) .done) (.seq (.expr (.meth (.ix (.var 5) (.int 0)) .append (.cons .non .nil))) (.seq (.expr (.meth (.ix (.var 5) (.int 1)) .append (.cons .non .nil))) (.seq (.for (.tTup (.cons (.tName 6) (.cons (.tName 3) .nil))) (.iEnm (.ix (.var 0) (.int 1))) (.seq (.asg (.tName 7) (.callF "needs_of" (.cons (.var 1) (.cons (.var 6) .nil)))) (.seq (.iff (.tNot (.tVal (.callF "_law_exact" (.cons (.var 7) (.cons (.var 3) .nil))))) (.seq (.ret (.bl false)) .done) .done) (.seq (.expr (.meth (.var 7) .append (.cons .non .nil))) .done)))) (.seq (.for (.tName 6) (.iRng1 (.cons (.ix (.var 0) (.int 0)) .nil)) (.seq (.asg (.tName 7) (.callF "users_of" (.cons (.var 1) (.cons (.var 6) .nil)))) (.seq (.iff (.tNot (.tVal (.callF "_law_exact" (.cons (.var 7) (.cons (.comp (.var 8) (.tName 8) (.iRng1 (.cons (.callB .len (.cons (.ix (.var 0) (.int 1)) .nil)) .nil)) (.tVal (.cmp .In (.var 6) (.ix (.ix (.var 0) (.int 1)) (.var 8)))) [8]) .nil))))) (.seq (.ret (.bl false)) .done) .done) (.seq (.expr (.meth (.var 7) .append (.cons .non .nil))) .done)))) .done))))))) (.seq (.ret (.bl true)) .done))))
def f_law_looks_right : FD := ⟨9, 2, b_law_looks_right⟩
def b_law_equal_right : T := (.seq (.asg (.tName 3) (.callF "_law_made" (.cons (.var 1) .nil))) (.seq (.iff (.tOr (.tNot (.tVal (.cmp .Eq (.var 2) (.var 3)))) (.tVal (.cmp .NotEq (.var 2) (.var 3)))) (.seq (.ret (.bl false)) .done) .done) (.seq (.asg (.tName 4) (.lst (.cons .non (.cons (.int 0) (.cons (.var 1) (.cons (.ix (.var 1) (.int 1)) (.cons (.tup (.cons (.var 2) .nil)) (.cons (.callC "Recipe" (.cons (.bin .Add (.ix (.var 1) (.int 0)) (.int 1)) (.cons (.ix (.var 1) (.int 1)) .nil))) (.cons (.callC "Recipe" (.cons (.ix (.var 1) (.int 0)) (.cons (.bin .Add (.ix (.var 1) (.int 1)) (.lst (.cons (.lst .nil) .nil))) .nil))) .nil))))))))) (.seq (.asg (.tName 5) (.callF "_law_draw" (.cons (.var 0) (.cons (.callB .len (.cons (.ix (.var 1) (.int 1)) .nil)) .nil)))) (.seq (.for (.tName 6) (.iSeq (.tup (.cons (.lst .nil) (.cons (.slc (.ix (.ix (.var 1) (.int 1)) (.var 5)) (.pSome (.int 1)) .skip) (.cons (.slc (.ix (.ix (.var 1) (.int 1)) (.var 5)) .skip (.pSome (.neg (.int 1)))) (.cons (.lrange (.cons (.ix (.var 1) (.int 0)) .nil)) .nil)))))) (.seq (.iff (.tVal (.cmp .NotEq (.var 6) (.ix (.ix (.var 1) (.int 1)) (.var 5)))) (.seq (.expr (.meth (.var 4) .append (.cons (.callC "Recipe" (.cons (.ix (.var 1) (.int 0)) (.cons (.bin .Add (.bin .Add (.slc (.ix (.var 1) (.int 1)) .skip (.pSome (.var 5))) (.lst (.cons (.var 6) .nil))) (.slc (.ix (.var 1) (.int 1)) (.pSome (.bin .Add (.var 5) (.int 1))) .skip)) .nil))) .nil))) .done) .done) .done)) (.seq (.iff (.tVal (.cmp .NotEq (.rev (.ix (.var 1) (.int 1))) (.ix (.var 1) (.int 1)))) (.seq (.expr (.meth (.var 4) .append (.cons (.callC "Recipe" (.cons (.ix (.var 1) (.int 0)) (.cons (.rev (.ix (.var 1) (.int 1))) .nil))) .nil))) .done) .done) (.seq (.iff (.tVal (.cmp .Gt (.callB .len (.cons (.ix (.var 1) (.int 1)) .nil)) (.int 1))) (.seq (.asg (.tName 4) (.bin .Add (.var 4) (.lst (.cons (.callC "Recipe" (.cons (.ix (.var 1) (.int 0)) (.cons (.slc (.ix (.var 1) (.int 1)) .skip (.pSome (.neg (.int 1)))) .nil))) (.cons (.callC "Recipe" (.cons (.ix (.var 1) (.int 0)) (.cons (.slc (.ix (.var 1) (.int 1)) (.pSome (.int 1)) .skip) .nil))) .nil))))) .done) .done) (.seq (.ret (.nt (.callB .any (.cons (.comp (.or (.cmp .Eq (.var 2) (.var 7)) (.nt (.cmp .NotEq (.var 2) (.var 7)))) (.tName 7) (.iSeq (.var 4)) .tYes [7]) .nil)))) .done))))))))
def f_law_equal_right : FD := ⟨8, 3, b_law_equal_right⟩
def b_law : T := (.seq (.for (.tName 1) (.iSeq (.callF "_law_purses" (.cons (.var 0) (.cons (.int 1) .nil)))) (.seq (.asg (.tName 2) (.lst (.cons (.callF "_law_recipe" (.cons (.var 1) (.cons (.int 7) (.cons (.int 7) .nil)))) (.cons (.callF "_law_recipe" (.cons (.var 1) (.cons (.int 7) (.cons (.int 7) .nil)))) .nil)))) (.seq (.asg (.tName 3) (.comp (.callF "_law_made" (.cons (.var 4) .nil)) (.tName 4) (.iSeq (.var 2)) .tYes [4])) (.seq (.for (.tName 5) (.iSeq (.tup (.cons (.int 0) (.cons (.int 1) (.cons (.int 0) .nil))))) (.seq (.iff (.tOr (.tNot (.tVal (.callF "_law_kept_right" (.cons (.ix (.var 2) (.var 5)) .nil)))) (.tOr (.tNot (.tVal (.callF "_law_looks_right" (.cons (.ix (.var 2) (.var 5)) (.cons (.ix (.var 3) (.var 5)) .nil))))) (.tNot (.tVal (.callF "_law_equal_right" (.cons (.var 1) (.cons (.ix (.var 2) (.var 5)) (.cons (.ix (.var 3) (.var 5)) .nil)))))))) (.seq (.ret (.bl false)) .done) .done) .done)) .done)))) (.seq (.ret (.bl true)) .done))
def f_law : FD := ⟨6, 1, b_law⟩
theorem rd_is_count : c_is_count.reads Γ f_is_count := ⟨by kernel_rfl, rfl, rfl, by decide +kernel⟩
theorem rd_is_rising : c_is_rising.reads Γ f_is_rising := ⟨by kernel_rfl, rfl, rfl, by decide +kernel⟩
theorem rd_bits_of : c_bits_of.reads Γ f_bits_of := ⟨by kernel_rfl, rfl, rfl, by decide +kernel⟩
theorem rd_Recipe___init : c_Recipe___init.reads Γ f_Recipe___init := ⟨by kernel_rfl, rfl, rfl, by decide +kernel⟩
theorem rd_Recipe_many : c_Recipe_many.reads Γ f_Recipe_many := ⟨by kernel_rfl, rfl, rfl, by decide +kernel⟩
theorem rd_Recipe_needs : c_Recipe_needs.reads Γ f_Recipe_needs := ⟨by kernel_rfl, rfl, rfl, by decide +kernel⟩
theorem rd_Recipe_size : c_Recipe_size.reads Γ f_Recipe_size := ⟨by kernel_rfl, rfl, rfl, by decide +kernel⟩
theorem rd_Recipe___eq : c_Recipe___eq.reads Γ f_Recipe___eq := ⟨by kernel_rfl, rfl, rfl, by decide +kernel⟩
theorem rd_check_recipe : c_check_recipe.reads Γ f_check_recipe := ⟨by kernel_rfl, rfl, rfl, by decide +kernel⟩
theorem rd_check_block : c_check_block.reads Γ f_check_block := ⟨by kernel_rfl, rfl, rfl, by decide +kernel⟩
theorem rd_needs_of : c_needs_of.reads Γ f_needs_of := ⟨by kernel_rfl, rfl, rfl, by decide +kernel⟩
theorem rd_users_of : c_users_of.reads Γ f_users_of := ⟨by kernel_rfl, rfl, rfl, by decide +kernel⟩
theorem rd_used_in : c_used_in.reads Γ f_used_in := ⟨by kernel_rfl, rfl, rfl, by decide +kernel⟩
theorem rd_used : c_used.reads Γ f_used := ⟨by kernel_rfl, rfl, rfl, by decide +kernel⟩
theorem rd_idle : c_idle.reads Γ f_idle := ⟨by kernel_rfl, rfl, rfl, by decide +kernel⟩
theorem rd_law_purse : c_law_purse.reads Γ f_law_purse := ⟨by kernel_rfl, rfl, rfl, by decide +kernel⟩
theorem rd_law_mixed : c_law_mixed.reads Γ f_law_mixed := ⟨by kernel_rfl, rfl, rfl, by decide +kernel⟩
theorem rd_law_draw : c_law_draw.reads Γ f_law_draw := ⟨by kernel_rfl, rfl, rfl, by decide +kernel⟩
theorem rd_law_purses : c_law_purses.reads Γ f_law_purses := ⟨by kernel_rfl, rfl, rfl, by decide +kernel⟩
theorem rd_law_one_of : c_law_one_of.reads Γ f_law_one_of := ⟨by kernel_rfl, rfl, rfl, by decide +kernel⟩
theorem rd_law_same : c_law_same.reads Γ f_law_same := ⟨by kernel_rfl, rfl, rfl, by decide +kernel⟩
theorem rd_law_exact : c_law_exact.reads Γ f_law_exact := ⟨by kernel_rfl, rfl, rfl, by decide +kernel⟩
theorem rd_law_row : c_law_row.reads Γ f_law_row := ⟨by kernel_rfl, rfl, rfl, by decide +kernel⟩
theorem rd_law_recipe : c_law_recipe.reads Γ f_law_recipe := ⟨by kernel_rfl, rfl, rfl, by decide +kernel⟩
theorem rd_law_made : c_law_made.reads Γ f_law_made := ⟨by kernel_rfl, rfl, rfl, by decide +kernel⟩
theorem rd_law_union : c_law_union.reads Γ f_law_union := ⟨by kernel_rfl, rfl, rfl, by decide +kernel⟩
theorem rd_law_kept_right : c_law_kept_right.reads Γ f_law_kept_right := ⟨by kernel_rfl, rfl, rfl, by decide +kernel⟩
theorem rd_law_looks_right : c_law_looks_right.reads Γ f_law_looks_right := ⟨by kernel_rfl, rfl, rfl, by decide +kernel⟩
theorem rd_law_equal_right : c_law_equal_right.reads Γ f_law_equal_right := ⟨by kernel_rfl, rfl, rfl, by decide +kernel⟩
theorem rd_law : c_law.reads Γ f_law := ⟨by kernel_rfl, rfl, rfl, by decide +kernel⟩
def fnT : List (Str × FD × Cd) := [("is_count", f_is_count, c_is_count), ("is_rising", f_is_rising, c_is_rising), ("bits_of", f_bits_of, c_bits_of), ("Recipe.__init__", f_Recipe___init, c_Recipe___init), ("Recipe.many", f_Recipe_many, c_Recipe_many), ("Recipe.needs", f_Recipe_needs, c_Recipe_needs), ("Recipe.size", f_Recipe_size, c_Recipe_size), ("Recipe.__eq__", f_Recipe___eq, c_Recipe___eq), ("check_recipe", f_check_recipe, c_check_recipe), ("check_block", f_check_block, c_check_block), ("needs_of", f_needs_of, c_needs_of), ("users_of", f_users_of, c_users_of), ("used_in", f_used_in, c_used_in), ("used", f_used, c_used), ("idle", f_idle, c_idle), ("_law_purse", f_law_purse, c_law_purse), ("_law_mixed", f_law_mixed, c_law_mixed), ("_law_draw", f_law_draw, c_law_draw), ("_law_purses", f_law_purses, c_law_purses), ("_law_one_of", f_law_one_of, c_law_one_of), ("_law_same", f_law_same, c_law_same), ("_law_exact", f_law_exact, c_law_exact), ("_law_row", f_law_row, c_law_row), ("_law_recipe", f_law_recipe, c_law_recipe), ("_law_made", f_law_made, c_law_made), ("_law_union", f_law_union, c_law_union), ("_law_kept_right", f_law_kept_right, c_law_kept_right), ("_law_looks_right", f_law_looks_right, c_law_looks_right), ("_law_equal_right", f_law_equal_right, c_law_equal_right), ("law", f_law, c_law)]
def clT : List (Str × CD) := [("Recipe", ⟨some "Recipe.__init__", [("many", "Recipe.many"), ("needs", "Recipe.needs"), ("size", "Recipe.size"), ("__eq__", "Recipe.__eq__")], ["old", "rows", "bits", "known"]⟩)]
def tabs (adr : List (Str × Addr)) : Tabs := ⟨adr, fnT, clT, [(("Recipe", "Recipe"), true)], [(("Recipe", "int"), false), (("Recipe", "bool"), false), (("Recipe", "str"), false), (("Recipe", "list"), false), (("Recipe", "tuple"), false), (("Recipe", "dict"), false)], [(("NoneType", "Recipe"), false), (("bool", "Recipe"), false), (("int", "Recipe"), false), (("str", "Recipe"), false), (("list", "Recipe"), false), (("tuple", "Recipe"), false), (("dict", "Recipe"), false)], []⟩
def G : SL.Env := (tabs []).G
section
open L2 PySem.Spec
variable {K : PySem.W.Frag} {mg : Str → Option Value}
theorem all_mk {P : Program} {w : World} {h : Heap} {fa : Addr} {a_is_count a_is_rising a_bits_of a_check_recipe a_check_block a_needs_of a_users_of a_used_in a_used a_idle a_law_purse a_law_mixed a_law_draw a_law_purses a_law_one_of a_law_same a_law_exact a_law_row a_law_recipe a_law_made a_law_union a_law_kept_right a_law_looks_right a_law_equal_right a_law a_Recipe___init a_Recipe_many a_Recipe_needs a_Recipe_size a_Recipe___eq C_Recipe : Addr} (X : K.In h) (G0 : h.Ns mainGlobals mg) (hfa : mg "law" = some (.ref fa))
    {od_is_count an_is_count od_is_rising an_is_rising od_bits_of an_bits_of od_Recipe___init an_Recipe___init od_Recipe_many an_Recipe_many od_Recipe_needs an_Recipe_needs od_Recipe_size an_Recipe_size od_Recipe___eq an_Recipe___eq od_check_recipe an_check_recipe od_check_block an_check_block od_needs_of an_needs_of od_users_of an_users_of od_used_in an_used_in od_used an_used od_idle an_idle od_law_purse an_law_purse od_law_mixed an_law_mixed od_law_draw an_law_draw od_law_purses an_law_purses od_law_one_of an_law_one_of od_law_same an_law_same od_law_exact an_law_exact od_law_row an_law_row od_law_recipe an_law_recipe od_law_made an_law_made od_law_union an_law_union od_law_kept_right an_law_kept_right od_law_looks_right an_law_looks_right od_law_equal_right an_law_equal_right od_law an_law : Option Addr} {sl_is_count sl_is_rising sl_bits_of sl_Recipe___init sl_Recipe_many sl_Recipe_needs sl_Recipe_size sl_Recipe___eq sl_check_recipe sl_check_block sl_needs_of sl_users_of sl_used_in sl_used sl_idle sl_law_purse sl_law_mixed sl_law_draw sl_law_purses sl_law_one_of sl_law_same sl_law_exact sl_law_row sl_law_recipe sl_law_made sl_law_union sl_law_kept_right sl_law_looks_right sl_law_equal_right sl_law : Array (Option Value)} {oc_is_count kV_is_count dc_is_count pm_is_count cd_is_count ct_is_count oc_is_rising kV_is_rising dc_is_rising pm_is_rising cd_is_rising ct_is_rising oc_bits_of kV_bits_of dc_bits_of pm_bits_of cd_bits_of ct_bits_of oc_Recipe___init kV_Recipe___init dc_Recipe___init pm_Recipe___init cd_Recipe___init ct_Recipe___init oc_Recipe_many kV_Recipe_many dc_Recipe_many pm_Recipe_many cd_Recipe_many ct_Recipe_many oc_Recipe_needs kV_Recipe_needs dc_Recipe_needs pm_Recipe_needs cd_Recipe_needs ct_Recipe_needs oc_Recipe_size kV_Recipe_size dc_Recipe_size pm_Recipe_size cd_Recipe_size ct_Recipe_size oc_Recipe___eq kV_Recipe___eq dc_Recipe___eq pm_Recipe___eq cd_Recipe___eq ct_Recipe___eq oc_check_recipe kV_check_recipe dc_check_recipe pm_check_recipe cd_check_recipe ct_check_recipe oc_check_block kV_check_block dc_check_block pm_check_block cd_check_block ct_check_block oc_needs_of kV_needs_of dc_needs_of pm_needs_of cd_needs_of ct_needs_of oc_users_of kV_users_of dc_users_of pm_users_of cd_users_of ct_users_of oc_used_in kV_used_in dc_used_in pm_used_in cd_used_in ct_used_in oc_used kV_used dc_used pm_used cd_used ct_used oc_idle kV_idle dc_idle pm_idle cd_idle ct_idle oc_law_purse kV_law_purse dc_law_purse pm_law_purse cd_law_purse ct_law_purse oc_law_mixed kV_law_mixed dc_law_mixed pm_law_mixed cd_law_mixed ct_law_mixed oc_law_draw kV_law_draw dc_law_draw pm_law_draw cd_law_draw ct_law_draw oc_law_purses kV_law_purses dc_law_purses pm_law_purses cd_law_purses ct_law_purses oc_law_one_of kV_law_one_of dc_law_one_of pm_law_one_of cd_law_one_of ct_law_one_of oc_law_same kV_law_same dc_law_same pm_law_same cd_law_same ct_law_same oc_law_exact kV_law_exact dc_law_exact pm_law_exact cd_law_exact ct_law_exact oc_law_row kV_law_row dc_law_row pm_law_row cd_law_row ct_law_row oc_law_recipe kV_law_recipe dc_law_recipe pm_law_recipe cd_law_recipe ct_law_recipe oc_law_made kV_law_made dc_law_made pm_law_made cd_law_made ct_law_made oc_law_union kV_law_union dc_law_union pm_law_union cd_law_union ct_law_union oc_law_kept_right kV_law_kept_right dc_law_kept_right pm_law_kept_right cd_law_kept_right ct_law_kept_right oc_law_looks_right kV_law_looks_right dc_law_looks_right pm_law_looks_right cd_law_looks_right ct_law_looks_right oc_law_equal_right kV_law_equal_right dc_law_equal_right pm_law_equal_right cd_law_equal_right ct_law_equal_right oc_law kV_law dc_law pm_law cd_law ct_law : Value}
    (g_C_Recipe : PySem.W.nsIn K mainGlobals "Recipe" = some (some (.ref C_Recipe)))
    (pg_C_Recipe : PySem.W.plainGet K C_Recipe Str.empty = true)
    (hd_C_Recipe : PySem.W.hasDictIn K C_Recipe = true)
    (po_C_Recipe : PySem.W.plainOver K C_Recipe = true)
    (sa_C_Recipe : PySem.W.findIn K (.ref C_Recipe) "__setattr__" = some (some (.builtin "object.__setattr__")))
    (c1_C_Recipe : PySem.W.findIn K (.ref C_Recipe) "__class__" = some (some (.builtin "object.__class__")))
    (c4_C_Recipe : PySem.W.mroIn K C_Recipe (.type "object") = some true)
    (mk_C_Recipe : PySem.W.makesIn K C_Recipe = true)
    (kp_C_Recipe : PySem.W.keepIn K (.ref C_Recipe) = true)
    (ic_C_Recipe : PySem.W.isClsIn K C_Recipe = true)
    (tc_C_Recipe : PySem.W.typeIn K (.ref C_Recipe) = some (.type "type"))
    (nf_C_Recipe_old : PySem.W.findIn K (.ref C_Recipe) "old" = some none)
    (nf_C_Recipe_rows : PySem.W.findIn K (.ref C_Recipe) "rows" = some none)
    (nf_C_Recipe_bits : PySem.W.findIn K (.ref C_Recipe) "bits" = some none)
    (nf_C_Recipe_known : PySem.W.findIn K (.ref C_Recipe) "known" = some none)
    (me_Recipe___init : PySem.W.findIn K (.ref C_Recipe) "__init__" = some (some (.ref a_Recipe___init)))
    (me_Recipe_many : PySem.W.findIn K (.ref C_Recipe) "many" = some (some (.ref a_Recipe_many)))
    (me_Recipe_needs : PySem.W.findIn K (.ref C_Recipe) "needs" = some (some (.ref a_Recipe_needs)))
    (me_Recipe_size : PySem.W.findIn K (.ref C_Recipe) "size" = some (some (.ref a_Recipe_size)))
    (me_Recipe___eq : PySem.W.findIn K (.ref C_Recipe) "__eq__" = some (some (.ref a_Recipe___eq)))
    (ne_C_Recipe : PySem.W.findIn K (.ref C_Recipe) "__ne__" = some (some (.builtin "object.__ne__")))
    (sb_C_Recipe_int : PySem.W.subIn K (.ref C_Recipe) (.type "int") = some false)
    (sb_C_Recipe_bool : PySem.W.subIn K (.ref C_Recipe) (.type "bool") = some false)
    (sb_C_Recipe_str : PySem.W.subIn K (.ref C_Recipe) (.type "str") = some false)
    (sb_C_Recipe_list : PySem.W.subIn K (.ref C_Recipe) (.type "list") = some false)
    (sb_C_Recipe_tuple : PySem.W.subIn K (.ref C_Recipe) (.type "tuple") = some false)
    (sb_C_Recipe_dict : PySem.W.subIn K (.ref C_Recipe) (.type "dict") = some false)
    (st_NoneType_C_Recipe : PySem.W.subIn K (.type "NoneType") (.ref C_Recipe) = some false)
    (st_bool_C_Recipe : PySem.W.subIn K (.type "bool") (.ref C_Recipe) = some false)
    (st_int_C_Recipe : PySem.W.subIn K (.type "int") (.ref C_Recipe) = some false)
    (st_str_C_Recipe : PySem.W.subIn K (.type "str") (.ref C_Recipe) = some false)
    (st_list_C_Recipe : PySem.W.subIn K (.type "list") (.ref C_Recipe) = some false)
    (st_tuple_C_Recipe : PySem.W.subIn K (.type "tuple") (.ref C_Recipe) = some false)
    (st_dict_C_Recipe : PySem.W.subIn K (.type "dict") (.ref C_Recipe) = some false)
    (c2 : PySem.W.specialIn K (.builtin "object.__class__") "__get__" = some (some (.builtin "getset_descriptor.__get__")))
    (c3 : PySem.W.takesIn K (.builtin "object.__class__") = some true)
    (g_a_is_count : PySem.W.nsIn K mainGlobals "is_count" = some (some (.ref a_is_count)))
    (l_is_count : K.lookup a_is_count = some ⟨oc_is_count, od_is_count, .func (PySem.W.fnOf "is_count" "is_count" (defArgs (topS 7)) (defBody (topS 7)) (defScope (topS 7)) .none kV_is_count dc_is_count pm_is_count an_is_count cd_is_count ct_is_count), sl_is_count⟩)
    (k_is_count : PySem.W.codeIn K cd_is_count "is_count" = true)
    (kp_is_count : PySem.W.keepIn K (.ref a_is_count) = true)
    (g_a_is_rising : PySem.W.nsIn K mainGlobals "is_rising" = some (some (.ref a_is_rising)))
    (l_is_rising : K.lookup a_is_rising = some ⟨oc_is_rising, od_is_rising, .func (PySem.W.fnOf "is_rising" "is_rising" (defArgs (topS 8)) (defBody (topS 8)) (defScope (topS 8)) .none kV_is_rising dc_is_rising pm_is_rising an_is_rising cd_is_rising ct_is_rising), sl_is_rising⟩)
    (k_is_rising : PySem.W.codeIn K cd_is_rising "is_rising" = true)
    (kp_is_rising : PySem.W.keepIn K (.ref a_is_rising) = true)
    (g_a_bits_of : PySem.W.nsIn K mainGlobals "bits_of" = some (some (.ref a_bits_of)))
    (l_bits_of : K.lookup a_bits_of = some ⟨oc_bits_of, od_bits_of, .func (PySem.W.fnOf "bits_of" "bits_of" (defArgs (topS 9)) (defBody (topS 9)) (defScope (topS 9)) .none kV_bits_of dc_bits_of pm_bits_of an_bits_of cd_bits_of ct_bits_of), sl_bits_of⟩)
    (k_bits_of : PySem.W.codeIn K cd_bits_of "bits_of" = true)
    (kp_bits_of : PySem.W.keepIn K (.ref a_bits_of) = true)
    (l_Recipe___init : K.lookup a_Recipe___init = some ⟨oc_Recipe___init, od_Recipe___init, .func (PySem.W.fnOf "__init__" "Recipe.__init__" (defArgs (L2.inClass (topS 11) 0)) (defBody (L2.inClass (topS 11) 0)) (defScope (L2.inClass (topS 11) 0)) .none kV_Recipe___init dc_Recipe___init pm_Recipe___init an_Recipe___init cd_Recipe___init ct_Recipe___init), sl_Recipe___init⟩)
    (k_Recipe___init : PySem.W.codeIn K cd_Recipe___init "Recipe.__init__" = true)
    (kp_Recipe___init : PySem.W.keepIn K (.ref a_Recipe___init) = true)
    (fn_Recipe___init : PySem.W.isFn K (.ref a_Recipe___init) = true)
    (l_Recipe_many : K.lookup a_Recipe_many = some ⟨oc_Recipe_many, od_Recipe_many, .func (PySem.W.fnOf "many" "Recipe.many" (defArgs (L2.inClass (topS 11) 1)) (defBody (L2.inClass (topS 11) 1)) (defScope (L2.inClass (topS 11) 1)) .none kV_Recipe_many dc_Recipe_many pm_Recipe_many an_Recipe_many cd_Recipe_many ct_Recipe_many), sl_Recipe_many⟩)
    (k_Recipe_many : PySem.W.codeIn K cd_Recipe_many "Recipe.many" = true)
    (kp_Recipe_many : PySem.W.keepIn K (.ref a_Recipe_many) = true)
    (fn_Recipe_many : PySem.W.isFn K (.ref a_Recipe_many) = true)
    (l_Recipe_needs : K.lookup a_Recipe_needs = some ⟨oc_Recipe_needs, od_Recipe_needs, .func (PySem.W.fnOf "needs" "Recipe.needs" (defArgs (L2.inClass (topS 11) 2)) (defBody (L2.inClass (topS 11) 2)) (defScope (L2.inClass (topS 11) 2)) .none kV_Recipe_needs dc_Recipe_needs pm_Recipe_needs an_Recipe_needs cd_Recipe_needs ct_Recipe_needs), sl_Recipe_needs⟩)
    (k_Recipe_needs : PySem.W.codeIn K cd_Recipe_needs "Recipe.needs" = true)
    (kp_Recipe_needs : PySem.W.keepIn K (.ref a_Recipe_needs) = true)
    (fn_Recipe_needs : PySem.W.isFn K (.ref a_Recipe_needs) = true)
    (l_Recipe_size : K.lookup a_Recipe_size = some ⟨oc_Recipe_size, od_Recipe_size, .func (PySem.W.fnOf "size" "Recipe.size" (defArgs (L2.inClass (topS 11) 3)) (defBody (L2.inClass (topS 11) 3)) (defScope (L2.inClass (topS 11) 3)) .none kV_Recipe_size dc_Recipe_size pm_Recipe_size an_Recipe_size cd_Recipe_size ct_Recipe_size), sl_Recipe_size⟩)
    (k_Recipe_size : PySem.W.codeIn K cd_Recipe_size "Recipe.size" = true)
    (kp_Recipe_size : PySem.W.keepIn K (.ref a_Recipe_size) = true)
    (fn_Recipe_size : PySem.W.isFn K (.ref a_Recipe_size) = true)
    (l_Recipe___eq : K.lookup a_Recipe___eq = some ⟨oc_Recipe___eq, od_Recipe___eq, .func (PySem.W.fnOf "__eq__" "Recipe.__eq__" (defArgs (L2.inClass (topS 11) 4)) (defBody (L2.inClass (topS 11) 4)) (defScope (L2.inClass (topS 11) 4)) .none kV_Recipe___eq dc_Recipe___eq pm_Recipe___eq an_Recipe___eq cd_Recipe___eq ct_Recipe___eq), sl_Recipe___eq⟩)
    (k_Recipe___eq : PySem.W.codeIn K cd_Recipe___eq "Recipe.__eq__" = true)
    (kp_Recipe___eq : PySem.W.keepIn K (.ref a_Recipe___eq) = true)
    (fn_Recipe___eq : PySem.W.isFn K (.ref a_Recipe___eq) = true)
    (g_a_check_recipe : PySem.W.nsIn K mainGlobals "check_recipe" = some (some (.ref a_check_recipe)))
    (l_check_recipe : K.lookup a_check_recipe = some ⟨oc_check_recipe, od_check_recipe, .func (PySem.W.fnOf "check_recipe" "check_recipe" (defArgs (topS 12)) (defBody (topS 12)) (defScope (topS 12)) .none kV_check_recipe dc_check_recipe pm_check_recipe an_check_recipe cd_check_recipe ct_check_recipe), sl_check_recipe⟩)
    (k_check_recipe : PySem.W.codeIn K cd_check_recipe "check_recipe" = true)
    (kp_check_recipe : PySem.W.keepIn K (.ref a_check_recipe) = true)
    (g_a_check_block : PySem.W.nsIn K mainGlobals "check_block" = some (some (.ref a_check_block)))
    (l_check_block : K.lookup a_check_block = some ⟨oc_check_block, od_check_block, .func (PySem.W.fnOf "check_block" "check_block" (defArgs (topS 13)) (defBody (topS 13)) (defScope (topS 13)) .none kV_check_block dc_check_block pm_check_block an_check_block cd_check_block ct_check_block), sl_check_block⟩)
    (k_check_block : PySem.W.codeIn K cd_check_block "check_block" = true)
    (kp_check_block : PySem.W.keepIn K (.ref a_check_block) = true)
    (g_a_needs_of : PySem.W.nsIn K mainGlobals "needs_of" = some (some (.ref a_needs_of)))
    (l_needs_of : K.lookup a_needs_of = some ⟨oc_needs_of, od_needs_of, .func (PySem.W.fnOf "needs_of" "needs_of" (defArgs (topS 14)) (defBody (topS 14)) (defScope (topS 14)) .none kV_needs_of dc_needs_of pm_needs_of an_needs_of cd_needs_of ct_needs_of), sl_needs_of⟩)
    (k_needs_of : PySem.W.codeIn K cd_needs_of "needs_of" = true)
    (kp_needs_of : PySem.W.keepIn K (.ref a_needs_of) = true)
    (g_a_users_of : PySem.W.nsIn K mainGlobals "users_of" = some (some (.ref a_users_of)))
    (l_users_of : K.lookup a_users_of = some ⟨oc_users_of, od_users_of, .func (PySem.W.fnOf "users_of" "users_of" (defArgs (topS 15)) (defBody (topS 15)) (defScope (topS 15)) .none kV_users_of dc_users_of pm_users_of an_users_of cd_users_of ct_users_of), sl_users_of⟩)
    (k_users_of : PySem.W.codeIn K cd_users_of "users_of" = true)
    (kp_users_of : PySem.W.keepIn K (.ref a_users_of) = true)
    (g_a_used_in : PySem.W.nsIn K mainGlobals "used_in" = some (some (.ref a_used_in)))
    (l_used_in : K.lookup a_used_in = some ⟨oc_used_in, od_used_in, .func (PySem.W.fnOf "used_in" "used_in" (defArgs (topS 16)) (defBody (topS 16)) (defScope (topS 16)) .none kV_used_in dc_used_in pm_used_in an_used_in cd_used_in ct_used_in), sl_used_in⟩)
    (k_used_in : PySem.W.codeIn K cd_used_in "used_in" = true)
    (kp_used_in : PySem.W.keepIn K (.ref a_used_in) = true)
    (g_a_used : PySem.W.nsIn K mainGlobals "used" = some (some (.ref a_used)))
    (l_used : K.lookup a_used = some ⟨oc_used, od_used, .func (PySem.W.fnOf "used" "used" (defArgs (topS 17)) (defBody (topS 17)) (defScope (topS 17)) .none kV_used dc_used pm_used an_used cd_used ct_used), sl_used⟩)
    (k_used : PySem.W.codeIn K cd_used "used" = true)
    (kp_used : PySem.W.keepIn K (.ref a_used) = true)
    (g_a_idle : PySem.W.nsIn K mainGlobals "idle" = some (some (.ref a_idle)))
    (l_idle : K.lookup a_idle = some ⟨oc_idle, od_idle, .func (PySem.W.fnOf "idle" "idle" (defArgs (topS 18)) (defBody (topS 18)) (defScope (topS 18)) .none kV_idle dc_idle pm_idle an_idle cd_idle ct_idle), sl_idle⟩)
    (k_idle : PySem.W.codeIn K cd_idle "idle" = true)
    (kp_idle : PySem.W.keepIn K (.ref a_idle) = true)
    (g_a_law_purse : PySem.W.nsIn K mainGlobals "_law_purse" = some (some (.ref a_law_purse)))
    (l_law_purse : K.lookup a_law_purse = some ⟨oc_law_purse, od_law_purse, .func (PySem.W.fnOf "_law_purse" "_law_purse" (defArgs (topS 20)) (defBody (topS 20)) (defScope (topS 20)) .none kV_law_purse dc_law_purse pm_law_purse an_law_purse cd_law_purse ct_law_purse), sl_law_purse⟩)
    (k_law_purse : PySem.W.codeIn K cd_law_purse "_law_purse" = true)
    (kp_law_purse : PySem.W.keepIn K (.ref a_law_purse) = true)
    (g_a_law_mixed : PySem.W.nsIn K mainGlobals "_law_mixed" = some (some (.ref a_law_mixed)))
    (l_law_mixed : K.lookup a_law_mixed = some ⟨oc_law_mixed, od_law_mixed, .func (PySem.W.fnOf "_law_mixed" "_law_mixed" (defArgs (topS 21)) (defBody (topS 21)) (defScope (topS 21)) .none kV_law_mixed dc_law_mixed pm_law_mixed an_law_mixed cd_law_mixed ct_law_mixed), sl_law_mixed⟩)
    (k_law_mixed : PySem.W.codeIn K cd_law_mixed "_law_mixed" = true)
    (kp_law_mixed : PySem.W.keepIn K (.ref a_law_mixed) = true)
    (g_a_law_draw : PySem.W.nsIn K mainGlobals "_law_draw" = some (some (.ref a_law_draw)))
    (l_law_draw : K.lookup a_law_draw = some ⟨oc_law_draw, od_law_draw, .func (PySem.W.fnOf "_law_draw" "_law_draw" (defArgs (topS 22)) (defBody (topS 22)) (defScope (topS 22)) .none kV_law_draw dc_law_draw pm_law_draw an_law_draw cd_law_draw ct_law_draw), sl_law_draw⟩)
    (k_law_draw : PySem.W.codeIn K cd_law_draw "_law_draw" = true)
    (kp_law_draw : PySem.W.keepIn K (.ref a_law_draw) = true)
    (g_a_law_purses : PySem.W.nsIn K mainGlobals "_law_purses" = some (some (.ref a_law_purses)))
    (l_law_purses : K.lookup a_law_purses = some ⟨oc_law_purses, od_law_purses, .func (PySem.W.fnOf "_law_purses" "_law_purses" (defArgs (topS 23)) (defBody (topS 23)) (defScope (topS 23)) .none kV_law_purses dc_law_purses pm_law_purses an_law_purses cd_law_purses ct_law_purses), sl_law_purses⟩)
    (k_law_purses : PySem.W.codeIn K cd_law_purses "_law_purses" = true)
    (kp_law_purses : PySem.W.keepIn K (.ref a_law_purses) = true)
    (g_a_law_one_of : PySem.W.nsIn K mainGlobals "_law_one_of" = some (some (.ref a_law_one_of)))
    (l_law_one_of : K.lookup a_law_one_of = some ⟨oc_law_one_of, od_law_one_of, .func (PySem.W.fnOf "_law_one_of" "_law_one_of" (defArgs (topS 24)) (defBody (topS 24)) (defScope (topS 24)) .none kV_law_one_of dc_law_one_of pm_law_one_of an_law_one_of cd_law_one_of ct_law_one_of), sl_law_one_of⟩)
    (k_law_one_of : PySem.W.codeIn K cd_law_one_of "_law_one_of" = true)
    (kp_law_one_of : PySem.W.keepIn K (.ref a_law_one_of) = true)
    (g_a_law_same : PySem.W.nsIn K mainGlobals "_law_same" = some (some (.ref a_law_same)))
    (l_law_same : K.lookup a_law_same = some ⟨oc_law_same, od_law_same, .func (PySem.W.fnOf "_law_same" "_law_same" (defArgs (topS 25)) (defBody (topS 25)) (defScope (topS 25)) .none kV_law_same dc_law_same pm_law_same an_law_same cd_law_same ct_law_same), sl_law_same⟩)
    (k_law_same : PySem.W.codeIn K cd_law_same "_law_same" = true)
    (kp_law_same : PySem.W.keepIn K (.ref a_law_same) = true)
    (g_a_law_exact : PySem.W.nsIn K mainGlobals "_law_exact" = some (some (.ref a_law_exact)))
    (l_law_exact : K.lookup a_law_exact = some ⟨oc_law_exact, od_law_exact, .func (PySem.W.fnOf "_law_exact" "_law_exact" (defArgs (topS 26)) (defBody (topS 26)) (defScope (topS 26)) .none kV_law_exact dc_law_exact pm_law_exact an_law_exact cd_law_exact ct_law_exact), sl_law_exact⟩)
    (k_law_exact : PySem.W.codeIn K cd_law_exact "_law_exact" = true)
    (kp_law_exact : PySem.W.keepIn K (.ref a_law_exact) = true)
    (g_a_law_row : PySem.W.nsIn K mainGlobals "_law_row" = some (some (.ref a_law_row)))
    (l_law_row : K.lookup a_law_row = some ⟨oc_law_row, od_law_row, .func (PySem.W.fnOf "_law_row" "_law_row" (defArgs (topS 27)) (defBody (topS 27)) (defScope (topS 27)) .none kV_law_row dc_law_row pm_law_row an_law_row cd_law_row ct_law_row), sl_law_row⟩)
    (k_law_row : PySem.W.codeIn K cd_law_row "_law_row" = true)
    (kp_law_row : PySem.W.keepIn K (.ref a_law_row) = true)
    (g_a_law_recipe : PySem.W.nsIn K mainGlobals "_law_recipe" = some (some (.ref a_law_recipe)))
    (l_law_recipe : K.lookup a_law_recipe = some ⟨oc_law_recipe, od_law_recipe, .func (PySem.W.fnOf "_law_recipe" "_law_recipe" (defArgs (topS 28)) (defBody (topS 28)) (defScope (topS 28)) .none kV_law_recipe dc_law_recipe pm_law_recipe an_law_recipe cd_law_recipe ct_law_recipe), sl_law_recipe⟩)
    (k_law_recipe : PySem.W.codeIn K cd_law_recipe "_law_recipe" = true)
    (kp_law_recipe : PySem.W.keepIn K (.ref a_law_recipe) = true)
    (g_a_law_made : PySem.W.nsIn K mainGlobals "_law_made" = some (some (.ref a_law_made)))
    (l_law_made : K.lookup a_law_made = some ⟨oc_law_made, od_law_made, .func (PySem.W.fnOf "_law_made" "_law_made" (defArgs (topS 29)) (defBody (topS 29)) (defScope (topS 29)) .none kV_law_made dc_law_made pm_law_made an_law_made cd_law_made ct_law_made), sl_law_made⟩)
    (k_law_made : PySem.W.codeIn K cd_law_made "_law_made" = true)
    (kp_law_made : PySem.W.keepIn K (.ref a_law_made) = true)
    (g_a_law_union : PySem.W.nsIn K mainGlobals "_law_union" = some (some (.ref a_law_union)))
    (l_law_union : K.lookup a_law_union = some ⟨oc_law_union, od_law_union, .func (PySem.W.fnOf "_law_union" "_law_union" (defArgs (topS 30)) (defBody (topS 30)) (defScope (topS 30)) .none kV_law_union dc_law_union pm_law_union an_law_union cd_law_union ct_law_union), sl_law_union⟩)
    (k_law_union : PySem.W.codeIn K cd_law_union "_law_union" = true)
    (kp_law_union : PySem.W.keepIn K (.ref a_law_union) = true)
    (g_a_law_kept_right : PySem.W.nsIn K mainGlobals "_law_kept_right" = some (some (.ref a_law_kept_right)))
    (l_law_kept_right : K.lookup a_law_kept_right = some ⟨oc_law_kept_right, od_law_kept_right, .func (PySem.W.fnOf "_law_kept_right" "_law_kept_right" (defArgs (topS 31)) (defBody (topS 31)) (defScope (topS 31)) .none kV_law_kept_right dc_law_kept_right pm_law_kept_right an_law_kept_right cd_law_kept_right ct_law_kept_right), sl_law_kept_right⟩)
    (k_law_kept_right : PySem.W.codeIn K cd_law_kept_right "_law_kept_right" = true)
    (kp_law_kept_right : PySem.W.keepIn K (.ref a_law_kept_right) = true)
    (g_a_law_looks_right : PySem.W.nsIn K mainGlobals "_law_looks_right" = some (some (.ref a_law_looks_right)))
    (l_law_looks_right : K.lookup a_law_looks_right = some ⟨oc_law_looks_right, od_law_looks_right, .func (PySem.W.fnOf "_law_looks_right" "_law_looks_right" (defArgs (topS 32)) (defBody (topS 32)) (defScope (topS 32)) .none kV_law_looks_right dc_law_looks_right pm_law_looks_right an_law_looks_right cd_law_looks_right ct_law_looks_right), sl_law_looks_right⟩)
    (k_law_looks_right : PySem.W.codeIn K cd_law_looks_right "_law_looks_right" = true)
    (kp_law_looks_right : PySem.W.keepIn K (.ref a_law_looks_right) = true)
    (g_a_law_equal_right : PySem.W.nsIn K mainGlobals "_law_equal_right" = some (some (.ref a_law_equal_right)))
    (l_law_equal_right : K.lookup a_law_equal_right = some ⟨oc_law_equal_right, od_law_equal_right, .func (PySem.W.fnOf "_law_equal_right" "_law_equal_right" (defArgs (topS 33)) (defBody (topS 33)) (defScope (topS 33)) .none kV_law_equal_right dc_law_equal_right pm_law_equal_right an_law_equal_right cd_law_equal_right ct_law_equal_right), sl_law_equal_right⟩)
    (k_law_equal_right : PySem.W.codeIn K cd_law_equal_right "_law_equal_right" = true)
    (kp_law_equal_right : PySem.W.keepIn K (.ref a_law_equal_right) = true)
    (g_a_law : PySem.W.nsIn K mainGlobals "law" = some (some (.ref a_law)))
    (l_law : K.lookup a_law = some ⟨oc_law, od_law, .func (PySem.W.fnOf "law" "law" (defArgs (topS 34)) (defBody (topS 34)) (defScope (topS 34)) .none kV_law dc_law pm_law an_law cd_law ct_law), sl_law⟩)
    (k_law : PySem.W.codeIn K cd_law "law" = true)
    (kp_law : PySem.W.keepIn K (.ref a_law) = true)
    (z_int : PySem.W.nsIn K mainGlobals "int" = some none)
    (z_bool : PySem.W.nsIn K mainGlobals "bool" = some none)
    (z_str : PySem.W.nsIn K mainGlobals "str" = some none)
    (z_list : PySem.W.nsIn K mainGlobals "list" = some none)
    (z_tuple : PySem.W.nsIn K mainGlobals "tuple" = some none)
    (z_dict : PySem.W.nsIn K mainGlobals "dict" = some none)
    (z_len : PySem.W.nsIn K mainGlobals "len" = some none)
    (z_sum : PySem.W.nsIn K mainGlobals "sum" = some none)
    (z_max : PySem.W.nsIn K mainGlobals "max" = some none)
    (z_min : PySem.W.nsIn K mainGlobals "min" = some none)
    (z_all : PySem.W.nsIn K mainGlobals "all" = some none)
    (z_any : PySem.W.nsIn K mainGlobals "any" = some none)
    (z_sorted : PySem.W.nsIn K mainGlobals "sorted" = some none)
    (z_isinstance : PySem.W.nsIn K mainGlobals "isinstance" = some none)
    (z_range : PySem.W.nsIn K mainGlobals "range" = some none)
    (z_enumerate : PySem.W.nsIn K mainGlobals "enumerate" = some none)
    (z_zip : PySem.W.nsIn K mainGlobals "zip" = some none)
    {k n : Nat} (ans : Answers G k "law" n) :
    ∃ fd : FuncData, (∀ (s : Shared) (u : Value), BindsTo s fd ⟨[u], []⟩ [("_law_script", u)]) ∧ ∀ base : Heap, K.In base → base.Ns mainGlobals mg → FnOk P w K mg base (L2.CX P w) k fa fd ["_law_script"] (SL.spLaw n) := by
  obtain rfl : a_law = fa := by have e := hfa.symm.trans (PySem.W.mg_of X G0 g_a_law); cases e; rfl
  have F_is_count := fun_mk (st := topS 7) l_is_count k_is_count kp_is_count
  have B_is_count := F_is_count.binds (ps := ["value"]) fun _ _ _ _ _ _ us hl => match us, hl with | [_], _ => rfl
  have F_is_rising := fun_mk (st := topS 8) l_is_rising k_is_rising kp_is_rising
  have B_is_rising := F_is_rising.binds (ps := ["value", "many"]) fun _ _ _ _ _ _ us hl => match us, hl with | [_, _], _ => rfl
  have F_bits_of := fun_mk (st := topS 9) l_bits_of k_bits_of kp_bits_of
  have B_bits_of := F_bits_of.binds (ps := ["blocks"]) fun _ _ _ _ _ _ us hl => match us, hl with | [_], _ => rfl
  have F_Recipe___init := fun_mk (st := L2.inClass (topS 11) 0) l_Recipe___init k_Recipe___init kp_Recipe___init
  have B_Recipe___init := F_Recipe___init.binds (ps := ["self", "many", "needs"]) fun _ _ _ _ _ _ us hl => match us, hl with | [_, _, _], _ => rfl
  have F_Recipe_many := fun_mk (st := L2.inClass (topS 11) 1) l_Recipe_many k_Recipe_many kp_Recipe_many
  have B_Recipe_many := F_Recipe_many.binds (ps := ["self"]) fun _ _ _ _ _ _ us hl => match us, hl with | [_], _ => rfl
  have F_Recipe_needs := fun_mk (st := L2.inClass (topS 11) 2) l_Recipe_needs k_Recipe_needs kp_Recipe_needs
  have B_Recipe_needs := F_Recipe_needs.binds (ps := ["self"]) fun _ _ _ _ _ _ us hl => match us, hl with | [_], _ => rfl
  have F_Recipe_size := fun_mk (st := L2.inClass (topS 11) 3) l_Recipe_size k_Recipe_size kp_Recipe_size
  have B_Recipe_size := F_Recipe_size.binds (ps := ["self"]) fun _ _ _ _ _ _ us hl => match us, hl with | [_], _ => rfl
  have F_Recipe___eq := fun_mk (st := L2.inClass (topS 11) 4) l_Recipe___eq k_Recipe___eq kp_Recipe___eq
  have B_Recipe___eq := F_Recipe___eq.binds (ps := ["self", "other"]) fun _ _ _ _ _ _ us hl => match us, hl with | [_, _], _ => rfl
  have F_check_recipe := fun_mk (st := topS 12) l_check_recipe k_check_recipe kp_check_recipe
  have B_check_recipe := F_check_recipe.binds (ps := ["value"]) fun _ _ _ _ _ _ us hl => match us, hl with | [_], _ => rfl
  have F_check_block := fun_mk (st := topS 13) l_check_block k_check_block kp_check_block
  have B_check_block := F_check_block.binds (ps := ["recipe", "value"]) fun _ _ _ _ _ _ us hl => match us, hl with | [_, _], _ => rfl
  have F_needs_of := fun_mk (st := topS 14) l_needs_of k_needs_of kp_needs_of
  have B_needs_of := F_needs_of.binds (ps := ["recipe", "block"]) fun _ _ _ _ _ _ us hl => match us, hl with | [_, _], _ => rfl
  have F_users_of := fun_mk (st := topS 15) l_users_of k_users_of kp_users_of
  have B_users_of := F_users_of.binds (ps := ["recipe", "block"]) fun _ _ _ _ _ _ us hl => match us, hl with | [_, _], _ => rfl
  have F_used_in := fun_mk (st := topS 16) l_used_in k_used_in kp_used_in
  have B_used_in := F_used_in.binds (ps := ["recipe"]) fun _ _ _ _ _ _ us hl => match us, hl with | [_], _ => rfl
  have F_used := fun_mk (st := topS 17) l_used k_used kp_used
  have B_used := F_used.binds (ps := ["recipe"]) fun _ _ _ _ _ _ us hl => match us, hl with | [_], _ => rfl
  have F_idle := fun_mk (st := topS 18) l_idle k_idle kp_idle
  have B_idle := F_idle.binds (ps := ["recipe"]) fun _ _ _ _ _ _ us hl => match us, hl with | [_], _ => rfl
  have F_law_purse := fun_mk (st := topS 20) l_law_purse k_law_purse kp_law_purse
  have B_law_purse := F_law_purse.binds (ps := ["_law_script", "_law_at"]) fun _ _ _ _ _ _ us hl => match us, hl with | [_, _], _ => rfl
  have F_law_mixed := fun_mk (st := topS 21) l_law_mixed k_law_mixed kp_law_mixed
  have B_law_mixed := F_law_mixed.binds (ps := ["_law_seed", "_law_spin", "_law_at"]) fun _ _ _ _ _ _ us hl => match us, hl with | [_, _, _], _ => rfl
  have F_law_draw := fun_mk (st := topS 22) l_law_draw k_law_draw kp_law_draw
  have B_law_draw := F_law_draw.binds (ps := ["_law_purse_here", "_law_many"]) fun _ _ _ _ _ _ us hl => match us, hl with | [_, _], _ => rfl
  have F_law_purses := fun_mk (st := topS 23) l_law_purses k_law_purses kp_law_purses
  have B_law_purses := F_law_purses.binds (ps := ["_law_script", "_law_few"]) fun _ _ _ _ _ _ us hl => match us, hl with | [_, _], _ => rfl
  have F_law_one_of := fun_mk (st := topS 24) l_law_one_of k_law_one_of kp_law_one_of
  have B_law_one_of := F_law_one_of.binds (ps := ["_law_purse_here", "_law_some"]) fun _ _ _ _ _ _ us hl => match us, hl with | [_, _], _ => rfl
  have F_law_same := fun_mk (st := topS 25) l_law_same k_law_same kp_law_same
  have B_law_same := F_law_same.binds (ps := ["_law_thing"]) fun _ _ _ _ _ _ us hl => match us, hl with | [_], _ => rfl
  have F_law_exact := fun_mk (st := topS 26) l_law_exact k_law_exact kp_law_exact
  have B_law_exact := F_law_exact.binds (ps := ["_law_mine", "_law_theirs"]) fun _ _ _ _ _ _ us hl => match us, hl with | [_, _], _ => rfl
  have F_law_row := fun_mk (st := topS 27) l_law_row k_law_row kp_law_row
  have B_law_row := F_law_row.binds (ps := ["_law_purse_here", "_law_old", "_law_way"]) fun _ _ _ _ _ _ us hl => match us, hl with | [_, _, _], _ => rfl
  have F_law_recipe := fun_mk (st := topS 28) l_law_recipe k_law_recipe kp_law_recipe
  have B_law_recipe := F_law_recipe.binds (ps := ["_law_purse_here", "_law_most_new", "_law_most_old"]) fun _ _ _ _ _ _ us hl => match us, hl with | [_, _, _], _ => rfl
  have F_law_made := fun_mk (st := topS 29) l_law_made k_law_made kp_law_made
  have B_law_made := F_law_made.binds (ps := ["_law_recipe_here"]) fun _ _ _ _ _ _ us hl => match us, hl with | [_], _ => rfl
  have F_law_union := fun_mk (st := topS 30) l_law_union k_law_union kp_law_union
  have B_law_union := F_law_union.binds (ps := ["_law_one", "_law_other"]) fun _ _ _ _ _ _ us hl => match us, hl with | [_, _], _ => rfl
  have F_law_kept_right := fun_mk (st := topS 31) l_law_kept_right k_law_kept_right kp_law_kept_right
  have B_law_kept_right := F_law_kept_right.binds (ps := ["_law_recipe_here"]) fun _ _ _ _ _ _ us hl => match us, hl with | [_], _ => rfl
  have F_law_looks_right := fun_mk (st := topS 32) l_law_looks_right k_law_looks_right kp_law_looks_right
  have B_law_looks_right := F_law_looks_right.binds (ps := ["_law_recipe_here", "_law_made_here"]) fun _ _ _ _ _ _ us hl => match us, hl with | [_, _], _ => rfl
  have F_law_equal_right := fun_mk (st := topS 33) l_law_equal_right k_law_equal_right kp_law_equal_right
  have B_law_equal_right := F_law_equal_right.binds (ps := ["_law_purse_here", "_law_recipe_here", "_law_made_here"]) fun _ _ _ _ _ _ us hl => match us, hl with | [_, _, _], _ => rfl
  have F_law := fun_mk (st := topS 34) l_law k_law kp_law
  have B_law := F_law.binds (ps := ["_law_script"]) fun _ _ _ _ _ _ us hl => match us, hl with | [_], _ => rfl
  have T : Txt (tabs (List.append [("is_count", a_is_count), ("is_rising", a_is_rising), ("bits_of", a_bits_of), ("check_recipe", a_check_recipe), ("check_block", a_check_block), ("needs_of", a_needs_of), ("users_of", a_users_of), ("used_in", a_used_in), ("used", a_used), ("idle", a_idle), ("_law_purse", a_law_purse), ("_law_mixed", a_law_mixed), ("_law_draw", a_law_draw), ("_law_purses", a_law_purses), ("_law_one_of", a_law_one_of), ("_law_same", a_law_same), ("_law_exact", a_law_exact), ("_law_row", a_law_row), ("_law_recipe", a_law_recipe), ("_law_made", a_law_made), ("_law_union", a_law_union), ("_law_kept_right", a_law_kept_right), ("_law_looks_right", a_law_looks_right), ("_law_equal_right", a_law_equal_right)] [("law", a_law), ("Recipe.__init__", a_Recipe___init), ("Recipe.many", a_Recipe_many), ("Recipe.needs", a_Recipe_needs), ("Recipe.size", a_Recipe_size), ("Recipe.__eq__", a_Recipe___eq), ("Recipe", C_Recipe)])).AD G Γ K mg (tabs (List.append [("is_count", a_is_count), ("is_rising", a_is_rising), ("bits_of", a_bits_of), ("check_recipe", a_check_recipe), ("check_block", a_check_block), ("needs_of", a_needs_of), ("users_of", a_users_of), ("used_in", a_used_in), ("used", a_used), ("idle", a_idle), ("_law_purse", a_law_purse), ("_law_mixed", a_law_mixed), ("_law_draw", a_law_draw), ("_law_purses", a_law_purses), ("_law_one_of", a_law_one_of), ("_law_same", a_law_same), ("_law_exact", a_law_exact), ("_law_row", a_law_row), ("_law_recipe", a_law_recipe), ("_law_made", a_law_made), ("_law_union", a_law_union), ("_law_kept_right", a_law_kept_right), ("_law_looks_right", a_law_looks_right), ("_law_equal_right", a_law_equal_right)] [("law", a_law), ("Recipe.__init__", a_Recipe___init), ("Recipe.many", a_Recipe_many), ("Recipe.needs", a_Recipe_needs), ("Recipe.size", a_Recipe_size), ("Recipe.__eq__", a_Recipe___eq), ("Recipe", C_Recipe)])).CT := txt_of (t := tabs (List.append [("is_count", a_is_count), ("is_rising", a_is_rising), ("bits_of", a_bits_of), ("check_recipe", a_check_recipe), ("check_block", a_check_block), ("needs_of", a_needs_of), ("users_of", a_users_of), ("used_in", a_used_in), ("used", a_used), ("idle", a_idle), ("_law_purse", a_law_purse), ("_law_mixed", a_law_mixed), ("_law_draw", a_law_draw), ("_law_purses", a_law_purses), ("_law_one_of", a_law_one_of), ("_law_same", a_law_same), ("_law_exact", a_law_exact), ("_law_row", a_law_row), ("_law_recipe", a_law_recipe), ("_law_made", a_law_made), ("_law_union", a_law_union), ("_law_kept_right", a_law_kept_right), ("_law_looks_right", a_law_looks_right), ("_law_equal_right", a_law_equal_right)] [("law", a_law), ("Recipe.__init__", a_Recipe___init), ("Recipe.many", a_Recipe_many), ("Recipe.needs", a_Recipe_needs), ("Recipe.size", a_Recipe_size), ("Recipe.__eq__", a_Recipe___eq), ("Recipe", C_Recipe)]))
    ⟨⟨C_Recipe, ⟨rfl, pg_C_Recipe, hd_C_Recipe, po_C_Recipe, sa_C_Recipe, c1_C_Recipe, c2, c3, c4_C_Recipe, mk_C_Recipe, kp_C_Recipe, ⟨nf_C_Recipe_old, nf_C_Recipe_rows, nf_C_Recipe_bits, nf_C_Recipe_known, trivial⟩, (fun g h => by cases h; exact ⟨_, rfl, me_Recipe___init, fn_Recipe___init⟩), ⟨⟨_, rfl, me_Recipe_many, fn_Recipe_many, kp_Recipe_many⟩, ⟨_, rfl, me_Recipe_needs, fn_Recipe_needs, kp_Recipe_needs⟩, ⟨_, rfl, me_Recipe_size, fn_Recipe_size, kp_Recipe_size⟩, ⟨_, rfl, me_Recipe___eq, fn_Recipe___eq, kp_Recipe___eq⟩, trivial⟩, (fun _ => ne_C_Recipe)⟩⟩, trivial⟩
    ⟨⟨⟨_, _, rfl, F_is_count, B_is_count⟩, rd_is_count⟩, ⟨⟨_, _, rfl, F_is_rising, B_is_rising⟩, rd_is_rising⟩, ⟨⟨_, _, rfl, F_bits_of, B_bits_of⟩, rd_bits_of⟩, ⟨⟨_, _, rfl, F_Recipe___init, B_Recipe___init⟩, rd_Recipe___init⟩, ⟨⟨_, _, rfl, F_Recipe_many, B_Recipe_many⟩, rd_Recipe_many⟩, ⟨⟨_, _, rfl, F_Recipe_needs, B_Recipe_needs⟩, rd_Recipe_needs⟩, ⟨⟨_, _, rfl, F_Recipe_size, B_Recipe_size⟩, rd_Recipe_size⟩, ⟨⟨_, _, rfl, F_Recipe___eq, B_Recipe___eq⟩, rd_Recipe___eq⟩, ⟨⟨_, _, rfl, F_check_recipe, B_check_recipe⟩, rd_check_recipe⟩, ⟨⟨_, _, rfl, F_check_block, B_check_block⟩, rd_check_block⟩, ⟨⟨_, _, rfl, F_needs_of, B_needs_of⟩, rd_needs_of⟩, ⟨⟨_, _, rfl, F_users_of, B_users_of⟩, rd_users_of⟩, ⟨⟨_, _, rfl, F_used_in, B_used_in⟩, rd_used_in⟩, ⟨⟨_, _, rfl, F_used, B_used⟩, rd_used⟩, ⟨⟨_, _, rfl, F_idle, B_idle⟩, rd_idle⟩, ⟨⟨_, _, rfl, F_law_purse, B_law_purse⟩, rd_law_purse⟩, ⟨⟨_, _, rfl, F_law_mixed, B_law_mixed⟩, rd_law_mixed⟩, ⟨⟨_, _, rfl, F_law_draw, B_law_draw⟩, rd_law_draw⟩, ⟨⟨_, _, rfl, F_law_purses, B_law_purses⟩, rd_law_purses⟩, ⟨⟨_, _, rfl, F_law_one_of, B_law_one_of⟩, rd_law_one_of⟩, ⟨⟨_, _, rfl, F_law_same, B_law_same⟩, rd_law_same⟩, ⟨⟨_, _, rfl, F_law_exact, B_law_exact⟩, rd_law_exact⟩, ⟨⟨_, _, rfl, F_law_row, B_law_row⟩, rd_law_row⟩, ⟨⟨_, _, rfl, F_law_recipe, B_law_recipe⟩, rd_law_recipe⟩, ⟨⟨_, _, rfl, F_law_made, B_law_made⟩, rd_law_made⟩, ⟨⟨_, _, rfl, F_law_union, B_law_union⟩, rd_law_union⟩, ⟨⟨_, _, rfl, F_law_kept_right, B_law_kept_right⟩, rd_law_kept_right⟩, ⟨⟨_, _, rfl, F_law_looks_right, B_law_looks_right⟩, rd_law_looks_right⟩, ⟨⟨_, _, rfl, F_law_equal_right, B_law_equal_right⟩, rd_law_equal_right⟩, ⟨⟨_, _, rfl, F_law, B_law⟩, rd_law⟩, trivial⟩
    ⟨⟨_, rfl, PySem.W.mg_of X G0 g_a_is_count, kp_is_count⟩, ⟨_, rfl, PySem.W.mg_of X G0 g_a_is_rising, kp_is_rising⟩, ⟨_, rfl, PySem.W.mg_of X G0 g_a_bits_of, kp_bits_of⟩, ⟨_, rfl, PySem.W.mg_of X G0 g_a_check_recipe, kp_check_recipe⟩, ⟨_, rfl, PySem.W.mg_of X G0 g_a_check_block, kp_check_block⟩, ⟨_, rfl, PySem.W.mg_of X G0 g_a_needs_of, kp_needs_of⟩, ⟨_, rfl, PySem.W.mg_of X G0 g_a_users_of, kp_users_of⟩, ⟨_, rfl, PySem.W.mg_of X G0 g_a_used_in, kp_used_in⟩, ⟨_, rfl, PySem.W.mg_of X G0 g_a_used, kp_used⟩, ⟨_, rfl, PySem.W.mg_of X G0 g_a_idle, kp_idle⟩, ⟨_, rfl, PySem.W.mg_of X G0 g_a_law_purse, kp_law_purse⟩, ⟨_, rfl, PySem.W.mg_of X G0 g_a_law_mixed, kp_law_mixed⟩, ⟨_, rfl, PySem.W.mg_of X G0 g_a_law_draw, kp_law_draw⟩, ⟨_, rfl, PySem.W.mg_of X G0 g_a_law_purses, kp_law_purses⟩, ⟨_, rfl, PySem.W.mg_of X G0 g_a_law_one_of, kp_law_one_of⟩, ⟨_, rfl, PySem.W.mg_of X G0 g_a_law_same, kp_law_same⟩, ⟨_, rfl, PySem.W.mg_of X G0 g_a_law_exact, kp_law_exact⟩, ⟨_, rfl, PySem.W.mg_of X G0 g_a_law_row, kp_law_row⟩, ⟨_, rfl, PySem.W.mg_of X G0 g_a_law_recipe, kp_law_recipe⟩, ⟨_, rfl, PySem.W.mg_of X G0 g_a_law_made, kp_law_made⟩, ⟨_, rfl, PySem.W.mg_of X G0 g_a_law_union, kp_law_union⟩, ⟨_, rfl, PySem.W.mg_of X G0 g_a_law_kept_right, kp_law_kept_right⟩, ⟨_, rfl, PySem.W.mg_of X G0 g_a_law_looks_right, kp_law_looks_right⟩, ⟨_, rfl, PySem.W.mg_of X G0 g_a_law_equal_right, kp_law_equal_right⟩, ⟨_, rfl, PySem.W.mg_of X G0 g_a_law, kp_law⟩, ⟨_, rfl, PySem.W.mg_of X G0 g_C_Recipe, kp_C_Recipe⟩, trivial⟩
    ⟨PySem.W.mg_none_of X G0 z_int, PySem.W.mg_none_of X G0 z_bool, PySem.W.mg_none_of X G0 z_str, PySem.W.mg_none_of X G0 z_list, PySem.W.mg_none_of X G0 z_tuple, PySem.W.mg_none_of X G0 z_dict, PySem.W.mg_none_of X G0 z_len, PySem.W.mg_none_of X G0 z_sum, PySem.W.mg_none_of X G0 z_max, PySem.W.mg_none_of X G0 z_min, PySem.W.mg_none_of X G0 z_all, PySem.W.mg_none_of X G0 z_any, PySem.W.mg_none_of X G0 z_sorted, PySem.W.mg_none_of X G0 z_isinstance, PySem.W.mg_none_of X G0 z_range, PySem.W.mg_none_of X G0 z_enumerate, PySem.W.mg_none_of X G0 z_zip, trivial⟩
    ⟨⟨_, _, rfl, rfl, kit_self⟩, trivial⟩
    ⟨⟨_, rfl, kit_rt (by decide +kernel) sb_C_Recipe_int⟩, ⟨_, rfl, kit_rt (by decide +kernel) sb_C_Recipe_bool⟩, ⟨_, rfl, kit_rt (by decide +kernel) sb_C_Recipe_str⟩, ⟨_, rfl, kit_rt (by decide +kernel) sb_C_Recipe_list⟩, ⟨_, rfl, kit_rt (by decide +kernel) sb_C_Recipe_tuple⟩, ⟨_, rfl, kit_rt (by decide +kernel) sb_C_Recipe_dict⟩, trivial⟩
    ⟨⟨_, rfl, kit_ty ic_C_Recipe tc_C_Recipe st_NoneType_C_Recipe⟩, ⟨_, rfl, kit_ty ic_C_Recipe tc_C_Recipe st_bool_C_Recipe⟩, ⟨_, rfl, kit_ty ic_C_Recipe tc_C_Recipe st_int_C_Recipe⟩, ⟨_, rfl, kit_ty ic_C_Recipe tc_C_Recipe st_str_C_Recipe⟩, ⟨_, rfl, kit_ty ic_C_Recipe tc_C_Recipe st_list_C_Recipe⟩, ⟨_, rfl, kit_ty ic_C_Recipe tc_C_Recipe st_tuple_C_Recipe⟩, ⟨_, rfl, kit_ty ic_C_Recipe tc_C_Recipe st_dict_C_Recipe⟩, trivial⟩
  exact ⟨_, fun s v => .of_eq rfl, fun base _ _ => law_fn P w base T (c := c_law) (fd := f_law) rfl ans rfl rfl F_law rd_law⟩
end
end K03

set_option Elab.async false
set_option linter.all false
set_option maxRecDepth 100000
set_option maxHeartbeats 4000000
namespace K03
open PySem SL
variable {S : Sps}
/-- of a recipe as the laws keep it -/
def ownP (f : Int → List (List Int) → Sl) : Pr := fun ds b Q _ => ∃ m rows, ds = [own m rows] ∧ okRows m rows ∧ m < 63 ∧ Q (f m rows) b
theorem good_own {m : Int} {rows : List (List Int)} (ok : okRows m rows) : good (iLL rows) ∧ dep (iLL rows) ≤ 2 := ⟨good_iLL ok.2.2.2.1 fun r hr => (ok.2.2.2.2 r hr).2, dep_iLL⟩
theorem kept_body (g : RecG G) (k1 : Knows S "_law_same" (sameP 6)) (k2 : KnowsK S "Recipe" makeP) (k3 : Knows S "_law_exact" (exactP 6)) (k4 : Knows S "Recipe.many" manyP) (k5 : Knows S "Recipe.needs" needsP) (k6 : Knows S "Recipe.size" sizeP) : Body G S f_law_kept_right (ownP fun _ _ => .un (.bl true)) := by
  rintro ds b Q X ⟨m, rows, rfl, ok, _, q⟩
  refine ⟨rfl, ?_⟩
  obtain ⟨hg, hd⟩ := good_own ok
  have hr := ok.2.2.2.1
  obtain ⟨r0, h0⟩ : ∃ r0, rows[0]? = some r0 := by
    cases rows with
    | nil => exact absurd rfl ok.2.2.1
    | cons r rs => exact ⟨r, rfl⟩
  have hbw : (rngD 0 2).length < bigW := by rw [rngD_len]; exact bgw (by omega)
  have hw : rows.length < bigW := bgw (by omega)
  have ha : ∀ a ∈ rows, a.length + rows.length < sizeLine := fun a h => szl' (by have := (ok.2.2.2.2 a h).2; omega)
  simp [f_law_kept_right, b_law_kept_right, k1, cpy, hg, g.mkk, k2, ok, hw, hbw]
  refine ⟨by omega, .inl ⟨ha, szl' (by omega), ?_⟩⟩
  refine fold_inv (fun t ρ b' => b' = b ∧ ∃ o4 o5, ρ = [some (.un (own m rows)), some (.jk (rows.length + 1) (iLL rows)), some (.un (rcp m rows)), none, o4, o5]) ⟨rfl, none, none, rfl⟩ ?_ ?_
  · rintro t x ρ b' hx ⟨rfl, o4, o5, rfl⟩ K hK
    simp [g.m_needs, g.m_many, g.m_size, k3, k4, k5, k6, ok]
    refine exactP_of ⟨⟨by simp, trivial, hg, trivial, trivial⟩, ?_, ?_⟩
    · show max _ (max _ (max _ _)) + 1 < 6
      have hd' : deps (rows.map iL) + 1 ≤ 2 := hd
      simp [dep, deps]; omega
    · simp [h0]
      exact ⟨szl' (by have := (ok.2.2.2.2 r0 (List.mem_of_getElem? h0)).2; omega), szl' (by omega), hK _ _ ⟨rfl, _, _, rfl⟩⟩
  · rintro ρ b' ⟨rfl, o4, o5, rfl⟩
    simp; exact q
/-- the union of rows, one by one -/
theorem sort_take {rows : List (List Int)} {t : Nat} {r : List Int} (hr : rows[t]? = some r) {some' : List Int} (hs : some' = sortD (rows.take t).flatten) : sortD (some' ++ r) = sortD (rows.take (t + 1)).flatten := by
  obtain ⟨a1, a2⟩ := sortD_spec (some' ++ r)
  obtain ⟨b1, b2⟩ := sortD_spec (rows.take (t + 1)).flatten
  obtain ⟨c1, c2⟩ := sortD_spec (rows.take t).flatten
  refine rising_one a1 b1 fun x => ?_
  have : rows.take (t + 1) = rows.take t ++ [r] := by rw [List.take_succ, hr]; rfl
  rw [a2, b2, this, List.flatten_append, List.mem_append, List.mem_append, hs, c2]
  simp
theorem users_alt {rows : List (List Int)} {i : Int} : ((List.range rows.length).filter fun k => decide (i ∈ rows.getD k [])).map (fun (k : Nat) => (k : Int)) = usersOf rows i := by
  have : rows.zipIdx = (List.range rows.length).map fun k => (rows.getD k [], k) := by
    apply List.ext_getElem
    · simp
    · intro n h1 h2
      simp at h1
      simp [h1]
  unfold usersOf
  rw [this, List.filter_map, List.map_map]
  rfl
theorem looks_body (g : RecG G) (k1 : Knows S "_law_union" unionP) (k2 : Knows S "used" usedP) (k3 : Knows S "_law_exact" (exactP 6)) (k4 : Knows S "idle" idleP) (k5 : Knows S "needs_of" needsOfP) (k6 : Knows S "users_of" usersP) :
    Body G S f_law_looks_right (fun ds b Q _ => ∃ m rows, ds = [own m rows, rcp m rows] ∧ okRows m rows ∧ m < 63 ∧ Q (.un (.bl true)) b) := by
  rintro ds b Q X ⟨m, rows, rfl, ok, hm, q⟩
  refine ⟨rfl, ?_⟩
  have hr := ok.2.2.2.1
  have hw : rows.length < bigW := bgw (by omega)
  have hbw : (rngD 0 2).length < bigW := by rw [rngD_len]; exact bgw (by omega)
  simp [f_law_looks_right, b_law_looks_right, hw]
  refine fold_inv (fun t ρ b' => b' = b ∧ ∃ o3, ρ = [some (.un (own m rows)), some (.un (rcp m rows)), some (.un (iL (sortD (rows.take t).flatten))), o3, none, none, none, none, none]) ⟨rfl, none, rfl⟩ ?_ ?_
  · rintro t x ρ b' hx ⟨rfl, o3, rfl⟩ K hK
    rw [List.getElem?_map] at hx
    obtain ⟨r, hr1, rfl⟩ := Option.map_eq_some_iff.mp hx
    obtain ⟨hri, hrl⟩ := ok.2.2.2.2 r (List.mem_of_getElem? hr1)
    have mem : ∀ x ∈ sortD (rows.take t).flatten, 0 ≤ x ∧ x < 63 := fun x hx => by
      obtain ⟨r, hr, hx⟩ := List.mem_flatten.mp (((sortD_spec _).2 x).mp hx)
      have := (ok.2.2.2.2 r (List.mem_of_mem_take hr)).1.1 x hx; omega
    have len := rising_len (m := 63) ⟨mem, (sortD_spec (rows.take t).flatten).1⟩ (by omega)
    simp [k1]
    refine ⟨by omega, hrl, fun x hx => ?_, hK _ _ ⟨rfl, some (.un (iL r)), ?_⟩⟩
    · rcases hx with hx | hx
      · exact mem x hx
      · have := hri.1 x hx; omega
    · rw [sort_take hr1 rfl]
  · rintro ρ b' ⟨rfl, o3, rfl⟩
    rw [List.length_map, List.take_length]
    obtain ⟨ur, um⟩ := used_eq ok
    have ulen := rising_len ur ok.1
    have glen := (used_eq ok)
    have ilen : (idleOf m rows).length ≤ 63 := by
      unfold idleOf
      refine Nat.le_trans (List.length_filter_le _ _) ?_
      simp; omega
    have hm0 := ok.1
    have hbm : (rngD 0 m.toNat).length < bigW := by rw [rngD_len]; exact bgw (by omega)
    simp [hbw]
    refine fold_inv (fun t ρ b2 => b2 = b' ∧ ∃ o3 o4 o5 o6 o7 o8, ρ = [some (.un (own m rows)), some (.un (rcp m rows)), some (.un (iL (usedOf rows))), o3, o4, o5, o6, o7, o8]) ⟨rfl, _, _, _, _, _, _, rfl⟩ ?_ ?_
    · rintro t x ρ b2 hx ⟨rfl, o3, o4, o5, o6, o7, o8, rfl⟩ K hK
      simp [k2, k4, ok, hm, hbm]
      refine ⟨by omega, by omega, ?_⟩
      rw [rngD_e]
      refine fold_frM (fl := true) (acc := []) (p := fun k => !decide (((k : Nat) : Int) ∈ usedOf rows)) (f := fun k => .int ((k : Nat) : Int)) (fun k hk fl acc ha K hK => ?_) (szl (by simp; omega)) ?_
      · by_cases h : ((k : Nat) : Int) ∈ usedOf rows
        · simp [h] at hK; simp [h]; exact hK
        · simp [h] at hK; simp [h, ha]; exact hK
      have e : ((List.range m.toNat).filter fun k => !decide (((k : Nat) : Int) ∈ usedOf rows)).map (fun k => D.int ((k : Nat) : Int)) = (idleOf m rows).map D.int := by
        unfold idleOf; rw [List.filter_map, List.map_map]; rfl
      simp only [List.nil_append]
      rw [e]
      simp [k3]
      refine exactP_of ⟨⟨by simp, good_iL (by omega), good_iL (by omega), trivial⟩, ?_, ?_⟩
      · have d1 : deps ((usedOf rows).map D.int) + 1 ≤ 1 := dep_iL
        have d2 : deps ((idleOf m rows).map D.int) + 1 ≤ 1 := dep_iL
        simp [dep, deps]; omega
      have hwe : (enmD 0 (rows.map iL)).length < bigW := by rw [enmD_len, List.length_map]; exact hw
      simp [hwe]
      refine ⟨szl' (by omega), szl' (by omega), ?_⟩
      refine fold_inv (fun t ρ b3 => b3 = b2 ∧ ∃ o3 o6 o7, ρ = [some (.un (own m rows)), some (.un (rcp m rows)), some (.un (iL (usedOf rows))), o3, some (.un x), some (.jk 2 (.lst [iL (usedOf rows), iL (idleOf m rows)])), o6, o7, o8]) ⟨rfl, _, _, _, rfl⟩ ?_ ?_
      · rintro t y ρ b3 hy ⟨rfl, o3, o6, o7, rfl⟩ K2 hK2
        obtain ⟨d, hd, rfl⟩ := enmD_get hy
        rw [List.getElem?_map] at hd
        obtain ⟨r, hr1, rfl⟩ := Option.map_eq_some_iff.mp hd
        obtain ⟨ht, rfl⟩ := List.getElem?_eq_some_iff.mp hr1
        obtain ⟨hri, hrl⟩ := ok.2.2.2.2 _ (List.mem_of_getElem? hr1)
        simp [k5, ok, ht]
        rw [k3]
        refine exactP_of (n := 6) ⟨good_iL hrl, by have : dep (D.lst ((rows[t]).map .int)) ≤ 1 := dep_iL; omega, ?_⟩
        simp
        exact ⟨szl' (by first | exact Nat.lt_of_le_of_lt hrl (by omega) | (rw [show rows[t]?.getD [] = rows[t] by rw [hr1]; rfl]; omega)), hK2 _ _ ⟨rfl, _, _, _, rfl⟩⟩
      · rintro ρ b3 ⟨rfl, o3, o6, o7, rfl⟩
        simp [hbm]
        refine ⟨by omega, ?_⟩
        refine fold_inv (fun t ρ b4 => b4 = b3 ∧ ∃ o3 o6 o7, ρ = [some (.un (own m rows)), some (.un (rcp m rows)), some (.un (iL (usedOf rows))), o3, some (.un x), some (.jk 2 (.lst [iL (usedOf rows), iL (idleOf m rows)])), o6, o7, o8]) ⟨rfl, _, _, _, rfl⟩ ?_ ?_
        · rintro t y ρ b4 hy ⟨rfl, o3, o6, o7, rfl⟩ K2 hK2
          rw [rngD_e, List.getElem?_map] at hy
          obtain ⟨k, hk, rfl⟩ := Option.map_eq_some_iff.mp hy
          have hkm : k < m.toNat := List.mem_range.mp (List.mem_of_getElem? hk)
          have hbr : (rngD 0 rows.length).length < bigW := by rw [rngD_len]; exact hw
          simp [k6, ok, hbr]
          refine ⟨by omega, by omega, ?_⟩
          rw [rngD_e]
          refine fold_frM (fl := true) (acc := []) (p := fun j => decide (((k : Nat) : Int) ∈ rows.getD j [])) (f := fun j => .int ((j : Nat) : Int)) (fun j hj fl acc ha K hK => ?_) (szl (by simp; omega)) ?_
          · have hj2 : j < rows.length := List.mem_range.mp hj
            have e3 : L2.atI (rows.map iL) ((j : Nat) : Int) = some (iL (rows.getD j [])) := by rw [atI_nat]; simp [hj2]
            by_cases h : ((k : Nat) : Int) ∈ rows.getD j []
            · simp only [h, decide_true, if_true] at hK
              simp [e3, -List.getD_eq_getElem?_getD, h, ha]; exact hK
            · simp only [h, decide_false] at hK
              simp [e3, -List.getD_eq_getElem?_getD, h]; exact hK
          have e : ((List.range rows.length).filter fun j => decide (((k : Nat) : Int) ∈ rows.getD j [])).map (fun j => D.int ((j : Nat) : Int)) = (usersOf rows k).map D.int := by
            rw [← users_alt, List.map_map]; rfl
          simp only [List.nil_append]
          rw [e]
          have hul : (usersOf rows k).length ≤ 1000 := by
            unfold usersOf
            rw [List.length_map]
            refine Nat.le_trans (List.length_filter_le _ _) ?_
            simp; omega
          simp [k3]
          refine exactP_of (n := 6) ⟨good_iL hul, by have : dep (D.lst ((usersOf rows k).map .int)) ≤ 1 := dep_iL; omega, ?_⟩
          simp
          exact ⟨szl' (by omega), hK2 _ _ ⟨rfl, _, _, _, rfl⟩⟩
        · rintro ρ b4 ⟨rfl, o3, o6, o7, rfl⟩
          simp
          exact hK _ _ ⟨rfl, _, _, _, _, _, _, rfl⟩
    · rintro ρ b2 ⟨rfl, o3, o4, o5, o6, o7, o8, rfl⟩
      simp; exact q
end K03

set_option Elab.async false
set_option linter.all false
set_option maxRecDepth 100000
set_option maxHeartbeats 4000000
namespace K03
open PySem SL
variable {S : Sps}
theorem cut_map {α β : Type} {f : α → β} {xs : List α} {lo hi : Option Int} : cutD (xs.map f) lo hi = (cutD xs lo hi).map f := by
  unfold cutD; rw [List.length_map, List.map_take, List.map_drop]
theorem cut_to {α : Type} {xs : List α} {k : Nat} (h : k ≤ xs.length) : cutD xs none (some (k : Int)) = xs.take k := by
  unfold cutD; rw [HT.sIx_none, HT.sIx_nat, Nat.min_eq_left h]; simp
theorem cut_from {α : Type} {xs : List α} {k : Nat} (h : k ≤ xs.length) : cutD xs (some (k : Int)) none = xs.drop k := by
  unfold cutD; rw [HT.sIx_none, HT.sIx_nat, Nat.min_eq_left h]; rw [List.take_of_length_le (by simp)]
theorem cut_last {α : Type} {xs : List α} : cutD xs none (some (-1)) = xs.dropLast := by
  unfold cutD
  rw [HT.sIx_none, List.dropLast_eq_take]
  have : HT.sIx xs.length xs.length (some (-1)) = xs.length - 1 := by
    simp [HT.sIx]; omega
  rw [this]; simp
def NE (G : SL.Env) (m : Int) (rows : List (List Int)) (y : D) : Prop := (∃ m' rows', y = rcp m' rows' ∧ ¬(m = m' ∧ rows = rows')) ∨ ∃ t, tyD G y = some (.b t) ∧ t ∈ (["NoneType", "bool", "int", "str", "list", "tuple", "dict"] : List String) ∧ strip y = y
abbrev KnowsQ (S : Sps) (f : Str) (P : Pq) : Prop := ∀ x y b Q, S.q f x y b Q = P x y b Q
theorem eq_same (hq : KnowsQ S "Recipe" (eqQ G)) {m : Int} {rows : List (List Int)} (ok : okRows m rows) {b : Nat} {Q : Bool → Nat → Prop} (q : Q true b) : cmpE S .Eq (.un (rcp m rows)) (.un (rcp m rows)) b Q := by
  refine ⟨fun _ => ⟨rfl, rfl⟩, ?_⟩
  show mateD (rcp m rows) (rcp m rows) = true ∧ _
  refine ⟨by simp [mateD, rcp, isObj], .inl ⟨rfl, ?_⟩⟩
  rw [hq]
  exact ⟨m, rows, _, rfl, ok, .inl ⟨m, rows, rfl, true, by simp, q⟩⟩
theorem ne_same (hq : KnowsQ S "Recipe" (eqQ G)) {m : Int} {rows : List (List Int)} (ok : okRows m rows) {b : Nat} {Q : Bool → Nat → Prop} (q : Q false b) : cmpE S .NotEq (.un (rcp m rows)) (.un (rcp m rows)) b Q := by
  refine ⟨fun _ => ⟨rfl, rfl⟩, ?_⟩
  show mateD (rcp m rows) (rcp m rows) = true ∧ _
  refine ⟨by simp [mateD, rcp, isObj], .inr (.inl ⟨rfl, ?_⟩)⟩
  rw [hq]
  exact ⟨m, rows, _, rfl, ok, .inl ⟨m, rows, rfl, true, by simp, q⟩⟩
theorem NE.spec {m : Int} {rows : List (List Int)} (ok : okRows m rows) {y : D} (h : NE G m rows y) : strip y = y ∧ mateD (rcp m rows) y = true ∧ ∀ b (Q : Bool → Nat → Prop), Q false b → eqQ G (rcp m rows) y b Q := by
  rcases h with ⟨m', rows', rfl, hne⟩ | ⟨t, ht, hm, hs⟩
  · exact ⟨rfl, by simp [mateD, rcp, isObj], fun b Q q => ⟨m, rows, _, rfl, ok, .inl ⟨m', rows', rfl, false, by simp [hne], q⟩⟩⟩
  · refine ⟨hs, ?_, fun b Q q => ⟨m, rows, _, rfl, ok, .inr ⟨t, ht, hm, hs, false, rfl, q⟩⟩⟩
    cases y <;> first | rfl | skip
    · simp only [tyD] at ht; split at ht <;> cases ht
    all_goals cases ht
theorem eq_other (hq : KnowsQ S "Recipe" (eqQ G)) {m : Int} {rows : List (List Int)} (ok : okRows m rows) {y : D} (h : NE G m rows y) {b : Nat} {Q : Bool → Nat → Prop} (q : Q false b) : cmpE S .Eq (.un (rcp m rows)) (.un y) b Q := by
  obtain ⟨h1, h2, h3⟩ := h.spec ok
  refine ⟨fun _ => ⟨rfl, rfl⟩, ?_⟩
  show mateD (rcp m rows) (strip y) = true ∧ _
  rw [h1]
  exact ⟨h2, .inl ⟨rfl, by show S.q _ _ (strip y) _ _; rw [h1, hq]; exact h3 _ _ q⟩⟩
theorem ne_other (hq : KnowsQ S "Recipe" (eqQ G)) {m : Int} {rows : List (List Int)} (ok : okRows m rows) {y : D} (h : NE G m rows y) {b : Nat} {Q : Bool → Nat → Prop} (q : Q true b) : cmpE S .NotEq (.un (rcp m rows)) (.un y) b Q := by
  obtain ⟨h1, h2, h3⟩ := h.spec ok
  refine ⟨fun _ => ⟨rfl, rfl⟩, ?_⟩
  show mateD (rcp m rows) (strip y) = true ∧ _
  rw [h1]
  exact ⟨h2, .inr (.inl ⟨rfl, by show S.q _ _ (strip y) _ _; rw [h1, hq]; exact h3 _ _ q⟩)⟩
theorem NE.pl {m : Int} {rows : List (List Int)} {y : D} {t : String} (h : tyD G y = some (.b t)) (hm : t ∈ (["NoneType", "bool", "int", "str", "list", "tuple", "dict"] : List String)) (hs : strip y = y) : NE G m rows y := .inr ⟨t, h, hm, hs⟩
theorem NE.rc {m m' : Int} {rows rows' : List (List Int)} (h : ¬(m = m' ∧ rows = rows')) : NE G m rows (rcp m' rows') := .inl ⟨m', rows', rfl, h⟩
theorem okRows.of {m : Int} {rows rows' : List (List Int)} (ok : okRows m rows) (h0 : rows' ≠ []) (hl : rows'.length ≤ 1000) (h : ∀ r ∈ rows', Rising r m) : okRows m rows' :=
  ⟨ok.1, ok.2.1, h0, hl, fun r hr => ⟨h r hr, by have := rising_len (h r hr) ok.1; have := ok.2.1; omega⟩⟩
end K03

set_option Elab.async false
set_option linter.all false
set_option maxRecDepth 100000
set_option maxHeartbeats 1000000
namespace K03
open PySem SL
variable {S : Sps}
theorem cut_sub {α : Type} {xs : List α} {lo hi : Option Int} : (cutD xs lo hi).Sublist xs := by
  unfold cutD; exact (List.take_sublist _ _).trans (List.drop_sublist _ _)
theorem cut_len {α : Type} {xs : List α} {lo hi : Option Int} : (cutD xs lo hi).length ≤ xs.length := cut_sub.length_le
theorem _root_.SL.Rising.cut {xs : List Int} {m : Int} {lo hi : Option Int} (h : Rising xs m) : Rising (cutD xs lo hi) m := ⟨fun x hx => h.1 x (cut_sub.subset hx), h.2.sublist cut_sub⟩
theorem makeP_at {m : Int} {rows : List (List Int)} {d : D} {b : Nat} {Q : Sl → Nat → Prop} {X : XD} (h : d = iLL rows) (ok : okRows m rows) (q : Q (.fr (rcp m rows)) b) : makeP [.int m, d] b Q X := by
  subst h; simp [ok, q]
theorem equal_body {p : Nat} (g : RecG G) (k1 : Knows S "_law_made" madeP) (k2 : KnowsK S "Recipe" makeP) (k3 : Knows S "_law_draw" (drawP p)) (kq : KnowsQ S "Recipe" (eqQ G)) :
    Body G S f_law_equal_right (fun ds b Q _ => ∃ m rows, ds = [.adr p, own m rows, rcp m rows] ∧ okRows m rows ∧ m < 63 ∧ rows.length < 900 ∧ 1 ≤ b ∧ Q (.un (.bl true)) (b - 1)) := by
  rintro ds b Q X ⟨m, rows, rfl, ok, hm, hl, hb, q⟩
  refine ⟨rfl, ?_⟩
  have hr := ok.2.2.2.1
  have hr0 : 0 < rows.length := List.length_pos_iff.mpr ok.2.2.1
  have hrow : ∀ r ∈ rows, Rising r m := fun r hr => (ok.2.2.2.2 r hr).1
  have ok1 : okRows (m + 1) rows := ⟨by have := ok.1; omega, by have := ok.2.1; omega, ok.2.2.1, hr, fun r h => ⟨(hrow r h).up (by omega), (ok.2.2.2.2 r h).2⟩⟩
  have ok2 : okRows m (rows ++ [[]]) := okRows.of ok (by simp) (by simp; omega) fun r h => by
    rcases List.mem_append.mp h with h | h
    · exact hrow r h
    · simp at h; subst h; exact .nil
  simp [-S_seq, S_seqK, seqK_e, f_law_equal_right, b_law_equal_right, k1, ok]
  refine eq_same kq ok ?_
  simp [-S_seq, S_seqK, seqK_e]
  refine ne_same kq ok ?_
  simp [-S_seq, S_seqK, seqK_e, g.mkk, k2, ok1, show rows.length + 1 ≤ sizeLine from szl (by omega)]
  refine makeP_at (rows := rows ++ [[]]) (by simp) ok2 ?_
  simp [-S_seq, S_seqK, seqK_e, k3]
  refine ⟨by omega, by omega, by omega, fun at' d0 d1 => ?_⟩
  have hz := Int.eq_ofNat_of_zero_le d0
  obtain ⟨a, rfl⟩ := hz
  have ha1 : a < rows.length := by omega
  have hz : ∃ r, rows[a]? = some r := ⟨_, List.getElem?_eq_getElem ha1⟩
  obtain ⟨r, hra⟩ := hz
  have hat : L2.atI (rows.map iL) (a : Int) = some (iL r) := by rw [atI_nat, List.getElem?_map, hra]; rfl
  have hz := ok.2.2.2.2 r (List.mem_of_getElem? hra)
  obtain ⟨hri, hrl⟩ := hz
  have hm0 := ok.1
  simp [-S_seq, S_seqK, seqK_e, hat, cut_map]
  refine ⟨szl (by have := cut_len (xs := r) (lo := some 1) (hi := none); omega), szl (by have := cut_len (xs := r) (lo := none) (hi := some (-1)); omega), by omega, bgw (by omega), ?_⟩
  refine fold_inv (fun t ρ b' => b' = b - 1 ∧ ∃ L o6, ρ = [some (.un (.adr p)), some (.un (own m rows)), some (.un (rcp m rows)), some (.un (rcp m rows)), some (.ow L), some (.un (.int (a : Int))), o6, none] ∧ (∀ y ∈ L, NE G m rows y) ∧ L.length ≤ 7 + t) ⟨rfl, _, none, rfl, ?_, by simp⟩ ?_ ?_
  · intro y hy
    simp only [List.mem_cons, List.not_mem_nil, or_false] at hy
    rcases hy with rfl | rfl | rfl | rfl | rfl | rfl | rfl
    · exact NE.pl (t := "NoneType") rfl (by simp) rfl
    · exact NE.pl (t := "int") rfl (by simp) rfl
    · exact NE.pl (t := "list") rfl (by simp) rfl
    · exact NE.pl (t := "list") rfl (by simp) rfl
    · exact NE.pl (t := "tuple") rfl (by simp) rfl
    · exact NE.rc (by omega)
    · exact NE.rc fun h => by have := congrArg List.length h.2; simp at this
  · rintro t x ρ b' hx ⟨rfl, L, o6, rfl, hL, hl⟩ K hK
    have hz : ∃ xs, x = iL xs ∧ Rising xs m ∧ t < 4 := by
      match t, hx with
      | 0, e => cases e; exact ⟨[], rfl, .nil, by omega⟩
      | 1, e => cases e; exact ⟨_, rfl, hri.cut, by omega⟩
      | 2, e => cases e; exact ⟨_, rfl, hri.cut, by omega⟩
      | 3, e => cases e; exact ⟨_, by rw [rng_iL], rng_rising (by omega) (by omega), by omega⟩
      | t + 4, e => cases e
    obtain ⟨xs, rfl, hxi, ht⟩ := hz
    clear hx
    have hcat : (cutD rows none (some (a : Int))).map iL ++ iL xs :: (cutD rows (some ((a : Int) + 1)) none).map iL = (rows.take a ++ xs :: rows.drop (a + 1)).map iL := by
      rw [cut_to (by omega), show ((a : Int) + 1) = ((a + 1 : Nat) : Int) by omega, cut_from (by omega)]; simp
    have hlen : (rows.take a ++ xs :: rows.drop (a + 1)).length = rows.length := by simp; omega
    have ok3 : okRows m (rows.take a ++ xs :: rows.drop (a + 1)) := okRows.of ok (by simp) (by omega) fun r' h => by
      rcases List.mem_append.mp h with h | h
      · exact hrow r' (List.mem_of_mem_take h)
      · rcases List.mem_cons.mp h with rfl | h
        · exact hxi
        · exact hrow r' (List.mem_of_mem_drop h)
    have hget : (rows.take a ++ xs :: rows.drop (a + 1))[a]? = some xs := by
      rw [List.getElem?_append_right (by simp; omega)]; simp [Nat.min_eq_left (Nat.le_of_lt ha1)]
    have l1 : (cutD rows none (some (a : Int))).length ≤ 1000 := Nat.le_trans cut_len hr
    have l2 : (cutD rows (some ((a : Int) + 1)) none).length ≤ 1000 := Nat.le_trans cut_len hr
    simp [-S_seq, S_seqK, seqK_e, hat, g.mkk]
    refine iteD_of (fun hn => ?_) fun hn => ?_
    · simp at hn
      simp [-S_seq, S_seqK, seqK_e, hat, g.mkk, cut_map, k2]
      refine ⟨szl (by omega), szl (by omega), szl (by omega), szl (by omega), makeP_at (by simpa [iL] using hcat) ok3 ?_⟩
      refine ⟨rfl, szl' (by omega), hK _ _ ⟨rfl, _, _, rfl, fun y hy => ?_, by simp; omega⟩⟩
      rcases List.mem_append.mp hy with hy | hy
      · exact hL y hy
      · simp at hy
        subst hy
        refine NE.rc fun h => hn ?_
        have := hget
        rw [← h.2, hra] at this
        simpa using this.symm
    · simp [-S_seq, S_seqK, seqK_e]
      exact hK _ _ ⟨rfl, L, _, rfl, hL, by omega⟩
  · rintro ρ b' ⟨rfl, L, o6, rfl, hL, hl⟩
    have hl : L.length ≤ 11 := by simpa using hl
    have hrev : (rows.map iL).reverse = rows.reverse.map iL := List.map_reverse.symm
    have ok4 : okRows m rows.reverse := okRows.of ok (by simpa using ok.2.2.1) (by simpa using hr) fun r' h => hrow r' (List.mem_reverse.mp h)
    have fin : ∀ (L : List D) o6 b', b' = b - 1 → (∀ y ∈ L, NE G m rows y) → L.length ≤ 20 → dS G S ⟨[4, 4], []⟩ (((T.callB Blt.any
                            ((((T.cmp CmpOp.Eq (T.var 2) (T.var 7)).or (T.cmp CmpOp.NotEq (T.var 2) (T.var 7)).nt).comp
                                  (T.tName 7) (T.var 4).iSeq T.tYes [7]).cons
                              T.nil)).nt.ret.seq
                    T.done)) [some (.un (.adr p)), some (.un (own m rows)), some (.un (rcp m rows)), some (.un (rcp m rows)), some (.ow L), some (.un (.int (a : Int))), o6, none] b' { nx := fun x b' => Q (Sl.un D.non) b', rt := Q, ex := fun C ds x b => X C ds b } := by
      intro L o6 b' hb' hL hl
      subst hb'
      have hw : L.length < bigW := bgw (by omega)
      simp [-S_seq, S_seqK, seqK_e, hw]
      refine fold_map (f := fun _ => .bl false) (fun x hx fl acc ha K hK => ?_) (szl (by simp; omega)) ?_
      · simp
        refine eq_other kq ok (hL x hx) ?_
        simp
        refine ne_other kq ok (hL x hx) ?_
        simp [ha]
        exact hK
      · simp
        rw [show (L.any fun _ => false) = false by simp]
        exact q
    have fin2 : ∀ (L : List D) o6, (∀ y ∈ L, NE G m rows y) → L.length ≤ 15 → dS G S ⟨[4, 4], []⟩ ((((T.cmp CmpOp.Gt (T.callB Blt.len (((T.var 1).ix (T.int 1)).cons T.nil)) (T.int 1)).tVal.iff
                                (((T.tName 4).asg
                                      (T.bin Operator.Add (T.var 4)
                                        ((T.callC (Str.ofString "Recipe")
                                                (((T.var 1).ix (T.int 0)).cons
                                                  ((((T.var 1).ix (T.int 1)).slc T.skip (T.int 1).neg.pSome).cons
                                                    T.nil))).cons
                                            ((T.callC (Str.ofString "Recipe")
                                                    (((T.var 1).ix (T.int 0)).cons
                                                      ((((T.var 1).ix (T.int 1)).slc (T.int 1).pSome T.skip).cons
                                                        T.nil))).cons
                                              T.nil)).lst)).seq
                                  T.done)
                                T.done).seq
                            ((T.callB Blt.any
                                      ((((T.cmp CmpOp.Eq (T.var 2) (T.var 7)).or
                                                (T.cmp CmpOp.NotEq (T.var 2) (T.var 7)).nt).comp
                                            (T.tName 7) (T.var 4).iSeq T.tYes [7]).cons
                                        T.nil)).nt.ret.seq
                              T.done))) [some (.un (.adr p)), some (.un (own m rows)), some (.un (rcp m rows)), some (.un (rcp m rows)), some (.ow L), some (.un (.int (a : Int))), o6, none] (b - 1) { nx := fun x b' => Q (Sl.un D.non) b', rt := Q, ex := fun C ds x b => X C ds b } := by
      intro L o6 hL hl
      have ok5 : rows.length > 1 → okRows m (cutD rows none (some (-1))) := fun h => okRows.of ok (by rw [cut_last]; intro z; have := congrArg List.length z; simp at this; omega) (Nat.le_trans cut_len hr) fun r' h => hrow r' (cut_sub.subset h)
      have e6 : cutD rows (some 1) none = rows.drop 1 := cut_from (k := 1) (by omega)
      have ok6 : rows.length > 1 → okRows m (cutD rows (some 1) none) := fun h => okRows.of ok (by rw [e6]; intro z; have := congrArg List.length z; simp at this; omega) (Nat.le_trans cut_len hr) fun r' h => hrow r' (cut_sub.subset h)
      have l1 : (cutD rows none (some (-1))).length ≤ 1000 := Nat.le_trans cut_len hr
      have l2 : (cutD rows (some 1) none).length ≤ 1000 := Nat.le_trans cut_len hr
      simp [-S_seq, S_seqK, seqK_e]
      refine iteD_of (fun hn => ?_) fun hn => ?_
      · simp at hn
        have o5 := ok5 (by omega)
        have o6' := ok6 (by omega)
        simp [-S_seq, S_seqK, g.mkk, k2, cut_map, o5, o6']
        refine .inr ⟨szl (by omega), szl (by omega), szl (by omega), ?_⟩
        simp only [seqK_e, S_done]
        refine fin _ o6 _ rfl (fun y hy => ?_) (by simp; omega)
        simp only [List.mem_append, List.mem_cons, List.not_mem_nil, or_false] at hy
        rcases hy with hy | rfl | rfl
        · exact hL y hy
        · exact NE.rc fun h => by have := congrArg List.length h.2; rw [cut_last, List.length_dropLast] at this; omega
        · exact NE.rc fun h => by have := congrArg List.length h.2; rw [e6, List.length_drop] at this; omega
      · simp [-S_seq, S_seqK]
        exact fin L o6 _ rfl hL (by omega)
    simp [-S_seq, -List.map_reverse, S_seqK, seqK_e, hrev]
    refine ⟨szl (by omega), ?_⟩
    refine iteD_of (fun hn => ?_) fun hn => ?_
    · simp [-List.map_reverse] at hn
      simp [-S_seq, -List.map_reverse, S_seqK, g.mkk, hrev, k2, ok4]
      refine ⟨szl (by omega), szl' (by omega), fin2 _ o6 (fun y hy => ?_) (by simp; omega)⟩
      rcases List.mem_append.mp hy with hy | hy
      · exact hL y hy
      · simp at hy
        subst hy
        exact NE.rc fun h => hn h.2.symm
    · simp [-S_seq, S_seqK]
      exact fin2 L o6 hL (by omega)
end K03

set_option Elab.async false
set_option linter.all false
set_option maxRecDepth 100000
set_option maxHeartbeats 1000000
namespace K03
open PySem SL
variable {S : Sps}
abbrev keptP : Pr := ownP fun _ _ => .un (.bl true)
abbrev looksP : Pr := fun ds b Q _ => ∃ m rows, ds = [own m rows, rcp m rows] ∧ okRows m rows ∧ m < 63 ∧ Q (.un (.bl true)) b
abbrev equalP (p : Nat) : Pr := fun ds b Q _ => ∃ m rows, ds = [.adr p, own m rows, rcp m rows] ∧ okRows m rows ∧ m < 63 ∧ rows.length < 900 ∧ 1 ≤ b ∧ Q (.un (.bl true)) (b - 1)
def turn : T := (.seq (.asg (.tName 2) (.lst (.cons (.callF "_law_recipe" (.cons (.var 1) (.cons (.int 7) (.cons (.int 7) .nil)))) (.cons (.callF "_law_recipe" (.cons (.var 1) (.cons (.int 7) (.cons (.int 7) .nil)))) .nil)))) (.seq (.asg (.tName 3) (.comp (.callF "_law_made" (.cons (.var 4) .nil)) (.tName 4) (.iSeq (.var 2)) .tYes [4])) (.seq (.for (.tName 5) (.iSeq (.tup (.cons (.int 0) (.cons (.int 1) (.cons (.int 0) .nil))))) (.seq (.iff (.tOr (.tNot (.tVal (.callF "_law_kept_right" (.cons (.ix (.var 2) (.var 5)) .nil)))) (.tOr (.tNot (.tVal (.callF "_law_looks_right" (.cons (.ix (.var 2) (.var 5)) (.cons (.ix (.var 3) (.var 5)) .nil))))) (.tNot (.tVal (.callF "_law_equal_right" (.cons (.var 1) (.cons (.ix (.var 2) (.var 5)) (.cons (.ix (.var 3) (.var 5)) .nil)))))))) (.seq (.ret (.bl false)) .done) .done) .done)) .done)))
theorem law_is : f_law = ⟨6, 1, .seq (.for (.tName 1) (.iSeq (.callF "_law_purses" (.cons (.var 0) (.cons (.int 1) .nil)))) turn) (.seq (.ret (.bl true)) .done)⟩ := rfl
theorem turn_ok {p : Nat} (k1 : Knows S "_law_recipe" (recipeP p)) (k2 : Knows S "_law_made" madeP) (k3 : Knows S "_law_kept_right" keptP) (k4 : Knows S "_law_looks_right" looksP) (k5 : Knows S "_law_equal_right" (equalP p)) :
    dS G S (muOf turn) turn (none :: some (.un (.adr p)) :: List.replicate 4 none) 1000000 { nx := fun _ _ => True, ct := fun _ _ => True, rt := fun _ _ => False, ex := fun _ _ _ _ => False } := by
  have okr : ∀ {m : Int} {rows : List (List Int)}, 0 ≤ m → m ≤ 7 → rows ≠ [] → (rows.length : Int) ≤ 7 → (∀ r ∈ rows, Rising r m) → okRows m rows := fun h0 h7 hn hl hr => ⟨h0, by omega, hn, by omega, fun r h => ⟨hr r h, by have := rising_len (hr r h) h0; omega⟩⟩
  simp [-S_seq, S_seqK, turn, k1]
  intro m rows b1 h0 h7 hn hl hr hb
  refine ⟨by omega, fun m' rows' b2 h0' h7' hn' hl' hr' hb' => ?_⟩
  have ok := okr h0 h7 hn hl hr
  have ok' := okr h0' h7' hn' hl' hr'
  simp only [seqK_e]
  simp [-S_seq, S_seqK, k2]
  refine ⟨bgw (by omega), ?_⟩
  refine fold_mapM (fl := true) (acc := []) (xs := [(m, rows), (m', rows')]) (g := fun q => own q.1 q.2) (f := fun q => rcp q.1 q.2) (fun q hq fl acc ha K hK => ?_) (szl (by simp)) ?_
  · have okq : okRows q.1 q.2 := by
      simp only [List.mem_cons, List.not_mem_nil, or_false] at hq
      rcases hq with rfl | rfl
      · exact ok
      · exact ok'
    simp [k2, okq, ha]
    exact hK
  · simp only [seqK_e]
    simp [-S_seq, S_seqK]
    refine ⟨bgw (by omega), ?_⟩
    refine fold_inv (fun t ρ b' => b2 ≤ b' + t ∧ ∃ o4 o5, ρ = [none, some (.un (.adr p)), some (.un (.lst [own m rows, own m' rows'])), some (.un (.lst [rcp m rows, rcp m' rows'])), o4, o5]) ⟨by omega, none, none, rfl⟩ ?_ ?_
    · rintro t x ρ b' hx ⟨hb3, o4, o5, rfl⟩ K hK
      have ht : t < 3 := (List.getElem?_eq_some_iff.mp hx).1
      have hx2 : x = .int 0 ∨ x = .int 1 := by
        match t, hx with
        | 0, e => cases e; exact .inl rfl
        | 1, e => cases e; exact .inr rfl
        | 2, e => cases e; exact .inl rfl
      clear hx
      rcases hx2 with rfl | rfl
      · simp [-S_seq, S_seqK, k3]
        refine ⟨m, rows, rfl, ok, by omega, ?_⟩
        simp [-S_seq, S_seqK, k4]
        refine ⟨m, rows, rfl, ok, by omega, ?_⟩
        simp [-S_seq, S_seqK, k5]
        refine ⟨m, rows, rfl, ok, by omega, by omega, by omega, ?_⟩
        simp [-S_seq, S_seqK, seqK_e]
        exact hK _ _ ⟨by omega, _, _, rfl⟩
      · simp [-S_seq, S_seqK, k3]
        refine ⟨m', rows', rfl, ok', by omega, ?_⟩
        simp [-S_seq, S_seqK, k4]
        refine ⟨m', rows', rfl, ok', by omega, ?_⟩
        simp [-S_seq, S_seqK, k5]
        refine ⟨m', rows', rfl, ok', by omega, by omega, by omega, ?_⟩
        simp [-S_seq, S_seqK, seqK_e]
        exact hK _ _ ⟨by omega, _, _, rfl⟩
    · rintro ρ b' ⟨_, o4, o5, rfl⟩
      simp [-S_seq, S_seqK, seqK_e]
end K03

set_option Elab.async false
set_option linter.all false
set_option maxRecDepth 100000
set_option maxHeartbeats 1000000
namespace K03
open PySem SL
theorem recG : RecG G := ⟨rfl, rfl, ⟨rfl, rfl, rfl, rfl⟩, rfl, by decide +kernel⟩
theorem count_ps {F : Frm} {k : Nat} (hk : 0 < k) : PS F G k "is_count" countP := ps_def (fd := F_is_count) (d := 0) (l := []) (lk := []) (lq := []) hk rfl (.nil) .nil .nil fun S hS {ds b Q X} q => count_body  q
theorem bits_ps {F : Frm} {k : Nat} (hk : 0 < k) : PS F G k "bits_of" bitsP := ps_def (fd := F_bits_of) (d := 0) (l := []) (lk := []) (lq := []) hk rfl (.nil) .nil .nil fun S hS {ds b Q X} q => bits_body  q
theorem many_ps {F : Frm} {k : Nat} (hk : 0 < k) : PS F G k "Recipe.many" manyP := ps_def (fd := F_Recipe_many) (d := 0) (l := []) (lk := []) (lq := []) hk rfl (.nil) .nil .nil fun S hS {ds b Q X} q => many_body recG  q
theorem size_ps {F : Frm} {k : Nat} (hk : 0 < k) : PS F G k "Recipe.size" sizeP := ps_def (fd := F_Recipe_size) (d := 0) (l := []) (lk := []) (lq := []) hk rfl (.nil) .nil .nil fun S hS {ds b Q X} q => size_body recG  q
theorem needs_ps {F : Frm} {k : Nat} (hk : 0 < k) : PS F G k "Recipe.needs" needsP := ps_def (fd := F_Recipe_needs) (d := 0) (l := []) (lk := []) (lq := []) hk rfl (.nil) .nil .nil fun S hS {ds b Q X} q => needs_body recG  q
theorem check_ps {F : Frm} {k : Nat} (hk : 0 < k) : PS F G k "check_recipe" checkP := ps_def (fd := F_check_recipe) (d := 0) (l := []) (lk := []) (lq := []) hk rfl (.nil) .nil .nil fun S hS {ds b Q X} q => check_body recG  q
theorem usedIn_ps {F : Frm} {k : Nat} (hk : 0 < k) : PS F G k "used_in" usedInP := ps_def (fd := F_used_in) (d := 0) (l := []) (lk := []) (lq := []) hk rfl (.nil) .nil .nil fun S hS {ds b Q X} q => usedIn_body recG  q
theorem eq_ps {F : Frm} {k : Nat} (hk : 0 < k) : PS F G k "Recipe.__eq__" (eqPr G) := ps_def (fd := F_Recipe___eq) (d := 0) (l := []) (lk := []) (lq := []) hk rfl (.nil) .nil .nil fun S hS {ds b Q X} q => eq_body recG  q
theorem union_ps {F : Frm} {k : Nat} (hk : 0 < k) : PS F G k "_law_union" unionP := ps_def (fd := F_law_union) (d := 0) (l := []) (lk := []) (lq := []) hk rfl (.nil) .nil .nil fun S hS {ds b Q X} q => union_body  q
theorem rising_ps {F : Frm} {k : Nat} (hk : 1 < k) : PS F G k "is_rising" risingP := ps_def (fd := F_is_rising) (d := 1) (l := [("is_count", countP)]) (lk := []) (lq := []) hk rfl (.cons (fun j h => count_ps (by omega)) <| .nil) .nil .nil fun S hS {ds b Q X} q => rising_body (fun _ _ _ _ => by rw [hS]; rfl) q
theorem block_ps {F : Frm} {k : Nat} (hk : 1 < k) : PS F G k "check_block" blockP := ps_def (fd := F_check_block) (d := 1) (l := [("is_count", countP)]) (lk := []) (lq := []) hk rfl (.cons (fun j h => count_ps (by omega)) <| .nil) .nil .nil fun S hS {ds b Q X} q => block_body recG (fun _ _ _ _ => by rw [hS]; rfl) q
theorem users_ps {F : Frm} {k : Nat} (hk : 1 < k) : PS F G k "users_of" usersP := ps_def (fd := F_users_of) (d := 1) (l := [("check_recipe", checkP), ("is_count", countP)]) (lk := []) (lq := []) hk rfl (.cons (fun j h => check_ps (by omega)) <| .cons (fun j h => count_ps (by omega)) <| .nil) .nil .nil fun S hS {ds b Q X} q => users_body recG (fun _ _ _ _ => by rw [hS]; rfl) (fun _ _ _ _ => by rw [hS]; rfl) q
theorem used_ps {F : Frm} {k : Nat} (hk : 1 < k) : PS F G k "used" usedP := ps_def (fd := F_used) (d := 1) (l := [("check_recipe", checkP), ("used_in", usedInP)]) (lk := []) (lq := []) hk rfl (.cons (fun j h => check_ps (by omega)) <| .cons (fun j h => usedIn_ps (by omega)) <| .nil) .nil .nil fun S hS {ds b Q X} q => used_body recG (fun _ _ _ _ => by rw [hS]; rfl) (fun _ _ _ _ => by rw [hS]; rfl) q
theorem idle_ps {F : Frm} {k : Nat} (hk : 1 < k) : PS F G k "idle" idleP := ps_def (fd := F_idle) (d := 1) (l := [("check_recipe", checkP), ("used_in", usedInP)]) (lk := []) (lq := []) hk rfl (.cons (fun j h => check_ps (by omega)) <| .cons (fun j h => usedIn_ps (by omega)) <| .nil) .nil .nil fun S hS {ds b Q X} q => idle_body recG (fun _ _ _ _ => by rw [hS]; rfl) (fun _ _ _ _ => by rw [hS]; rfl) q
theorem needsOf_ps {F : Frm} {k : Nat} (hk : 2 < k) : PS F G k "needs_of" needsOfP := ps_def (fd := F_needs_of) (d := 2) (l := [("check_recipe", checkP), ("check_block", blockP)]) (lk := []) (lq := []) hk rfl (.cons (fun j h => check_ps (by omega)) <| .cons (fun j h => block_ps (by omega)) <| .nil) .nil .nil fun S hS {ds b Q X} q => needsOf_body recG (fun _ _ _ _ => by rw [hS]; rfl) (fun _ _ _ _ => by rw [hS]; rfl) q
theorem mk_ps {F : Frm} {k : Nat} (hk : 3 < k) : MS F G k "Recipe" makeP := make_ms recG rfl (fun j h => count_ps (by omega)) (fun j h => rising_ps (by omega)) (fun j h => bits_ps (by omega)) hk
theorem qs_ps {F : Frm} {k : Nat} (hk : 1 < k) : QS F G k "Recipe" (eqQ G) := eq_qs recG (fun j h => eq_ps (by omega)) hk
theorem one_ps {p : Nat} {k : Nat} (hk : 2 < k) : PS (purseF p) G k "_law_one_of" (oneP p) := ps_def (fd := F_law_one_of) (d := 2) (l := [("_law_draw", drawP p)]) (lk := []) (lq := []) hk rfl (.cons (fun j h => draw_ps rfl rfl (by omega)) <| .nil) .nil .nil fun S hS {ds b Q X} q => one_body (fun _ _ _ _ => by rw [hS]; rfl) q
theorem row_ps {p : Nat} {k : Nat} (hk : 2 < k) : PS (purseF p) G k "_law_row" (rowP p) := ps_def (fd := F_law_row) (d := 2) (l := [("_law_draw", drawP p)]) (lk := []) (lq := []) hk rfl (.cons (fun j h => draw_ps rfl rfl (by omega)) <| .nil) .nil .nil fun S hS {ds b Q X} q => row_body (fun _ _ _ _ => by rw [hS]; rfl) q
theorem recipe_ps {p : Nat} {k : Nat} (hk : 3 < k) : PS (purseF p) G k "_law_recipe" (recipeP p) := ps_def (fd := F_law_recipe) (d := 3) (l := [("_law_draw", drawP p), ("_law_row", rowP p), ("_law_one_of", oneP p)]) (lk := []) (lq := []) hk rfl (.cons (fun j h => draw_ps rfl rfl (by omega)) <| .cons (fun j h => row_ps (by omega)) <| .cons (fun j h => one_ps (by omega)) <| .nil) .nil .nil fun S hS {ds b Q X} q => recipe_body (fun _ _ _ _ => by rw [hS]; rfl) (fun _ _ _ _ => by rw [hS]; rfl) (fun _ _ _ _ => by rw [hS]; rfl) q
theorem made_ps {F : Frm} {k : Nat} (hk : 4 < k) : PS F G k "_law_made" madeP := ps_def (fd := F_law_made) (d := 4) (l := []) (lk := [("Recipe", makeP)]) (lq := []) hk rfl (.nil) (.cons (fun j h => mk_ps (by omega)) .nil) .nil fun S hS {ds b Q X} q => made_body recG (fun _ _ _ _ => by rw [hS]; rfl) q
theorem kept_ps {F : Frm} {k : Nat} (hk : 6 < k) : PS F G k "_law_kept_right" keptP := ps_def (fd := f_law_kept_right) (d := 6) (l := [("_law_same", sameP 6), ("_law_exact", exactP 6), ("Recipe.many", manyP), ("Recipe.needs", needsP), ("Recipe.size", sizeP)]) (lk := [("Recipe", makeP)]) (lq := []) hk rfl (.cons (fun j h => same_ps rfl 6 j (by omega)) <| .cons (fun j h => exact_ps rfl 6 j (by omega)) <| .cons (fun j h => many_ps (by omega)) <| .cons (fun j h => needs_ps (by omega)) <| .cons (fun j h => size_ps (by omega)) <| .nil) (.cons (fun j h => mk_ps (by omega)) .nil) .nil fun S hS {ds b Q X} q => kept_body recG (fun _ _ _ _ => by rw [hS]; rfl) (fun _ _ _ _ => by rw [hS]; rfl) (fun _ _ _ _ => by rw [hS]; rfl) (fun _ _ _ _ => by rw [hS]; rfl) (fun _ _ _ _ => by rw [hS]; rfl) (fun _ _ _ _ => by rw [hS]; rfl) q
theorem looks_ps {F : Frm} {k : Nat} (hk : 6 < k) : PS F G k "_law_looks_right" looksP := ps_def (fd := f_law_looks_right) (d := 6) (l := [("_law_union", unionP), ("used", usedP), ("_law_exact", exactP 6), ("idle", idleP), ("needs_of", needsOfP), ("users_of", usersP)]) (lk := []) (lq := []) hk rfl (.cons (fun j h => union_ps (by omega)) <| .cons (fun j h => used_ps (by omega)) <| .cons (fun j h => exact_ps rfl 6 j (by omega)) <| .cons (fun j h => idle_ps (by omega)) <| .cons (fun j h => needsOf_ps (by omega)) <| .cons (fun j h => users_ps (by omega)) <| .nil) .nil .nil fun S hS {ds b Q X} q => looks_body recG (fun _ _ _ _ => by rw [hS]; rfl) (fun _ _ _ _ => by rw [hS]; rfl) (fun _ _ _ _ => by rw [hS]; rfl) (fun _ _ _ _ => by rw [hS]; rfl) (fun _ _ _ _ => by rw [hS]; rfl) (fun _ _ _ _ => by rw [hS]; rfl) q
theorem equal_ps {p : Nat} {k : Nat} (hk : 6 < k) : PS (purseF p) G k "_law_equal_right" (equalP p) := ps_def (fd := f_law_equal_right) (d := 6) (l := [("_law_made", madeP), ("_law_draw", drawP p)]) (lk := [("Recipe", makeP)]) (lq := [("Recipe", eqQ G)]) hk rfl (.cons (fun j h => made_ps (by omega)) <| .cons (fun j h => draw_ps rfl rfl (by omega)) <| .nil) (.cons (fun j h => mk_ps (by omega)) .nil) (.cons (fun j h => qs_ps (by omega)) .nil) fun S hS {ds b Q X} q => equal_body recG (fun _ _ _ _ => by rw [hS]; rfl) (fun _ _ _ _ => by rw [hS]; rfl) (fun _ _ _ _ => by rw [hS]; rfl) (fun _ _ _ _ => by rw [hS]; rfl) q
theorem answers : SL.Answers G 8 "law" 63 := law_B (nS := 4) (k := 7) rfl rfl rfl (by omega) fun p =>
  ⟨mkS [("_law_recipe", recipeP p), ("_law_made", madeP), ("_law_kept_right", keptP), ("_law_looks_right", looksP), ("_law_equal_right", equalP p)] [] [], muOf turn,
    spok (fun q hq => by
      simp only [List.mem_cons, List.not_mem_nil, or_false] at hq
      rcases hq with rfl | rfl | rfl | rfl | rfl
      · exact recipe_ps (by omega)
      · exact made_ps (by omega)
      · exact kept_ps (by omega)
      · exact looks_ps (by omega)
      · exact equal_ps (by omega)) (fun _ z => nomatch z) (fun _ z => nomatch z),
    turn_ok (fun _ _ _ _ => rfl) (fun _ _ _ _ => rfl) (fun _ _ _ _ => rfl) (fun _ _ _ _ => rfl) (fun _ _ _ _ => rfl)⟩
end K03

open PySem PySem.W PyProof.Rows
set_option maxRecDepth 100000 in
set_option maxHeartbeats 0 in
theorem PySem.Challenge.cw_sparecells_k03_whole_recipes_holds : PySem.Challenge.rw_sparecells_k03_whole_recipes.Holds := by
  w_on; o_law; k_head; (case hw => w_witness2)
  k_fill
  refine L2.walk_of (l := PySem.Challenge.rw_sparecells_k03_whole_recipes) (n := 63) (k := 8) (x := "_law_script") (CX := fun w => L2.CX PySem.Challenge.rw_sparecells_k03_whole_recipes.prog w) (sp := fun w => SL.spLaw 63) rfl (by decide) rfl ⟨rfl, by decide, by decide⟩ (fun w h Y => PySem.W.kIn_of Y) ?F ?S (fun _ _ _ _ _ z => SL.cx_no z)
  case F =>
    intro w mg fa h KX G hmg
    refine' K03.all_mk KX G hmg ?g_C_Recipe ?pg_C_Recipe ?hd_C_Recipe ?po_C_Recipe ?sa_C_Recipe ?c1_C_Recipe ?c4_C_Recipe ?mk_C_Recipe ?kp_C_Recipe ?ic_C_Recipe ?tc_C_Recipe ?nf_C_Recipe_old ?nf_C_Recipe_rows ?nf_C_Recipe_bits ?nf_C_Recipe_known ?me_Recipe___init ?me_Recipe_many ?me_Recipe_needs ?me_Recipe_size ?me_Recipe___eq ?ne_C_Recipe ?sb_C_Recipe_int ?sb_C_Recipe_bool ?sb_C_Recipe_str ?sb_C_Recipe_list ?sb_C_Recipe_tuple ?sb_C_Recipe_dict ?st_NoneType_C_Recipe ?st_bool_C_Recipe ?st_int_C_Recipe ?st_str_C_Recipe ?st_list_C_Recipe ?st_tuple_C_Recipe ?st_dict_C_Recipe ?c2 ?c3 ?g_a_is_count ?l_is_count ?k_is_count ?kp_is_count ?g_a_is_rising ?l_is_rising ?k_is_rising ?kp_is_rising ?g_a_bits_of ?l_bits_of ?k_bits_of ?kp_bits_of ?l_Recipe___init ?k_Recipe___init ?kp_Recipe___init ?fn_Recipe___init ?l_Recipe_many ?k_Recipe_many ?kp_Recipe_many ?fn_Recipe_many ?l_Recipe_needs ?k_Recipe_needs ?kp_Recipe_needs ?fn_Recipe_needs ?l_Recipe_size ?k_Recipe_size ?kp_Recipe_size ?fn_Recipe_size ?l_Recipe___eq ?k_Recipe___eq ?kp_Recipe___eq ?fn_Recipe___eq ?g_a_check_recipe ?l_check_recipe ?k_check_recipe ?kp_check_recipe ?g_a_check_block ?l_check_block ?k_check_block ?kp_check_block ?g_a_needs_of ?l_needs_of ?k_needs_of ?kp_needs_of ?g_a_users_of ?l_users_of ?k_users_of ?kp_users_of ?g_a_used_in ?l_used_in ?k_used_in ?kp_used_in ?g_a_used ?l_used ?k_used ?kp_used ?g_a_idle ?l_idle ?k_idle ?kp_idle ?g_a_law_purse ?l_law_purse ?k_law_purse ?kp_law_purse ?g_a_law_mixed ?l_law_mixed ?k_law_mixed ?kp_law_mixed ?g_a_law_draw ?l_law_draw ?k_law_draw ?kp_law_draw ?g_a_law_purses ?l_law_purses ?k_law_purses ?kp_law_purses ?g_a_law_one_of ?l_law_one_of ?k_law_one_of ?kp_law_one_of ?g_a_law_same ?l_law_same ?k_law_same ?kp_law_same ?g_a_law_exact ?l_law_exact ?k_law_exact ?kp_law_exact ?g_a_law_row ?l_law_row ?k_law_row ?kp_law_row ?g_a_law_recipe ?l_law_recipe ?k_law_recipe ?kp_law_recipe ?g_a_law_made ?l_law_made ?k_law_made ?kp_law_made ?g_a_law_union ?l_law_union ?k_law_union ?kp_law_union ?g_a_law_kept_right ?l_law_kept_right ?k_law_kept_right ?kp_law_kept_right ?g_a_law_looks_right ?l_law_looks_right ?k_law_looks_right ?kp_law_looks_right ?g_a_law_equal_right ?l_law_equal_right ?k_law_equal_right ?kp_law_equal_right ?g_a_law ?l_law ?k_law ?kp_law ?z_int ?z_bool ?z_str ?z_list ?z_tuple ?z_dict ?z_len ?z_sum ?z_max ?z_min ?z_all ?z_any ?z_sorted ?z_isinstance ?z_range ?z_enumerate ?z_zip K03.answers
    (case g_C_Recipe => k_is); (case pg_C_Recipe => k_is); (case hd_C_Recipe => k_is); (case po_C_Recipe => k_is); (case sa_C_Recipe => k_is); (case c1_C_Recipe => k_is); (case c4_C_Recipe => k_is); (case mk_C_Recipe => k_is)
    (case kp_C_Recipe => k_is); (case ic_C_Recipe => k_is); (case tc_C_Recipe => k_is); (case nf_C_Recipe_old => k_is); (case nf_C_Recipe_rows => k_is); (case nf_C_Recipe_bits => k_is); (case nf_C_Recipe_known => k_is); (case me_Recipe___init => k_is)
    (case me_Recipe_many => k_is); (case me_Recipe_needs => k_is); (case me_Recipe_size => k_is); (case me_Recipe___eq => k_is); (case ne_C_Recipe => k_is); (case sb_C_Recipe_int => k_is); (case sb_C_Recipe_bool => k_is); (case sb_C_Recipe_str => k_is)
    (case sb_C_Recipe_list => k_is); (case sb_C_Recipe_tuple => k_is); (case sb_C_Recipe_dict => k_is); (case st_NoneType_C_Recipe => k_is); (case st_bool_C_Recipe => k_is); (case st_int_C_Recipe => k_is); (case st_str_C_Recipe => k_is); (case st_list_C_Recipe => k_is)
    (case st_tuple_C_Recipe => k_is); (case st_dict_C_Recipe => k_is); (case c2 => k_is); (case c3 => k_is); (case g_a_is_count => k_is); (case l_is_count => k_is); (case k_is_count => k_is); (case kp_is_count => k_is)
    (case g_a_is_rising => k_is); (case l_is_rising => k_is); (case k_is_rising => k_is); (case kp_is_rising => k_is); (case g_a_bits_of => k_is); (case l_bits_of => k_is); (case k_bits_of => k_is); (case kp_bits_of => k_is)
    (case l_Recipe___init => k_is); (case k_Recipe___init => k_is); (case kp_Recipe___init => k_is); (case fn_Recipe___init => k_is); (case l_Recipe_many => k_is); (case k_Recipe_many => k_is); (case kp_Recipe_many => k_is); (case fn_Recipe_many => k_is)
    (case l_Recipe_needs => k_is); (case k_Recipe_needs => k_is); (case kp_Recipe_needs => k_is); (case fn_Recipe_needs => k_is); (case l_Recipe_size => k_is); (case k_Recipe_size => k_is); (case kp_Recipe_size => k_is); (case fn_Recipe_size => k_is)
    (case l_Recipe___eq => k_is); (case k_Recipe___eq => k_is); (case kp_Recipe___eq => k_is); (case fn_Recipe___eq => k_is); (case g_a_check_recipe => k_is); (case l_check_recipe => k_is); (case k_check_recipe => k_is); (case kp_check_recipe => k_is)
    (case g_a_check_block => k_is); (case l_check_block => k_is); (case k_check_block => k_is); (case kp_check_block => k_is); (case g_a_needs_of => k_is); (case l_needs_of => k_is); (case k_needs_of => k_is); (case kp_needs_of => k_is)
    (case g_a_users_of => k_is); (case l_users_of => k_is); (case k_users_of => k_is); (case kp_users_of => k_is); (case g_a_used_in => k_is); (case l_used_in => k_is); (case k_used_in => k_is); (case kp_used_in => k_is)
    (case g_a_used => k_is); (case l_used => k_is); (case k_used => k_is); (case kp_used => k_is); (case g_a_idle => k_is); (case l_idle => k_is); (case k_idle => k_is); (case kp_idle => k_is)
    (case g_a_law_purse => k_is); (case l_law_purse => k_is); (case k_law_purse => k_is); (case kp_law_purse => k_is); (case g_a_law_mixed => k_is); (case l_law_mixed => k_is); (case k_law_mixed => k_is); (case kp_law_mixed => k_is)
    (case g_a_law_draw => k_is); (case l_law_draw => k_is); (case k_law_draw => k_is); (case kp_law_draw => k_is); (case g_a_law_purses => k_is); (case l_law_purses => k_is); (case k_law_purses => k_is); (case kp_law_purses => k_is)
    (case g_a_law_one_of => k_is); (case l_law_one_of => k_is); (case k_law_one_of => k_is); (case kp_law_one_of => k_is); (case g_a_law_same => k_is); (case l_law_same => k_is); (case k_law_same => k_is); (case kp_law_same => k_is)
    (case g_a_law_exact => k_is); (case l_law_exact => k_is); (case k_law_exact => k_is); (case kp_law_exact => k_is); (case g_a_law_row => k_is); (case l_law_row => k_is); (case k_law_row => k_is); (case kp_law_row => k_is)
    (case g_a_law_recipe => k_is); (case l_law_recipe => k_is); (case k_law_recipe => k_is); (case kp_law_recipe => k_is); (case g_a_law_made => k_is); (case l_law_made => k_is); (case k_law_made => k_is); (case kp_law_made => k_is)
    (case g_a_law_union => k_is); (case l_law_union => k_is); (case k_law_union => k_is); (case kp_law_union => k_is); (case g_a_law_kept_right => k_is); (case l_law_kept_right => k_is); (case k_law_kept_right => k_is); (case kp_law_kept_right => k_is)
    (case g_a_law_looks_right => k_is); (case l_law_looks_right => k_is); (case k_law_looks_right => k_is); (case kp_law_looks_right => k_is); (case g_a_law_equal_right => k_is); (case l_law_equal_right => k_is); (case k_law_equal_right => k_is); (case kp_law_equal_right => k_is)
    (case g_a_law => k_is); (case l_law => k_is); (case k_law => k_is); (case kp_law => k_is); (case z_int => k_is); (case z_bool => k_is); (case z_str => k_is); (case z_list => k_is)
    (case z_tuple => k_is); (case z_dict => k_is); (case z_len => k_is); (case z_sum => k_is); (case z_max => k_is); (case z_min => k_is); (case z_all => k_is); (case z_any => k_is)
    (case z_sorted => k_is); (case z_isinstance => k_is); (case z_range => k_is); (case z_enumerate => k_is); (case z_zip => k_is)
  case S =>
    intro w H a ns hl hO hS
    exact SL.law_start hl hO hS (by kernel_rfl)

