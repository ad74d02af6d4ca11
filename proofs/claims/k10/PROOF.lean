import PyProof.Rows.All
import Wide.All
import OpenK.AllK
import Wide.FinOn
import HandS.ForMost
import HandS.ForExc
import HandS.Deep
import HandS.Wide
import HandS.Style
import HandS.IsInst
import HandS.TupAny
import HandS.WideBits
import HandS.Strs
import HandS.Flow
import HandS.HotCalls
import HandS.ExcInit
import HandS.CallLocal
import HandS.ExcField
import HandS.Small
import HandS.More
import HandS.Head0
import HandS.Head1
import HandS.Head2
import HandS.HeadEnd
import HandS.HeadHook1
import HandS.HeadHook2
import HandS.HeadHook3
import HandS.EndBits
import HandS.Defaults
import HandS.SetFor
import HandS.TryOnly
import KE.KExcInit
import KE.KDictZip
import PySem.Challenge.RW_kindweft_k10_kinds_read_off
set_option Elab.async false
set_option linter.all false
set_option maxRecDepth 100000
/-! HiSyn: a small language of our own with an evaluator: data as trees, mutable things as cells of a store. -/
namespace HI
open PySem L2

/-- the built-in classes that are named -/
inductive Bt where
  | non | bool | int | str | list | tuple | dict | set
  deriving DecidableEq, Inhabited
def Bt.nm : Bt → String
  | .non => "NoneType" | .bool => "bool" | .int => "int" | .str => "str" | .list => "list" | .tuple => "tuple" | .dict => "dict" | .set => "set"
/-- data. `ref r`: the cell r of the store (a thing that may still change); all else never changes -/
inductive D where
  | non | bl (b : Bool) | int (i : Int) | str (x : Str)
  | lst (xs : List D) | tup (xs : List D)
  | dK (ks : List Key) (vs : List D)
  | dT (ks : List (List Key)) (vs : List D)
  | ins (c : Nat) (ns : List Str) (fs : List D)
  | ref (r : Nat)
  | fn (f : Nat) | cls (c : Nat) | ty (n : Bt)
  /-- a caught exception: it stands in a slot alone -/
  | xc (c : Nat) (ns : List Str) (fs : List D)
  /-- the law's own list of numbers; a tuple of the text's top -/
  | scr (is : List Int) | kt (xs : List D)
  /-- a tuple whose methods are called: no key of a dict -/
  | ntup (xs : List D)
  /-- a dict of the text's top; a set of ints, in order -/
  | kd (ks : List Key) (vs : List D) | set (is : List Int)
  deriving Inhabited

inductive Cell where
  | dead
  | lst (xs : List D)
  | dK (ks : List Key) (vs : List D)
  | dT (ks : List (List Key)) (vs : List D)
  | ins (c : Nat) (ns : List Str) (fs : List D)
  deriving Inhabited

/-- the cells from `off` on -/
structure Store where
  off : Nat
  cs : List Cell
def Store.get (S : Store) (r : Nat) : Option Cell := if r < S.off then none else S.cs[r - S.off]?
def Store.put (S : Store) (r : Nat) (c : Cell) : Store := ⟨S.off, S.cs.set (r - S.off) c⟩
def Store.top (S : Store) : Nat := S.off + S.cs.length
def Store.new (S : Store) (c : Cell) : Store := ⟨S.off, S.cs ++ [c]⟩
abbrev Env := List (Option D)

/-- an exception: its class, its fields -/
structure Exc where
  c : Nat
  ns : List Str
  fs : List D

inductive R (α : Type) where
  | ok (a : α) (S : Store)
  | er (x : Exc) (S : Store)
  | bad

def R.bind {α β : Type} (r : R α) (f : α → Store → R β) : R β :=
  match r with
  | .ok a S => f a S
  | .er x S => .er x S
  | .bad => .bad

/-! ### the syntax -/
inductive BOp where
  | add | sub | mul | mulW | fdiv | fdivW | mod | pow | shl | shr | band | bor | bxor
  deriving DecidableEq
inductive COp where
  | lt | le | gt | ge | eq | ne | isin | notin | iss | isnot
  deriving DecidableEq
/-- the functions that are built in -/
inductive BI where
  | len | abs | list | tuple | all | any | sum | sorted | min2 | max2 | isinst | int | str | repr | dictzip | setlen | setsorted | listrange
  deriving DecidableEq
/-- the methods of things that are built in -/
inductive BM where
  | append | pop | popAt | clear | reverse | insert | remove | index | join | split | startswith | bitlen | upper
  deriving DecidableEq

/-- operations upon values -/
inductive Op where
  | bin (o : BOp) | neg | cmp (o : COp)
  | lst | lstM | tup | dK (ks : List Key) | dKM | dTM
  | sub | slc (lo hi : Bool)
  | fld (f : Str)
  | bi (b : BI)
  | frz | mut
  | sOf | sSub | sAnd | sEq | sLen | sSort | dz
  deriving DecidableEq

mutual
inductive E where
  | not (a : E) | efld (i : Nat) (f : Str)
  | var (i : Nat) | con (x : Str) | gfn (f : Nat) | gcl (c : Nat) | gty (n : Bt)
  | int (i : Int) | str (x : Str) | bl (b : Bool) | non
  | op (o : Op) (es : Es) | bm (m : BM) (o : E) (es : Es)
  | and (a b : E) | or (a b : E) | ife (t a b : E)
  | chain (o1 o2 : COp) (a b c : E)
  | call (f : Nat) (es : Es)
  | calld (e : E) (es : Es)
  | meth (e : E) (m : Str) (es : Es)
  | make (c : Nat) (es : Es)
  | lc (own : List Nat) (tg : Tg) (it : It) (ifs : Es) (elt : E)
  | lc2 (own : List Nat) (tg : Tg) (it : It) (ifs : Es) (tg1 : Tg) (it1 : It) (ifs1 : Es) (elt : E)
inductive Es where
  | nil | cons (e : E) (es : Es)
/-- what is walked -/
inductive It where
  | val (e : E) | range1 (a : E) | range2 (a b : E) | enum (e : E) | zip (a b : E)
/-- targets -/
inductive Tg where
  | name (i : Nat) | tup (ts : Tgs) | star (ts : Tgs) (i : Nat) | fld (i : Nat) (f : Str)
inductive Tgs where
  | nil | cons (t : Tg) (ts : Tgs)
end

mutual
inductive S where
  | expr (e : E)
  | asg (t : Tg) (e : E)
  | par (i j : Nat) (a b : E)
  | aug (i : Nat) (o : BOp) (e : E)
  | setf (o : E) (f : Str) (e : E)
  | augf (o : E) (f : Str) (b : BOp) (e : E)
  | seti (o i e : E)
  | ife (t : E) (a b : Ss)
  | ret (e : E) | retN
  | forr (t : Tg) (it : It) (b : Ss)
  | wh (fuel : Nat) (t : E) (b : Ss)
  | raise (c : Nat) (es : Es)
  | trye (b : Ss) (cs : List Nat) (i : Nat) (h : Ss)
  | brk | cont | pass
  /-- nothing in the program: the thing at a slot is held still from here on -/
  | still (i : Nat)
inductive Ss where
  | nil | cons (s : S) (ss : Ss)
end

structure FnDef where
  np : Nat
  ns : Nat
  body : Ss
  /-- it is run over a store of its own -/
  iso : Bool := false
structure ClsDef where
  nm : Str
  init : Nat
  meths : List (Str × Nat)
  flds : List Str
/-- the built-in bases of the text's own exceptions -/
inductive XB where
  | value | lookup | runtime
  deriving DecidableEq, Inhabited
/-- where a field comes from: the i-th argument, a text -/
inductive Src where
  | arg (i : Nat) | txt (x : Str)
  deriving DecidableEq, Inhabited
def Src.d (ws : List D) : Src → D
  | .arg i => ws.getD i .non
  | .txt x => .str x
/-- an exception's class: the classes above it (itself too), its built-in base; its __init__ calls the base's, or the one's of an own class with such arguments, then stores asg; flds: what the object then has -/
structure ExcDef where
  up : List Nat
  base : XB
  args : Nat
  own : Option (Nat × List Src)
  asg : List (Str × Src)
  flds : List (Str × Src)
def ExcDef.ns (C : ExcDef) : List Str := C.flds.map (·.1)
def ExcDef.fill (C : ExcDef) (xs : List D) : List D := C.flds.map fun p => p.2.d xs
structure Prog where
  fns : List FnDef
  cls : List ClsDef
  exc : List ExcDef
  con : List (Str × D)

/-! ### what operations give -/
def natOf (r : Option Nat) : Nat := r.getD 0
def seqOf (S : Store) : D → Option (List D)
  | .lst xs => some xs
  | .tup xs => some xs
  | .kt xs => some xs
  | .ntup xs => some xs
  | .ref r => match S.get r with
    | some (.lst xs) => some xs
    | _ => none
  | _ => none
def lstOf (S : Store) : D → Option (List D)
  | .lst xs => some xs
  | .ref r => match S.get r with
    | some (.lst xs) => some xs
    | _ => none
  | _ => none
def signs (x : Str) : List D := x.cps.toList.map fun c => .str ⟨#[c]⟩
def keyD : Key → D
  | .inl i => .int i
  | .inr x => .str x
/-- what a loop walks: it stands still -/
def walkOf : D → Option (List D)
  | .str x => some (signs x)
  | .lst xs => some xs
  | .tup xs => some xs
  | .kt xs => some xs
  | .ntup xs => some xs
  | _ => none
def frzL : D → Option (List D)
  | .lst xs => some xs
  | _ => none

mutual
def toPy : D → Option PyData
  | .non => some .none
  | .bl b => some (.bool b)
  | .int i => some (.int i)
  | .str x => some (.str x)
  | .lst xs => (toPys xs).map .list
  | .tup xs => (toPys xs).map .tuple
  | .kt xs => (toPys xs).map .tuple
  | .ntup xs => (toPys xs).map .tuple
  | _ => none
def toPys : List D → Option (List PyData)
  | [] => some []
  | x :: xs => match toPy x, toPys xs with
    | some d, some ds => some (d :: ds)
    | _, _ => none
end
def toPyS (S : Store) : D → Option PyData
  | .ref r => match S.get r with
    | some (.lst xs) => (toPys xs).map .list
    | _ => none
  | d => toPy d

/-- scalars -/
def flat : D → Bool
  | .non => true | .bl _ => true | .int _ => true | .str _ => true | _ => false
def flatEq : D → D → Bool
  | .non, .non => true
  | .bl a, .bl b => a == b
  | .int a, .int b => a == b
  | .str a, .str b => a == b
  | .bl a, .int j => (if a then 1 else 0) == j
  | .int i, .bl b => i == (if b then 1 else 0)
  | _, _ => false
def eqD (S : Store) (x y : D) : Option Bool :=
  match toPyS S x, toPyS S y with
  | some d, some e => if SeqAt.shaped d && SeqAt.shaped e then some (PyData.eqv d e) else none
  | _, _ => none
/-- x in a list or tuple -/
def inD (S : Store) (x y : D) : Option Bool :=
  match seqOf S y with
  | none => none
  | some ys =>
    if flat x && ys.all flat then some (ys.any fun y => flatEq y x)
    else match toPyS S x, toPyS S y with
      | some d, some (.list es) => if SeqAt.shaped d && SeqAt.shaped (.list es) then some (es.any fun e => PyData.eqv e d) else none
      | _, _ => none
/-- truth of a value in a test -/
def truthD (S : Store) : D → Option Bool
  | .non => some false
  | .bl b => some b
  | .int i => some (i != 0)
  | .str x => if x.length ≤ sizeLine then some (x.length != 0) else none
  | .lst xs => some (!xs.isEmpty)
  | .tup xs => some (!xs.isEmpty)
  | .kt xs => some (!xs.isEmpty)
  | .ntup xs => some (!xs.isEmpty)
  | .ref r => match S.get r with
    | some (.lst xs) => some (!xs.isEmpty)
    | _ => none
  | _ => none
def okI (S : Store) (i : Int) : R D := .ok (.int i) S
def okB (S : Store) (b : Bool) : R D := .ok (.bl b) S
def optR {α : Type} (o : Option α) (f : α → R D) : R D :=
  match o with
  | some a => f a
  | none => .bad

def evI (S : Store) (o : BOp) (i j : Int) : R D :=
  match o with
  | .add => okI S (i + j)
  | .sub => okI S (i - j)
  | .mul => if (-(2 ^ 64) < i ∧ i < 2 ^ 64) ∨ (-(2 ^ 64) < j ∧ j < 2 ^ 64) then okI S (i * j) else .bad
  | .mulW => if i.natAbs.log2 + j.natAbs.log2 < 1000000 then okI S (i * j) else .bad
  | .fdiv => if 0 < j ∧ j < 1073741824 then okI S (i / j) else .bad
  | .fdivW => if 0 < j ∧ j.natAbs.log2 < 9000 then okI S (i / j) else .bad
  | .mod => if 0 < j then okI S (i % j) else .bad
  | .pow => if 0 ≤ j ∧ j ≤ 1000000 ∧ i.natAbs < 2 ^ 64 then okI S (i ^ j.toNat) else .bad
  | .shl => if 0 ≤ j ∧ j ≤ 1000000 ∧ i.natAbs < 2 ^ 64 then okI S (i * 2 ^ j.toNat) else .bad
  | .shr => if 0 ≤ j then okI S (i / 2 ^ j.toNat) else .bad
  | .band => okI S (Builtin.bitAnd i j)
  | .bor => okI S (Builtin.bitOr i j)
  | .bxor => okI S (Builtin.bitXor i j)
def tupOf : D → Option (List D)
  | .tup xs => some xs
  | .ntup xs => some xs
  | _ => none
def catT (S : Store) (x y : D) : List D → List D → R D
  | [], _ => .ok y S
  | _, [] => .ok x S
  | xs, ys => if xs.length + ys.length ≤ sizeLine then .ok (.ntup (xs ++ ys)) S else .bad
def evBin (S : Store) (o : BOp) : D → D → R D
  | .int i, .int j => evI S o i j
  | .str x, .str y => if o = .add ∧ x.length + y.length ≤ sizeLine then .ok (.str (x ++ y)) S else .bad
  | x, y => if o = .add then
      match x, y with
      | .lst xs, .lst ys => if xs.length + ys.length ≤ sizeLine then .ok (.lst (xs ++ ys)) S else .bad
      | x, y => optR (tupOf x) fun xs => optR (tupOf y) fun ys => catT S x y xs ys
    else .bad
def evCmp (S : Store) (o : COp) (x y : D) : R D :=
  match o with
  | .lt => match x, y with | .int i, .int j => okB S (decide (i < j)) | _, _ => .bad
  | .le => match x, y with | .int i, .int j => okB S (decide (i ≤ j)) | _, _ => .bad
  | .gt => match x, y with | .int i, .int j => okB S (decide (j < i)) | _, _ => .bad
  | .ge => match x, y with | .int i, .int j => okB S (decide (j ≤ i)) | _, _ => .bad
  | .eq => if flat x && flat y then okB S (flatEq x y) else optR (eqD S x y) fun b => okB S b
  | .ne => if flat x && flat y then okB S (!flatEq x y) else optR (eqD S x y) fun b => okB S (!b)
  | .isin => optR (inD S x y) fun b => okB S b
  | .notin => optR (inD S x y) fun b => okB S (!b)
  | .iss => match y with | .non => okB S (match x with | .non => true | _ => false) | _ => .bad
  | .isnot => match y with | .non => okB S (match x with | .non => false | _ => true) | _ => .bad

def keyOf : D → Option Key
  | .int i => some (.inl i)
  | .str x => some (.inr x)
  | _ => none
def keysOf : List D → Option (List Key)
  | [] => some []
  | x :: xs => match keyOf x, keysOf xs with
    | some k, some ks => some (k :: ks)
    | _, _ => none
def lookK {κ : Type} [DecidableEq κ] (k : κ) : List κ → List D → Option D
  | c :: ks, v :: vs => if c = k then some v else lookK k ks vs
  | _, _ => none
def evSub (S : Store) (x i : D) : R D :=
  match x, i with
  | .str z, .int i => if z.length ≤ sizeLine then optR (atI z.cps.toList i) fun c => .ok (.str ⟨#[c]⟩) S else .bad
  | .dK ks vs, k => optR (keyOf k) fun k => optR (lookK k ks vs) fun v => .ok v S
  | .dT ks vs, .tup k => optR (keysOf k) fun k => optR (lookK k ks vs) fun v => .ok v S
  | .kd ks vs, .str z => optR (lookK (Sum.inr z) ks vs) fun v => .ok v S
  | x, .int i => optR (seqOf S x) fun xs => optR (atI xs i) fun v => .ok v S
  | _, _ => .bad
def cutD (xs : List D) (lo hi : Option Int) : List D := (xs.drop (HT.sIx xs.length 0 lo)).take (HT.sIx xs.length xs.length hi - HT.sIx xs.length 0 lo)
def evSlc (S : Store) (x : D) (lo hi : Option Int) : R D :=
  match x with
  | .lst xs => .ok (.lst (cutD xs lo hi)) S
  | .scr is => .ok (.lst (cutD (is.map .int) lo hi)) S
  | .ntup xs => if HT.sIx xs.length 0 lo = 0 ∧ HT.sIx xs.length xs.length hi = xs.length then .ok (.ntup xs) S else .ok (.tup (cutD xs lo hi)) S
  | .tup xs => if HT.sIx xs.length 0 lo = 0 ∧ HT.sIx xs.length xs.length hi = xs.length then .ok (.tup xs) S else .ok (.tup (cutD xs lo hi)) S
  | .kt xs => if HT.sIx xs.length 0 lo = 0 ∧ HT.sIx xs.length xs.length hi = xs.length then .ok (.kt xs) S else .ok (.tup (cutD xs lo hi)) S
  | _ => .bad
def lookF (f : Str) : List Str → List D → Option D
  | g :: ns, v :: vs => if f = g then some v else lookF f ns vs
  | _, _ => none
def evFld (S : Store) (f : Str) (x : D) : R D :=
  match x with
  | .ins _ ns fs => optR (lookF f ns fs) fun v => .ok v S
  | .ref r => match S.get r with
    | some (.ins _ ns fs) => optR (lookF f ns fs) fun v => .ok v S
    | _ => .bad
  | _ => .bad
def boolsD : List D → Option (List Bool)
  | [] => some []
  | .bl b :: xs => (boolsD xs).map (b :: ·)
  | _ => none
def intsD : List D → Option (List Int)
  | [] => some []
  | .int i :: xs => (intsD xs).map (i :: ·)
  | _ => none
def insI (i : Int) : List Int → List Int
  | [] => [i]
  | j :: js => if i ≤ j then i :: j :: js else j :: insI i js
def sortI : List Int → List Int
  | [] => []
  | i :: is => insI i (sortI is)
/-- a thing's built-in class -/
def btOf (S : Store) : D → Option Bt
  | .non => some .non
  | .bl _ => some .bool
  | .int _ => some .int
  | .str _ => some .str
  | .lst _ => some .list
  | .tup _ => some .tuple
  | .kt _ => some .tuple
  | .ntup _ => some .tuple
  | .dK _ _ => some .dict
  | .dT _ _ => some .dict
  | .ref r => match S.get r with
    | some (.lst _) => some .list
    | some (.dK _ _) => some .dict
    | some (.dT _ _) => some .dict
    | _ => none
  | _ => none
def Bt.sub (a b : Bt) : Bool := a == b || (a == .bool && b == .int)
def evBI (S : Store) (b : BI) (xs : List D) : R D :=
  match b, xs with
  | .len, [x] => match x with
    | .str z => if z.length ≤ sizeLine then okI S z.length else .bad
    | x => optR (seqOf S x) fun ys => okI S ys.length
  | .abs, [.int i] => okI S (if i < 0 then -i else i)
  | .list, [x] => optR (seqOf S x) fun ys => .ok (.lst ys) S
  | .tuple, [x] => match x with
    | .tup ys => .ok (.tup ys) S
    | .ntup ys => .ok (.ntup ys) S
    | x => optR (lstOf S x) fun ys => .ok (.ntup ys) S
  | .listrange, [.int j] => if -(2 ^ 62) ≤ j ∧ j < sizeLine then .ok (.lst ((List.range j.toNat).map fun k => .int (k : Nat))) S else .bad
  | .all, [x] => optR (lstOf S x) fun ys => optR (boolsD ys) fun bs => okB S (bs.all id)
  | .any, [x] => optR (lstOf S x) fun ys => optR (boolsD ys) fun bs => okB S (bs.any id)
  | .sum, [x] => optR (lstOf S x) fun ys => optR (intsD ys) fun is => okI S is.sum
  | .sorted, [x] => optR (lstOf S x) fun ys => optR (intsD ys) fun is => if is.length < 64 then .ok (.lst ((sortI is).map .int)) S else .bad
  | .min2, [.int i, .int j] => okI S (if j < i then j else i)
  | .max2, [.int i, .int j] => okI S (if j > i then j else i)
  | .isinst, [x, .ty n] => optR (btOf S x) fun b => okB S (b.sub n)
  | .int, [.int i] => okI S i
  | .int, [.bl k] => okI S (if k then 1 else 0)
  | .str, [.int i] => if i.natAbs.log2 < 1920 then .ok (.str (toString i)) S else .bad
  | _, _ => .bad
def strsD : List D → Option (List Str)
  | [] => some []
  | .str i :: xs => (strsD xs).map (i :: ·)
  | _ => none
def indexS (x : Str) : List Str → Nat → Option Nat
  | [], _ => none
  | y :: ys, n => if y = x then some n else indexS x ys (n + 1)
def indexD (x : D) : List D → Nat → Option Nat
  | [], _ => none
  | y :: ys, n => if flatEq y x then some n else indexD x ys (n + 1)
/-- the class whose method is called -/
def mtOf (S : Store) : D → Option Bt
  | .int _ => some .int
  | .str _ => some .str
  | .lst _ => some .list
  | .ntup _ => some .tuple
  | .kt _ => some .tuple
  | .ref r => match S.get r with
    | some (.lst _) => some .list
    | _ => none
  | _ => none
def bmId : BM → Bt → Option String
  | .append, .list => some "list.append"
  | .clear, .list => some "list.clear"
  | .pop, .list => some "list.pop"
  | .index, .list => some "list.index"
  | .index, .tuple => some "tuple.index"
  | .bitlen, .int => some "int.bit_length"
  | _, _ => none
def evBM (S : Store) (m : BM) (T : Bt) (x : D) (xs : List D) : R D :=
  match m, T, x, xs with
  | .append, .list, .ref r, [x] => match S.get r with
    | some (.lst ys) => if ys.length < sizeLine then .ok .non (S.put r (.lst (ys ++ [x]))) else .bad
    | _ => .bad
  | .clear, .list, .ref r, [] => match S.get r with
    | some (.lst _) => .ok .non (S.put r (.lst []))
    | _ => .bad
  | .pop, .list, .ref r, [] => match S.get r with
    | some (.lst ys) => optR (ys[ys.length - 1]?) fun y => .ok y (S.put r (.lst ys.dropLast))
    | _ => .bad
  | .bitlen, .int, .int i, [] => okI S (Builtin.Int.intBits i)
  | .index, .list, x, [y] => optR (lstOf S x) fun ys => if flat y && ys.all flat then optR (indexD y ys 0) fun j => okI S j else .bad
  | .index, .tuple, .kt ys, [.str y] => optR (strsD ys) fun zs => optR (indexS y zs 0) fun j => okI S j
  | .index, .tuple, .ntup ys, [.str y] => optR (strsD ys) fun zs => optR (indexS y zs 0) fun j => okI S j
  | _, _, _, _ => .bad
def partI (b : Bool) (xs : List D) : Option (Option Int × List D) :=
  if b then match xs with
    | .int i :: r => some (some i, r)
    | _ => none
  else some (none, xs)
def frzCell (S : Store) : D → R D
  | .ref r => match S.get r with
    | some (.lst xs) => .ok (.lst xs) (S.put r .dead)
    | some (.dK ks vs) => .ok (.dK ks vs) (S.put r .dead)
    | some (.dT ks vs) => .ok (.dT ks vs) (S.put r .dead)
    | some (.ins c ns fs) => .ok (.ins c ns fs) (S.put r .dead)
    | _ => .bad
  | d => .ok d S
/-- each once (the last of its likes) -/
def uniq : List Int → List Int
  | [] => []
  | x :: xs => if xs.contains x then uniq xs else x :: uniq xs
def evOp (o : Op) (xs : List D) (S : Store) : R D :=
  match o, xs with
  | .bin o, [x, y] => evBin S o x y
  | .neg, [.int i] => okI S (-i)
  | .cmp o, [x, y] => evCmp S o x y
  | .lst, xs => if xs.length ≤ sizeLine then .ok (.lst xs) S else .bad
  | .lstM, xs => if xs.length ≤ sizeLine then .ok (.ref S.top) (S.new (.lst xs)) else .bad
  | .tup, xs => if xs.length ≤ sizeLine then .ok (.tup xs) S else .bad
  | .dK ks, xs => if ks.length = xs.length ∧ ks.Nodup ∧ ks.length ≤ 15 then .ok (.dK ks xs) S else .bad
  | .dKM, [] => .ok (.ref S.top) (S.new (.dK [] []))
  | .dTM, [] => .ok (.ref S.top) (S.new (.dT [] []))
  | .sub, [x, i] => evSub S x i
  | .slc lo hi, x :: r => optR (partI lo r) fun p => optR (partI hi p.2) fun q => evSlc S x p.1 q.1
  | .fld f, [x] => evFld S f x
  | .bi b, xs => evBI S b xs
  | .frz, [x] => frzCell S x
  | .mut, [.lst xs] => .ok (.ref S.top) (S.new (.lst xs))
  | .sOf, [x] => optR (lstOf S x) fun ys => optR (intsD ys) fun is => if is.length < 64 then .ok (.set (uniq is)) S else .bad
  | .sSub, [.set a, .set b] => if a.length / 4 ≤ b.length ∧ a.length < 64 then .ok (.set (a.filter fun k => !b.contains k)) S else .bad
  | .sAnd, [.set a, .set b] => if a.length < 64 ∧ b.length < 64 ∧ ((a.all fun k => b.contains k) && (b.all fun k => a.contains k)) = false then .ok (.set (a.filter fun k => b.contains k)) S else .bad
  | .sEq, [.set a, .set b] => okB S ((a.all fun k => b.contains k) && (b.all fun k => a.contains k))
  | .sLen, [.set a] => okI S a.length
  | .dz, [x, y] => optR (lstOf S x) fun xs => optR (lstOf S y) fun ys => optR (keysOf (xs.take (min xs.length ys.length))) fun ks => if ks.Nodup ∧ ks.length ≤ sizeLine then .ok (.dK ks (ys.take (min xs.length ys.length))) S else .bad
  | .sSort, [.set a] => if a.length < 64 then .ok (.lst ((sortI a).map .int)) S else .bad
  | _, _ => .bad

/-! ### the evaluator -/
def wipe (env : Env) : List Nat → Env
  | [] => env
  | v :: vs => (wipe env vs).set v none
def putFd (f : Str) (v : D) : List Str → List D → List Str × List D
  | g :: ns, w :: vs => if f = g then (g :: ns, v :: vs) else let p := putFd f v ns vs; (g :: p.1, w :: p.2)
  | _, _ => ([f], [v])
def fldOk (P : Prog) (c : Nat) (f : Str) : Bool :=
  match P.cls[c]? with
  | some C => C.flds.contains f
  | none => false
def setFld (P : Prog) (S : Store) (o : D) (f : Str) (v : D) : Option Store :=
  match o with
  | .ref r => match S.get r with
    | some (.ins c ns fs) => if fs.length < 900 ∧ fldOk P c f = true then some (S.put r (.ins c (putFd f v ns fs).1 (putFd f v ns fs).2)) else none
    | _ => none
  | _ => none
mutual
def bindT (P : Prog) : Tg → D → Env → Store → Option (Env × Store)
  | .name i, d, env, S => some (env.set i (some d), S)
  | .fld i f, d, env, S => match env[i]? with
    | some (some o) => match setFld P S o f d with
      | some S' => some (env, S')
      | none => none
    | _ => none
  | .tup ts, d, env, S => match seqOf S d with
    | some xs => bindTs P ts xs env S
    | none => none
  | .star _ _, _, _, _ => none
def bindTs (P : Prog) : Tgs → List D → Env → Store → Option (Env × Store)
  | .nil, [], env, S => some (env, S)
  | .cons t ts, x :: xs, env, S => match bindT P t x env S with
    | some p => bindTs P ts xs p.1 p.2
    | none => none
  | _, _, _, _ => none
end
/-- the items, one by one, those that are kept -/
def walkC (f : D → Store → R (Option D)) : List D → List D → Store → R (List D)
  | [], acc, S => .ok acc S
  | x :: xs, acc, S => (f x S).bind fun o S1 => match o with
    | some y => if acc.length < sizeLine then walkC f xs (acc ++ [y]) S1 else .bad
    | none => walkC f xs acc S1
def walkC2 (f : D → List D → Store → R (List D)) : List D → List D → Store → R (List D)
  | [], acc, S => .ok acc S
  | x :: xs, acc, S => (f x acc S).bind fun acc' S1 => walkC2 f xs acc' S1
def enumD : Nat → List D → List D
  | _, [] => []
  | n, x :: xs => .tup [.int n, x] :: enumD (n + 1) xs
def zipD : List D → List D → List D
  | x :: xs, y :: ys => .tup [x, y] :: zipD xs ys
  | _, _ => []
def rangeD (lo : Int) (n : Nat) : List D := (List.range n).map fun k => .int (lo + (k : Nat))

abbrev CallF := Nat → List D → Store → R D
def clsOf (S : Store) : D → Option Nat
  | .ins c _ _ => some c
  | .ref r => match S.get r with
    | some (.ins c _ _) => some c
    | _ => none
  | _ => none
def methOf (P : Prog) (c : Nat) (m : Str) : Option Nat :=
  match P.cls[c]? with
  | some C => C.meths.lookup m
  | none => none

/-- nothing may be let out -/
def calmR {α : Type} : R α → R α
  | .er _ _ => .bad
  | r => r
/-- no caught exception -/
def noXc : Env → Env
  | [] => []
  | some (.xc _ _ _) :: e => none :: noXc e
  | o :: e => o :: noXc e
/-- in a test the value's truth stands for it -/
def tz (t : Bool) (r : R D) : R D :=
  if t then r.bind fun x S => match truthD S x with
    | some b => .ok (.bl b) S
    | none => .bad
  else r
section
variable (P : Prog) (cf : CallF)
mutual
/-- t: the expression stands as a test -/
def evE : E → Bool → Env → Store → R D
  | .var i, t, env, S => match env[i]? with
    | some (some (.xc _ _ _)) => .bad
    | some (some d) => tz t (.ok d S)
    | _ => .bad
  | .efld i f, t, env, S => match env[i]? with
    | some (some (.xc _ ns fs)) => match lookF f ns fs with
      | some d => tz t (.ok d S)
      | none => .bad
    | _ => .bad
  | .con x, t, _, S => match P.con.lookup x with
    | some d => tz t (.ok d S)
    | none => .bad
  | .gfn f, t, _, S => tz t (.ok (.fn f) S)
  | .gcl c, t, _, S => tz t (.ok (.cls c) S)
  | .gty n, t, _, S => tz t (.ok (.ty n) S)
  | .int i, t, _, S => tz t (.ok (.int i) S)
  | .str x, t, _, S => tz t (.ok (.str x) S)
  | .bl b, t, _, S => tz t (.ok (.bl b) S)
  | .non, t, _, S => tz t (.ok .non S)
  | .op o es, t, env, S => tz t ((evEs es env S).bind fun xs S1 => evOp o xs S1)
  | .not a, t, env, S => (evE a t env S).bind fun x S1 => match truthD S1 x with
    | some b => .ok (.bl (!b)) S1
    | none => .bad
  | .bm m o es, t, env, S => tz t ((evE o false env S).bind fun x S1 => match mtOf S1 x with
    | some T => match bmId m T with
      | some _ => (evEs es env S1).bind fun xs S2 => evBM S2 m T x xs
      | none => .bad
    | none => .bad)
  | .and a b, t, env, S => (evE a t env S).bind fun x S1 => match x with
    | .bl true => evE b t env S1
    | .bl false => .ok (.bl false) S1
    | _ => .bad
  | .or a b, t, env, S => (evE a t env S).bind fun x S1 => match x with
    | .bl true => .ok (.bl true) S1
    | .bl false => evE b t env S1
    | _ => .bad
  | .ife c a b, t, env, S => (evE c true env S).bind fun x S1 => match x with
    | .bl true => evE a t env S1
    | .bl false => evE b t env S1
    | _ => .bad
  | .chain o1 o2 a b c, t, env, S => (evE a false env S).bind fun x S1 => (evE b false env S1).bind fun y S2 => (evCmp S2 o1 x y).bind fun z S3 => match z with
    | .bl true => tz t ((evE c false env S3).bind fun w S4 => evCmp S4 o2 y w)
    | .bl false => .ok (.bl false) S3
    | _ => .bad
  | .call f es, t, env, S => tz t ((evEs es env S).bind fun xs S1 => cf f xs S1)
  | .calld e es, t, env, S => tz t ((evE e false env S).bind fun f S1 => match f with
    | .fn f => (evEs es env S1).bind fun xs S2 => cf f xs S2
    | _ => .bad)
  | .meth e m es, t, env, S => tz t ((evE e false env S).bind fun x S1 => match clsOf S1 x with
    | some c => match methOf P c m with
      | some f => (evEs es env S1).bind fun xs S2 => cf f (x :: xs) S2
      | none => .bad
    | none => .bad)
  | .make c es, t, env, S => tz t ((evEs es env S).bind fun xs S1 => match P.cls[c]? with
    | some C => (cf C.init (.ref S1.top :: xs) (S1.new (.ins c [] []))).bind fun v S2 => match v with
      | .non => .ok (.ref S1.top) S2
      | _ => .bad
    | none => .bad)
  | .lc own tg it ifs elt, t, env, S => tz t ((evIt it env S).bind fun xs S1 => calmR
      ((walkC (fun x S2 => match bindT P tg x (wipe (noXc env) own) S2 with
        | some p => (evTests ifs p.1 p.2).bind fun b S3 => if b then (evE elt false p.1 S3).bind fun y S4 => .ok (some y) S4 else .ok none S3
        | none => .bad) xs [] S1).bind fun ys S5 => .ok (.lst ys) S5))
  | .lc2 own tg it ifs tg1 it1 ifs1 elt, t, env, S => tz t ((evIt it env S).bind fun xs S1 => calmR
      ((walkC2 (fun x acc S2 => match bindT P tg x (wipe (noXc env) own) S2 with
        | some p => (evTests ifs p.1 p.2).bind fun b S3 => if b then (evIt it1 p.1 S3).bind fun ys S4 =>
            walkC (fun y S5 => match bindT P tg1 y p.1 S5 with
              | some q => (evTests ifs1 q.1 q.2).bind fun b S6 => if b then (evE elt false q.1 S6).bind fun z S7 => .ok (some z) S7 else .ok none S6
              | none => .bad) ys acc S4 else .ok acc S3
        | none => .bad) xs [] S1).bind fun ys S5 => .ok (.lst ys) S5))
def evEs : Es → Env → Store → R (List D)
  | .nil, _, S => .ok [] S
  | .cons e es, env, S => (evE e false env S).bind fun x S1 => (evEs es env S1).bind fun xs S2 => .ok (x :: xs) S2
def evTests : Es → Env → Store → R Bool
  | .nil, _, S => .ok true S
  | .cons e es, env, S => (evE e true env S).bind fun x S1 => match x with
    | .bl true => evTests es env S1
    | .bl false => .ok false S1
    | _ => .bad
def evIt : It → Env → Store → R (List D)
  | .val e, env, S => (evE e false env S).bind fun x S1 => match walkOf x with
    | some xs => .ok xs S1
    | none => .bad
  | .range1 a, env, S => (evE a false env S).bind fun x S1 => match x with
    | .int j => if -(2 ^ 62) ≤ j ∧ j < 2 ^ 62 then .ok (rangeD 0 j.toNat) S1 else .bad
    | _ => .bad
  | .range2 a b, env, S => (evE a false env S).bind fun x S1 => (evE b false env S1).bind fun y S2 => match x, y with
    | .int i, .int j => if -(2 ^ 62) ≤ i ∧ i < 2 ^ 62 ∧ -(2 ^ 62) ≤ j ∧ j < 2 ^ 62 then .ok (rangeD i (j - i).toNat) S2 else .bad
    | _, _ => .bad
  | .enum e, env, S => (evE e false env S).bind fun x S1 => match frzL x with
    | some xs => .ok (enumD 0 xs) S1
    | none => .bad
  | .zip a b, env, S => (evE a false env S).bind fun x S1 => (evE b false env S1).bind fun y S2 => match frzL x, frzL y with
    | some xs, some ys => .ok (zipD xs ys) S2
    | _, _ => .bad
end

/-- how a statement ends -/
inductive RS where
  | nx (env : Env) (S : Store) | rt (d : D) (S : Store) | bk (env : Env) (S : Store) | ct (env : Env) (S : Store)
  | er (x : Exc) (env : Env) (S : Store) | bad
def R.thn {α : Type} (r : R α) (env : Env) (f : α → Store → RS) : RS :=
  match r with
  | .ok a S => f a S
  | .er x S => .er x env S
  | .bad => .bad
def putKd {κ α : Type} [DecidableEq κ] (k : κ) (v : α) (ks : List κ) (vs : List α) : List κ × List α :=
  if k ∈ ks then (ks, List.zipWith (fun c w => if c = k then v else w) ks vs) else (ks ++ [k], vs ++ [v])
def setItem (S : Store) (o i v : D) : Option Store :=
  match o with
  | .ref r => match S.get r with
    | some (.lst xs) => match i with
      | .int k => match ixN xs.length k with
        | some j => some (S.put r (.lst (xs.set j v)))
        | none => none
      | _ => none
    | some (.dK ks vs) => match keyOf i with
      | some k => if ks.length < sizeLine then let p := putKd k v ks vs; some (S.put r (.dK p.1 p.2)) else none
      | none => none
    | some (.dT ks vs) => match i with
      | .tup k => match keysOf k with
        | some k => if ks.length < sizeLine then let p := putKd k v ks vs; some (S.put r (.dT p.1 p.2)) else none
        | none => none
      | _ => none
    | _ => none
  | _ => none
def forGo (f : D → Env → Store → RS) : List D → Env → Store → RS
  | [], env, S => .nx env S
  | x :: xs, env, S => match f x env S with
    | .nx env' S' => forGo f xs env' S'
    | .ct env' S' => forGo f xs env' S'
    | .bk env' S' => .nx env' S'
    | r => r
def whGo (t : Env → Store → R D) (f : Env → Store → RS) : Nat → Env → Store → RS
  | 0, _, _ => .bad
  | n + 1, env, S => (t env S).thn env fun x S1 => match x with
    | .bl true => match f env S1 with
      | .nx env' S' => whGo t f n env' S'
      | .ct env' S' => whGo t f n env' S'
      | .bk env' S' => .nx env' S'
      | r => r
    | .bl false => .nx env S1
    | _ => .bad
def isSub (P : Prog) (c : Nat) (cs : List Nat) : Bool :=
  match P.exc[c]? with
  | some C => cs.any fun k => C.up.contains k
  | none => false
mutual
def evS : S → Env → Store → RS
  | .expr e, env, S => (evE P cf e false env S).thn env fun _ S1 => .nx env S1
  | .asg t e, env, S => (evE P cf e false env S).thn env fun x S1 => match bindT P t x env S1 with
    | some p => .nx p.1 p.2
    | none => .bad
  | .par i j a b, env, S => (evE P cf a false env S).thn env fun x S1 => (evE P cf b false env S1).thn env fun y S2 => .nx ((env.set i (some x)).set j (some y)) S2
  | .aug i o e, env, S => match env[i]? with
    | some (some x) => (evE P cf e false env S).thn env fun y S1 => (evBin S1 o x y).thn env fun z S2 => .nx (env.set i (some z)) S2
    | _ => .bad
  | .setf o f e, env, S => (evE P cf e false env S).thn env fun y S1 => (evE P cf o false env S1).thn env fun x S2 => match setFld P S2 x f y with
    | some S3 => .nx env S3
    | none => .bad
  | .augf o f b e, env, S => (evE P cf o false env S).thn env fun x S1 => (evFld S1 f x).thn env fun v S2 => (evE P cf e false env S2).thn env fun y S3 => (evBin S3 b v y).thn env fun z S4 => match setFld P S4 x f z with
    | some S5 => .nx env S5
    | none => .bad
  | .seti o i e, env, S => (evE P cf e false env S).thn env fun y S1 => (evE P cf o false env S1).thn env fun x S2 => (evE P cf i false env S2).thn env fun k S3 => match setItem S3 x k y with
    | some S4 => .nx env S4
    | none => .bad
  | .ife t a b, env, S => (evE P cf t true env S).thn env fun x S1 => match x with
    | .bl true => evSs a env S1
    | .bl false => evSs b env S1
    | _ => .bad
  | .ret e, env, S => (evE P cf e false env S).thn env fun x S1 => .rt x S1
  | .retN, env, S => .rt .non S
  | .forr t it b, env, S => (evIt P cf it env S).thn env fun xs S1 => forGo (fun x env' S' => match bindT P t x env' S' with
    | some p => evSs b p.1 p.2
    | none => .bad) xs env S1
  | .wh n t b, env, S => whGo (fun env' S' => evE P cf t true env' S') (fun env' S' => evSs b env' S') n env S
  | .raise c es, env, S => (evEs P cf es env S).thn env fun xs S1 => match P.exc[c]? with
    | some C => if xs.length = C.args then .er ⟨c, C.ns, C.fill xs⟩ env S1 else .bad
    | none => .bad
  | .trye b cs i h, env, S => match evSs b (noXc env) S with
    | .er x env' S' => if P.exc.length ≤ x.c then .bad else if isSub P x.c cs then
        match evSs h ((noXc env').set i (some (.xc x.c x.ns x.fs))) S' with
        | .nx env2 S2 => .nx ((noXc env2).set i none) S2
        | .bk env2 S2 => .bk ((noXc env2).set i none) S2
        | .ct env2 S2 => .ct ((noXc env2).set i none) S2
        | .er _ _ _ => .bad
        | r => r
      else .er x (noXc env') S'
    | .nx env' S' => .nx (noXc env') S'
    | .bk env' S' => .bk (noXc env') S'
    | .ct env' S' => .ct (noXc env') S'
    | r => r
  | .brk, env, S => .bk env S
  | .cont, env, S => .ct env S
  | .pass, env, S => .nx env S
  | .still i, env, S => match env[i]? with
    | some (some d) => (frzCell S d).thn env fun x S1 => .nx (env.set i (some x)) S1
    | _ => .bad
def evSs : Ss → Env → Store → RS
  | .nil, env, S => .nx env S
  | .cons s ss, env, S => match evS s env S with
    | .nx env' S' => evSs ss env' S'
    | r => r
end
end

/- no cell at n or above is named -/
mutual
def below (n : Nat) : D → Bool
  | .lst xs => belowAll n xs
  | .tup xs => belowAll n xs
  | .kt xs => belowAll n xs
  | .ntup xs => belowAll n xs
  | .dK _ vs => belowAll n vs
  | .dT _ vs => belowAll n vs
  | .kd _ vs => belowAll n vs
  | .ins _ _ fs => belowAll n fs
  | .ref r => decide (r < n)
  | _ => true
def belowAll (n : Nat) : List D → Bool
  | [] => true
  | x :: xs => below n x && belowAll n xs
end
def belowC (n : Nat) : Cell → Bool
  | .dead => true
  | .lst xs => belowAll n xs
  | .dK _ vs => belowAll n vs
  | .dT _ vs => belowAll n vs
  | .ins _ _ fs => belowAll n fs

def run (P : Prog) : Nat → CallF
  | 0, _, _, _ => .bad
  | k + 1, f, args, S =>
    match P.fns[f]? with
    | none => .bad
    | some F =>
      if args.length = F.np then
        let env := args.map some ++ List.replicate (F.ns - F.np) none
        if F.iso then
          match evSs P (run P k) F.body env ⟨S.top, []⟩ with
          | .rt d _ => if below S.top d then .ok d S else .bad
          | .nx _ _ => .ok .non S
          | .er x _ _ => if belowAll S.top x.fs then .er x S else .bad
          | _ => .bad
        else
          match evSs P (run P k) F.body env S with
          | .rt d S' => .ok d S'
          | .nx _ S' => .ok .non S'
          | .er x _ S' => .er x S'
          | _ => .bad
      else .bad
end HI
set_option Elab.async false
set_option linter.all false
set_option maxRecDepth 100000
/-! HiMem: how our data and store lie in the abstract heap. -/
namespace HI
open PySem PySem.Spec PyProof.Rows L2

/-- where the defs and classes of the text stand -/
structure Tab where
  fnA : Nat → Addr
  clA : Nat → Addr
  exA : Nat → Addr
  /-- what a dict of the text's top has at a text -/
  kd : Addr → Str → V → Prop
  sw : World

/-- fz: what never changes; fr: what must stay, but is not ours; rho: the cells' addresses; lo: the first cell of ours -/
structure Mem where
  fz : Hp
  fr : Hp
  rho : Nat → Option Addr
  lo : Nat

structure Le (m n : Mem) : Prop where
  fz : Same m.fz n.fz
  nw : ∀ a o, n.fz a = some o → m.fz a = some o ∨ m.fr a = none
  fr : n.fr = m.fr
  rho : ∀ r a, m.rho r = some a → n.rho r = some a
  ro : ∀ r a, n.rho r = some a → m.rho r = some a ∨ m.lo ≤ r
  lo : n.lo = m.lo
/-- the same, whatever else stays -/
structure LeF (m n : Mem) : Prop where
  fz : Same m.fz n.fz
  rho : ∀ r a, m.rho r = some a → n.rho r = some a
theorem Le.toF {m n : Mem} (l : Le m n) : LeF m n := ⟨l.fz, l.rho⟩
theorem LeF.refl (m : Mem) : LeF m m := ⟨Same.refl _, fun _ _ h => h⟩
theorem LeF.trans {a b c : Mem} (x : LeF a b) (y : LeF b c) : LeF a c := ⟨x.fz.trans y.fz, fun r d h => y.rho r d (x.rho r d h)⟩
theorem Le.refl (m : Mem) : Le m m := ⟨Same.refl _, fun _ _ h => .inl h, rfl, fun _ _ h => h, fun _ _ h => .inl h, rfl⟩
theorem Le.trans {a b c : Mem} (x : Le a b) (y : Le b c) : Le a c where
  fz := x.fz.trans y.fz
  nw := fun d o h => (y.nw d o h).elim (x.nw d o) fun h => .inr (by rw [x.fr] at h; exact h)
  fr := y.fr.trans x.fr
  rho := fun r d h => y.rho r d (x.rho r d h)
  ro := fun r d h => (y.ro r d h).elim (x.ro r d) fun h => .inr (by rw [x.lo] at h; exact h)
  lo := y.lo.trans x.lo

section
variable (K : PySem.W.Frag) (T : Tab)
/-- a class whose instances have these fields, and no attribute of the class is called so -/
def ClsOk (c : Nat) (ns : List Str) : Prop := Cls K (T.clA c) ∧ ∀ f ∈ ns, NoAttr K (T.clA c) f
mutual
def Rep (m : Mem) : D → V → Prop
  | .non, v => v = .non
  | .bl b, v => v = .bl b
  | .int i, v => v = .int i
  | .str x, v => v = .str x
  | .lst xs, v => ∃ a vs, v = .ref a ∧ m.fz a = some (.lst vs) ∧ Reps m xs vs
  | .scr is, v => ∃ a, v = .ref a ∧ SqL K m.fz a (is.map V.int)
  | .tup xs, v => ∃ a vs, v = .ref a ∧ m.fz a = some (.tup vs) ∧ Reps m xs vs
  | .kt xs, v => ∃ a vs, v = .ref a ∧ SqT K m.fz a vs ∧ (∃ o, K.lookup a = some o ∧ o.cls = .type "tuple" ∧ o.dict = none) ∧ Reps m xs vs
  | .ntup xs, v => ∃ a vs o, v = .ref a ∧ m.fz a = some (.frz o (.tup vs)) ∧ o.cls = .type "tuple" ∧ o.dict = none ∧ Reps m xs vs
  | .dK ks ds, v => ∃ a vs, v = .ref a ∧ m.fz a = some (.dK (ks.zip vs)) ∧ ks.length = vs.length ∧ Reps m ds vs
  | .dT ks ds, v => ∃ a vs, v = .ref a ∧ m.fz a = some (.dT (ks.zip vs)) ∧ ks.length = vs.length ∧ Reps m ds vs
  | .ins c ns fs, v => ∃ a dx vs, v = .ref a ∧ m.fz a = some (.ins (T.clA c) dx (ns.zip vs)) ∧ ns.length = vs.length ∧ ClsOk K T c ns ∧ Reps m fs vs
  | .ref r, v => ∃ a, v = .ref a ∧ m.rho r = some a
  | .fn f, v => v = .ref (T.fnA f)
  | .cls c, v => v = .ref (T.clA c)
  | .ty n, v => v = .ty n.nm
  | .xc _ _ _, _ => False
  | .kd ks ds, v => ∃ a vs, v = .ref a ∧ (∀ z u, valV (ks.zip vs) (.inr z) = some u → T.kd a z u) ∧ Reps m ds vs
  | .set is, v => ∃ a, v = .ref a ∧ m.fz a = some (.ext fun h => SetR T.sw h a (fun k => decide (k ∈ is)) is.length) ∧ is.Nodup
def Reps (m : Mem) : List D → List V → Prop
  | [], vs => vs = []
  | x :: xs, vs => ∃ v ws, vs = v :: ws ∧ Rep m x v ∧ Reps m xs ws
end
variable {K T}
theorem SqL.same {H H' : Hp} {a : Addr} {xs : List V} (h : Same H H') : SqL K H a xs → SqL K H' a xs
  | .inl (.inl q) => .inl (.inl (h _ _ q))
  | .inl (.inr ⟨o, q⟩) => .inl (.inr ⟨o, h _ _ q⟩)
  | .inr q => .inr q
theorem SqT.same {H H' : Hp} {a : Addr} {xs : List V} (h : Same H H') : SqT K H a xs → SqT K H' a xs
  | .inl (.inl q) => .inl (.inl (h _ _ q))
  | .inl (.inr ⟨o, q⟩) => .inl (.inr ⟨o, h _ _ q⟩)
  | .inr q => .inr q
mutual
theorem Rep.mono' {m n : Mem} (l1 : Same m.fz n.fz) (b : Nat) (l2 : ∀ r a, r < b → m.rho r = some a → n.rho r = some a) : ∀ (d : D) (v : V), below b d = true → Rep K T m d v → Rep K T n d v
  | .non, _, _, h => h
  | .bl _, _, _, h => h
  | .int _, _, _, h => h
  | .str _, _, _, h => h
  | .lst xs, _, e, ⟨a, vs, h1, h2, h3⟩ => ⟨a, vs, h1, l1 _ _ h2, Reps.mono' l1 b l2 xs vs e h3⟩
  | .scr _, _, _, ⟨a, h1, h2⟩ => ⟨a, h1, SqL.same l1 h2⟩
  | .tup xs, _, e, ⟨a, vs, h1, h2, h3⟩ => ⟨a, vs, h1, l1 _ _ h2, Reps.mono' l1 b l2 xs vs e h3⟩
  | .kt xs, _, e, ⟨a, vs, h1, h2, h4, h3⟩ => ⟨a, vs, h1, SqT.same l1 h2, h4, Reps.mono' l1 b l2 xs vs e h3⟩
  | .ntup xs, _, e, ⟨a, vs, o, h1, h2, h4, h5, h3⟩ => ⟨a, vs, o, h1, l1 _ _ h2, h4, h5, Reps.mono' l1 b l2 xs vs e h3⟩
  | .dK _ ds, _, e, ⟨a, vs, h1, h2, h4, h3⟩ => ⟨a, vs, h1, l1 _ _ h2, h4, Reps.mono' l1 b l2 ds vs e h3⟩
  | .dT _ ds, _, e, ⟨a, vs, h1, h2, h4, h3⟩ => ⟨a, vs, h1, l1 _ _ h2, h4, Reps.mono' l1 b l2 ds vs e h3⟩
  | .ins _ _ fs, _, e, ⟨a, dx, vs, h1, h2, h4, h5, h3⟩ => ⟨a, dx, vs, h1, l1 _ _ h2, h4, h5, Reps.mono' l1 b l2 fs vs e h3⟩
  | .ref r, _, e, ⟨a, h1, h2⟩ => ⟨a, h1, l2 r a (of_decide_eq_true e) h2⟩
  | .fn _, _, _, h => h
  | .cls _, _, _, h => h
  | .ty _, _, _, h => h
  | .xc _ _ _, _, _, h => h
  | .kd _ ds, _, e, ⟨a, vs, h1, h2, h3⟩ => ⟨a, vs, h1, h2, Reps.mono' l1 b l2 ds vs e h3⟩
  | .set _, _, _, ⟨a, h1, h2, h3⟩ => ⟨a, h1, l1 _ _ h2, h3⟩
theorem Reps.mono' {m n : Mem} (l1 : Same m.fz n.fz) (b : Nat) (l2 : ∀ r a, r < b → m.rho r = some a → n.rho r = some a) : ∀ (ds : List D) (vs : List V), belowAll b ds = true → Reps K T m ds vs → Reps K T n ds vs
  | [], _, _, h => h
  | x :: xs, _, e, ⟨v, ws, h1, h2, h3⟩ => by
    have e : (below b x && belowAll b xs) = true := e
    rw [Bool.and_eq_true] at e
    exact ⟨v, ws, h1, Rep.mono' l1 b l2 x v e.1 h2, Reps.mono' l1 b l2 xs ws e.2 h3⟩
end
mutual
theorem Rep.monoF {m n : Mem} (l : LeF m n) : ∀ (d : D) (v : V), Rep K T m d v → Rep K T n d v
  | .non, _, h => h
  | .bl _, _, h => h
  | .int _, _, h => h
  | .str _, _, h => h
  | .lst xs, _, ⟨a, vs, h1, h2, h3⟩ => ⟨a, vs, h1, l.fz _ _ h2, Reps.monoF l xs vs h3⟩
  | .scr _, _, ⟨a, h1, h2⟩ => ⟨a, h1, SqL.same l.fz h2⟩
  | .tup xs, _, ⟨a, vs, h1, h2, h3⟩ => ⟨a, vs, h1, l.fz _ _ h2, Reps.monoF l xs vs h3⟩
  | .kt xs, _, ⟨a, vs, h1, h2, h4, h3⟩ => ⟨a, vs, h1, SqT.same l.fz h2, h4, Reps.monoF l xs vs h3⟩
  | .ntup xs, _, ⟨a, vs, o, h1, h2, h4, h5, h3⟩ => ⟨a, vs, o, h1, l.fz _ _ h2, h4, h5, Reps.monoF l xs vs h3⟩
  | .dK _ ds, _, ⟨a, vs, h1, h2, h4, h3⟩ => ⟨a, vs, h1, l.fz _ _ h2, h4, Reps.monoF l ds vs h3⟩
  | .dT _ ds, _, ⟨a, vs, h1, h2, h4, h3⟩ => ⟨a, vs, h1, l.fz _ _ h2, h4, Reps.monoF l ds vs h3⟩
  | .ins _ _ fs, _, ⟨a, dx, vs, h1, h2, h4, h5, h3⟩ => ⟨a, dx, vs, h1, l.fz _ _ h2, h4, h5, Reps.monoF l fs vs h3⟩
  | .ref r, _, ⟨a, h1, h2⟩ => ⟨a, h1, l.rho _ _ h2⟩
  | .fn _, _, h => h
  | .cls _, _, h => h
  | .ty _, _, h => h
  | .xc _ _ _, _, h => h
  | .kd _ ds, _, ⟨a, vs, h1, h2, h3⟩ => ⟨a, vs, h1, h2, Reps.monoF l ds vs h3⟩
  | .set _, _, ⟨a, h1, h2, h3⟩ => ⟨a, h1, l.fz _ _ h2, h3⟩
theorem Reps.monoF {m n : Mem} (l : LeF m n) : ∀ (ds : List D) (vs : List V), Reps K T m ds vs → Reps K T n ds vs
  | [], _, h => h
  | x :: xs, _, ⟨v, ws, h1, h2, h3⟩ => ⟨v, ws, h1, Rep.monoF l x v h2, Reps.monoF l xs ws h3⟩
end
theorem Rep.mono {m n : Mem} (l : Le m n) (d : D) (v : V) (h : Rep K T m d v) : Rep K T n d v := Rep.monoF l.toF d v h
theorem Reps.mono {m n : Mem} (l : Le m n) (d : List D) (v : List V) (h : Reps K T m d v) : Reps K T n d v := Reps.monoF l.toF d v h
theorem Reps.length {m : Mem} : ∀ {ds : List D} {vs : List V}, Reps K T m ds vs → ds.length = vs.length
  | [], _, h => by subst h; rfl
  | _ :: xs, _, ⟨_, ws, h1, _, h3⟩ => by subst h1; simp [Reps.length h3]
theorem Reps.nil {m : Mem} : Reps K T m [] [] := rfl
theorem Reps.cons {m : Mem} {d : D} {v : V} {ds : List D} {vs : List V} (h : Rep K T m d v) (t : Reps K T m ds vs) : Reps K T m (d :: ds) (v :: vs) := ⟨v, vs, rfl, h, t⟩
theorem Reps.append {m : Mem} : ∀ {ds es : List D} {vs ws : List V}, Reps K T m ds vs → Reps K T m es ws → Reps K T m (ds ++ es) (vs ++ ws)
  | [], _, _, _, h, t => by subst h; exact t
  | _ :: _, _, _, _, ⟨v, us, h1, h2, h3⟩, t => by subst h1; exact ⟨v, _, rfl, h2, Reps.append h3 t⟩
theorem Reps.take {m : Mem} : ∀ {ds : List D} {vs : List V} (n : Nat), Reps K T m ds vs → Reps K T m (ds.take n) (vs.take n)
  | [], _, n, h => by subst h; simp [Reps]
  | _ :: _, _, 0, _ => rfl
  | _ :: _, _, n + 1, ⟨v, us, h1, h2, h3⟩ => by subst h1; exact ⟨v, _, rfl, h2, Reps.take n h3⟩
theorem Reps.drop {m : Mem} : ∀ {ds : List D} {vs : List V} (n : Nat), Reps K T m ds vs → Reps K T m (ds.drop n) (vs.drop n)
  | [], _, n, h => by subst h; simp [Reps]
  | _ :: _, _, 0, h => h
  | _ :: _, _, n + 1, ⟨v, us, h1, h2, h3⟩ => by subst h1; exact Reps.drop n h3
theorem Reps.get {m : Mem} : ∀ {ds : List D} {vs : List V} {i : Nat} {d : D}, Reps K T m ds vs → ds[i]? = some d → ∃ v, vs[i]? = some v ∧ Rep K T m d v
  | [], _, _, _, _, e => by simp at e
  | _ :: _, _, 0, _, ⟨v, us, h1, h2, h3⟩, e => by subst h1; simp at e; subst e; exact ⟨v, rfl, h2⟩
  | _ :: _, _, i + 1, _, ⟨v, us, h1, h2, h3⟩, e => by
    subst h1
    obtain ⟨w, a, b⟩ := Reps.get h3 (by simpa using e)
    exact ⟨w, by simpa using a, b⟩
theorem Reps.set {m : Mem} {d : D} {v : V} (r : Rep K T m d v) : ∀ {ds : List D} {vs : List V} (i : Nat), Reps K T m ds vs → Reps K T m (ds.set i d) (vs.set i v)
  | [], _, _, h => by subst h; exact rfl
  | _ :: _, _, 0, ⟨w, us, h1, h2, h3⟩ => by subst h1; exact ⟨v, us, rfl, r, h3⟩
  | _ :: _, _, i + 1, ⟨w, us, h1, h2, h3⟩ => by subst h1; exact ⟨w, _, rfl, h2, Reps.set r i h3⟩
theorem Reps.dropLast {m : Mem} {ds : List D} {vs : List V} (h : Reps K T m ds vs) : Reps K T m ds.dropLast vs.dropLast := by
  rw [List.dropLast_eq_take, List.dropLast_eq_take, h.length]
  exact Reps.take _ h

/-! ### the store -/
variable (K T)
def CellOk (m : Mem) : Cell → HO → Prop
  | .dead, _ => True
  | .lst xs, o => ∃ vs, o = .lst vs ∧ Reps K T m xs vs
  | .dK ks ds, o => ∃ vs, o = .dK (ks.zip vs) ∧ ks.length = vs.length ∧ Reps K T m ds vs
  | .dT ks ds, o => ∃ vs, o = .dT (ks.zip vs) ∧ ks.length = vs.length ∧ Reps K T m ds vs
  | .ins c ns fs, o => ∃ dx vs, o = .ins (T.clA c) dx (ns.zip vs) ∧ ns.length = vs.length ∧ ClsOk K T c ns ∧ Reps K T m fs vs
structure SRc (m : Mem) (S : Store) (H : Hp) : Prop where
  fz : Same m.fz H
  fr : Same m.fr H
  lo : m.lo = S.off
  dom : ∀ r a, m.rho r = some a → r < S.top ∧ H a ≠ none
  cell : ∀ r c, S.get r = some c → c ≠ .dead → ∃ a o, m.rho r = some a ∧ m.fz a = none ∧ m.fr a = none ∧ H a = some o ∧ CellOk K T m c o
  inj : ∀ r r' a, m.rho r = some a → m.rho r' = some a → r = r'
/-- an exception's class whose instances have these fields -/
def XOk (c : Nat) (ns : List Str) : Prop := XfC K (T.exA c) ∧ ∀ f ∈ ns, PySem.W.findIn K (.ref (T.exA c)) f = some none
def SlotOk (pn : List (Addr × Obj)) (m : Mem) : D → V → Prop
  | .xc c ns fs, v => ∃ a oe dx vs, v = .ref a ∧ (a, oe) ∈ pn ∧ oe.cls = .ref (T.exA c) ∧ oe.dict = some dx ∧ (∃ us, oe.data = .fields us) ∧ m.fz dx = some (.xd (ns.zip vs)) ∧ ns.length = vs.length ∧ Reps K T m fs vs ∧ XOk K T c ns
  | d, v => Rep K T m d v
structure EnvOk (pn : List (Addr × Obj)) (m : Mem) (env : Env) (σ : L2.St) : Prop where
  len : env.length = σ.length
  at_ : ∀ (i : Nat) (d : D), env[i]? = some (some d) → ∃ v, σ[i]? = some (some v) ∧ SlotOk K T pn m d v
variable {K T}
theorem CellOk.monoF {m n : Mem} (l : LeF m n) : ∀ {c : Cell} {o : HO}, CellOk K T m c o → CellOk K T n c o
  | .dead, _, _ => trivial
  | .lst _, _, ⟨vs, h1, h2⟩ => ⟨vs, h1, Reps.monoF l _ _ h2⟩
  | .dK _ _, _, ⟨vs, h1, h2, h3⟩ => ⟨vs, h1, h2, Reps.monoF l _ _ h3⟩
  | .dT _ _, _, ⟨vs, h1, h2, h3⟩ => ⟨vs, h1, h2, Reps.monoF l _ _ h3⟩
  | .ins _ _ _, _, ⟨dx, vs, h1, h2, h4, h3⟩ => ⟨dx, vs, h1, h2, h4, Reps.monoF l _ _ h3⟩
theorem CellOk.mono {m n : Mem} (l : Le m n) : ∀ {c : Cell} {o : HO}, CellOk K T m c o → CellOk K T n c o
  | .dead, _, _ => trivial
  | .lst _, _, ⟨vs, h1, h2⟩ => ⟨vs, h1, Reps.mono l _ _ h2⟩
  | .dK _ _, _, ⟨vs, h1, h2, h3⟩ => ⟨vs, h1, h2, Reps.mono l _ _ h3⟩
  | .dT _ _, _, ⟨vs, h1, h2, h3⟩ => ⟨vs, h1, h2, Reps.mono l _ _ h3⟩
  | .ins _ _ _, _, ⟨dx, vs, h1, h2, h4, h3⟩ => ⟨dx, vs, h1, h2, h4, Reps.mono l _ _ h3⟩
theorem SlotOk.monoF {pn : List (Addr × Obj)} {m n : Mem} (l : LeF m n) : ∀ {d : D} {v : V}, SlotOk K T pn m d v → SlotOk K T pn n d v
  | .xc _ _ _, _, ⟨a, oe, dx, vs, h1, h2, h3, h4, h5, h6, h7, h8, h9⟩ => ⟨a, oe, dx, vs, h1, h2, h3, h4, h5, l.fz _ _ h6, h7, Reps.monoF l _ _ h8, h9⟩
  | .non, _, h => h
  | .bl _, _, h => h
  | .int _, _, h => h
  | .str _, _, h => h
  | .lst _, _, h => Rep.monoF l _ _ h
  | .tup _, _, h => Rep.monoF l _ _ h
  | .dK _ _, _, h => Rep.monoF l _ _ h
  | .dT _ _, _, h => Rep.monoF l _ _ h
  | .ins _ _ _, _, h => Rep.monoF l _ _ h
  | .ref _, _, h => Rep.monoF l _ _ h
  | .fn _, _, h => h
  | .cls _, _, h => h
  | .ty _, _, h => h
  | .scr _, _, h => Rep.monoF l _ _ h
  | .kt _, _, h => Rep.monoF l _ _ h
  | .ntup _, _, h => Rep.monoF l _ _ h
  | .kd _ _, _, h => Rep.monoF l _ _ h
  | .set _, _, h => Rep.monoF l _ _ h
theorem SlotOk.mono {pn : List (Addr × Obj)} {m n : Mem} (l : Le m n) {d : D} {v : V} (h : SlotOk K T pn m d v) : SlotOk K T pn n d v := SlotOk.monoF l.toF h
theorem SlotOk.of {pn : List (Addr × Obj)} {m : Mem} {d : D} {v : V} (h : Rep K T m d v) : SlotOk K T pn m d v := by
  cases d <;> first | exact h | exact h.elim
theorem EnvOk.monoF {pn : List (Addr × Obj)} {m n : Mem} {env : Env} {σ : L2.St} (l : LeF m n) (h : EnvOk K T pn m env σ) : EnvOk K T pn n env σ :=
  ⟨h.len, fun i d e => let ⟨v, a, b⟩ := h.at_ i d e; ⟨v, a, b.monoF l⟩⟩
theorem EnvOk.mono {pn : List (Addr × Obj)} {m n : Mem} {env : Env} {σ : L2.St} (l : Le m n) (h : EnvOk K T pn m env σ) : EnvOk K T pn n env σ :=
  ⟨h.len, fun i d e => let ⟨v, a, b⟩ := h.at_ i d e; ⟨v, a, b.mono l⟩⟩
theorem EnvOk.set {pn : List (Addr × Obj)} {m : Mem} {env : Env} {σ : L2.St} {d : D} {v : V} (h : EnvOk K T pn m env σ) (i : Nat) (r : SlotOk K T pn m d v) : EnvOk K T pn m (env.set i (some d)) (σ.set i (some v)) := by
  refine ⟨by simp [h.len], fun j e q => ?_⟩
  by_cases hj : i = j
  · subst hj
    by_cases hl : i < env.length
    · rw [List.getElem?_set_self hl] at q
      cases q
      exact ⟨v, by rw [List.getElem?_set_self (by rw [← h.len]; exact hl)], r⟩
    · rw [List.getElem?_eq_none (by simpa using hl)] at q
      cases q
  · rw [List.getElem?_set_ne hj] at q
    rw [List.getElem?_set_ne hj]
    exact h.at_ j e q
theorem EnvOk.setNone {pn : List (Addr × Obj)} {m : Mem} {env : Env} {σ : L2.St} {o : Option V} (h : EnvOk K T pn m env σ) (i : Nat) : EnvOk K T pn m (env.set i none) (σ.set i o) := by
  refine ⟨by simp [h.len], fun j e q => ?_⟩
  by_cases hj : i = j
  · subst hj
    by_cases hl : i < env.length
    · rw [List.getElem?_set_self hl] at q
      cases q
    · rw [List.getElem?_eq_none (by simpa using hl)] at q
      cases q
  · rw [List.getElem?_set_ne hj] at q
    rw [List.getElem?_set_ne hj]
    exact h.at_ j e q
theorem EnvOk.wipe {pn : List (Addr × Obj)} {m : Mem} {env : Env} {σ : L2.St} (h : EnvOk K T pn m env σ) : ∀ (vs : List Nat), EnvOk K T pn m (HI.wipe env vs) (L2.wipe σ vs)
  | [] => h
  | v :: vs => (EnvOk.wipe h vs).setNone v

/-! ### the store's own laws -/
theorem Store.get_lt {S : Store} {r : Nat} {c : Cell} (h : S.get r = some c) : S.off ≤ r ∧ r < S.top := by
  unfold Store.get at h
  split at h
  · cases h
  · rename_i hn
    have := (List.getElem?_eq_some_iff.mp h).1
    unfold Store.top
    omega
theorem Store.top_put (S : Store) (r : Nat) (c : Cell) : (S.put r c).top = S.top := by
  unfold Store.put Store.top
  simp
theorem Store.top_new (S : Store) (c : Cell) : (S.new c).top = S.top + 1 := by
  show S.off + (S.cs ++ [c]).length = S.off + S.cs.length + 1
  rw [List.length_append, List.length_singleton]; omega
theorem Store.get_new_top (S : Store) (c : Cell) : (S.new c).get S.top = some c := by
  show (if S.off + S.cs.length < S.off then none else (S.cs ++ [c])[S.off + S.cs.length - S.off]?) = some c
  rw [if_neg (by omega), show S.off + S.cs.length - S.off = S.cs.length by omega]
  simp
theorem Store.get_new_ne {S : Store} {c : Cell} {r : Nat} (h : r ≠ S.top) : (S.new c).get r = S.get r := by
  have h : r ≠ S.off + S.cs.length := h
  show (if r < S.off then none else (S.cs ++ [c])[r - S.off]?) = (if r < S.off then none else S.cs[r - S.off]?)
  split
  · rfl
  · rw [List.getElem?_append]
    split
    · rfl
    · have h1 : S.cs[r - S.off]? = none := List.getElem?_eq_none (by omega)
      have h2 : [c][r - S.off - S.cs.length]? = none := List.getElem?_eq_none (by rw [List.length_singleton]; omega)
      rw [h1, h2]
theorem Store.get_put_self {S : Store} {r : Nat} {c c' : Cell} (h : S.get r = some c) : (S.put r c').get r = some c' := by
  have hl := Store.get_lt h
  have h2 : r < S.off + S.cs.length := hl.2
  show (if r < S.off then none else (S.cs.set (r - S.off) c')[r - S.off]?) = some c'
  rw [if_neg (by omega), List.getElem?_set_self (by omega)]
theorem Store.get_put_ne {S : Store} {r q : Nat} {c' : Cell} (hr : S.off ≤ r) (h : q ≠ r) : (S.put r c').get q = S.get q := by
  show (if q < S.off then none else (S.cs.set (r - S.off) c')[q - S.off]?) = (if q < S.off then none else S.cs[q - S.off]?)
  split
  · rfl
  · rw [List.getElem?_set_ne (by omega)]

/-! ### the steps -/
section
variable {m : Mem} {S : Store} {H H' : Hp} {p : Addr} {o : HO}
theorem SRc.same (h : SRc K T m S H) (l : Same H H') : SRc K T m S H' where
  fz := h.fz.trans l
  fr := h.fr.trans l
  lo := h.lo
  dom := fun r a e => ⟨(h.dom r a e).1, by
    cases q : H a with
    | none => exact absurd q (h.dom r a e).2
    | some u => rw [l _ _ q]; simp⟩
  cell := fun r c e hd => let ⟨a, o, h1, h2, h3, h4, h5⟩ := h.cell r c e hd; ⟨a, o, h1, h2, h3, l _ _ h4, h5⟩
  inj := h.inj
def Mem.add (m : Mem) (p : Addr) (o : HO) : Mem := { m with fz := upd m.fz p o }
theorem SRc.fzNone (h : SRc K T m S H) (n : H p = none) : m.fz p = none := by
  cases q : m.fz p with
  | none => rfl
  | some u => rw [h.fz _ _ q] at n; cases n
theorem SRc.frNone (h : SRc K T m S H) (n : H p = none) : m.fr p = none := by
  cases q : m.fr p with
  | none => rfl
  | some u => rw [h.fr _ _ q] at n; cases n
theorem Mem.add_le (h1 : m.fz p = none) (h2 : m.fr p = none) : Le m (m.add p o) where
  fz := fun b u e => by
    show upd m.fz p o b = _
    rw [upd_ne (fun z => by rw [z, h1] at e; cases e)]; exact e
  nw := fun b u e => by
    have e : upd m.fz p o b = some u := e
    by_cases hb : b = p
    · subst hb; exact .inr h2
    · rw [upd_ne hb] at e; exact .inl e
  fr := rfl
  rho := fun _ _ e => e
  ro := fun _ _ e => .inl e
  lo := rfl
theorem same_upd (n : H p = none) : Same H (upd H p o) := fun b u e => by
  rw [upd_ne (ne_of_none e n)]; exact e
/-- a new thing that never changes -/
theorem SRc.add (h : SRc K T m S H) (n : H p = none) : SRc K T (m.add p o) S (upd H p o) ∧ Le m (m.add p o) := by
  have l : Le m (m.add p o) := Mem.add_le (h.fzNone n) (h.frNone n)
  have h' := h.same (same_upd (o := o) n)
  refine ⟨⟨fun b u e => ?_, h'.fr, h.lo, h'.dom, fun r c e hd => ?_, h.inj⟩, l⟩
  · have e : upd m.fz p o b = some u := e
    by_cases hb : b = p
    · subst hb; rw [upd_same] at e ⊢; exact e
    · rw [upd_ne hb] at e; exact h'.fz b u e
  · obtain ⟨a, u, h1, h2, h3, h4, h5⟩ := h.cell r c e hd
    have hne : a ≠ p := ne_of_none h4 n
    refine ⟨a, u, h1, ?_, h3, by rw [upd_ne hne]; exact h4, h5.mono l⟩
    show upd m.fz p o a = none
    rw [upd_ne hne]; exact h2
def Mem.cell (m : Mem) (r : Nat) (p : Addr) : Mem := { m with rho := fun q => if q = r then some p else m.rho q }
theorem Mem.cell_le {r : Nat} (h : m.rho r = none) (hl : m.lo ≤ r) : Le m (m.cell r p) where
  fz := Same.refl _
  nw := fun _ _ e => .inl e
  fr := rfl
  rho := fun q a e => by
    show (if q = r then some p else m.rho q) = some a
    rw [if_neg (fun z => by rw [z, h] at e; cases e)]; exact e
  ro := fun q a e => by
    have e : (if q = r then some p else m.rho q) = some a := e
    by_cases hq : q = r
    · exact .inr (by rw [hq]; exact hl)
    · rw [if_neg hq] at e; exact .inl e
  lo := rfl
theorem SRc.rhoTop (h : SRc K T m S H) : m.rho S.top = none := by
  cases q : m.rho S.top with
  | none => rfl
  | some a => exact absurd (h.dom _ _ q).1 (Nat.lt_irrefl _)
theorem SRc.loTop (h : SRc K T m S H) : m.lo ≤ S.top := by rw [h.lo]; unfold Store.top; omega
/-- a new cell -/
theorem SRc.new (h : SRc K T m S H) (n : H p = none) {c : Cell} (hc : CellOk K T (m.cell S.top p) c o) : SRc K T (m.cell S.top p) (S.new c) (upd H p o) ∧ Le m (m.cell S.top p) := by
  have l : Le m (m.cell S.top p) := Mem.cell_le h.rhoTop h.loTop
  have h' := h.same (same_upd (o := o) n)
  refine ⟨⟨h'.fz, h'.fr, h.lo, fun r a e => ?_, fun r c' e hd => ?_, fun r r' a e e' => ?_⟩, l⟩
  · have e : (if r = S.top then some p else m.rho r) = some a := e
    rw [Store.top_new]
    by_cases hr : r = S.top
    · rw [if_pos hr] at e; cases e
      exact ⟨by omega, by rw [upd_same]; simp⟩
    · rw [if_neg hr] at e
      have := h'.dom r a e
      exact ⟨by omega, this.2⟩
  · by_cases hr : r = S.top
    · subst hr
      rw [Store.get_new_top] at e
      cases e
      exact ⟨p, o, if_pos rfl, h.fzNone n, h.frNone n, upd_same, hc⟩
    · rw [Store.get_new_ne hr] at e
      obtain ⟨a, u, h1, h2, h3, h4, h5⟩ := h.cell r c' e hd
      exact ⟨a, u, l.rho _ _ h1, h2, h3, by rw [upd_ne (ne_of_none h4 n)]; exact h4, h5.mono l⟩
  · have e : (if r = S.top then some p else m.rho r) = some a := e
    have e' : (if r' = S.top then some p else m.rho r') = some a := e'
    by_cases hr : r = S.top
    · by_cases hr' : r' = S.top
      · rw [hr, hr']
      · rw [if_pos hr] at e; rw [if_neg hr'] at e'; cases e
        exact absurd n (h.dom _ _ e').2
    · by_cases hr' : r' = S.top
      · rw [if_neg hr] at e; rw [if_pos hr'] at e'; cases e'
        exact absurd n (h.dom _ _ e).2
      · rw [if_neg hr] at e; rw [if_neg hr'] at e'
        exact h.inj _ _ _ e e'
/-- a cell changes -/
theorem SRc.put (h : SRc K T m S H) {r : Nat} {c c' : Cell} {a : Addr} (hg : S.get r = some c) (hd : c ≠ .dead) (ha : m.rho r = some a) (hc : CellOk K T m c' o) : SRc K T m (S.put r c') (upd H a o) := by
  obtain ⟨a', u, h1, h2, h3, h4, h5⟩ := h.cell r c hg hd
  rw [ha] at h1; cases h1
  have hlt := Store.get_lt hg
  refine ⟨fun b v e => ?_, fun b v e => ?_, h.lo, fun q b e => ?_, fun q c2 e hd2 => ?_, h.inj⟩
  · rw [upd_ne (fun z => by rw [z, h2] at e; cases e)]; exact h.fz b v e
  · rw [upd_ne (fun z => by rw [z, h3] at e; cases e)]; exact h.fr b v e
  · rw [Store.top_put]
    refine ⟨(h.dom q b e).1, ?_⟩
    by_cases hb : b = a
    · subst hb; rw [upd_same]; simp
    · rw [upd_ne hb]; exact (h.dom q b e).2
  · by_cases hq : q = r
    · subst hq
      rw [Store.get_put_self hg] at e
      cases e
      exact ⟨a, o, ha, h2, h3, upd_same, hc⟩
    · rw [Store.get_put_ne hlt.1 hq] at e
      obtain ⟨b, v, k1, k2, k3, k4, k5⟩ := h.cell q c2 e hd2
      exact ⟨b, v, k1, k2, k3, by rw [upd_ne (fun z => hq (h.inj _ _ _ k1 (by rw [z]; exact ha)))]; exact k4, k5⟩
/-- a cell stands still from here on -/
theorem SRc.frz (h : SRc K T m S H) {r : Nat} {c : Cell} (hg : S.get r = some c) (hd : c ≠ .dead) : ∃ a o, m.rho r = some a ∧ H a = some o ∧ SRc K T (m.add a o) (S.put r .dead) H ∧ Le m (m.add a o) ∧ CellOk K T (m.add a o) c o ∧ (m.add a o).fz a = some o := by
  obtain ⟨a, o, h1, h2, h3, h4, h5⟩ := h.cell r c hg hd
  have l : Le m (m.add a o) := Mem.add_le h2 h3
  have hlt := Store.get_lt hg
  refine ⟨a, o, h1, h4, ⟨fun b u e => ?_, h.fr, h.lo, fun q b e => ?_, fun q c2 e hd2 => ?_, h.inj⟩, l, h5.mono l, upd_same⟩
  · have e : upd m.fz a o b = some u := e
    by_cases hb : b = a
    · subst hb; rw [upd_same] at e; cases e; exact h4
    · rw [upd_ne hb] at e; exact h.fz b u e
  · rw [Store.top_put]; exact h.dom q b e
  · by_cases hq : q = r
    · subst hq
      rw [Store.get_put_self hg] at e
      cases e
      exact absurd rfl hd2
    · rw [Store.get_put_ne hlt.1 hq] at e
      obtain ⟨b, v, k1, k2, k3, k4, k5⟩ := h.cell q c2 e hd2
      refine ⟨b, v, k1, ?_, k3, k4, k5.mono l⟩
      show upd m.fz a o b = none
      rw [upd_ne (fun z => hq (h.inj _ _ _ k1 (by rw [z]; exact h1)))]; exact k2
end
/-! ### a thing that is held, though it is not ours -/
def Mem.hold (m : Mem) (D : Addr) (o : HO) : Mem := { m with fr := upd m.fr D o }
def Mem.free (n m : Mem) : Mem := { n with fr := m.fr }
section
variable {m n : Mem} {S : Store} {H : Hp} {a : Addr} {o o' : HO}
theorem SRc.hold (h : SRc K T m S H) (hn : H a = none) : SRc K T (m.hold a o) S (upd H a o) := by
  have h' := h.same (same_upd (o := o) hn)
  refine ⟨h'.fz, fun b u e => ?_, h.lo, h'.dom, fun r c e hd => ?_, h.inj⟩
  · have e : upd m.fr a o b = some u := e
    by_cases hb : b = a
    · subst hb; rw [upd_same] at e ⊢; exact e
    · rw [upd_ne hb] at e; exact h'.fr b u e
  · obtain ⟨b, u, h1, h2, h3, h4, h5⟩ := h.cell r c e hd
    have hne : b ≠ a := ne_of_none h4 hn
    refine ⟨b, u, h1, h2, ?_, by rw [upd_ne hne]; exact h4, CellOk.monoF (m := m) (n := m.hold a o) ⟨Same.refl m.fz, fun _ _ q => q⟩ h5⟩
    show upd m.fr a o b = none
    rw [upd_ne hne]; exact h3
theorem SRc.holdPut (h : SRc K T (m.hold a o) S H) (hf : m.fz a = none) : SRc K T (m.hold a o') S (upd H a o') := by
  refine ⟨fun b u e => ?_, fun b u e => ?_, h.lo, fun r b e => ⟨(h.dom r b e).1, ?_⟩, fun r c e hd => ?_, h.inj⟩
  · rw [upd_ne (fun z => by rw [z] at e; have e : m.fz a = some u := e; rw [hf] at e; cases e)]
    exact h.fz b u e
  · have e : upd m.fr a o' b = some u := e
    by_cases hb : b = a
    · subst hb; rw [upd_same] at e ⊢; exact e
    · rw [upd_ne hb] at e ⊢
      exact h.fr b u (show upd m.fr a o b = some u by rw [upd_ne hb]; exact e)
  · by_cases hb : b = a
    · subst hb; rw [upd_same]; simp
    · rw [upd_ne hb]; exact (h.dom r b e).2
  · obtain ⟨b, u, h1, h2, h3, h4, h5⟩ := h.cell r c e hd
    have hne : b ≠ a := fun z => by
      have h3 : upd m.fr a o b = none := h3
      rw [z, upd_same] at h3; cases h3
    have h3 : upd m.fr a o b = none := h3
    rw [upd_ne hne] at h3
    refine ⟨b, u, h1, h2, ?_, by rw [upd_ne hne]; exact h4, CellOk.monoF (m := m.hold a o) (n := m.hold a o') ⟨Same.refl m.fz, fun _ _ q => q⟩ h5⟩
    show upd m.fr a o' b = none
    rw [upd_ne hne]; exact h3
theorem Le.ofHold (l : Le (m.hold a o) n) (hr : m.fr a = none) : Le m (n.free m) ∧ n = (n.free m).hold a o := by
  refine ⟨⟨l.fz, fun b u e => ?_, rfl, l.rho, l.ro, l.lo⟩, ?_⟩
  · rcases l.nw b u e with z | z
    · exact .inl z
    · have z : upd m.fr a o b = none := z
      by_cases hb : b = a
      · rw [hb]; exact .inr hr
      · rw [upd_ne hb] at z; exact .inr z
  · have e := l.fr
    obtain ⟨f1, f2, f3, f4⟩ := n
    have e : f2 = upd m.fr a o := e
    subst e
    rfl
theorem Le.fzHold (l : Le (m.hold a o) n) (hf : m.fz a = none) : n.fz a = none := by
  cases q : n.fz a with
  | none => rfl
  | some u =>
    rcases l.nw a u q with z | z
    · have z : m.fz a = some u := z
      rw [hf] at z; cases z
    · have z : upd m.fr a o a = none := z
      rw [upd_same] at z; cases z
theorem SRc.holdAt (h : SRc K T (m.hold a o) S H) : H a = some o := h.fr a o (show upd m.fr a o a = some o from upd_same)
/-- what was held is ours -/
theorem SRc.holdFin (h : SRc K T (m.hold a o) S H) (hf : m.fz a = none) (hr : m.fr a = none) : SRc K T (m.add a o) S H ∧ Le m (m.add a o) := by
  have l : Le m (m.add a o) := Mem.add_le hf hr
  refine ⟨⟨fun b u e => ?_, fun b u e => ?_, h.lo, h.dom, fun r c e hd => ?_, h.inj⟩, l⟩
  · have e : upd m.fz a o b = some u := e
    by_cases hb : b = a
    · subst hb; rw [upd_same] at e; cases e; exact h.holdAt
    · rw [upd_ne hb] at e; exact h.fz b u e
  · have e : m.fr b = some u := e
    exact h.fr b u (show upd m.fr a o b = some u by rw [upd_ne (fun z => by rw [z, hr] at e; cases e)]; exact e)
  · obtain ⟨b, u, h1, h2, h3, h4, h5⟩ := h.cell r c e hd
    have hne : b ≠ a := fun z => by
      have h3 : upd m.fr a o b = none := h3
      rw [z, upd_same] at h3; cases h3
    have h3 : upd m.fr a o b = none := h3
    rw [upd_ne hne] at h3
    refine ⟨b, u, h1, ?_, h3, h4, CellOk.monoF (m := m.hold a o) (n := m.add a o) ⟨l.fz, fun _ _ q => q⟩ h5⟩
    show upd m.fz a o b = none
    rw [upd_ne hne]; exact h2
end
theorem EnvOk.noXc {pn pn' : List (Addr × Obj)} {m : Mem} : ∀ {env : Env} {σ : L2.St}, EnvOk K T pn m env σ → EnvOk K T pn' m (HI.noXc env) σ
  | [], σ, h => ⟨h.len, fun i d e => by simp [HI.noXc] at e⟩
  | o :: env, [], h => by have := h.len; simp at this
  | o :: env, v :: σ, h => by
    have h' : EnvOk K T pn m env σ := ⟨by have := h.len; simpa using this, fun i d e => h.at_ (i + 1) d (by simpa using e)⟩
    have ih := EnvOk.noXc (pn' := pn') h'
    have key : ∀ o' : Option D, HI.noXc (o :: env) = o' :: HI.noXc env → (∀ d, o' = some d → ∃ w, v = some w ∧ SlotOk K T pn' m d w) → EnvOk K T pn' m (HI.noXc (o :: env)) (v :: σ) := fun o' e1 e2 => by
      rw [e1]
      refine ⟨by simp [ih.len], fun i d e => ?_⟩
      cases i with
      | zero =>
        obtain ⟨w, rfl, q⟩ := e2 d (by simpa using e)
        exact ⟨w, rfl, q⟩
      | succ i =>
        obtain ⟨w, q1, q2⟩ := ih.at_ i d (by simpa using e)
        exact ⟨w, by simpa using q1, q2⟩
    cases o with
    | none => exact key none rfl fun d z => by cases z
    | some d =>
      cases d with
      | xc c ns fs => exact key none rfl fun d z => by cases z
      | _ =>
        refine key (some _) rfl fun d z => ?_
        cases z
        obtain ⟨w, q1, q2⟩ := h.at_ 0 _ rfl
        exact ⟨w, by simpa using q1, q2⟩
end
end HI
set_option Elab.async false
set_option linter.all false
set_option maxRecDepth 100000
/-! HiPost: what the evaluator's answer promises of the machine; the operations upon values. -/
namespace HI
open PySem PySem.Spec PyProof.Rows L2

section
variable (K : PySem.W.Frag) (T : Tab)
/-- an exception, as it lies -/
def XRep (m : Mem) (x : Exc) (cls : Value) (dx : Option Addr) : Prop :=
  cls = .ref (T.exA x.c) ∧ ∃ d vs, dx = some d ∧ m.fz d = some (.xd (x.ns.zip vs)) ∧ x.ns.length = vs.length ∧ Reps K T m x.fs vs ∧ XOk K T x.c x.ns
/-- what is wanted behind an answer -/
def PostR {α β : Type} (rep : Mem → α → β → Prop) (W : WX) (m : Mem) (σ : L2.St) (Q : β → Hp → Prop) : R α → Prop
  | .ok a S => ∀ b H' m', Le m m' → SRc K T m' S H' → rep m' a b → Q b H'
  | .er x S => ∀ cls dx H' m', Le m m' → SRc K T m' S H' → XRep K T m' x cls dx → W cls dx σ H'
  | .bad => False
variable {K T}
variable {α β γ δ : Type} {rep : Mem → α → β → Prop} {rep' : Mem → γ → δ → Prop} {W : WX} {m m' : Mem} {σ : L2.St} {Q Q' : β → Hp → Prop} {S : Store} {H : Hp}
theorem PostR.mono (l : Le m m') : ∀ {r : R α}, PostR K T rep W m σ Q r → PostR K T rep W m' σ Q r
  | .ok _ _, h => fun b H' n k => h b H' n (l.trans k)
  | .er _ _, h => fun c d H' n k => h c d H' n (l.trans k)
  | .bad, h => h
theorem PostR.bind {f : γ → Store → R α} : ∀ {r : R γ}, PostR K T rep W m σ Q (r.bind f) →
    PostR K T rep' W m σ (fun b H' => ∃ a S m', Le m m' ∧ SRc K T m' S H' ∧ rep' m' a b ∧ PostR K T rep W m' σ Q (f a S)) r
  | .ok a S, h => fun b H' n k hs hr => ⟨a, S, n, k, hs, hr, PostR.mono k h⟩
  | .er _ _, h => h
  | .bad, h => h
theorem PostR.imp (hq : ∀ b H', Q b H' → Q' b H') : ∀ {r : R α}, PostR K T rep W m σ Q r → PostR K T rep W m σ Q' r
  | .ok _ _, h => fun b H' n k hs hr => hq _ _ (h b H' n k hs hr)
  | .er _ _, h => h
  | .bad, h => h
/-- the answer stands already -/
theorem PostR.val {a : α} {b : β} (h : PostR K T rep W m σ Q (.ok a S)) (hs : SRc K T m S H) (hr : rep m a b) : Q b H := h b H m (Le.refl m) hs hr
theorem PostR.valLe {a : α} {b : β} (h : PostR K T rep W m σ Q (.ok a S)) (l : Le m m') (hs : SRc K T m' S H) (hr : rep m' a b) : Q b H := h b H m' l hs hr
theorem rep_new_lst {xs : List D} {vs : List V} {p : Addr} (h : Reps K T (m.add p (.lst vs)) xs vs) : Rep K T (m.add p (.lst vs)) (.lst xs) (.ref p) := ⟨p, vs, rfl, upd_same, h⟩
theorem rep_new_tup {xs : List D} {vs : List V} {p : Addr} (h : Reps K T (m.add p (.tup vs)) xs vs) : Rep K T (m.add p (.tup vs)) (.tup xs) (.ref p) := ⟨p, vs, rfl, upd_same, h⟩
/-- a new list, a new tuple -/
theorem PostR.newLst {W : WX} {Q : VK} {xs : List D} {vs : List V} {p : Addr} (h : PostR K T (Rep K T) W m σ Q (.ok (.lst xs) S)) (hs : SRc K T m S H) (hr : Reps K T m xs vs) (n : H p = none) : Q (.ref p) (upd H p (.lst vs)) :=
  let ⟨h1, l⟩ := hs.add (o := .lst vs) n
  h.valLe l h1 (rep_new_lst (Reps.mono l _ _ hr))
theorem PostR.newTup {W : WX} {Q : VK} {xs : List D} {vs : List V} {p : Addr} (h : PostR K T (Rep K T) W m σ Q (.ok (.tup xs) S)) (hs : SRc K T m S H) (hr : Reps K T m xs vs) (n : H p = none) : Q (.ref p) (upd H p (.tup vs)) :=
  let ⟨h1, l⟩ := hs.add (o := .tup vs) n
  h.valLe l h1 (rep_new_tup (Reps.mono l _ _ hr))
theorem tupOf_rep (hs : SRc K T m S H) {d : D} {v : V} {xs : List D} (hr : Rep K T m d v) (h : tupOf d = some xs) : ∃ a vs, v = .ref a ∧ SqT K H a vs ∧ Reps K T m xs vs := by
  cases d with
  | tup ys =>
    cases h
    obtain ⟨a, vs, h1, h2, h3⟩ := hr
    exact ⟨a, vs, h1, .inl (.inl (hs.fz _ _ h2)), h3⟩
  | ntup ys =>
    cases h
    obtain ⟨a, vs, o, h1, h2, h4, h5, h3⟩ := hr
    exact ⟨a, vs, h1, .inl (.inr ⟨o, hs.fz _ _ h2⟩), h3⟩
  | _ => cases h
/-- a new tuple, its object known -/
theorem PostR.newNtup {W : WX} {Q : VK} {xs : List D} {vs : List V} {p : Addr} {o : Obj} (h : PostR K T (Rep K T) W m σ Q (.ok (.ntup xs) S)) (hs : SRc K T m S H) (hr : Reps K T m xs vs) (n : H p = none) (hc : o.cls = .type "tuple") (hd : o.dict = none) : Q (.ref p) (upd H p (.frz o (.tup vs))) :=
  let ⟨h1, l⟩ := hs.add (o := .frz o (.tup vs)) n
  h.valLe l h1 ⟨p, vs, o, rfl, upd_same, hc, hd, Reps.mono l _ _ hr⟩
/-- a new list that may change -/
theorem PostR.newCell {W : WX} {Q : VK} {xs : List D} {vs : List V} {p : Addr} (h : PostR K T (Rep K T) W m σ Q (.ok (.ref S.top) (S.new (.lst xs)))) (hs : SRc K T m S H) (hr : Reps K T m xs vs) (n : H p = none) : Q (.ref p) (upd H p (.lst vs)) := by
  have l : Le m (m.cell S.top p) := Mem.cell_le hs.rhoTop hs.loTop
  obtain ⟨h1, _⟩ := hs.new (o := .lst vs) (c := .lst xs) n ⟨vs, rfl, Reps.mono l _ _ hr⟩
  exact h.valLe l h1 ⟨p, rfl, if_pos rfl⟩
theorem PostR.okI {W : WX} {Q : VK} {i : Int} (h : PostR K T (Rep K T) W m σ Q (okI S i)) (hs : SRc K T m S H) : Q (.int i) H := h.val hs rfl
theorem PostR.okB {W : WX} {Q : VK} {i : Bool} (h : PostR K T (Rep K T) W m σ Q (okB S i)) (hs : SRc K T m S H) : Q (.bl i) H := h.val hs rfl
theorem PostR.opt {W : WX} {Q : VK} {o : Option α} {f : α → R D} (h : PostR K T (Rep K T) W m σ Q (optR o f)) : ∃ a, o = some a ∧ PostR K T (Rep K T) W m σ Q (f a) := by
  cases o with
  | none => exact h.elim
  | some a => exact ⟨a, rfl, h⟩
theorem PostR.ite {W : WX} {Q : VK} {p : Prop} [Decidable p] {r : R D} (h : PostR K T (Rep K T) W m σ Q (if p then r else .bad)) : p ∧ PostR K T (Rep K T) W m σ Q r := by
  by_cases hp : p
  · rw [if_pos hp] at h; exact ⟨hp, h⟩
  · rw [if_neg hp] at h; exact h.elim
/-- what is read as a sequence -/
theorem seqOf_rep (hs : SRc K T m S H) {d : D} {v : V} {xs : List D} (hr : Rep K T m d v) (h : seqOf S d = some xs) : ∃ a vs, v = .ref a ∧ (SqL K H a vs ∨ SqT K H a vs) ∧ Reps K T m xs vs := by
  cases d with
  | lst ys =>
    cases h
    obtain ⟨a, vs, h1, h2, h3⟩ := hr
    exact ⟨a, vs, h1, .inl (.inl (.inl (hs.fz _ _ h2))), h3⟩
  | tup ys =>
    cases h
    obtain ⟨a, vs, h1, h2, h3⟩ := hr
    exact ⟨a, vs, h1, .inr (.inl (.inl (hs.fz _ _ h2))), h3⟩
  | kt ys =>
    cases h
    obtain ⟨a, vs, h1, h2, h4, h3⟩ := hr
    exact ⟨a, vs, h1, .inr (SqT.same hs.fz h2), h3⟩
  | ntup ys =>
    cases h
    obtain ⟨a, vs, o, h1, h2, h4, h5, h3⟩ := hr
    exact ⟨a, vs, h1, .inr (.inl (.inr ⟨o, hs.fz _ _ h2⟩)), h3⟩
  | ref r =>
    obtain ⟨a, h1, h2⟩ := hr
    simp only [seqOf] at h
    split at h
    · rename_i ys hg
      cases h
      obtain ⟨a', o, k1, k2, k3, k4, vs, k5, k6⟩ := hs.cell r _ hg (fun z => by cases z)
      rw [h2] at k1; cases k1; subst k5
      exact ⟨a, vs, h1, .inl (.inl (.inl k4)), k6⟩
    · cases h
  | _ => cases h
theorem lstOf_rep (hs : SRc K T m S H) {d : D} {v : V} {xs : List D} (hr : Rep K T m d v) (h : lstOf S d = some xs) : ∃ a vs, v = .ref a ∧ H a = some (.lst vs) ∧ Reps K T m xs vs := by
  cases d with
  | lst ys =>
    cases h
    obtain ⟨a, vs, h1, h2, h3⟩ := hr
    exact ⟨a, vs, h1, hs.fz _ _ h2, h3⟩
  | ref r =>
    obtain ⟨a, h1, h2⟩ := hr
    simp only [lstOf] at h
    split at h
    · rename_i ys hg
      cases h
      obtain ⟨a', o, k1, k2, k3, k4, vs, k5, k6⟩ := hs.cell r _ hg (fun z => by cases z)
      rw [h2] at k1; cases k1; subst k5
      exact ⟨a, vs, h1, k4, k6⟩
    · cases h
  | _ => cases h
theorem cell_lst (hs : SRc K T m S H) {r : Nat} {xs : List D} {v : V} (hr : Rep K T m (.ref r) v) (hg : S.get r = some (.lst xs)) : ∃ a vs, v = .ref a ∧ m.rho r = some a ∧ H a = some (.lst vs) ∧ Reps K T m xs vs := by
  obtain ⟨a, h1, h2⟩ := hr
  obtain ⟨a', o, k1, k2, k3, k4, vs, k5, k6⟩ := hs.cell r _ hg (fun z => by cases z)
  rw [h2] at k1; cases k1; subst k5
  exact ⟨a, vs, h1, h2, k4, k6⟩
mutual
theorem toPy_rep (hs : Same m.fz H) : ∀ (d : D) (v : V) (e : PyData), Rep K T m d v → toPy d = some e → Dp K H v e
  | .non, _, _, h, q => by cases q; cases h; exact .non
  | .bl _, _, _, h, q => by cases q; cases h; exact .bl _
  | .int _, _, _, h, q => by cases q; cases h; exact .int _
  | .str _, _, _, h, q => by cases q; cases h; exact .str _
  | .lst xs, _, e, ⟨a, vs, h1, h2, h3⟩, q => by
    have q : (toPys xs).map .list = some e := q
    obtain ⟨es, q1, q2⟩ := Option.map_eq_some_iff.mp q
    subst h1 q2
    exact .lst (.inl (.inl (hs _ _ h2))) (toPys_rep hs xs vs es h3 q1)
  | .tup xs, _, e, ⟨a, vs, h1, h2, h3⟩, q => by
    have q : (toPys xs).map .tuple = some e := q
    obtain ⟨es, q1, q2⟩ := Option.map_eq_some_iff.mp q
    subst h1 q2
    exact .tup (.inl (.inl (hs _ _ h2))) (toPys_rep hs xs vs es h3 q1)
  | .kt xs, _, e, ⟨a, vs, h1, h2, h4, h3⟩, q => by
    have q : (toPys xs).map .tuple = some e := q
    obtain ⟨es, q1, q2⟩ := Option.map_eq_some_iff.mp q
    subst h1 q2
    exact .tup (SqT.same hs h2) (toPys_rep hs xs vs es h3 q1)
  | .ntup xs, _, e, ⟨a, vs, o, h1, h2, h4, h5, h3⟩, q => by
    have q : (toPys xs).map .tuple = some e := q
    obtain ⟨es, q1, q2⟩ := Option.map_eq_some_iff.mp q
    subst h1 q2
    exact .tup (.inl (.inr ⟨o, hs _ _ h2⟩)) (toPys_rep hs xs vs es h3 q1)
  | .dK _ _, _, _, _, q => by cases q
  | .dT _ _, _, _, _, q => by cases q
  | .ins _ _ _, _, _, _, q => by cases q
  | .ref _, _, _, _, q => by cases q
  | .fn _, _, _, _, q => by cases q
  | .cls _, _, _, _, q => by cases q
  | .ty _, _, _, _, q => by cases q
  | .xc _ _ _, _, _, _, q => by cases q
  | .scr _, _, _, _, q => by cases q
  | .kd _ _, _, _, _, q => by cases q
  | .set _, _, _, _, q => by cases q
theorem toPys_rep (hs : Same m.fz H) : ∀ (ds : List D) (vs : List V) (es : List PyData), Reps K T m ds vs → toPys ds = some es → DpAll K H vs es
  | [], _, _, h, q => by cases q; cases h; exact .nil
  | x :: xs, _, es, ⟨v, ws, h1, h2, h3⟩, q => by
    unfold toPys at q
    split at q
    · rename_i d ds e1 e2
      cases q; subst h1
      exact .cons (toPy_rep hs x v d h2 e1) (toPys_rep hs xs ws ds h3 e2)
    · cases q
end
theorem toPyS_rep (hs : SRc K T m S H) {d : D} {v : V} {e : PyData} (hr : Rep K T m d v) (h : toPyS S d = some e) : Dp K H v e := by
  cases d with
  | ref r =>
    simp only [toPyS] at h
    split at h
    · rename_i xs hg
      obtain ⟨es, q1, q2⟩ := Option.map_eq_some_iff.mp h
      obtain ⟨a, vs, h1, h2, h3, h4⟩ := cell_lst hs hr hg
      subst h1 q2
      exact .lst (.inl (.inl h3)) (toPys_rep hs.fz xs vs es h4 q1)
    · cases h
  | _ => exact toPy_rep hs.fz _ _ _ hr h
theorem flat_rep {d : D} {v : V} (hr : Rep K T m d v) (h : flat d = true) : flatV v = true := by
  cases d <;> first | (simp [flat] at h; done) | (cases hr; rfl)
theorem flats_rep : ∀ {ds : List D} {vs : List V}, Reps K T m ds vs → ds.all flat = true → vs.all flatV = true
  | [], _, h, _ => by cases h; rfl
  | x :: xs, _, ⟨v, ws, h1, h2, h3⟩, q => by
    subst h1
    rw [List.all_cons, Bool.and_eq_true] at q ⊢
    exact ⟨flat_rep h2 q.1, flats_rep h3 q.2⟩
theorem flatEq_rep {d e : D} {v u : V} (hd : Rep K T m d v) (he : Rep K T m e u) (fd : flat d = true) (fe : flat e = true) : eqV v u = flatEq d e := by
  cases d <;> first | (simp [flat] at fd; done) | (cases e <;> first | (simp [flat] at fe; done) | (cases hd; cases he; rfl))
theorem inFlat_rep {d : D} {v : V} (hd : Rep K T m d v) (fd : flat d = true) : ∀ {ds : List D} {vs : List V}, Reps K T m ds vs → ds.all flat = true → inV v vs = ds.any fun y => flatEq y d
  | [], _, h, _ => by cases h; rfl
  | x :: xs, _, ⟨w, ws, h1, h2, h3⟩, q => by
    subst h1
    rw [List.all_cons, Bool.and_eq_true] at q
    unfold inV
    rw [List.any_cons, List.any_cons, flatEq_rep h2 hd q.1 fd]
    congr 1
    exact inFlat_rep hd fd h3 q.2
end
end HI
set_option Elab.async false
set_option linter.all false
set_option maxRecDepth 100000
/-! HiOps: the operations upon values keep what the evaluator says. -/
namespace HI
open PySem PySem.Spec PyProof.Rows L2

def opOf : BOp → Operator
  | .add => .Add | .sub => .Sub | .mul => .Mult | .mulW => .Mult | .fdiv => .FloorDiv | .fdivW => .FloorDiv | .mod => .Mod | .pow => .Pow
  | .shl => .LShift | .shr => .RShift | .band => .BitAnd | .bor => .BitOr | .bxor => .BitXor
def cmpOf : COp → CmpOp
  | .lt => .Lt | .le => .LtE | .gt => .Gt | .ge => .GtE | .eq => .Eq | .ne => .NotEq | .isin => .In | .notin => .NotIn | .iss => .Is | .isnot => .IsNot

section
variable (X : Cx) (T : Tab) (W : WX)
def OpS (f : Value → Value → Sem Value) (ev : Store → D → D → R D) : Prop :=
  ∀ (pins : List (Addr × Obj)) (s : Shared) (σ : L2.St) (H : Hp) (x y : V) (v u : Value) (dx dy : D) (m : Mem) (S : Store) (Q : VK), Inv X pins σ H s → RelV x v → RelV y u → SRc X.K T m S H → Rep X.K T m dx x → Rep X.K T m dy y →
    PostR X.K T (Rep X.K T) W m σ Q (ev S dx dy) → wpAny (model X.prog X.w) X.A (f v u) (EP X pins σ Q) X.xe s
variable {X T W}
theorem ops_bin (o : BOp) : OpS X T W (binaryOp (opOf o)) (fun S => evBin S o) := by
  intro pins s σ H x y v u dx dy m S Q I rx ry hs hx hy h
  -- two tuples
  have tups : PostR X.K T (Rep X.K T) W m σ Q (if o = .add then optR (tupOf dx) fun xs => optR (tupOf dy) fun ys => catT S dx dy xs ys else .bad) → wpAny (model X.prog X.w) X.A (binaryOp (opOf o) v u) (EP X pins σ Q) X.xe s := fun h' => by
    obtain ⟨ho, h1⟩ := PostR.ite h'
    obtain ⟨xs, e1, h2⟩ := h1.opt
    obtain ⟨ys, e2, h3⟩ := h2.opt
    subst ho
    obtain ⟨a, vs, rfl, k1, k2⟩ := tupOf_rep hs hx e1
    obtain ⟨b, ws, rfl, j1, j2⟩ := tupOf_rep hs hy e2
    cases (show v = Value.ref a from rx)
    cases (show u = Value.ref b from ry)
    obtain ⟨its, r1, p1, _⟩ := I.tuple k1
    obtain ⟨its2, r2, p2, _⟩ := I.tuple j1
    have l1 := k2.length
    have l2 := j2.length
    have n1 := r1.length
    have n2 := r2.length
    cases xs with
    | nil =>
      have q : Q (.ref b) H := by cases ys <;> exact PostR.val h3 hs hy
      obtain rfl : its = [] := List.length_eq_zero_iff.mp (by simp only [List.length_nil] at l1; omega)
      exact cat_tup0 p1 p2 ⟨.ref b, H, I, rfl, q⟩
    | cons x0 xs =>
      refine HT.cat_tup p1 p2 (fun z => ?_) (fun z => ?_) (fun z => ?_) ?_
      · subst z; simp only [List.length_cons, List.length_nil] at l1 n1; omega
      · subst z
        cases ys with
        | nil => exact ⟨.ref a, H, I, rfl, PostR.val h3 hs hx⟩
        | cons y0 ys => simp only [List.length_cons, List.length_nil] at l2 n2; omega
      · cases ys with
        | nil => exact absurd (List.length_eq_zero_iff.mp (by simp only [List.length_nil] at l2; omega)) z
        | cons y0 ys =>
          obtain ⟨hz, h4⟩ := PostR.ite h3
          refine ⟨.ref s.heap.objs.size, _, I.laid (t' := s.toks) (o := .frz { cls := .type "tuple", data := .seq (its ++ its2).toArray } (.tup (vs ++ ws))) (fun b ob q => Heap.get?_push_of_some _ q) (Nat.le_refl _) ?_, rfl, h4.newNtup hs (k2.append j2) (I.hok.fresh (Nat.le_refl _)) rfl rfl⟩
          exact ⟨Heap.get?_push_size _ rfl, by rw [List.length_append, ← l1, ← l2]; exact hz, _, r1.append r2, IsTup.new _ _⟩
      · cases ys with
        | nil => simp only [List.length_nil] at l2; obtain ⟨_, _, _, hz⟩ := I.tuple k1; omega
        | cons y0 ys =>
          obtain ⟨hz, h4⟩ := PostR.ite h3
          rw [← n1, ← n2, ← l1, ← l2]; exact hz
  cases dx with
  | int i =>
    cases hx
    cases dy with
    | int j =>
      cases hy
      cases o with
      | add => exact op_add pins s σ H _ _ v u Q I rx ry ⟨i, j, rfl, rfl, h.okI hs⟩
      | sub => exact op_sub pins s σ H _ _ v u Q I rx ry ⟨i, j, rfl, rfl, h.okI hs⟩
      | mul =>
        obtain ⟨h1, h⟩ := PostR.ite h
        exact op_mul pins s σ H _ _ v u Q I rx ry ⟨i, j, rfl, rfl, h1, h.okI hs⟩
      | mulW =>
        obtain ⟨h1, h⟩ := PostR.ite h
        exact op_mulW pins s σ H _ _ v u Q I rx ry ⟨i, j, rfl, rfl, h1, h.okI hs⟩
      | fdiv =>
        obtain ⟨h1, h⟩ := PostR.ite h
        exact op_fdiv pins s σ H _ _ v u Q I rx ry ⟨i, j, rfl, rfl, h1, h.okI hs⟩
      | fdivW =>
        obtain ⟨h1, h⟩ := PostR.ite h
        exact op_fdivW pins s σ H _ _ v u Q I rx ry ⟨i, j, rfl, rfl, h1, h.okI hs⟩
      | mod =>
        obtain ⟨h1, h⟩ := PostR.ite h
        exact op_mod pins s σ H _ _ v u Q I rx ry ⟨i, j, rfl, rfl, h1, h.okI hs⟩
      | pow =>
        obtain ⟨h1, h⟩ := PostR.ite h
        exact op_pow pins s σ H _ _ v u Q I rx ry ⟨i, j, rfl, rfl, h1, h.okI hs⟩
      | shl =>
        obtain ⟨h1, h⟩ := PostR.ite h
        exact op_shl pins s σ H _ _ v u Q I rx ry ⟨i, j, rfl, rfl, h1, h.okI hs⟩
      | shr =>
        obtain ⟨h1, h⟩ := PostR.ite h
        exact op_shr pins s σ H _ _ v u Q I rx ry ⟨i, j, rfl, rfl, h1, h.okI hs⟩
      | band => exact op_and pins s σ H _ _ v u Q I rx ry ⟨i, j, rfl, rfl, h.okI hs⟩
      | bor => exact op_or pins s σ H _ _ v u Q I rx ry ⟨i, j, rfl, rfl, h.okI hs⟩
      | bxor => exact op_xor pins s σ H _ _ v u Q I rx ry ⟨i, j, rfl, rfl, h.okI hs⟩
    | _ => exact tups (by simpa only [evBin] using h)
  | str a =>
    cases hx
    cases dy with
    | str b =>
      cases hy
      obtain ⟨⟨ho, h1⟩, h2⟩ := PostR.ite h
      subst ho
      exact op_add_str pins s σ H _ _ v u Q I rx ry ⟨a, b, rfl, rfl, h1, PostR.val (b := V.str (a ++ b)) h2 hs rfl⟩
    | _ => exact tups (by simpa only [evBin] using h)
  | lst xs =>
    obtain ⟨a, vs, rfl, h2, h3⟩ := hx
    cases dy with
    | lst ys =>
      obtain ⟨b, ws, rfl, k2, k3⟩ := hy
      simp only [evBin] at h
      obtain ⟨ho, h'⟩ := PostR.ite h
      obtain ⟨h1, h4⟩ := PostR.ite h'
      subst ho
      exact op_cat pins s σ H _ _ v u Q I rx ry ⟨a, b, vs, ws, rfl, rfl, hs.fz _ _ h2, hs.fz _ _ k2, by rw [← h3.length, ← k3.length]; exact h1, fun p np => h4.newLst hs (h3.append k3) np⟩
    | _ => exact tups (by simpa only [evBin] using h)
  | _ => cases dy <;> exact tups (by simpa only [evBin] using h)

theorem isin_rep {m : Mem} {S : Store} {H : Hp} {dx dy : D} {x y : V} {b : Bool} {neg : Bool} {Q : VK} (hs : SRc X.K T m S H) (hx : Rep X.K T m dx x) (hy : Rep X.K T m dy y) (e : inD S dx dy = some b) (q : Q (.bl (if neg then !b else b)) H) :
    rIn X.K neg x y H Q ∨ ((if neg then rNotInD X.K else rInD X.K) x y H Q) := by
  unfold inD at e
  split at e
  · cases e
  · rename_i ys hq
    obtain ⟨a, vs, rfl, h1, h2⟩ := seqOf_rep hs hy hq
    split at e
    · rename_i hf
      rw [Bool.and_eq_true] at hf
      cases e
      rw [← inFlat_rep hx hf.1 h2 hf.2] at q
      exact .inl ⟨a, vs, rfl, h1, flat_rep hx hf.1, flats_rep h2 hf.2, q⟩
    · split at e
      · rename_i d es e1 e2
        split at e
        · rename_i hsh
          rw [Bool.and_eq_true] at hsh
          cases e
          refine .inr ?_
          cases neg with
          | false => exact ⟨d, es, toPyS_rep hs hx e1, toPyS_rep hs hy e2, hsh.1, hsh.2, q⟩
          | true => exact ⟨d, es, toPyS_rep hs hx e1, toPyS_rep hs hy e2, hsh.1, hsh.2, q⟩
        · cases e
      · cases e

theorem eqFlat {dx dy : D} {m : Mem} {H : Hp} {x y : V} {b : Bool} {Q : VK} {neg : Bool} (hx : Rep X.K T m dx x) (hy : Rep X.K T m dy y) (fx : flat dx = true) (fy : flat dy = true) (q : Q (.bl (if neg then !flatEq dx dy else flatEq dx dy)) H) :
    (if neg then rNe else rEq) x y H Q ∨ (if neg then rNeD X.K else rEqD X.K) x y H Q := by
  have sh : ∀ (i : Int), SeqAt.shaped (.int i) = true := fun i => rfl
  have sb : ∀ (i : Bool), SeqAt.shaped (.bool i) = true := fun i => rfl
  cases dx with
  | non =>
    cases hx
    cases dy with
    | non => cases hy; left; cases neg <;> exact ⟨rfl, q⟩
    | bl b => cases hy; left; cases neg <;> exact ⟨rfl, by rw [decide_eq_false (fun z => by cases z)]; exact q⟩
    | int b => cases hy; left; cases neg <;> exact ⟨rfl, by rw [decide_eq_false (fun z => by cases z)]; exact q⟩
    | str b => cases hy; left; cases neg <;> exact ⟨rfl, by rw [decide_eq_false (fun z => by cases z)]; exact q⟩
    | _ => cases fy
  | bl a =>
    cases hx
    cases dy with
    | non => cases hy; left; cases neg <;> exact ⟨rfl, by rw [decide_eq_false (fun z => by cases z)]; exact q⟩
    | bl b => cases hy; left; cases neg <;> exact ⟨rfl, by rw [dec_bl]; exact q⟩
    | int b => cases hy; right; cases neg <;> exact ⟨_, _, .bl a, .int b, sb a, sh b, q⟩
    | str b => cases hy; left; cases neg <;> exact ⟨rfl, by rw [decide_eq_false (fun z => by cases z)]; exact q⟩
    | _ => cases fy
  | int a =>
    cases hx
    cases dy with
    | non => cases hy; left; cases neg <;> exact ⟨rfl, by rw [decide_eq_false (fun z => by cases z)]; exact q⟩
    | bl b => cases hy; right; cases neg <;> exact ⟨_, _, .int a, .bl b, sh a, sb b, q⟩
    | int b => cases hy; left; cases neg <;> exact ⟨rfl, by rw [dec_int]; exact q⟩
    | str b => cases hy; left; cases neg <;> exact ⟨rfl, by rw [decide_eq_false (fun z => by cases z)]; exact q⟩
    | _ => cases fy
  | str a =>
    cases hx
    cases dy with
    | non => cases hy; left; cases neg <;> exact ⟨rfl, by rw [decide_eq_false (fun z => by cases z)]; exact q⟩
    | bl b => cases hy; left; cases neg <;> exact ⟨rfl, by rw [decide_eq_false (fun z => by cases z)]; exact q⟩
    | int b => cases hy; left; cases neg <;> exact ⟨rfl, by rw [decide_eq_false (fun z => by cases z)]; exact q⟩
    | str b => cases hy; left; cases neg <;> exact ⟨rfl, by rw [dec_str]; exact q⟩
    | _ => cases fy
  | _ => cases fx
theorem eqD_rep {m : Mem} {S : Store} {H : Hp} {dx dy : D} {x y : V} {b : Bool} (hs : SRc X.K T m S H) (hx : Rep X.K T m dx x) (hy : Rep X.K T m dy y) (e : eqD S dx dy = some b) : ∃ d e, Dp X.K H x d ∧ Dp X.K H y e ∧ SeqAt.shaped d = true ∧ SeqAt.shaped e = true ∧ b = PyData.eqv d e := by
  unfold eqD at e
  split at e
  · rename_i d e' h1 h2
    split at e
    · rename_i h3
      rw [Bool.and_eq_true] at h3
      cases e
      exact ⟨d, e', toPyS_rep hs hx h1, toPyS_rep hs hy h2, h3.1, h3.2, rfl⟩
    · cases e
  · cases e
theorem ops_cmp (hu : X.A.units + 65 < cLine) (o : COp) : OpS X T W (compareOp (cmpOf o)) (fun S => evCmp S o) := by
  intro pins s σ H x y v u dx dy m S Q I rx ry hs hx hy h
  cases o with
  | lt =>
    cases dx <;> cases dy <;> first
      | exact h.elim
      | (cases hx; cases hy; exact op_lt pins s σ H _ _ v u Q I rx ry ⟨_, _, rfl, rfl, h.okB hs⟩)
  | le =>
    cases dx <;> cases dy <;> first
      | exact h.elim
      | (cases hx; cases hy; exact op_le pins s σ H _ _ v u Q I rx ry ⟨_, _, rfl, rfl, h.okB hs⟩)
  | gt =>
    cases dx <;> cases dy <;> first
      | exact h.elim
      | (cases hx; cases hy; exact op_gt pins s σ H _ _ v u Q I rx ry ⟨_, _, rfl, rfl, h.okB hs⟩)
  | ge =>
    cases dx <;> cases dy <;> first
      | exact h.elim
      | (cases hx; cases hy; exact op_ge pins s σ H _ _ v u Q I rx ry ⟨_, _, rfl, rfl, h.okB hs⟩)
  | eq =>
    simp only [evCmp] at h
    split at h
    · rename_i hf
      rw [Bool.and_eq_true] at hf
      rcases eqFlat (X := X) (b := false) (neg := false) (Q := Q) hx hy hf.1 hf.2 (h.okB hs) with q | q
      · exact op_eq pins s σ H _ _ v u Q I rx ry q
      · exact op_eqD (by omega) pins s σ H _ _ v u Q I rx ry q
    · obtain ⟨b, e, h⟩ := h.opt
      obtain ⟨d, e', h1, h2, h3, h4, rfl⟩ := eqD_rep hs hx hy e
      exact op_eqD (by omega) pins s σ H _ _ v u Q I rx ry ⟨d, e', h1, h2, h3, h4, h.okB hs⟩
  | ne =>
    simp only [evCmp] at h
    split at h
    · rename_i hf
      rw [Bool.and_eq_true] at hf
      rcases eqFlat (X := X) (b := false) (neg := true) (Q := Q) hx hy hf.1 hf.2 (h.okB hs) with q | q
      · exact op_ne pins s σ H _ _ v u Q I rx ry q
      · exact op_neD (by omega) pins s σ H _ _ v u Q I rx ry q
    · obtain ⟨b, e, h⟩ := h.opt
      obtain ⟨d, e', h1, h2, h3, h4, rfl⟩ := eqD_rep hs hx hy e
      exact op_neD (by omega) pins s σ H _ _ v u Q I rx ry ⟨d, e', h1, h2, h3, h4, h.okB hs⟩
  | isin =>
    obtain ⟨b, e, h⟩ := PostR.opt h
    rcases isin_rep (X := X) (neg := false) (Q := Q) hs hx hy e (h.okB hs) with q | q
    · exact op_in_seq pins s σ H _ _ v u Q I rx ry q
    · exact op_inD hu pins s σ H _ _ v u Q I rx ry q
  | notin =>
    obtain ⟨b, e, h⟩ := PostR.opt h
    rcases isin_rep (X := X) (neg := true) (Q := Q) hs hx hy e (h.okB hs) with q | q
    · exact op_notIn_seq pins s σ H _ _ v u Q I rx ry q
    · exact op_notInD hu pins s σ H _ _ v u Q I rx ry q
  | iss =>
    cases dy with
    | non =>
      cases hy
      refine op_isN pins s σ H _ _ v u Q I rx ry ⟨rfl, ?_⟩
      cases dx with
      | non => cases hx; exact h.okB hs
      | bl b => cases hx; exact h.okB hs
      | int b => cases hx; exact h.okB hs
      | str b => cases hx; exact h.okB hs
      | lst b => obtain ⟨a, _, rfl, _⟩ := hx; exact h.okB hs
      | tup b => obtain ⟨a, _, rfl, _⟩ := hx; exact h.okB hs
      | dK b => obtain ⟨a, _, rfl, _⟩ := hx; exact h.okB hs
      | dT b => obtain ⟨a, _, rfl, _⟩ := hx; exact h.okB hs
      | ins b => obtain ⟨a, _, _, rfl, _⟩ := hx; exact h.okB hs
      | ref b => obtain ⟨a, rfl, _⟩ := hx; exact h.okB hs
      | scr b => obtain ⟨a, rfl, _⟩ := hx; exact h.okB hs
      | kt b => obtain ⟨a, _, rfl, _⟩ := hx; exact h.okB hs
      | ntup b => obtain ⟨a, _, _, rfl, _⟩ := hx; exact h.okB hs
      | fn b => cases hx; exact h.okB hs
      | cls b => cases hx; exact h.okB hs
      | ty b => cases hx; exact h.okB hs
      | xc => exact hx.elim
      | kd b => obtain ⟨a, _, rfl, _⟩ := hx; exact h.okB hs
      | set b => obtain ⟨a, rfl, _⟩ := hx; exact h.okB hs
    | _ => exact h.elim
  | isnot =>
    cases dy with
    | non =>
      cases hy
      refine op_notN pins s σ H _ _ v u Q I rx ry ⟨rfl, ?_⟩
      cases dx with
      | non => cases hx; exact h.okB hs
      | bl b => cases hx; exact h.okB hs
      | int b => cases hx; exact h.okB hs
      | str b => cases hx; exact h.okB hs
      | lst b => obtain ⟨a, _, rfl, _⟩ := hx; exact h.okB hs
      | tup b => obtain ⟨a, _, rfl, _⟩ := hx; exact h.okB hs
      | dK b => obtain ⟨a, _, rfl, _⟩ := hx; exact h.okB hs
      | dT b => obtain ⟨a, _, rfl, _⟩ := hx; exact h.okB hs
      | ins b => obtain ⟨a, _, _, rfl, _⟩ := hx; exact h.okB hs
      | ref b => obtain ⟨a, rfl, _⟩ := hx; exact h.okB hs
      | scr b => obtain ⟨a, rfl, _⟩ := hx; exact h.okB hs
      | kt b => obtain ⟨a, _, rfl, _⟩ := hx; exact h.okB hs
      | ntup b => obtain ⟨a, _, _, rfl, _⟩ := hx; exact h.okB hs
      | fn b => cases hx; exact h.okB hs
      | cls b => cases hx; exact h.okB hs
      | ty b => cases hx; exact h.okB hs
      | xc => exact hx.elim
      | kd b => obtain ⟨a, _, rfl, _⟩ := hx; exact h.okB hs
      | set b => obtain ⟨a, rfl, _⟩ := hx; exact h.okB hs
    | _ => exact h.elim
end
end HI
set_option Elab.async false
set_option linter.all false
set_option maxRecDepth 100000
/-! HiSl: the whole slice of a tuple is the tuple. -/
namespace HI
open PySem PySem.Spec PyProof.Rows L2
section
variable {prog : Program} {w : World} {A : Around} {E : Value → Shared → Prop} {s : Shared}
theorem getItem_tuple_whole {t sl : Addr} {items : Array Value} {vl vu : Value} {lo hi : Option Int} {Q : Value → Shared → Prop} (ht : IsTup s.heap t items) (hs : s.heap.IsSliceOf sl vl vu .none) (pl : IsPart vl lo) (pu : IsPart vu hi)
    (hw : HT.sIx items.size 0 lo = 0 ∧ HT.sIx items.size items.size hi = items.size)
    (h : Q (.ref t) s) : wpAny (model prog w) A (getItem (.ref t) (.ref sl)) Q E s := by
  obtain ⟨os, hos, hcs, hds⟩ := id hs
  have hTs : s.TypeIs (.ref sl) "slice" := ⟨os, hos, hcs⟩
  unfold getItem
  try with_reducible refine wpAny_holding ?_
  first | refine wpAny_bind (wpAny_pure ?_) | skip
  refine wpAny_bind (wpAny_sequenceKey ht.typeIs (by decide) ?_)
  refine wpAny_bind (wpAny_callSpecial?_slot (name := Str.ofString "__getitem__") ht.typeIs PyProof.Rows.slot_tuple_getitem
    (wpAny_call_entry PyProof.Rows.slot_tuple_getitem ht.typeIs entry_tuple_getitem ?_ (args_tuple_getitem _ _)))
  show wpAny _ _ (Builtin.Tuple.tupleItemsOf (.ref t) >>= _) _ _ s
  refine wpAny_bind (tupleItemsOf_ ht ?_)
  refine wpAny_bind (wpAny_typeOf hTs ?_)
  rw [if_pos (by decide)]
  refine wpAny_bind (HT.sliceApplied_gen hs pl pu ?_)
  show wpAny _ _ (if (((HT.sIx items.size 0 lo : Nat) : Int) == 0 && (1 : Int) == 1 && (HT.sIx items.size items.size hi - HT.sIx items.size 0 lo) == items.size) = true then _ else _) _ _ s
  rw [if_pos (by rw [hw.1, hw.2]; simp)]
  refine wpAny_bind ?_
  unfold Builtin.Tuple.tupleIsExact
  refine wpAny_bind (wpAny_typeOf ht.typeIs (wpAny_pure ?_))
  rw [if_pos (by decide)]
  refine wpAny_bind (wpAny_rule ?_)
  first
    | exact wpAny_bind (wpAny_pure (wpAny_pure ⟨_, rfl, wpAny_pure h⟩))
    | exact wpAny_bind (wpAny_pure ⟨_, rfl, wpAny_pure h⟩)
    | exact wpAny_pure ⟨_, rfl, wpAny_pure h⟩
end
section
variable {X : Cx}
/-- t[lo:hi], all of it -/
def rSlW (K : PySem.W.Frag) : V → Option Int → Option Int → Hp → VK → Prop := fun x lo hi H Q => ∃ a xs, x = .ref a ∧ SqT K H a xs ∧
  (HT.sIx xs.length 0 lo = 0 ∧ HT.sIx xs.length xs.length hi = xs.length) ∧ Q (.ref a) H
theorem sl_whole : SlR X (rSlW X.K) := by
  intro pins s σ H x v vl vu lo hi sl Q I rx hs pl pu h
  obtain ⟨a, xs, rfl, hx, hw, q⟩ := h
  cases rx
  obtain ⟨its, r, ht, hz⟩ := I.tuple hx
  have hlen : its.toArray.size = xs.length := by rw [List.size_toArray]; exact r.length.symm
  refine ⟨"tuple", _, PyProof.Rows.slot_tuple_getitem.lookup, ht.typeIs, ?_⟩
  exact getItem_tuple_whole ht hs pl pu (by rw [hlen]; exact hw) ⟨.ref a, H, I, rfl, q⟩
end
end HI
set_option Elab.async false
set_option linter.all false
set_option maxRecDepth 100000
/-! HiOps2: truth, items, slices, fields, the built-in functions and methods. -/
namespace HI
open PySem PySem.Spec PyProof.Rows L2

section
variable {X : Cx} {T : Tab} {W : WX}
theorem truth_rep {m : Mem} {S : Store} {H : Hp} {d : D} {v : V} {b : Bool} (hs : SRc X.K T m S H) (hr : Rep X.K T m d v) (h : truthD S d = some b) : TruV X.K v H b := by
  have ee : ∀ {xs : List D} {vs : List V}, Reps X.K T m xs vs → (!xs.isEmpty) = !vs.isEmpty := fun {xs vs} r => by
    have e := r.length
    cases xs <;> cases vs <;> first | rfl | (simp at e; done)
  cases d with
  | non => cases h; cases hr; exact rfl
  | bl _ => cases h; cases hr; exact rfl
  | int _ => cases h; cases hr; exact rfl
  | str x =>
    simp only [truthD] at h
    split at h
    · rename_i hl
      cases h; cases hr
      refine ⟨hl, ?_⟩
      show (x.length != 0) = (((x.length : Nat) : Int) != 0)
      cases x.length <;> rfl
    · cases h
  | lst xs => cases h; obtain ⟨a, vs, rfl, h2, h3⟩ := hr; exact .inl ⟨vs, .inl (.inl (hs.fz _ _ h2)), ee h3⟩
  | tup xs => cases h; obtain ⟨a, vs, rfl, h2, h3⟩ := hr; exact .inr (.inl ⟨vs, .inl (.inl (hs.fz _ _ h2)), ee h3⟩)
  | kt xs => cases h; obtain ⟨a, vs, rfl, h2, _, h3⟩ := hr; exact .inr (.inl ⟨vs, SqT.same hs.fz h2, ee h3⟩)
  | ntup xs => cases h; obtain ⟨a, vs, o, rfl, h2, _, _, h3⟩ := hr; exact .inr (.inl ⟨vs, .inl (.inr ⟨o, hs.fz _ _ h2⟩), ee h3⟩)
  | ref r =>
    simp only [truthD] at h
    split at h
    · rename_i xs hg
      cases h
      obtain ⟨a, vs, rfl, h2, h3, h4⟩ := cell_lst hs hr hg
      exact .inl ⟨vs, .inl (.inl h3), ee h4⟩
    · cases h
  | _ => cases h

theorem atI_rep {m : Mem} {ds : List D} {vs : List V} {i : Int} {d : D} (hr : Reps X.K T m ds vs) (h : atI ds i = some d) : ∃ v, atI vs i = some v ∧ Rep X.K T m d v := by
  unfold atI at h ⊢
  rw [← hr.length]
  cases e : ixN ds.length i with
  | none => rw [e] at h; cases h
  | some j =>
    rw [e] at h
    exact hr.get h
theorem keyOf_rep {m : Mem} {d : D} {v : V} {k : Key} (hr : Rep X.K T m d v) (h : keyOf d = some k) : v = kV k := by
  cases d <;> first | (cases h; done) | (cases h; cases hr; rfl)
theorem keysOf_rep {m : Mem} : ∀ {ds : List D} {vs : List V} {ks : List Key}, Reps X.K T m ds vs → keysOf ds = some ks → vs = ks.map kV
  | [], _, _, h, q => by cases h; cases q; rfl
  | x :: xs, _, ks, ⟨v, ws, h1, h2, h3⟩, q => by
    unfold keysOf at q
    split at q
    · rename_i k ks' e1 e2
      cases q; subst h1
      rw [keyOf_rep h2 e1, keysOf_rep h3 e2]; rfl
    · cases q
theorem lookK_rep {κ : Type} [DecidableEq κ] {m : Mem} {k : κ} : ∀ {ks : List κ} {ds : List D} {vs : List V} {d : D}, Reps X.K T m ds vs → lookK k ks ds = some d → ∃ v, valV (ks.zip vs) k = some v ∧ Rep X.K T m d v
  | [], _, _, _, _, h => by cases h
  | _ :: _, [], _, _, _, h => by cases h
  | c :: ks, x :: xs, _, d, ⟨v, ws, h1, h2, h3⟩, h => by
    subst h1
    unfold lookK at h
    split at h
    · rename_i hc
      cases h
      exact ⟨v, valV_pos hc, h2⟩
    · rename_i hc
      obtain ⟨u, e1, e2⟩ := lookK_rep h3 h
      exact ⟨u, by show valV ((c, v) :: ks.zip ws) k = some u; rw [valV_neg hc]; exact e1, e2⟩

/-- a subscript by values -/
def IxS (X : Cx) (T : Tab) (W : WX) (ev : Store → D → D → R D) : Prop :=
  ∀ (value slice : Expr) (pins : List (Addr × Obj)) (s : Shared) (σ : L2.St) (H : Hp) (x y : V) (v u : Value) (dx dy : D) (m : Mem) (S : Store) (Q : VK), Inv X pins σ H s → RelV x v → RelV y u → SRc X.K T m S H → Rep X.K T m dx x → Rep X.K T m dy y →
    PostR X.K T (Rep X.K T) W m σ Q (ev S dx dy) → subscripted slice false v u = operate [v, u] (getItem v u) → wpAny (model X.prog X.w) X.A (subscriptTail value slice v u) (EP X pins σ Q) X.xe s
theorem dict_tail (hu : X.A.units + 1 < cLine) {value slice : Expr} {pins : List (Addr × Obj)} {s : Shared} {σ : L2.St} {H : Hp} {a : Addr} {y v : V} {u : Value} {Q : VK} (I : Inv X pins σ H s) (ry : RelV y u) (g : DGet H a y (some v)) (q : Q v H)
    (hs : subscripted slice false (.ref a) u = operate [.ref a, u] (getItem (.ref a) u)) : wpAny (model X.prog X.w) X.A (subscriptTail value slice (.ref a) u) (EP X pins σ Q) X.xe s :=
  tail_any (dict_typeIs I g) PySem.F.slot_dict_getitem.lookup (d_getItem hu I g ry fun w' s' I' r' => ⟨v, H, I', r', q⟩) hs
theorem ixs_sub (hu : X.A.units + 65 < cLine) (hkd : ∀ a z v, T.kd a z v → KDct X.K X.w a z v) : IxS X T W evSub := by
  intro value slice pins s σ H x y v u dx dy m S Q I rx ry hs hx hy h hsub
  have seq : ∀ {xs : List D} {i : Int}, seqOf S dx = some xs → dy = .int i → PostR X.K T (Rep X.K T) W m σ Q (optR (atI xs i) fun d => .ok d S) → wpAny (model X.prog X.w) X.A (subscriptTail value slice v u) (EP X pins σ Q) X.xe s := fun {xs i} e ei h' => by
    have hy' : y = .int i := by rw [ei] at hy; exact hy
    obtain ⟨a, vs, hv, h1, h2⟩ := seqOf_rep hs hx e
    obtain ⟨d, e1, h'⟩ := h'.opt
    obtain ⟨w, e2, e3⟩ := atI_rep h2 e1
    rcases h1 with h1 | h1
    · exact ix_list value slice pins s σ H _ _ v u Q I rx ry ⟨a, vs, i, w, hv, hy', h1, e2, h'.val hs e3⟩ hsub
    · exact ix_tup value slice pins s σ H _ _ v u Q I rx ry ⟨a, vs, i, w, hv, hy', h1, e2, h'.val hs e3⟩ hsub
  cases dx with
  | str z =>
    cases dy with
    | int i =>
      cases hx; cases hy
      obtain ⟨h1, h⟩ := PostR.ite h
      obtain ⟨c, e, h⟩ := h.opt
      exact ix_str value slice pins s σ H _ _ v u Q I rx ry ⟨z, i, c, rfl, rfl, h1, e, PostR.val (b := V.str ⟨#[c]⟩) h hs rfl⟩ hsub
    | _ => exact h.elim
  | dK ks vs =>
    obtain ⟨k, e1, h⟩ := PostR.opt h
    obtain ⟨d, e2, h⟩ := h.opt
    obtain ⟨a, ws, rfl, h1, h2, h3⟩ := hx
    obtain ⟨w, e3, e4⟩ := lookK_rep h3 e2
    rw [keyOf_rep hy e1] at ry
    cases (show v = Value.ref a from rx)
    exact dict_tail (by omega) I ry (by rw [← e3]; exact DGet.k (hs.fz _ _ h1)) (h.val hs e4) hsub
  | dT ks vs =>
    cases dy with
    | tup k =>
      obtain ⟨k, e1, h⟩ := PostR.opt h
      obtain ⟨d, e2, h⟩ := h.opt
      obtain ⟨a, ws, rfl, h1, h2, h3⟩ := hx
      obtain ⟨b, us, rfl, k2, k3⟩ := hy
      obtain ⟨w, e3, e4⟩ := lookK_rep h3 e2
      cases (show v = Value.ref a from rx)
      have k2 := hs.fz _ _ k2
      rw [keysOf_rep k3 e1] at k2
      exact dict_tail (by omega) I ry (by rw [← e3]; exact DGet.t (hs.fz _ _ h1) k2) (h.val hs e4) hsub
    | _ => exact h.elim
  | kd ks vs =>
    cases dy with
    | str z =>
      obtain ⟨d, e2, h⟩ := PostR.opt h
      obtain ⟨a, ws, rfl, h1, h3⟩ := hx
      obtain ⟨w, e3, e4⟩ := lookK_rep h3 e2
      cases hy
      exact ix_kdict value slice pins s σ H _ _ v u Q I rx ry ⟨a, z, w, rfl, rfl, hkd _ _ _ (h1 z w e3), h.val hs e4⟩ hsub
    | _ => exact h.elim
  | lst xs =>
    cases dy with
    | int i => exact seq rfl rfl h
    | _ => exact h.elim
  | tup xs =>
    cases dy with
    | int i => exact seq rfl rfl h
    | _ => exact h.elim
  | kt xs =>
    cases dy with
    | int i => exact seq rfl rfl h
    | _ => exact h.elim
  | ntup xs =>
    cases dy with
    | int i => exact seq rfl rfl h
    | _ => exact h.elim
  | ref r =>
    cases dy with
    | int i =>
      obtain ⟨xs, e, h⟩ := PostR.opt h
      exact seq e rfl h
    | _ => exact h.elim
  | _ => cases dy <;> exact h.elim

/-! ### slices -/
theorem cut_rep {m : Mem} {ds : List D} {vs : List V} (lo hi : Option Int) (h : Reps X.K T m ds vs) : Reps X.K T m (cutD ds lo hi) (cutV vs lo hi) := by
  unfold cutD cutV
  rw [h.length]
  exact (h.drop _).take _
theorem reps_ints {m : Mem} : ∀ (is : List Int), Reps X.K T m (is.map D.int) (is.map V.int)
  | [] => rfl
  | _ :: is => ⟨_, _, rfl, rfl, reps_ints is⟩
def SlS (X : Cx) (T : Tab) (W : WX) (ev : Store → D → Option Int → Option Int → R D) : Prop :=
  ∀ (pins : List (Addr × Obj)) (s : Shared) (σ : L2.St) (H : Hp) (x : V) (v vl vu : Value) (lo hi : Option Int) (sl : Addr) (dx : D) (m : Mem) (S : Store) (Q : VK), Inv X pins σ H s → RelV x v → s.heap.IsSliceOf sl vl vu .none → IsPart vl lo → IsPart vu hi →
    SRc X.K T m S H → Rep X.K T m dx x → PostR X.K T (Rep X.K T) W m σ Q (ev S dx lo hi) →
    ∃ T id, typeLookup (.type T) "__getitem__" = pure (some (.builtin id)) ∧ s.TypeIs v T ∧ wpAny (model X.prog X.w) X.A (getItem v (.ref sl)) (EP X pins σ Q) X.xe s
theorem sls_slc : SlS X T W evSlc := by
  intro pins s σ H x v vl vu lo hi sl dx m S Q I rx hsl pl pu hs hx h
  cases dx with
  | lst xs =>
    obtain ⟨a, vs, rfl, h2, h3⟩ := hx
    exact sl_list pins s σ H _ v vl vu lo hi sl Q I rx hsl pl pu ⟨a, vs, rfl, .inl (.inl (hs.fz _ _ h2)), fun p np => h.newLst hs (cut_rep lo hi h3) np⟩
  | scr is =>
    obtain ⟨a, rfl, h2⟩ := hx
    exact sl_list pins s σ H _ v vl vu lo hi sl Q I rx hsl pl pu ⟨a, _, rfl, SqL.same hs.fz h2, fun p np => h.newLst hs (cut_rep lo hi (reps_ints is)) np⟩
  | ntup xs =>
    have hx0 := hx
    obtain ⟨a, vs, o, rfl, h2, _, _, h3⟩ := hx
    simp only [evSlc] at h
    split at h
    · rename_i hw
      rw [h3.length] at hw
      exact sl_whole pins s σ H _ v vl vu lo hi sl Q I rx hsl pl pu ⟨a, vs, rfl, .inl (.inr ⟨o, hs.fz _ _ h2⟩), hw, h.val hs hx0⟩
    · rename_i hw
      rw [h3.length] at hw
      exact sl_tup pins s σ H _ v vl vu lo hi sl Q I rx hsl pl pu ⟨a, vs, rfl, .inl (.inr ⟨o, hs.fz _ _ h2⟩), hw, fun p np => h.newTup hs (cut_rep lo hi h3) np⟩
  | tup xs =>
    have hx0 := hx
    obtain ⟨a, vs, rfl, h2, h3⟩ := hx
    simp only [evSlc] at h
    split at h
    · rename_i hw
      rw [h3.length] at hw
      exact sl_whole pins s σ H _ v vl vu lo hi sl Q I rx hsl pl pu ⟨a, vs, rfl, .inl (.inl (hs.fz _ _ h2)), hw, h.val hs hx0⟩
    · rename_i hw
      rw [h3.length] at hw
      exact sl_tup pins s σ H _ v vl vu lo hi sl Q I rx hsl pl pu ⟨a, vs, rfl, .inl (.inl (hs.fz _ _ h2)), hw, fun p np => h.newTup hs (cut_rep lo hi h3) np⟩
  | kt xs =>
    have hx0 := hx
    obtain ⟨a, vs, rfl, h2, _, h3⟩ := hx
    simp only [evSlc] at h
    split at h
    · rename_i hw
      rw [h3.length] at hw
      exact sl_whole pins s σ H _ v vl vu lo hi sl Q I rx hsl pl pu ⟨a, vs, rfl, SqT.same hs.fz h2, hw, h.val hs hx0⟩
    · rename_i hw
      rw [h3.length] at hw
      exact sl_tup pins s σ H _ v vl vu lo hi sl Q I rx hsl pl pu ⟨a, vs, rfl, SqT.same hs.fz h2, hw, fun p np => h.newTup hs (cut_rep lo hi h3) np⟩
  | _ => exact h.elim

/-! ### fields -/
theorem lookF_rep {m : Mem} {f : Str} : ∀ {ns : List Str} {ds : List D} {vs : List V} {d : D}, Reps X.K T m ds vs → lookF f ns ds = some d → ∃ v, (ns.zip vs).lookup f = some v ∧ Rep X.K T m d v
  | [], _, _, _, _, h => by cases h
  | _ :: _, [], _, _, _, h => by cases h
  | g :: ns, x :: xs, _, d, ⟨v, ws, h1, h2, h3⟩, h => by
    subst h1
    unfold lookF at h
    split at h
    · rename_i hc
      cases h; subst hc
      exact ⟨v, by simp [List.lookup], h2⟩
    · rename_i hc
      obtain ⟨u, e1, e2⟩ := lookF_rep h3 h
      refine ⟨u, ?_, e2⟩
      show List.lookup f ((g, v) :: ns.zip ws) = some u
      have e : (f == g) = false := by simpa using hc
      simp only [List.lookup, e]
      exact e1

/-! ### the built-in functions -/
def biV : BI → Value
  | .len => .builtin "len" | .abs => .builtin "abs" | .list => .type "list" | .tuple => .type "tuple" | .all => .builtin "all" | .any => .builtin "any"
  | .sum => .builtin "sum" | .sorted => .builtin "sorted" | .min2 => .builtin "min" | .max2 => .builtin "max" | .isinst => .builtin "isinstance"
  | .int => .type "int" | .str => .type "str" | .repr => .builtin "repr" | _ => .none
theorem bools_rep {m : Mem} : ∀ {ds : List D} {vs : List V} {bs : List Bool}, Reps X.K T m ds vs → boolsD ds = some bs → vs = bs.map V.bl
  | [], _, _, h, q => by cases h; cases q; rfl
  | x :: xs, _, bs, ⟨v, ws, h1, h2, h3⟩, q => by
    cases x <;> first | (cases q; done) | skip
    obtain ⟨cs, e1, e2⟩ := Option.map_eq_some_iff.mp q
    cases h2
    subst h1 e2
    rw [bools_rep h3 e1]; rfl
theorem ints_rep {m : Mem} : ∀ {ds : List D} {vs : List V} {bs : List Int}, Reps X.K T m ds vs → intsD ds = some bs → vs = bs.map V.int
  | [], _, _, h, q => by cases h; cases q; rfl
  | x :: xs, _, bs, ⟨v, ws, h1, h2, h3⟩, q => by
    cases x <;> first | (cases q; done) | skip
    obtain ⟨cs, e1, e2⟩ := Option.map_eq_some_iff.mp q
    cases h2
    subst h1 e2
    rw [ints_rep h3 e1]; rfl
theorem insI_perm (i : Int) : ∀ js : List Int, (insI i js).Perm (i :: js)
  | [] => List.Perm.refl _
  | j :: js => by
    unfold insI
    split
    · exact List.Perm.refl _
    · exact ((insI_perm i js).cons j).trans (List.Perm.swap i j js)
theorem sortI_perm : ∀ js : List Int, (sortI js).Perm js
  | [] => List.Perm.refl _
  | j :: js => (insI_perm j (sortI js)).trans ((sortI_perm js).cons j)
theorem insI_sorted (i : Int) : ∀ js : List Int, js.Pairwise (· ≤ ·) → (insI i js).Pairwise (· ≤ ·)
  | [], _ => by simp [insI]
  | j :: js, h => by
    unfold insI
    rw [List.pairwise_cons] at h
    split
    · rename_i hij
      rw [List.pairwise_cons, List.pairwise_cons]
      refine ⟨fun a ha => ?_, h⟩
      rcases List.mem_cons.mp ha with e | ha
      · rw [e]; exact hij
      · exact Int.le_trans hij (h.1 a ha)
    · rename_i hij
      rw [List.pairwise_cons]
      refine ⟨fun a ha => ?_, insI_sorted i js h.2⟩
      rcases List.mem_cons.mp ((insI_perm i js).mem_iff.mp ha) with e | ha
      · rw [e]; omega
      · exact h.1 a ha
theorem sortI_sorted : ∀ js : List Int, (sortI js).Pairwise (· ≤ ·)
  | [] => List.Pairwise.nil
  | j :: js => insI_sorted j _ (sortI_sorted js)
theorem sorted_unique : ∀ {xs ys : List Int}, xs.Perm ys → xs.Pairwise (· ≤ ·) → ys.Pairwise (· ≤ ·) → xs = ys := fun {xs ys} p h1 h2 =>
  p.eq_of_pairwise (fun a b _ _ h h' => Int.le_antisymm h h') h1 h2
theorem btOf_rep {pins : List (Addr × Obj)} {s : Shared} {σ : L2.St} {m : Mem} {S : Store} {H : Hp} {d : D} {v : V} {b : Bt} (I : Inv X pins σ H s) (hs : SRc X.K T m S H) (hr : Rep X.K T m d v) (h : btOf S d = some b) : TyX X.K H v (.type b.nm) := by
  cases d with
  | non => cases h; cases hr; exact .base .non
  | bl _ => cases h; cases hr; exact .base (.bl _)
  | int _ => cases h; cases hr; exact .base (.int _)
  | str _ => cases h; cases hr; exact .base (.str _)
  | lst xs => cases h; obtain ⟨a, vs, rfl, h2, h3⟩ := hr; exact .base (.lst (hs.fz _ _ h2))
  | tup xs => cases h; obtain ⟨a, vs, rfl, h2, h3⟩ := hr; exact .base (.tup (hs.fz _ _ h2))
  | kt xs =>
    cases h; obtain ⟨a, vs, rfl, h2, ⟨o, hk, hc, _⟩, h3⟩ := hr
    exact .kTuple hk hc
  | ntup xs => cases h; obtain ⟨a, vs, o, rfl, h2, _⟩ := hr; exact .fTuple (hs.fz _ _ h2)
  | dK ks vs => cases h; obtain ⟨a, vs, rfl, h2, h3⟩ := hr; exact .base (.dK (hs.fz _ _ h2))
  | dT ks vs => cases h; obtain ⟨a, vs, rfl, h2, h3⟩ := hr; exact .base (.dT (hs.fz _ _ h2))
  | ref r =>
    obtain ⟨a, rfl, h2⟩ := hr
    simp only [btOf] at h
    split at h
    · rename_i xs hg
      cases h
      obtain ⟨a', o, k1, k2, k3, k4, vs, k5, k6⟩ := hs.cell r _ hg (fun z => by cases z)
      rw [h2] at k1; cases k1; subst k5
      exact .base (.lst k4)
    · rename_i xs hg
      cases h
      obtain ⟨a', o, k1, k2, k3, k4, vs, k5, k6⟩ := hs.cell r _ hg (fun z => by cases z)
      rw [h2] at k1; cases k1; subst k5
      exact .base (.dK k4)
    · rename_i xs hg
      cases h
      obtain ⟨a', o, k1, k2, k3, k4, vs, k5, k6⟩ := hs.cell r _ hg (fun z => by cases z)
      rw [h2] at k1; cases k1; subst k5
      exact .base (.dT k4)
    · cases h
  | _ => cases h
theorem kitB_sub (a b : Bt) : kitB a.nm b.nm = some (a.sub b) := by
  cases a <;> cases b <;> decide +kernel
end
end HI
set_option Elab.async false
set_option linter.all false
set_option maxRecDepth 100000
/-! HiOps3: calls of what is built in. -/
namespace HI
open PySem PySem.Spec PyProof.Rows L2

def bmN : BM → Str
  | .append => "append" | .pop => "pop" | .popAt => "pop" | .clear => "clear" | .reverse => "reverse" | .insert => "insert" | .remove => "remove"
  | .index => "index" | .join => "join" | .split => "split" | .startswith => "startswith" | .bitlen => "bit_length" | .upper => "upper"
structure MInfo (T : String) (name : Str) (id : String) : Prop where
  pa : PlainAttrs T
  slot : Slot T name id
  ty : typeOf (.builtin id) = pure (.type "method_descriptor")
theorem bm_info {m : BM} {T : Bt} {id : String} (h : bmId m T = some id) : MInfo T.nm (bmN m) id := by
  cases m <;> cases T <;> first
    | (cases h; done)
    | (cases h; exact ⟨PySem.F.plainAttrs_list, PySem.F.slot_list_append, PySem.F.type_list_append⟩)
    | (cases h; exact ⟨PySem.F.plainAttrs_list, PySem.F.slot_list_clear, PySem.F.type_list_clear⟩)
    | (cases h; exact ⟨PySem.F.plainAttrs_list, PySem.F.slot_list_pop, PySem.F.type_list_pop⟩)
    | (cases h; exact ⟨PySem.F.plainAttrs_list, PySem.F.slot_list_index, PySem.F.type_list_index⟩)
    | (cases h; exact ⟨PySem.F.plainAttrs_tuple, PySem.F.slot_tuple_index, PySem.F.type_tuple_index⟩)
    | (cases h; exact ⟨PySem.F.plainAttrs_int, PyProof.Rows.slot_int_bit_length, PyProof.Rows.type_int_bit_length⟩)

section
variable {X : Cx} {T : Tab} {W : WX}
/-- the receiver is of that class, with no names of its own -/
theorem mt_type {pins : List (Addr × Obj)} {s : Shared} {σ : L2.St} {m : Mem} {S : Store} {H : Hp} {d : D} {x : V} {v : Value} {B : Bt} (I : Inv X pins σ H s) (rx : RelV x v) (hs : SRc X.K T m S H) (hr : Rep X.K T m d x) (h : mtOf S d = some B) :
    s.TypeIs v B.nm ∧ ∀ a, v = .ref a → ∃ ob, s.heap.get? a = some ob ∧ ob.dict = none := by
  cases d with
  | int i => cases h; cases hr; exact tyV_is I rx rfl
  | str i => cases h; cases hr; exact tyV_is I rx rfl
  | lst xs => cases h; obtain ⟨a, vs, rfl, h2, h3⟩ := hr; exact tyV_is I rx (.inl ⟨rfl, vs, .inl (.inl (hs.fz _ _ h2))⟩)
  | kt xs => cases h; obtain ⟨a, vs, rfl, h2, h4, h3⟩ := hr; exact tyV_is I rx (.inr (.inl ⟨rfl, h4⟩))
  | ntup xs =>
    cases h; obtain ⟨a, vs, o, rfl, h2, h4, h5, h3⟩ := hr
    cases (show v = Value.ref a from rx)
    have e : s.heap.get? a = some o := (I.hok a _ (hs.fz _ _ h2)).1
    exact ⟨⟨o, e, h4⟩, fun b q => by cases q; exact ⟨o, e, h5⟩⟩
  | ref r =>
    obtain ⟨a, rfl, h2⟩ := hr
    simp only [mtOf] at h
    split at h
    · rename_i xs hg
      cases h
      obtain ⟨a', o, k1, k2, k3, k4, vs, k5, k6⟩ := hs.cell r _ hg (fun z => by cases z)
      rw [h2] at k1; cases k1; subst k5
      exact tyV_is I rx (.inl ⟨rfl, vs, .inl (.inl k4)⟩)
    · cases h
  | _ => cases h

theorem indexD_at {m : Mem} {d : D} {v : V} (hd : Rep X.K T m d v) (fd : flat d = true) : ∀ {ds : List D} {vs : List V} {n j : Nat}, Reps X.K T m ds vs → ds.all flat = true → indexD d ds n = some j →
    n ≤ j ∧ (∃ z, vs[j - n]? = some z ∧ eqV z v = true) ∧ ∀ (k : Nat) (z' : V), k < j - n → vs[k]? = some z' → eqV z' v = false
  | [], _, _, _, h, _, e => by cases e
  | x :: xs, _, n, j, ⟨w, ws, h1, h2, h3⟩, q, e => by
    subst h1
    rw [List.all_cons, Bool.and_eq_true] at q
    unfold indexD at e
    rw [← flatEq_rep h2 hd q.1 fd] at e
    split at e
    · rename_i hc
      cases e
      refine ⟨Nat.le_refl _, ⟨w, by simp, hc⟩, fun k z' hk => absurd hk (by omega)⟩
    · rename_i hc
      obtain ⟨i1, ⟨z, i2, i3⟩, i4⟩ := indexD_at hd fd h3 q.2 e
      refine ⟨by omega, ⟨z, ?_, i3⟩, fun k z' hk hz => ?_⟩
      · rw [show j - n = (j - (n + 1)) + 1 by omega]; simpa using i2
      · cases k with
        | zero => simp at hz; subst hz; simpa using hc
        | succ k => exact i4 k z' (by omega) (by simpa using hz)
theorem strs_rep {m : Mem} : ∀ {ds : List D} {vs : List V} {bs : List Str}, Reps X.K T m ds vs → strsD ds = some bs → vs = bs.map V.str
  | [], _, _, h, q => by cases h; cases q; rfl
  | x :: xs, _, bs, ⟨v, ws, h1, h2, h3⟩, q => by
    cases x <;> first | (cases q; done) | skip
    obtain ⟨cs, e1, e2⟩ := Option.map_eq_some_iff.mp q
    cases h2
    subst h1 e2
    rw [strs_rep h3 e1]; rfl
theorem indexS_at {x : Str} : ∀ {ys : List Str} {n j : Nat}, indexS x ys n = some j → n ≤ j ∧ ys[j - n]? = some x ∧ ∀ k : Nat, k < j - n → ys[k]? ≠ some x
  | [], _, _, e => by cases e
  | y :: ys, n, j, e => by
    unfold indexS at e
    split at e
    · rename_i hc
      cases e
      subst hc
      exact ⟨Nat.le_refl _, by simp, fun k hk => absurd hk (by omega)⟩
    · rename_i hc
      obtain ⟨i1, i2, i4⟩ := indexS_at e
      refine ⟨by omega, ?_, fun k hk hz => ?_⟩
      · rw [show j - n = (j - (n + 1)) + 1 by omega]; simpa using i2
      · cases k with
        | zero => simp at hz; exact hc hz
        | succ k => exact i4 k (by omega) (by simpa using hz)

/-- a method's call by values -/
theorem bm_call {mm : BM} {B : Bt} {id : String} (hid : bmId mm B = some id) {pins : List (Addr × Obj)} {s : Shared} {σ : L2.St} {H : Hp} {x : V} {v : Value} {vs : List V} {us : List Value} {dx : D} {ds : List D} {m : Mem} {S : Store} {Q : VK}
    (I : Inv X pins σ H s) (rx : RelV x v) (rs : Vals vs us) (hs : SRc X.K T m S H) (hx : Rep X.K T m dx x) (hr : Reps X.K T m ds vs) (h : PostR X.K T (Rep X.K T) W m σ Q (evBM S mm B dx ds)) :
    wpAny (model X.prog X.w) X.A (call (.builtin id) (v :: us)) (EP X pins σ Q) X.xe s := by
  have tupIndex : ∀ {a : Addr} {ws : List V} {ys : List D}, x = .ref a → SqT X.K H a ws → Reps X.K T m ys ws → ∀ y, ds = [.str y] → PostR X.K T (Rep X.K T) W m σ Q (optR (strsD ys) fun zs => optR (indexS y zs 0) fun j => okI S j) →
      wpAny (model X.prog X.w) X.A (call (.builtin "tuple.index") (v :: us)) (EP X pins σ Q) X.xe s := fun {a ws ys} hxa hq hy y e h' => by
    subst e
    obtain ⟨w0, _, rfl, r1, rfl⟩ := hr
    cases r1
    obtain ⟨zs, e1, h'⟩ := h'.opt
    obtain ⟨j, e2, h'⟩ := h'.opt
    obtain ⟨_, i2, i3⟩ := indexS_at e2
    have hz := strs_rep hy e1
    subst hz
    exact mt_tup_index pins s σ H _ _ v us Q I rx rs ⟨a, zs, y, j, hxa, rfl, hq, by simpa using i2, fun k hk => i3 k (by omega), h'.okI hs⟩
  cases mm with
  | append =>
    cases B <;> first | (cases hid; done) | skip
    cases hid
    cases dx <;> first | exact h.elim | skip
    rename_i r
    match ds, h, hr with
    | [d], h, hr =>
      obtain ⟨w0, _, rfl, r1, rfl⟩ := hr
      simp only [evBM] at h
      split at h
      · rename_i ys hg
        obtain ⟨hl, h⟩ := PostR.ite h
        obtain ⟨a, ws, rfl, k1, k2, k3⟩ := cell_lst hs hx hg
        exact mt_append pins s σ H _ _ v us Q I rx rs ⟨a, ws, w0, rfl, rfl, k2, by rw [← k3.length]; exact hl, PostR.val (b := V.non) h (hs.put hg (fun z => by cases z) k1 ⟨_, rfl, k3.append (.cons r1 .nil)⟩) rfl⟩
      · exact h.elim
    | [], h, _ => exact h.elim
    | _ :: _ :: _, h, _ => exact h.elim
  | clear =>
    cases B <;> first | (cases hid; done) | skip
    cases hid
    cases dx <;> first | exact h.elim | skip
    rename_i r
    match ds, h, hr with
    | [], h, hr =>
      cases hr
      simp only [evBM] at h
      split at h
      · rename_i ys hg
        obtain ⟨a, ws, rfl, k1, k2, k3⟩ := cell_lst hs hx hg
        exact mt_clear pins s σ H _ _ v us Q I rx rs ⟨a, ws, rfl, rfl, k2, PostR.val (b := V.non) h (hs.put hg (fun z => by cases z) k1 ⟨[], rfl, rfl⟩) rfl⟩
      · exact h.elim
    | _ :: _, h, _ => exact h.elim
  | pop =>
    cases B <;> first | (cases hid; done) | skip
    cases hid
    cases dx <;> first | exact h.elim | skip
    rename_i r
    match ds, h, hr with
    | [], h, hr =>
      cases hr
      simp only [evBM] at h
      split at h
      · rename_i ys hg
        obtain ⟨d, e, h⟩ := h.opt
        obtain ⟨a, ws, rfl, k1, k2, k3⟩ := cell_lst hs hx hg
        obtain ⟨w, e2, e3⟩ := k3.get e
        rw [k3.length] at e2
        exact mt_pop pins s σ H _ _ v us Q I rx rs ⟨a, ws, w, rfl, rfl, k2, e2, h.val (hs.put hg (fun z => by cases z) k1 ⟨_, rfl, k3.dropLast⟩) e3⟩
      · exact h.elim
    | _ :: _, h, _ => exact h.elim
  | bitlen =>
    cases B <;> first | (cases hid; done) | skip
    cases hid
    cases dx <;> first | exact h.elim | skip
    rename_i i
    match ds, h, hr with
    | [], h, hr =>
      cases hr; cases hx
      cases rs
      obtain ⟨t, rfl⟩ := (show ∃ t, v = Value.int i t from rx)
      exact call_int_bit_length ⟨.int _, H, I.tok _, ⟨_, rfl⟩, h.okI hs⟩
    | _ :: _, h, _ => exact h.elim
  | index =>
    cases B <;> first | (cases hid; done) | skip
    · cases hid
      match ds, h, hr with
      | [d], h, hr =>
        obtain ⟨w0, _, rfl, r1, rfl⟩ := hr
        simp only [evBM] at h
        obtain ⟨ys, e, h⟩ := PostR.opt h
        split at h
        · rename_i hf
          rw [Bool.and_eq_true] at hf
          obtain ⟨j, e2, h⟩ := h.opt
          obtain ⟨a, ws, rfl, k2, k3⟩ := lstOf_rep hs hx e
          obtain ⟨_, ⟨z, i2, i3⟩, i4⟩ := indexD_at r1 hf.1 k3 hf.2 e2
          exact mt_index pins s σ H _ _ v us Q I rx rs ⟨a, ws, w0, j, z, rfl, rfl, .inl (.inl k2), flat_rep r1 hf.1, flats_rep k3 hf.2, by simpa using i2, i3, fun k z' hk => i4 k z' (by omega), h.okI hs⟩
        · exact h.elim
      | [], h, _ => cases dx <;> exact h.elim
      | _ :: _ :: _, h, _ => cases dx <;> exact h.elim
    · cases hid
      match ds, h, hr with
      | [d], h, hr =>
        cases d <;> first | (cases dx <;> exact h.elim) | skip
        rename_i y
        cases dx <;> first | exact h.elim | skip
        · obtain ⟨a, ws, rfl, k2, k4, k3⟩ := hx
          exact tupIndex rfl (SqT.same hs.fz k2) k3 y rfl h
        · obtain ⟨a, ws, o, rfl, k2, k4, k5, k3⟩ := hx
          exact tupIndex rfl (.inl (.inr ⟨o, hs.fz _ _ k2⟩)) k3 y rfl h
      | [], h, _ => cases dx <;> exact h.elim
      | d :: _ :: _, h, _ => cases d <;> cases dx <;> exact h.elim
  | _ => cases B <;> cases hid

/-- the built-in functions that are called by their names -/
def biN : BI → Str
  | .len => "len" | .abs => "abs" | .list => "list" | .tuple => "tuple" | .all => "all" | .any => "any" | .sum => "sum" | .sorted => "sorted"
  | .min2 => "min" | .max2 => "max" | .isinst => "isinstance" | .int => "int" | .str => "str" | _ => "__name__"
/-- tuple(list): the object known -/
theorem call_tuple_known {pins : List (Addr × Obj)} {s : Shared} {σ : L2.St} {H : Hp} {a : Addr} {vs : List V} {Q : VK} (I : Inv X pins σ H s) (hq : H a = some (.lst vs))
    (q : ∀ (p : Addr) (o : Obj), H p = none → o.cls = .type "tuple" → o.dict = none → Q (.ref p) (upd H p (.frz o (.tup vs)))) : wpAny (model X.prog X.w) X.A (PySem.call (.type "tuple") [.ref a]) (EP X pins σ Q) X.xe s := by
  obtain ⟨its, r', pl, hz⟩ := I.list (xs := vs) (.inl (.inl hq))
  have hlen := r'.length
  refine call_tuple_list pl.isList (fun h' kp => ?_) (by simp only [List.size_toArray] <;> omega)
  have I1 : Inv X pins σ H { s with heap := h' } := I.kept (t' := s.toks) kp
  have hf := I1.hok.fresh (Nat.le_refl h'.objs.size)
  refine ⟨.ref h'.objs.size, upd H h'.objs.size (.frz { cls := .type "tuple", data := .seq its.toArray } (.tup vs)), I1.laid (h' := h'.push { cls := .type "tuple", data := .seq its.toArray }) (t' := s.toks) (fun b o e => Heap.get?_push_of_some _ e) (Nat.le_refl _) ?_, rfl, q _ _ hf rfl rfl⟩
  exact ⟨Heap.get?_push_size _ rfl, hz, its, r', IsTup.new _ _⟩
theorem bi_call (hc : X.calm = true) {b : BI} {pins : List (Addr × Obj)} {s : Shared} {σ : L2.St} {H : Hp} {vs : List V} {us : List Value} {ds : List D} {m : Mem} {S : Store} {Q : VK}
    (I : Inv X pins σ H s) (rs : Vals vs us) (hs : SRc X.K T m S H) (hr : Reps X.K T m ds vs) (h : PostR X.K T (Rep X.K T) W m σ Q (evBI S b ds)) (hb : biN b ≠ "__name__") :
    wpAny (model X.prog X.w) X.A (PySem.call (biV b) us) (EP X pins σ Q) X.xe s := by
  match ds, hr, h with
  | [], hr, h => cases b <;> exact h.elim
  | [d], hr, h =>
    obtain ⟨v, _, rfl, h1, rfl⟩ := hr
    cases b with
    | len =>
      cases d with
      | str z =>
        cases h1
        obtain ⟨hl, h⟩ := PostR.ite h
        exact call_len_str pins s σ H _ us Q I rs ⟨z, rfl, hl, h.okI hs⟩
      | _ =>
        simp only [evBI] at h
        obtain ⟨ys, e, h⟩ := PostR.opt h
        obtain ⟨a, ws, rfl, k1, k2⟩ := seqOf_rep hs h1 e
        exact call_len_seq pins s σ H _ us Q I rs ⟨a, ws, rfl, k1, by rw [← k2.length]; exact h.okI hs⟩
    | abs =>
      cases d <;> first | exact h.elim | skip
      cases h1
      exact call_abs pins s σ H _ us Q I rs ⟨_, rfl, h.okI hs⟩
    | list =>
      obtain ⟨ys, e, h⟩ := PostR.opt h
      obtain ⟨a, ws, rfl, k1, k2⟩ := seqOf_rep hs h1 e
      exact call_list_of pins s σ H _ us Q I rs ⟨a, ws, rfl, k1, fun l nl => h.newLst hs k2 nl⟩
    | tuple =>
      have viaList : ∀ {ys : List D}, lstOf S d = some ys → PostR X.K T (Rep X.K T) W m σ Q (.ok (.ntup ys) S) → wpAny (model X.prog X.w) X.A (PySem.call (biV .tuple) us) (EP X pins σ Q) X.xe s := fun {ys} e h' => by
        obtain ⟨a, ws, rfl, k1, k2⟩ := lstOf_rep hs h1 e
        obtain ⟨u, rfl, rx⟩ := Vals.one rs
        cases (show u = Value.ref a from rx)
        exact call_tuple_known I k1 fun p o np hcl hd => h'.newNtup hs k2 np hcl hd
      cases d with
      | tup ys =>
        have h1' := h1
        obtain ⟨a, ws, rfl, k2, k3⟩ := h1
        exact call_tuple_of pins s σ H _ us Q I rs ⟨a, ws, rfl, .inr ⟨.inl (.inl (hs.fz _ _ k2)), PostR.val h hs h1'⟩⟩
      | ntup ys =>
        have h1' := h1
        obtain ⟨a, ws, o, rfl, k2, _, _, k3⟩ := h1
        exact call_tuple_of pins s σ H _ us Q I rs ⟨a, ws, rfl, .inr ⟨.inl (.inr ⟨o, hs.fz _ _ k2⟩), PostR.val h hs h1'⟩⟩
      | lst ys => exact viaList rfl h
      | ref r =>
        simp only [evBI] at h
        obtain ⟨ys, e, h⟩ := PostR.opt h
        exact viaList e h
      | _ => exact h.elim
    | all =>
      obtain ⟨ys, e, h⟩ := PostR.opt h
      obtain ⟨bs, e2, h⟩ := h.opt
      obtain ⟨a, ws, rfl, k1, k2⟩ := lstOf_rep hs h1 e
      rw [bools_rep k2 e2] at k1
      exact cr_all hc pins s σ H _ us Q I rs ⟨a, bs, rfl, .inl (.inl k1), h.okB hs⟩
    | any =>
      obtain ⟨ys, e, h⟩ := PostR.opt h
      obtain ⟨bs, e2, h⟩ := h.opt
      obtain ⟨a, ws, rfl, k1, k2⟩ := lstOf_rep hs h1 e
      rw [bools_rep k2 e2] at k1
      exact cr_any hc pins s σ H _ us Q I rs ⟨a, bs, rfl, .inl (.inl k1), h.okB hs⟩
    | sum =>
      obtain ⟨ys, e, h⟩ := PostR.opt h
      obtain ⟨bs, e2, h⟩ := h.opt
      obtain ⟨a, ws, rfl, k1, k2⟩ := lstOf_rep hs h1 e
      rw [ints_rep k2 e2] at k1
      exact cr_sum hc pins s σ H _ us Q I rs ⟨a, bs, rfl, .inl (.inl k1), h.okI hs⟩
    | sorted =>
      obtain ⟨ys, e, h⟩ := PostR.opt h
      obtain ⟨bs, e2, h⟩ := h.opt
      obtain ⟨h64, h⟩ := PostR.ite h
      obtain ⟨a, ws, rfl, k1, k2⟩ := lstOf_rep hs h1 e
      rw [ints_rep k2 e2] at k1
      refine cr_sorted pins s σ H _ us Q I rs ⟨a, bs, rfl, .inl (.inl k1), h64, fun ns' p hp hs' np => ?_⟩
      have e3 : ns' = sortI bs := sorted_unique (hp.trans (sortI_perm bs).symm) hs' (sortI_sorted bs)
      subst e3
      exact h.newLst hs (reps_ints _) np
    | int =>
      cases d <;> first | exact h.elim | skip
      · cases h1
        exact call_int1 pins s σ H _ us Q I rs (.inr ⟨_, rfl, h.okI hs⟩)
      · cases h1
        exact call_int1 pins s σ H _ us Q I rs (.inl ⟨_, rfl, h.okI hs⟩)
    | str =>
      cases d <;> first | exact h.elim | skip
      cases h1
      obtain ⟨hl, h⟩ := PostR.ite h
      exact call_str_int pins s σ H _ us Q I rs ⟨_, rfl, hl, PostR.val (b := V.str _) h hs rfl⟩
    | _ => first | exact absurd rfl hb | exact h.elim | (cases d <;> exact h.elim)
  | [d, e], hr, h =>
    obtain ⟨v, _, rfl, h1, w, _, rfl, h2, rfl⟩ := hr
    cases b with
    | min2 =>
      cases d <;> first | exact h.elim | skip
      cases e <;> first | exact h.elim | skip
      cases h1; cases h2
      exact call_min2 hc pins s σ H _ us Q I rs ⟨_, _, rfl, h.okI hs⟩
    | max2 =>
      cases d <;> first | exact h.elim | skip
      cases e <;> first | exact h.elim | skip
      cases h1; cases h2
      exact call_max2 hc pins s σ H _ us Q I rs ⟨_, _, rfl, h.okI hs⟩
    | isinst =>
      cases e <;> first | exact h.elim | skip
      rename_i n
      cases h2
      obtain ⟨bt, e1, h⟩ := PostR.opt h
      exact call_isi pins s σ H _ us Q I rs ⟨v, _, _, _, _, rfl, .ty n.nm, btOf_rep I hs h1 e1, kit_ty (kitB_sub bt n), h.okB hs⟩
    | _ => first | exact absurd rfl hb | exact h.elim | (cases d <;> first | exact h.elim | (cases e <;> exact h.elim))
  | d :: e :: f :: _, hr, h => cases b <;> first | exact h.elim | (cases d <;> first | exact h.elim | (cases e <;> exact h.elim))
end
end HI
set_option Elab.async false
set_option linter.all false
set_option maxRecDepth 100000
/-! HiExpr: expressions of the text against our own: shapes. -/
namespace HI
open PySem PySem.Spec PyProof.Rows L2

/-- an exception in the air, L the frame that notes it -/
def XEL (X : Cx) (L : Addr) (W : WX) (u : Value) (s' : Shared) : Prop :=
  ∃ (a : Addr) (B : Heap) (sI : Shared) (pins : List (Addr × Obj)) (σ : L2.St) (H : Hp) (cls : Value) (d : Option Addr),
    u = .ref a ∧ Inv X pins σ H sI ∧ (∀ b o, sI.heap.get? b = some o → b ∉ frs X.stack → B.get? b = some o) ∧ sI.heap.UpToSlots s'.heap ∧
      Sky B X.stack a (Zc cls d) L s'.heap ∧ H a = none ∧ s'.os = sI.os ∧ AllBare s'.gens ∧ W cls d σ H

section
variable (X : Cx) (T : Tab) (W : WX)
/-- an expression's reading by the evaluator's answer -/
def tI (f : Env → Store → R D) : TE := fun σ H Q => ∃ env S m, SRc X.K T m S H ∧ EnvOk X.K T X.pn m env σ ∧ PostR X.K T (Rep X.K T) W m σ Q (f env S)
def repB : Mem → D → Bool → Prop := fun _ d b => d = .bl b
def tT (f : Env → Store → R D) : TT := fun σ H Q => ∃ env S m, SRc X.K T m S H ∧ EnvOk X.K T X.pn m env σ ∧ PostR X.K T repB W m σ Q (f env S)
def tA (f : Env → Store → R (List D)) : TA := fun σ H Q => ∃ env S m, SRc X.K T m S H ∧ EnvOk X.K T X.pn m env σ ∧ PostR X.K T (Reps X.K T) W m σ Q (f env S)
end

/-- what a body's context has; hot: within an except suite -/
structure Good (X : Cx) (T : Tab) (W : WX) (L : Addr) (N : List Str) (sc : Scope) (hot : Bool) (k : Nat) : Prop where
  hN : X.N = N
  nd : N.Nodup
  sc : X.env.scope = sc
  calm : hot = false → X.calm = true
  room : hot = false → Room k X.A
  un : X.A.units + 200 < cLine
  frm : X.env.frame = some L
  stk : ∃ e0 out, X.stack = e0 :: out ∧ e0.frame = some L
  tk : ∀ u s', XEL X L W u s' → X.xe u s'

theorem R.bind_assoc {α β γ : Type} (r : R α) (f : α → Store → R β) (g : β → Store → R γ) : (r.bind f).bind g = r.bind fun x S => (f x S).bind g := by cases r <;> rfl
section
variable {X : Cx} {T : Tab} {W : WX}
theorem PE.of {e : Expr} {t t' : TE} (h : PE X e t) (i : ∀ σ H Q, t' σ H Q → t σ H Q) : PE X e t' := ⟨fun pins s σ H Q I q => h.run pins s σ H Q I (i σ H Q q)⟩
theorem PT.of {e : Expr} {t t' : TT} (h : PT X e t) (i : ∀ σ H Q, t' σ H Q → t σ H Q) : PT X e t' := ⟨fun pins s σ H Q I q => h.run pins s σ H Q I (i σ H Q q)⟩
theorem PW.of {e : Expr} {t t' : TT} (h : PW X e t) (i : ∀ σ H Q, t' σ H Q → t σ H Q) : PW X e t' := ⟨fun wh pins s σ H Q I q => h.run wh pins s σ H Q I (i σ H Q q)⟩

/-! ### two parts, one behind the other -/
theorem run_bind {α : Type} {e : Expr} {fa : Env → Store → R D} (ha : PE X e (tI X T W fa)) {pins : List (Addr × Obj)} {s : Shared} {σ : L2.St} {H : Hp} {env : Env} {S : Store} {m : Mem} {β : Type} {rep : Mem → α → β → Prop} {Qb : β → Hp → Prop}
    (I : Inv X pins σ H s) (hs : SRc X.K T m S H) (he : EnvOk X.K T X.pn m env σ) {g : D → Store → R α} (h : PostR X.K T rep W m σ Qb ((fa env S).bind g)) {Q : Value → Shared → Prop}
    (k : ∀ (v : Value) (s1 : Shared) (x : V) (H1 : Hp) (d : D) (S1 : Store) (m1 : Mem), Inv X pins σ H1 s1 → RelV x v → Le m m1 → SRc X.K T m1 S1 H1 → EnvOk X.K T X.pn m1 env σ → Rep X.K T m1 d x → PostR X.K T rep W m1 σ Qb (g d S1) → Q v s1) :
    wpAny (model X.prog X.w) X.A (eval e X.env) Q X.xe s :=
  thn (ha.run pins s σ H _ I ⟨env, S, m, hs, he, PostR.bind h⟩) fun v s1 ⟨x, H1, I1, r1, d, S1, m1, l1, hs1, hr1, h1⟩ => k v s1 x H1 d S1 m1 I1 r1 l1 hs1 (he.mono l1) hr1 h1

/-- a value of which we know all -/
theorem EP.of {pins : List (Addr × Obj)} {σ : L2.St} {H : Hp} {s : Shared} {Q : VK} {v : V} {u : Value} (I : Inv X pins σ H s) (r : RelV v u) (q : Q v H) : EP X pins σ Q u s := ⟨v, H, I, r, q⟩

/-! ### plain tests -/
def plainT : Expr → Bool
  | .UnaryOp .Not _ _ => false
  | .BoolOp _ _ _ => false
  | .IfExp _ _ _ _ => false
  | .Compare _ _ _ _ => false
  | _ => true
theorem plainT_ok {e : Expr} (h : plainT e = true) (env : PySem.Env) (whole : Sem Value) : isTrue e env whole = (do let v ← whole; standAt e.pos; holding [v] (truthy v)) := by
  cases e <;> first
    | rfl
    | (cases h; done)
    | (rename_i op _ _; cases op <;> first | rfl | (cases h; done))
theorem pt_of_pe {e : Expr} {f : Env → Store → R D} (he : plainT e = true) (h : PE X e (tI X T W f)) : PT X e (tT X T W fun env S => tz true (f env S)) := by
  refine PT.of (pt_truth h (plainT_ok he X.env)) fun σ H Q ⟨env, S, m, hs, hen, hp⟩ => ⟨env, S, m, hs, hen, ?_⟩
  refine PostR.imp (fun b H' z => ?_) (PostR.bind (rep' := Rep X.K T) hp)
  obtain ⟨d, S', m', l, hs', hr, q⟩ := z
  split at q
  · rename_i k e
    exact ⟨k, truth_rep hs' hr e, q.val hs' rfl⟩
  · exact q.elim

/-! ### names, constants -/
def visB (sc : Scope) (x : Str) : Bool := match sc.names.lookup x with
  | some .local => true | some .cell => true | some .free => true | _ => false
def glB (sc : Scope) (x : Str) : Bool := match sc.names.lookup x with
  | some .globalImplicit => true | _ => false
theorem visB_ok {sc : Scope} {x : Str} (h : visB sc x = true) : Vis sc x := by
  unfold visB at h
  split at h
  · exact .inl (by assumption)
  · exact .inr (.inl (by assumption))
  · exact .inr (.inr (by assumption))
  · cases h
theorem glB_ok {X : Cx} {x : Str} (h : glB X.env.scope x = true) : Gl X x := by
  unfold glB at h
  split at h
  · assumption
  · cases h
theorem ok_var {i : Nat} {x : Str} {pos : Pos} (hN : X.N[i]? = some x) (hv : visB X.env.scope x = true) (hd : (x == ("__debug__" : Str)) = false) (hcd : (x == ("__classdict__" : Str)) = false) :
    PE X (.Name x pos) (tI X T W fun env S => match env[i]? with
      | some (some (.xc _ _ _)) => .bad
      | some (some d) => .ok d S
      | _ => .bad) := by
  refine PE.of (pe_var hN (visB_ok hv) hd hcd) fun σ H Q ⟨env, S, m, hs, hen, hp⟩ => ?_
  dsimp only at hp
  split at hp
  · exact hp.elim
  · rename_i d hne e
    obtain ⟨v, h1, h2⟩ := hen.at_ i d e
    refine ⟨v, h1, hp.val hs ?_⟩
    cases d <;> first | exact h2 | exact absurd rfl (hne _ _ _)
  · exact hp.elim
theorem ok_const {e : Expr} {d : D} {v : V} (h : PE X e (tC v)) (r : ∀ m, Rep X.K T m d v) : PE X e (tI X T W fun _ S => .ok d S) :=
  PE.of h fun σ H Q ⟨env, S, m, hs, hen, hp⟩ => hp.val hs (r m)

/-! ### lists of expressions -/
def notStar : Expr → Bool
  | .Starred _ _ => false
  | _ => true
theorem star_cons {e : Expr} {es : List Expr} {env : PySem.Env} (h : notStar e = true) : starEach (e :: es) env = (false, eval e env) :: starEach es env := by
  cases e <;> first | rfl | (cases h; done)
/-- each one keeps what the evaluator says of it -/
inductive PEs (X : Cx) (T : Tab) (W : WX) : List Expr → List (Env → Store → R D) → Prop
  | nil : PEs X T W [] []
  | cons {e : Expr} {f : Env → Store → R D} {es : List Expr} {fs : List (Env → Store → R D)} : PE X e (tI X T W f) → notStar e = true → PEs X T W es fs → PEs X T W (e :: es) (f :: fs)
def evAll : List (Env → Store → R D) → Env → Store → R (List D)
  | [], _, S => .ok [] S
  | f :: fs, env, S => (f env S).bind fun x S1 => (evAll fs env S1).bind fun xs S2 => .ok (x :: xs) S2
theorem PEs.stars {es : List Expr} {fs : List (Env → Store → R D)} (h : PEs X T W es fs) (pos : Pos) : (backTo pos (starEach es X.env)).any (·.1) = false := by
  induction h with
  | nil => rfl
  | cons h hn _ ih =>
    rw [star_cons hn]
    show (false || (backTo pos (starEach _ X.env)).any (·.1)) = false
    rw [ih]; rfl
theorem any_all_not {α : Type} (f : α → Bool) : ∀ xs : List α, xs.any f = false → xs.all (fun x => !f x) = true
  | [], _ => rfl
  | x :: xs, h => by
    rw [List.any_cons, Bool.or_eq_false_iff] at h
    rw [List.all_cons, h.1, any_all_not f xs h.2]; rfl
theorem PEs.args {es : List Expr} {fs : List (Env → Store → R D)} (h : PEs X T W es fs) : PA X es (tA X T W (evAll fs)) := by
  induction h with
  | nil => exact ⟨fun _ _ s _ H Q I ⟨env, S, m, hs, hen, hp⟩ => Calls.spliced_nil ⟨[], H, I, .nil, PostR.val (a := ([] : List D)) hp hs rfl⟩⟩
  | @cons e f es fs he hn _ ih =>
    refine ⟨fun pos pins s σ H Q I ⟨env, S, m, hs, hen, hp⟩ => ?_⟩
    rw [star_cons hn]
    show wpAny _ _ (spliced ((false, eval e X.env) :: backTo pos (starEach es X.env))) _ _ s
    refine Calls.spliced_cons (run_bind he I hs hen hp fun v s1 x H1 d S1 m1 I1 r1 l1 hs1 hen1 hr1 h1 => ?_)
    refine thn (ih.run pos pins s1 σ H1 _ I1 ⟨env, S1, m1, hs1, hen1, PostR.bind (rep' := Reps X.K T) h1⟩) fun us s2 ⟨xs, H2, I2, r2, ds, S2, m2, l2, hs2, hr2, h2⟩ => ?_
    exact ⟨x :: xs, H2, I2, .cons r1 r2, h2.val hs2 (.cons (Rep.mono l2 _ _ hr1) hr2)⟩

/-! ### shapes: operators, displays -/
theorem ok_bin {o : BOp} {a b : Expr} {pos : Pos} {fa fb : Env → Store → R D} (ha : PE X a (tI X T W fa)) (hb : PE X b (tI X T W fb)) :
    PE X (.BinOp a (opOf o) b pos) (tI X T W fun env S => (fa env S).bind fun x S1 => (fb env S1).bind fun y S2 => evBin S2 o x y) := by
  refine ⟨fun pins s σ H Q I ⟨env, S, m, hs, hen, hp⟩ => ?_⟩
  refine wpAny_BinOp (run_bind ha I hs hen hp fun v s1 x H1 d S1 m1 I1 r1 l1 hs1 hen1 hr1 h1 => ?_)
  refine run_bind hb I1 hs1 hen1 h1 fun u s2 y H2 e S2 m2 I2 r2 l2 hs2 hen2 hr2 h2 => ?_
  exact ops_bin o pins s2 σ H2 x y v u d e m2 S2 Q I2 r1 r2 hs2 (Rep.mono l2 _ _ hr1) hr2 h2
theorem ok_cmp (hu : X.A.units + 200 < cLine) {o : COp} {a b : Expr} {pos : Pos} {fa fb : Env → Store → R D} (ha : PE X a (tI X T W fa)) (hb : PE X b (tI X T W fb)) (hm : behindInMarks (cmpOf o) b = false) :
    PE X (.Compare a [cmpOf o] [b] pos) (tI X T W fun env S => (fa env S).bind fun x S1 => (fb env S1).bind fun y S2 => evCmp S2 o x y) := by
  refine ⟨fun pins s σ H Q I ⟨env, S, m, hs, hen, hp⟩ => ?_⟩
  refine wpAny_Compare1 (run_bind ha I hs hen hp fun v s1 x H1 d S1 m1 I1 r1 l1 hs1 hen1 hr1 h1 => ?_) hm
  refine run_bind hb I1 hs1 hen1 h1 fun u s2 y H2 e S2 m2 I2 r2 l2 hs2 hen2 hr2 h2 => ?_
  exact ops_cmp (by omega) o pins s2 σ H2 x y v u d e m2 S2 Q I2 r1 r2 hs2 (Rep.mono l2 _ _ hr1) hr2 h2
/-- what a comparison gives is a truth value -/
theorem evCmp_bool {W : WX} {m : Mem} {σ : L2.St} {Q : VK} {o : COp} {x y : D} {S : Store} (h : PostR X.K T (Rep X.K T) W m σ Q (evCmp S o x y)) : ∃ b, evCmp S o x y = okB S b := by
  cases o <;> simp only [evCmp] at h ⊢
  · cases x <;> cases y <;> first | exact ⟨_, rfl⟩ | exact h.elim
  · cases x <;> cases y <;> first | exact ⟨_, rfl⟩ | exact h.elim
  · cases x <;> cases y <;> first | exact ⟨_, rfl⟩ | exact h.elim
  · cases x <;> cases y <;> first | exact ⟨_, rfl⟩ | exact h.elim
  · split at h
    · rename_i hc; rw [if_pos hc]; exact ⟨_, rfl⟩
    · rename_i hc; rw [if_neg hc]
      obtain ⟨b, e, _⟩ := h.opt
      rw [e]; exact ⟨_, rfl⟩
  · split at h
    · rename_i hc; rw [if_pos hc]; exact ⟨_, rfl⟩
    · rename_i hc; rw [if_neg hc]
      obtain ⟨b, e, _⟩ := h.opt
      rw [e]; exact ⟨_, rfl⟩
  · obtain ⟨b, e, _⟩ := h.opt
    rw [e]; exact ⟨_, rfl⟩
  · obtain ⟨b, e, _⟩ := h.opt
    rw [e]; exact ⟨_, rfl⟩
  · cases y <;> first | exact ⟨_, rfl⟩ | exact h.elim
  · cases y <;> first | exact ⟨_, rfl⟩ | exact h.elim
def tzf (x : D) (S : Store) : R D := match truthD S x with
  | some b => .ok (.bl b) S
  | none => .bad
theorem tz_true (r : R D) : tz true r = r.bind tzf := rfl
/-- a comparison's answer, as a test -/
theorem cmp_test (hu : X.A.units + 200 < cLine) {o : COp} {pins : List (Addr × Obj)} {s : Shared} {σ : L2.St} {H : Hp} {x y : V} {v u : Value} {d e : D} {m : Mem} {S : Store} {Q : Bool → Hp → Prop}
    (I : Inv X pins σ H s) (rx : RelV x v) (ry : RelV y u) (hs : SRc X.K T m S H) (hx : Rep X.K T m d x) (hy : Rep X.K T m e y) (h : PostR X.K T repB W m σ Q ((evCmp S o d e).bind tzf)) :
    wpAny (model X.prog X.w) X.A (compareOp (cmpOf o) v u) (EP X pins σ fun x H' => ∃ k, x = .bl k ∧ Q k H') X.xe s := by
  obtain ⟨bb, eb⟩ := evCmp_bool (PostR.bind (rep' := Rep X.K T) h)
  rw [eb] at h
  refine ops_cmp (T := T) (W := W) (by omega) o pins s σ H x y v u d e m S _ I rx ry hs hx hy ?_
  show PostR X.K T (Rep X.K T) W m σ _ (evCmp S o d e)
  rw [eb]
  exact fun b H' m' l hs' hr => ⟨bb, hr, h bb H' m' l hs' rfl⟩
theorem ok_cmpT (hu : X.A.units + 200 < cLine) {o : COp} {a b : Expr} {pos : Pos} {fa fb : Env → Store → R D} (ha : PE X a (tI X T W fa)) (hb : PE X b (tI X T W fb)) (hm : behindInMarks (cmpOf o) b = false) :
    PT X (.Compare a [cmpOf o] [b] pos) (tT X T W fun env S => tz true ((fa env S).bind fun x S1 => (fb env S1).bind fun y S2 => evCmp S2 o x y)) := by
  refine ⟨fun pins s σ H Q I ⟨env, S, m, hs, hen, hp⟩ => ?_⟩
  dsimp only at hp
  rw [tz_true, R.bind_assoc] at hp
  refine wpAny_isTrue_Compare1 (run_bind ha I hs hen hp fun v s1 x H1 d S1 m1 I1 r1 l1 hs1 hen1 hr1 h1 => ?_) hm
  rw [R.bind_assoc] at h1
  refine run_bind hb I1 hs1 hen1 h1 fun u s2 y H2 e S2 m2 I2 r2 l2 hs2 hen2 hr2 h2 => ?_
  refine thn (cmp_test hu I2 r1 r2 hs2 (Rep.mono l2 _ _ hr1) hr2 h2) fun c s3 ⟨z, H3, I3, r3, k, e3, q3⟩ => ?_
  subst e3
  cases r3
  exact wpAny_truthy_bool ⟨H3, I3, q3⟩
theorem ok_chain (hu : X.A.units + 200 < cLine) {o o' : COp} {a b c : Expr} {pos : Pos} {fa fb fc : Env → Store → R D} (ha : PE X a (tI X T W fa)) (hb : PE X b (tI X T W fb)) (hc : PE X c (tI X T W fc)) (hm : lastMarks [cmpOf o, cmpOf o'] [b, c] = false) :
    PE X (.Compare a [cmpOf o, cmpOf o'] [b, c] pos) (tI X T W fun env S => (fa env S).bind fun x S1 => (fb env S1).bind fun y S2 => (evCmp S2 o x y).bind fun z S3 => match z with
      | .bl true => (fc env S3).bind fun w S4 => evCmp S4 o' y w
      | .bl false => .ok (.bl false) S3
      | _ => .bad) := by
  refine ⟨fun pins s σ H Q I ⟨env, S, m, hs, hen, hp⟩ => ?_⟩
  refine Compare_chain (run_bind ha I hs hen hp fun v s1 x H1 d S1 m1 I1 r1 l1 hs1 hen1 hr1 h1 => chain_link ?_) hm
  refine run_bind hb I1 hs1 hen1 h1 fun u s2 y H2 e S2 m2 I2 r2 l2 hs2 hen2 hr2 h2 => ?_
  obtain ⟨bb, eb⟩ := evCmp_bool (PostR.bind (rep' := Rep X.K T) h2)
  rw [eb] at h2
  refine thn (ops_cmp (T := T) (W := W) (by omega) o pins s2 σ H2 x y v u d e m2 S2 (fun x H' => x = .bl bb ∧ ∃ m3, Le m2 m3 ∧ SRc X.K T m3 S2 H') I2 r1 r2 hs2 (Rep.mono l2 _ _ hr1) hr2 ?_) fun cv s3 ⟨z, H3, I3, r3, ez, m3, l3, hs3⟩ => ?_
  · show PostR X.K T (Rep X.K T) W m2 σ _ (evCmp S2 o d e)
    rw [eb]
    exact fun b H' m' l hs' hr => ⟨hr, m', l, hs'⟩
  subst ez
  cases r3
  refine wpAny_truthy_bool ?_
  have h3 := PostR.mono l3 h2
  cases bb with
  | false => exact ite_ff ⟨.bl false, H3, I3, rfl, PostR.val (a := D.bl false) h3 hs3 rfl⟩
  | true =>
    refine ite_tt (chain_last ?_)
    exact run_bind hc I3 hs3 (hen2.mono l3) h3 fun w s4 z' H4 g S4 m4 I4 r4 l4 hs4 hen4 hr4 h4 => ops_cmp (by omega) o' pins s4 σ H4 y z' u w e g m4 S4 Q I4 r2 r4 hs4 (Rep.mono (l3.trans l4) _ _ hr2) hr4 h4
theorem ok_neg {a : Expr} {pos : Pos} {fa : Env → Store → R D} (ha : PE X a (tI X T W fa)) :
    PE X (.UnaryOp .USub a pos) (tI X T W fun env S => (fa env S).bind fun x S1 => evOp .neg [x] S1) := by
  refine ⟨fun pins s σ H Q I ⟨env, S, m, hs, hen, hp⟩ => ?_⟩
  refine UnaryOp_ (run_bind ha I hs hen hp fun v s1 x H1 d S1 m1 I1 r1 l1 hs1 hen1 hr1 h1 => ?_)
  cases d <;> first | exact h1.elim | skip
  cases hr1
  exact un_neg pins s1 σ H1 _ v Q I1 r1 ⟨_, rfl, h1.okI hs1⟩

/-! ### displays -/
theorem ok_list {es : List Expr} {fs : List (Env → Store → R D)} {pos : Pos} (h : PEs X T W es fs) :
    PE X (.List es pos) (tI X T W fun env S => (evAll fs env S).bind fun xs S1 => evOp .lst xs S1) := by
  refine PE.of (pe_lst h.args) fun σ H Q ⟨env, S, m, hs, hen, hp⟩ => ⟨env, S, m, hs, hen, ?_⟩
  refine PostR.imp (fun vs H1 z => ?_) (PostR.bind (rep' := Reps X.K T) hp)
  obtain ⟨ds, S1, m1, l1, hs1, hr1, h1⟩ := z
  obtain ⟨hl, h1⟩ := PostR.ite h1
  exact ⟨by rw [← hr1.length]; exact hl, fun p np => h1.newLst hs1 hr1 np⟩
theorem ok_listM {es : List Expr} {fs : List (Env → Store → R D)} {pos : Pos} (h : PEs X T W es fs) :
    PE X (.List es pos) (tI X T W fun env S => (evAll fs env S).bind fun xs S1 => evOp .lstM xs S1) := by
  refine PE.of (pe_lst h.args) fun σ H Q ⟨env, S, m, hs, hen, hp⟩ => ⟨env, S, m, hs, hen, ?_⟩
  refine PostR.imp (fun vs H1 z => ?_) (PostR.bind (rep' := Reps X.K T) hp)
  obtain ⟨ds, S1, m1, l1, hs1, hr1, h1⟩ := z
  obtain ⟨hl, h1⟩ := PostR.ite h1
  exact ⟨by rw [← hr1.length]; exact hl, fun p np => h1.newCell hs1 hr1 np⟩
theorem ok_tuple {es : List Expr} {fs : List (Env → Store → R D)} {j} {pos : Pos} (h : PEs X T W es fs) :
    PE X (.Tuple es j pos) (tI X T W fun env S => (evAll fs env S).bind fun xs S1 => evOp .tup xs S1) := by
  refine PE.of (pe_tup h.args) fun σ H Q ⟨env, S, m, hs, hen, hp⟩ => ⟨env, S, m, hs, hen, ?_⟩
  refine PostR.imp (fun vs H1 z => ?_) (PostR.bind (rep' := Reps X.K T) hp)
  obtain ⟨ds, S1, m1, l1, hs1, hr1, h1⟩ := z
  obtain ⟨hl, h1⟩ := PostR.ite h1
  exact ⟨by rw [← hr1.length]; exact hl, fun p np => h1.newTup hs1 hr1 np⟩

/-! ### items, slices, fields -/
def noSlice : Expr → Bool
  | .Slice _ _ _ _ => false
  | _ => true
theorem noSlice_ok {e : Expr} (h : noSlice e = true) : PlainIx e := by
  intro o i
  cases e <;> first | rfl | (cases h; done)
theorem ok_sub (hu : X.A.units + 200 < cLine) (hkd : ∀ a z v, T.kd a z v → KDct X.K X.w a z v) {a b : Expr} {pos : Pos} {fa fb : Env → Store → R D} (ha : PE X a (tI X T W fa)) (hb : PE X b (tI X T W fb)) (hn : noSlice b = true) :
    PE X (.Subscript a b pos) (tI X T W fun env S => (fa env S).bind fun x S1 => (fb env S1).bind fun y S2 => evSub S2 x y) := by
  refine ⟨fun pins s σ H Q I ⟨env, S, m, hs, hen, hp⟩ => ?_⟩
  refine Subscript_ (run_bind ha I hs hen hp fun v s1 x H1 d S1 m1 I1 r1 l1 hs1 hen1 hr1 h1 => ?_)
  refine run_bind hb I1 hs1 hen1 h1 fun u s2 y H2 e S2 m2 I2 r2 l2 hs2 hen2 hr2 h2 => ?_
  exact ixs_sub (by omega) hkd a b pins s2 σ H2 x y v u d e m2 S2 Q I2 r1 r2 hs2 (Rep.mono l2 _ _ hr1) hr2 h2 (noSlice_ok hn _ _)
/-- a part of a slice: left out, or there -/
inductive PPart (X : Cx) (T : Tab) (W : WX) : Option Expr → Option (Env → Store → R D) → Prop
  | none : PPart X T W none none
  | some {e : Expr} {f : Env → Store → R D} : PE X e (tI X T W f) → PPart X T W (some e) (some f)
def evPart : Option (Env → Store → R D) → Env → Store → R (Option D)
  | none, _, S => .ok none S
  | some f, env, S => (f env S).bind fun x S1 => .ok (some x) S1
def partD : Option D → Option (Option Int)
  | none => some none
  | some (.int i) => some (some i)
  | _ => none
/-- a part's value -/
def RelP (K : PySem.W.Frag) (T : Tab) (m : Mem) (o : Option D) (v : Value) : Prop :=
  match o with
  | none => v = .none
  | some d => ∃ x, Rep K T m d x ∧ RelV x v
theorem RelP.mono {K : PySem.W.Frag} {m n : Mem} (l : Le m n) {o : Option D} {v : Value} (h : RelP K T m o v) : RelP K T n o v := by
  cases o with
  | none => exact h
  | some d => obtain ⟨x, h1, h2⟩ := h; exact ⟨x, Rep.mono l _ _ h1, h2⟩
theorem RelP.part {K : PySem.W.Frag} {m : Mem} {o : Option D} {v : Value} {l : Option Int} (h : RelP K T m o v) (e : partD o = some l) : IsPart v l := by
  cases o with
  | none => cases e; cases h; exact .none
  | some d =>
    obtain ⟨x, h1, h2⟩ := h
    cases d <;> first | (cases e; done) | skip
    cases e
    cases h1
    obtain ⟨t, q⟩ := (show ∃ t, v = Value.int _ t from h2)
    subst q
    exact .int _ t
theorem run_part {α : Type} {o : Option Expr} {f : Option (Env → Store → R D)} (ho : PPart X T W o f) {pins : List (Addr × Obj)} {s : Shared} {σ : L2.St} {H : Hp} {env : Env} {S : Store} {m : Mem} {β : Type} {rep : Mem → α → β → Prop} {Qb : β → Hp → Prop}
    (I : Inv X pins σ H s) (hs : SRc X.K T m S H) (he : EnvOk X.K T X.pn m env σ) {g : Option D → Store → R α} (h : PostR X.K T rep W m σ Qb ((evPart f env S).bind g)) {Q : Value → Shared → Prop}
    (k : ∀ (v : Value) (s1 : Shared) (H1 : Hp) (d : Option D) (S1 : Store) (m1 : Mem), Inv X pins σ H1 s1 → Le m m1 → SRc X.K T m1 S1 H1 → EnvOk X.K T X.pn m1 env σ → RelP X.K T m1 d v → PostR X.K T rep W m1 σ Qb (g d S1) → Q v s1) :
    wpAny (model X.prog X.w) X.A (evalPart o X.env) Q X.xe s := by
  cases ho with
  | none => exact wpAny_pure (k _ s H none S m I (Le.refl m) hs he rfl h)
  | @some e f he' =>
    have h : PostR X.K T rep W m σ Qb (((f env S).bind fun x S1 => .ok (some x) S1).bind g) := h
    rw [R.bind_assoc] at h
    rw [evalPart_some]
    exact run_bind he' I hs he h fun v s1 x H1 d S1 m1 I1 r1 l1 hs1 hen1 hr1 h1 => k v s1 H1 (some d) S1 m1 I1 l1 hs1 hen1 ⟨x, hr1, r1⟩ h1
theorem ok_slice {a : Expr} {lo hi : Option Expr} {pos p2 : Pos} {fa : Env → Store → R D} {fl fh : Option (Env → Store → R D)} (ha : PE X a (tI X T W fa)) (hl : PPart X T W lo fl) (hh : PPart X T W hi fh) :
    PE X (.Subscript a (.Slice lo hi none p2) pos) (tI X T W fun env S => (fa env S).bind fun x S1 => (evPart fl env S1).bind fun l S2 => (evPart fh env S2).bind fun u S3 => optR (partD l) fun l => optR (partD u) fun u => evSlc S3 x l u) := by
  refine ⟨fun pins s σ H Q I ⟨env, S, m, hs, hen, hp⟩ => ?_⟩
  refine Subscript_ (run_bind ha I hs hen hp fun v s1 x H1 d S1 m1 I1 r1 l1 hs1 hen1 hr1 h1 => ?_)
  refine wpAny_Slice (run_part hl I1 hs1 hen1 h1 fun vl s2 H2 l S2 m2 I2 l2 hs2 hen2 pl h2 => ?_)
  refine run_part hh I2 hs2 hen2 h2 fun vu s3 H3 u S3 m3 I3 l3 hs3 hen3 pu h3 => ?_
  obtain ⟨l', e1, h3⟩ := h3.opt
  obtain ⟨u', e2, h3⟩ := h3.opt
  have pl := (pl.mono l3).part e1
  have pu := pu.part e2
  rw [evalPart_none]
  refine wpAny_pure ?_
  have I4 : Inv X pins σ H3 { s3 with heap := s3.heap.push { cls := .type "slice", data := .fields #[vl, vu, .none] } } := I3.kept (t' := s3.toks) fun b ob q => Heap.get?_push_of_some _ q
  obtain ⟨Tn, id, hT, ht, hg⟩ := sls_slc pins { s3 with heap := s3.heap.push { cls := .type "slice", data := .fields #[vl, vu, .none] } } σ H3 x v vl vu l' u' s3.heap.objs.size d m3 S3 Q I4 r1 (Heap.IsSliceOf.new ..) pl pu hs3 (Rep.mono (l2.trans l3) _ _ hr1) h3
  show wpAny (model X.prog X.w) X.A (subscriptTail a (.Slice lo hi none p2) v (.ref s3.heap.objs.size)) (EP X pins σ Q) X.xe { s3 with heap := s3.heap.push { cls := .type "slice", data := .fields #[vl, vu, .none] } }
  exact tail_any (ops := [.ref s3.heap.objs.size, v]) ht hT hg (by with_unfolding_all rfl)
def noCall0 : Expr → Bool
  | .Call (.Name _ _) [] [] _ => false
  | _ => true
theorem base_ok {e : Expr} (h : noCall0 e = true) (f : Str) (env : PySem.Env) (w : Sem Value) : attributeBase e f env w = w := by
  unfold attributeBase
  split
  · cases h
  · rfl
end
end HI
set_option Elab.async false
set_option linter.all false
set_option maxRecDepth 100000
/-! HiExpr2: fields, calls of what is built in, and / or / not, calls of defs. -/
namespace HI
open PySem PySem.Spec PyProof.Rows L2

section
variable {X : Cx} {T : Tab} {W : WX}
/-! ### fields -/
theorem lookF_mem {f : Str} : ∀ {ns : List Str} {fs : List D} {d : D}, lookF f ns fs = some d → f ∈ ns
  | [], _, _, h => by simp [lookF] at h
  | _ :: _, [], _, h => by simp [lookF] at h
  | g :: ns, v :: fs, d, h => by
    unfold lookF at h
    split at h
    · rename_i e; subst e; exact List.mem_cons_self
    · exact List.mem_cons_of_mem _ (lookF_mem h)
theorem cell_ins {m : Mem} {S : Store} {H : Hp} (hs : SRc X.K T m S H) {r c : Nat} {ns : List Str} {fs : List D} {v : V} (hr : Rep X.K T m (.ref r) v) (hg : S.get r = some (.ins c ns fs)) :
    ∃ a dx vs, v = .ref a ∧ m.rho r = some a ∧ H a = some (.ins (T.clA c) dx (ns.zip vs)) ∧ ns.length = vs.length ∧ ClsOk X.K T c ns ∧ Reps X.K T m fs vs := by
  obtain ⟨a, h1, h2⟩ := hr
  obtain ⟨a', o, k1, k2, k3, k4, dx, vs, k5, k6, k7, k8⟩ := hs.cell r _ hg (fun z => by cases z)
  rw [h2] at k1; cases k1; subst k5
  exact ⟨a, dx, vs, h1, h2, k4, k6, k7, k8⟩
/-- a thing of a class, wherever it stands -/
theorem clsOf_rep {m : Mem} {S : Store} {H : Hp} (hs : SRc X.K T m S H) {d : D} {v : V} {c : Nat} (hr : Rep X.K T m d v) (h : clsOf S d = some c) : ∃ a dx ns vs, v = .ref a ∧ H a = some (.ins (T.clA c) dx (ns.zip vs)) ∧ ClsOk X.K T c ns := by
  cases d <;> first | (cases h; done) | skip
  · cases h
    obtain ⟨a, dx, vs, h1, h2, h4, h5, h3⟩ := hr
    exact ⟨a, dx, _, vs, h1, hs.fz _ _ h2, h5⟩
  · simp only [clsOf] at h
    split at h
    · rename_i hg
      cases h
      obtain ⟨a, dx, vs, h1, h2, h3, h4, h5, h6⟩ := cell_ins hs hr hg
      exact ⟨a, dx, _, vs, h1, h3, h5⟩
    · cases h
theorem fld_get {pins : List (Addr × Obj)} {s : Shared} {σ : L2.St} {H : Hp} {f : Str} {b : Bool} {x : V} {v : Value} {d : D} {m : Mem} {S : Store} {Q : VK} (I : Inv X pins σ H s) (rx : RelV x v) (hs : SRc X.K T m S H) (hr : Rep X.K T m d x) (h : PostR X.K T (Rep X.K T) W m σ Q (evFld S f d)) :
    wpAny (model X.prog X.w) X.A (getAttr v f b) (EP X pins σ Q) X.xe s := by
  cases d <;> first | exact h.elim | skip
  · rename_i c ns fs
    obtain ⟨e, h1, h2⟩ := PostR.opt h
    obtain ⟨a, dx, vs, rfl, k2, k4, k5, k3⟩ := hr
    obtain ⟨w, l1, l2⟩ := lookF_rep k3 h1
    cases (show v = Value.ref a from rx)
    exact getattr_ok I (hs.fz _ _ k2) k5.1 (k5.2 f (lookF_mem h1)) l1 fun u s' I' ru => ⟨w, H, I', ru, h2.val hs l2⟩
  · rename_i r
    simp only [evFld] at h
    split at h
    · rename_i c ns fs hg
      obtain ⟨e, h1, h2⟩ := PostR.opt h
      obtain ⟨a, dx, vs, rfl, k1, k2, k4, k5, k3⟩ := cell_ins hs hr hg
      obtain ⟨w, l1, l2⟩ := lookF_rep k3 h1
      cases (show v = Value.ref a from rx)
      exact getattr_ok I k2 k5.1 (k5.2 f (lookF_mem h1)) l1 fun u s' I' ru => ⟨w, H, I', ru, h2.val hs l2⟩
    · exact h.elim
theorem ok_fld {a : Expr} {f : Str} {pos : Pos} {fa : Env → Store → R D} (ha : PE X a (tI X T W fa)) (hn : noCall0 a = true) :
    PE X (.Attribute a f pos) (tI X T W fun env S => (fa env S).bind fun x S1 => evFld S1 f x) := by
  refine ⟨fun pins s σ H Q I ⟨env, S, m, hs, hen, hp⟩ => ?_⟩
  exact attr_of (base_ok hn _ _ _) (run_bind ha I hs hen hp fun v s1 x H1 d S1 m1 I1 r1 l1 hs1 hen1 hr1 h1 => fld_get I1 r1 hs1 hr1 h1)

/-! ### what is built in -/
theorem boot_bi {b : BI} (h : biN b ≠ "__name__") : bootBuiltins (biN b) = some (biV b) := by
  cases b <;> first | exact absurd rfl h | decide +kernel
theorem ok_bi (hc : X.calm = true) {b : BI} {x : Str} {es : List Expr} {fs : List (Env → Store → R D)} {p pos : Pos} (h : PEs X T W es fs) (hb : biN b ≠ "__name__") (hx : x = biN b) (hg : Gl X x) (hm : X.mg x = none) :
    PE X (.Call (.Name x p) es [] pos) (tI X T W fun env S => (evAll fs env S).bind fun xs S1 => evBI S1 b xs) := by
  subst hx
  have hd : (biN b == ("__debug__" : Str)) = false := by cases b <;> first | exact absurd rfl hb | decide
  refine ⟨fun pins s σ H Q I ⟨env, S, m, hs, hen, hp⟩ => ?_⟩
  cases h with
  | nil => exact (show False by cases b <;> exact hp).elim
  | @cons e f es fs he hn hr =>
    refine wpAny_Call_Name_kw (ld_blt I hg hm (boot_bi hb) ?_ hb hd)
    have hA := (PEs.args (.cons he hn hr)).run pos pins s σ H _ I ⟨env, S, m, hs, hen, PostR.bind (rep' := Reps X.K T) hp⟩
    have k : ∀ (us : List Value) (s1 : Shared), AP X pins σ (fun vs H1 => ∃ ds S1 m1, Le m m1 ∧ SRc X.K T m1 S1 H1 ∧ Reps X.K T m1 ds vs ∧ PostR X.K T (Rep X.K T) W m1 σ Q (evBI S1 b ds)) us s1 → wpAny (model X.prog X.w) X.A (PySem.call (biV b) us) (EP X pins σ Q) X.xe s1 :=
      fun us s1 ⟨vs, H1, I1, r1, ds, S1, m1, l1, hs1, hr1, h1⟩ => bi_call hc I1 r1 hs1 hr1 h1 hb
    have hst := star_cons (es := es) (env := X.env) hn
    have hpl := PEs.stars hr pos
    have viaB : ∀ id, biV b = .builtin id → wpAny (model X.prog X.w) X.A (callWith pos (biV b) [] (backTo pos (starEach (e :: es) X.env)) (backToKw pos (keywordEach [] X.env))) (EP X pins σ Q) X.xe s := fun id e1 => by
      rw [e1] at k ⊢
      exact PyProof.Rows.callWith_builtin1 (thn hA k) hst hpl
    have viaT : ∀ id, biV b = .type id → wpAny (model X.prog X.w) X.A (callWith pos (biV b) [] (backTo pos (starEach (e :: es) X.env)) (backToKw pos (keywordEach [] X.env))) (EP X pins σ Q) X.xe s := fun id e1 => by
      rw [e1] at k ⊢
      exact PyProof.Rows.callWith_type1 (thn hA k) hst hpl
    cases b <;> first | exact absurd rfl hb | exact viaB _ rfl | exact viaT _ rfl

/-! ### methods of what is built in -/
theorem starEach_length {env : PySem.Env} : ∀ {es : List Expr} {fs : List (Env → Store → R D)}, PEs X T W es fs → (starEach es X.env).length = es.length := fun {es fs} h => by
  induction h with
  | nil => rfl
  | cons _ hn _ ih => rw [star_cons hn, List.length_cons, List.length_cons, ih]
theorem ok_bm {mm : BM} {o : Expr} {name : Str} {es : List Expr} {fo : Env → Store → R D} {fs : List (Env → Store → R D)} {apos pos : Pos} (ho : PE X o (tI X T W fo)) (hno : noCall0 o = true) (h : PEs X T W es fs) (hn : name = bmN mm) (hl : es.length < 29) (hline : (apos.endLine == pos.line) = true) :
    PE X (.Call (.Attribute o name apos) es [] pos) (tI X T W fun env S => (fo env S).bind fun x S1 => match mtOf S1 x with
      | some T => match bmId mm T with
        | some _ => (evAll fs env S1).bind fun xs S2 => evBM S2 mm T x xs
        | none => .bad
      | none => .bad) := by
  subst hn
  refine ⟨fun pins s σ H Q I ⟨env, S, m, hs, hen, hp⟩ => ?_⟩
  have few : ((backTo pos (starEach es X.env)).all (fun x => !x.1) && (backToKw pos (keywordEach [] X.env)).all (fun x => x.1.isSome)
      && decide (es.length + ([] : List Keyword).length + (if ([] : List Keyword).isEmpty then 0 else 1) < 30)) = true := by
    rw [any_all_not _ _ (h.stars pos)]
    have : es.length + ([] : List Keyword).length + (if ([] : List Keyword).isEmpty then 0 else 1) < 30 := by simp; omega
    rw [decide_eq_true this]; rfl
  refine wpAny_Call_method_late (base_ok hno _ _ _) few hline rfl (run_bind ho I hs hen hp fun v s1 x H1 d S1 m1 I1 r1 l1 hs1 hen1 hr1 h1 => ?_)
  split at h1
  · rename_i B hB
    split at h1
    · rename_i id hid
      have mi := bm_info hid
      obtain ⟨t1, t2⟩ := mt_type I1 r1 hs1 hr1 hB
      refine ⟨B.nm, id, mi.pa, mi.slot, mi.ty, t1, t2, ?_⟩
      have k : ∀ (us : List Value) (s2 : Shared), AP X pins σ (fun vs H2 => ∃ ds S2 m2, Le m1 m2 ∧ SRc X.K T m2 S2 H2 ∧ Reps X.K T m2 ds vs ∧ PostR X.K T (Rep X.K T) W m2 σ Q (evBM S2 mm B d ds)) us s2 → wpAny (model X.prog X.w) X.A (PySem.call (.builtin id) (v :: us)) (EP X pins σ Q) X.xe s2 :=
        fun us s2 ⟨vs, H2, I2, r2, ds, S2, m2, l2, hs2, hr2, h2⟩ => bm_call hid I2 r1 r2 hs2 (Rep.mono l2 _ _ hr1) hr2 h2
      have hA := h.args.run pos pins s1 σ H1 _ I1 ⟨env, S1, m1, hs1, hen1, PostR.bind (rep' := Reps X.K T) h1⟩
      cases h with
      | nil =>
        refine Calls.callWith_builtin rfl (PySem.evalArgs_none ?_)
        exact k [] s1 ⟨[], H1, I1, .nil, [], S1, m1, Le.refl _, hs1, rfl, h1⟩
      | @cons e f es fs he hn hr =>
        have hst := star_cons (es := es) (env := X.env) hn
        rw [hst] at hA ⊢
        refine Calls.callWith_builtin (by show (false || (backTo pos (starEach es X.env)).any (·.1)) = false; rw [hr.stars pos] <;> rfl) (Calls.evalArgs_plain ?_)
        exact thn hA k
    · exact h1.elim
  · exact h1.elim

/-- a thing held still is what it was -/
theorem frz_rep {m : Mem} {S : Store} {H : Hp} {σ : L2.St} {d : D} {v : V} {Q : VK} (hs : SRc X.K T m S H) (hr : Rep X.K T m d v) (h : PostR X.K T (Rep X.K T) W m σ Q (frzCell S d)) : Q v H := by
  cases d <;> first | exact PostR.val h hs hr | skip
  rename_i r
  simp only [frzCell] at h
  obtain ⟨a, rfl, h2⟩ := hr
  split at h <;> first | exact h.elim | skip
  all_goals
    rename_i hg
    obtain ⟨a', o, h1, h4, h5, l, hc, hf⟩ := hs.frz hg (fun z => by cases z)
    rw [h2] at h1; cases h1
  · obtain ⟨vs, rfl, k⟩ := hc
    exact h.valLe l h5 ⟨a, vs, rfl, hf, k⟩
  · obtain ⟨vs, rfl, k1, k⟩ := hc
    exact h.valLe l h5 ⟨a, vs, rfl, hf, k1, k⟩
  · obtain ⟨vs, rfl, k1, k⟩ := hc
    exact h.valLe l h5 ⟨a, vs, rfl, hf, k1, k⟩
  · obtain ⟨dx, vs, rfl, k1, k2, k⟩ := hc
    exact h.valLe l h5 ⟨a, dx, vs, rfl, hf, k1, k2, k⟩

/-! ### and, or, not, if -/
theorem ok_not {a : Expr} {pos : Pos} {fa : Env → Store → R D} (ha : PE X a (tI X T W fa)) :
    PE X (.UnaryOp .Not a pos) (tI X T W fun env S => (fa env S).bind fun x S1 => match truthD S1 x with
      | some b => .ok (.bl (!b)) S1
      | none => .bad) := by
  refine PE.of (pe_notT ha) fun σ H Q ⟨env, S, m, hs, hen, hp⟩ => ⟨env, S, m, hs, hen, ?_⟩
  refine PostR.imp (fun b H' z => ?_) (PostR.bind (rep' := Rep X.K T) hp)
  obtain ⟨d, S', m', l, hs', hr, q⟩ := z
  split at q
  · rename_i k e
    exact ⟨k, truth_rep hs' hr e, PostR.val (b := V.bl _) q hs' rfl⟩
  · exact q.elim
theorem ok_notT {a : Expr} {pos : Pos} {fa : Env → Store → R D} (ha : PT X a (tT X T W fa)) :
    PT X (.UnaryOp .Not a pos) (tT X T W fun env S => (fa env S).bind fun x S1 => match truthD S1 x with
      | some b => .ok (.bl (!b)) S1
      | none => .bad) := by
  refine PT.of (pt_not ha) fun σ H Q ⟨env, S, m, hs, hen, hp⟩ => ⟨env, S, m, hs, hen, ?_⟩
  refine PostR.imp (fun b H' z => ?_) (PostR.bind (rep' := repB) hp)
  obtain ⟨d, S', m', l, hs', hr, q⟩ := z
  cases (show d = .bl b from hr)
  exact PostR.val (b := !b) (rep := repB) q hs' rfl
def andF (fa fb : Env → Store → R D) : Env → Store → R D := fun env S => (fa env S).bind fun x S1 => match x with
  | .bl true => fb env S1
  | .bl false => .ok (.bl false) S1
  | _ => .bad
def orF (fa fb : Env → Store → R D) : Env → Store → R D := fun env S => (fa env S).bind fun x S1 => match x with
  | .bl true => .ok (.bl true) S1
  | .bl false => fb env S1
  | _ => .bad
def ifF (fc fa fb : Env → Store → R D) : Env → Store → R D := fun env S => (fc env S).bind fun x S1 => match x with
  | .bl true => fa env S1
  | .bl false => fb env S1
  | _ => .bad
theorem ok_and {a b : Expr} {rest : List Expr} {pos : Pos} {fa fb : Env → Store → R D} (ha : PE X a (tI X T W fa)) (hb : PE X (.BoolOp .And (b :: rest) pos) (tI X T W fb)) : PE X (.BoolOp .And (a :: b :: rest) pos) (tI X T W (andF fa fb)) := by
  refine ⟨fun pins s σ H Q I ⟨env, S, m, hs, hen, hp⟩ => ?_⟩
  refine (pe_and ha hb).run pins s σ H Q I ⟨env, S, m, hs, hen, ?_⟩
  refine PostR.imp (fun v H' z => ?_) (PostR.bind (rep' := Rep X.K T) hp)
  obtain ⟨d, S', m', l, hs', hr, q⟩ := z
  cases d <;> first | exact q.elim | skip
  rename_i c
  cases hr
  refine ⟨c, rfl, ?_⟩
  cases c with
  | true => exact ⟨env, S', m', hs', hen.mono l, q⟩
  | false => exact PostR.val (b := V.bl false) q hs' rfl
theorem ok_or {a b : Expr} {rest : List Expr} {pos : Pos} {fa fb : Env → Store → R D} (ha : PE X a (tI X T W fa)) (hb : PE X (.BoolOp .Or (b :: rest) pos) (tI X T W fb)) : PE X (.BoolOp .Or (a :: b :: rest) pos) (tI X T W (orF fa fb)) := by
  refine ⟨fun pins s σ H Q I ⟨env, S, m, hs, hen, hp⟩ => ?_⟩
  refine (pe_or ha hb).run pins s σ H Q I ⟨env, S, m, hs, hen, ?_⟩
  refine PostR.imp (fun v H' z => ?_) (PostR.bind (rep' := Rep X.K T) hp)
  obtain ⟨d, S', m', l, hs', hr, q⟩ := z
  cases d <;> first | exact q.elim | skip
  rename_i c
  cases hr
  refine ⟨c, rfl, ?_⟩
  cases c with
  | false => exact ⟨env, S', m', hs', hen.mono l, q⟩
  | true => exact PostR.val (b := V.bl true) q hs' rfl
theorem bl_post {m : Mem} {σ : L2.St} {Q : Bool → Hp → Prop} {fa : R D} {g : D → Store → R D} {P : Bool → Store → Mem → Hp → Prop} (hp : PostR X.K T repB W m σ Q (fa.bind g))
    (k : ∀ b S' m' H', Le m m' → SRc X.K T m' S' H' → PostR X.K T repB W m' σ Q (g (.bl b) S') → P b S' m' H') : PostR X.K T repB W m σ (fun b H' => ∃ S' m', P b S' m' H') fa := by
  refine PostR.imp (fun b H' z => ?_) (PostR.bind (rep' := repB) hp)
  obtain ⟨d, S', m', l, hs', hr, q⟩ := z
  cases (show d = .bl b from hr)
  exact ⟨S', m', k b S' m' H' l hs' q⟩
theorem ok_andT {a b : Expr} {rest : List Expr} {pos : Pos} {fa fb : Env → Store → R D} (ha : PT X a (tT X T W fa)) (hb : PW X (.BoolOp .And (b :: rest) pos) (tT X T W fb)) : PW X (.BoolOp .And (a :: b :: rest) pos) (tT X T W (andF fa fb)) := by
  refine PW.of (pw_and ha hb) fun σ H Q ⟨env, S, m, hs, hen, hp⟩ => ⟨env, S, m, hs, hen, ?_⟩
  refine PostR.imp (fun b H' z => ?_) (PostR.bind (rep' := repB) hp)
  obtain ⟨d, S', m', l, hs', hr, q⟩ := z
  cases (show d = .bl b from hr)
  cases b with
  | true => exact ⟨env, S', m', hs', hen.mono l, q⟩
  | false => exact PostR.val (b := false) (rep := repB) q hs' rfl
theorem ok_orT {a b : Expr} {rest : List Expr} {pos : Pos} {fa fb : Env → Store → R D} (ha : PT X a (tT X T W fa)) (hb : PW X (.BoolOp .Or (b :: rest) pos) (tT X T W fb)) : PW X (.BoolOp .Or (a :: b :: rest) pos) (tT X T W (orF fa fb)) := by
  refine PW.of (pw_or ha hb) fun σ H Q ⟨env, S, m, hs, hen, hp⟩ => ⟨env, S, m, hs, hen, ?_⟩
  refine PostR.imp (fun b H' z => ?_) (PostR.bind (rep' := repB) hp)
  obtain ⟨d, S', m', l, hs', hr, q⟩ := z
  cases (show d = .bl b from hr)
  cases b with
  | true => exact PostR.val (b := true) (rep := repB) q hs' rfl
  | false => exact ⟨env, S', m', hs', hen.mono l, q⟩
theorem ok_ife {c a b : Expr} {pos : Pos} {fc fa fb : Env → Store → R D} (hc : PT X c (tT X T W fc)) (ha : PE X a (tI X T W fa)) (hb : PE X b (tI X T W fb)) : PE X (.IfExp c a b pos) (tI X T W (ifF fc fa fb)) := by
  refine PE.of (pe_ifExp hc ha hb) fun σ H Q ⟨env, S, m, hs, hen, hp⟩ => ⟨env, S, m, hs, hen, ?_⟩
  refine PostR.imp (fun b H' z => ?_) (PostR.bind (rep' := repB) hp)
  obtain ⟨d, S', m', l, hs', hr, q⟩ := z
  cases (show d = .bl b from hr)
  cases b with
  | true => exact ⟨env, S', m', hs', hen.mono l, q⟩
  | false => exact ⟨env, S', m', hs', hen.mono l, q⟩
theorem ok_ifeT {c a b : Expr} {pos : Pos} {fc fa fb : Env → Store → R D} (hc : PT X c (tT X T W fc)) (ha : PT X a (tT X T W fa)) (hb : PT X b (tT X T W fb)) : PT X (.IfExp c a b pos) (tT X T W (ifF fc fa fb)) := by
  refine ⟨fun pins s σ H Q I ⟨env, S, m, hs, hen, hp⟩ => ?_⟩
  refine PyProof.Rows.isTrue_IfExp (thn (hc.run pins s σ H _ I ⟨env, S, m, hs, hen, PostR.bind (rep' := repB) hp⟩) fun d s1 ⟨H1, I1, e, S', m', l, hs', hr, q⟩ => ?_)
  cases (show e = .bl d from hr)
  cases d with
  | true => exact ha.run pins s1 σ H1 Q I1 ⟨env, S', m', hs', hen.mono l, q⟩
  | false => exact hb.run pins s1 σ H1 Q I1 ⟨env, S', m', hs', hen.mono l, q⟩
theorem ok_chainT (hu : X.A.units + 200 < cLine) {o o' : COp} {a b c : Expr} {pos : Pos} {fa fb fc : Env → Store → R D} (ha : PE X a (tI X T W fa)) (hb : PE X b (tI X T W fb)) (hc : PE X c (tI X T W fc)) (hm : lastMarks [cmpOf o, cmpOf o'] [b, c] = false) :
    PT X (.Compare a [cmpOf o, cmpOf o'] [b, c] pos) (tT X T W fun env S => (fa env S).bind fun x S1 => (fb env S1).bind fun y S2 => (evCmp S2 o x y).bind fun z S3 => match z with
      | .bl true => tz true ((fc env S3).bind fun w S4 => evCmp S4 o' y w)
      | .bl false => .ok (.bl false) S3
      | _ => .bad) := by
  refine ⟨fun pins s σ H Q I ⟨env, S, m, hs, hen, hp⟩ => ?_⟩
  refine isTrue_chain (run_bind ha I hs hen hp fun v s1 x H1 d S1 m1 I1 r1 l1 hs1 hen1 hr1 h1 => test_link ?_) hm
  refine run_bind hb I1 hs1 hen1 h1 fun u s2 y H2 e S2 m2 I2 r2 l2 hs2 hen2 hr2 h2 => ?_
  obtain ⟨bb, eb⟩ := evCmp_bool (PostR.bind (rep' := Rep X.K T) h2)
  rw [eb] at h2
  refine thn (ops_cmp (T := T) (W := W) (by omega) o pins s2 σ H2 x y v u d e m2 S2 (fun x H' => x = .bl bb ∧ ∃ m3, Le m2 m3 ∧ SRc X.K T m3 S2 H') I2 r1 r2 hs2 (Rep.mono l2 _ _ hr1) hr2 ?_) fun cv s3 ⟨z, H3, I3, r3, ez, m3, l3, hs3⟩ => ?_
  · show PostR X.K T (Rep X.K T) W m2 σ _ (evCmp S2 o d e)
    rw [eb]
    exact fun b H' m' l hs' hr => ⟨hr, m', l, hs'⟩
  subst ez
  cases r3
  refine wpAny_truthy_bool ?_
  have h3 := PostR.mono l3 h2
  cases bb with
  | false => exact ite_ff ⟨H3, I3, PostR.val (b := false) (rep := repB) h3 hs3 rfl⟩
  | true =>
    refine ite_tt (test_last ?_)
    have h3 : PostR X.K T repB W m3 σ Q (((fc env S2).bind fun w S4 => evCmp S4 o' e w).bind tzf) := h3
    rw [R.bind_assoc] at h3
    refine run_bind hc I3 hs3 (hen2.mono l3) h3 fun w s4 z' H4 g S4 m4 I4 r4 l4 hs4 hen4 hr4 h4 => ?_
    refine thn (cmp_test hu I4 r2 r4 hs4 (Rep.mono (l3.trans l4) _ _ hr2) hr4 h4) fun c s5 ⟨z, H5, I5, r5, k, e3, q3⟩ => ?_
    subst e3
    cases r5
    exact wpAny_truthy_bool ⟨H5, I5, q3⟩

/-! ### the ghost of holding still, or of setting free -/
theorem ok_frz {a : Expr} {fa : Env → Store → R D} (ha : PE X a (tI X T W fa)) : PE X a (tI X T W fun env S => (fa env S).bind fun x S1 => frzCell S1 x) := by
  refine PE.of ha fun σ H Q ⟨env, S, m, hs, hen, hp⟩ => ⟨env, S, m, hs, hen, ?_⟩
  refine PostR.imp (fun v H' z => ?_) (PostR.bind (rep' := Rep X.K T) hp)
  obtain ⟨d, S', m', l, hs', hr, q⟩ := z
  exact frz_rep hs' hr q
end
end HI
set_option Elab.async false
set_option linter.all false
set_option maxRecDepth 100000
/-! HiCall: calls of the text's own defs, methods, classes. -/
namespace HI
open PySem PySem.Spec PyProof.Rows L2

section
variable {X : Cx} {T : Tab} {W : WX} {L : Addr}
/-- what a def promises: the evaluator's answer -/
def spF (K : PySem.W.Frag) (T : Tab) (g : List D → Store → R D) : Sp := fun vs H Q E => ∃ m S ds, SRc K T m S H ∧ Reps K T m ds vs ∧ PostR K T (Rep K T) (fun c d _ H => E c d H) m [] Q (g ds S)
theorem PostR.callW {K : PySem.W.Frag} {α β : Type} {rep : Mem → α → β → Prop} {m : Mem} {σ : L2.St} {Q : β → Hp → Prop} {r : R α} (h : PostR K T rep W m σ Q r) : PostR K T rep (fun c d _ H => W c d σ H) m [] Q r := by
  cases r <;> exact h

/-- a call's exception is in our air -/
theorem XEL.of_call {pins : List (Addr × Obj)} {σ : L2.St} {H : Hp} {s s' : Shared} {E : XK} (I : Inv X pins σ H s) (hW : ∀ cls d H', E cls d H' → W cls d σ H') {u : Value} (c : L2.CX X.prog X.w X.stack H s E u s') : XEL X L W u s' := by
  obtain ⟨a, B, H', cls, d, rfl, fl, hok, ub, na, os, ag, hE⟩ := c
  obtain ⟨G, g1, g2⟩ := restrict s'.heap fun b => (B.get? b).isSome || decide (b ∈ frs X.stack)
  have st : B.StaysIn s'.heap := fl.1
  have gB : ∀ b o, B.get? b = some o → G.get? b = some o := fun b o e => by
    rw [g1 b (by simp [e])]
    exact st b o e
  have gF : ∀ b, b ∈ frs X.stack → G.get? b = s'.heap.get? b := fun b hb => g1 b (by simp [hb])
  have og : ∀ b o, G.get? b = some o → s'.heap.get? b = some o ∧ ((B.get? b).isSome = true ∨ b ∈ frs X.stack) := fun b o e => by
    cases q : ((B.get? b).isSome || decide (b ∈ frs X.stack)) with
    | false => rw [g2 b q] at e; cases e
    | true =>
      rw [g1 b q] at e
      exact ⟨e, by simpa [Bool.or_eq_true] using q⟩
  refine ⟨a, B, { s with heap := G, gens := s'.gens, drawn := s'.drawn, toks := s'.toks }, pins, σ, H', cls, d, rfl, ?_, fun b o e hb => ?_, Heap.UpToSlots.of_keeps fun b o e => (og b o e).1, .inr (.inl fl), na, os, ag, hW _ _ _ hE⟩
  · refine I.call (ch := []) ⟨fun b o e n hb _ => gB b o (ub.keep b o e n hb), fun b o e n hb _ => ?_, fun b o e n _ => ub.free b o e n, fun b o e _ => ?_, ub.tups, ub.frzs, ub.tbls⟩ (hok.kept gB) ag (fun _ z => nomatch z)
    · obtain ⟨sl, q⟩ := ub.slot b o e hb
      exact ⟨sl, by rw [gF b hb]; exact q⟩
    · by_cases hb : b ∈ frs X.stack
      · obtain ⟨sl, q⟩ := ub.slot b o e hb
        exact ⟨_, by rw [gF b hb]; exact q⟩
      · obtain ⟨o', q⟩ := ub.there b o e hb
        exact ⟨o', gB b o' q⟩
  · obtain ⟨e', h⟩ := og b o e
    rcases h with h | h
    · obtain ⟨o', q⟩ := Option.isSome_iff_exists.mp h
      have z := st b o' q
      rw [e'] at z; cases z
      exact q
    · exact absurd h hb

/-- a def, at its address -/
structure FnAt (P : Program) (w : World) (K : PySem.W.Frag) (mg : Str → Option Value) (base : Heap) (T : Tab) (k : Nat) (g : CallF) (f : Nat) : Prop where
  ex : ∃ (fd : FuncData) (ps : List Str), FnOk P w K mg base (L2.CX P w) k (T.fnA f) fd ps (spF K T (g f)) ∧ Binds K fd ps []
  kp : PySem.W.keepIn K (.ref (T.fnA f)) = true
/-- every def keeps the promise -/
def Fns (P : Program) (w : World) (K : PySem.W.Frag) (mg : Str → Option Value) (base : Heap) (T : Tab) (k : Nat) (g : CallF) : Prop := ∀ f, FnAt P w K mg base T k g f
/-- a class of the text -/
structure ClsAt (K : PySem.W.Frag) (T : Tab) (c : Nat) (C : ClsDef) : Prop where
  cls : Cls K (T.clA c)
  flds : ∀ f ∈ C.flds, NoAttr K (T.clA c) f
  meths : ∀ m f, C.meths.lookup m = some f → Meth K (T.clA c) m (T.fnA f)
  made : Mk K (T.clA c) (T.fnA C.init)
def Clss (K : PySem.W.Frag) (T : Tab) (P : Prog) : Prop := ∀ (c : Nat) (C : ClsDef), P.cls[c]? = some C → ClsAt K T c C

section
variable {k : Nat} {g : CallF} {f : Nat}
/-- the callee runs -/
theorem run_f (F : FnAt X.prog X.w X.K X.mg X.base T k g f) (hr : Room k X.A) (tk : ∀ u s', XEL X L W u s' → X.xe u s') {pins : List (Addr × Obj)} {s : Shared} {σ : L2.St} {H : Hp} {Q : VK} {us : List Value} {vs : List V} {m : Mem} {S : Store} {ds : List D}
    (I : Inv X pins σ H s) (r : Vals vs us) (hs : SRc X.K T m S H) (hd : Reps X.K T m ds vs) (h : PostR X.K T (Rep X.K T) W m σ Q (g f ds S)) : wpAny (model X.prog X.w) X.A (PySem.call (.ref (T.fnA f)) us) (EP X pins σ Q) X.xe s := by
  obtain ⟨fd, ps, F, hb⟩ := F.ex
  exact run_fnS (E := WE W) F hr hb (fun _ _ _ e s' I c => tk e s' (XEL.of_call I (fun _ _ _ h => h) c)) I r ⟨m, S, ds, hs, hd, h.callW⟩
theorem callWith_f (F : FnAt X.prog X.w X.K X.mg X.base T k g f) (hr : Room k X.A) (tk : ∀ u s', XEL X L W u s' → X.xe u s') {es : List Expr} {fs : List (Env → Store → R D)} {pos : Pos} (he : PEs X T W es fs) {pins : List (Addr × Obj)} {s : Shared} {σ : L2.St} {H : Hp} {Q : VK} {env : Env} {m : Mem} {S : Store}
    (I : Inv X pins σ H s) (hs : SRc X.K T m S H) (hen : EnvOk X.K T X.pn m env σ) (h : PostR X.K T (Rep X.K T) W m σ Q ((evAll fs env S).bind fun xs S1 => g f xs S1)) :
    wpAny (model X.prog X.w) X.A (callWith pos (.ref (T.fnA f)) [] (backTo pos (starEach es X.env)) (backToKw pos (keywordEach [] X.env))) (EP X pins σ Q) X.xe s := by
  have hA := he.args.run pos pins s σ H _ I ⟨env, S, m, hs, hen, PostR.bind (rep' := Reps X.K T) h⟩
  cases he with
  | nil => exact PySem.W.callWith_K0 I.kIn F.kp (run_f (us := []) F hr tk I .nil hs Reps.nil h)
  | @cons e f es fs he hn hr' =>
    exact PySem.W.callWith_K (h₀ := X.base) I.ok.mod.kin F.kp (thn hA fun us s1 ⟨vs, H1, I1, r1, ds, S1, m1, l1, hs1, hr1, h1⟩ => ⟨I1.kIn, run_f F hr tk I1 r1 hs1 hr1 h1⟩) (star_cons hn) (hr'.stars pos)
theorem ok_call (F : Fns X.prog X.w X.K X.mg X.base T k g) (hr : Room k X.A) (tk : ∀ u s', XEL X L W u s' → X.xe u s') {x : Str} {p pos : Pos} (hg : Gl X x) (hm : X.mg x = some (.ref (T.fnA f))) (hdb : (x == ("__debug__" : Str)) = false) {es : List Expr} {fs : List (Env → Store → R D)} (he : PEs X T W es fs) :
    PE X (.Call (.Name x p) es [] pos) (tI X T W fun env S => (evAll fs env S).bind fun xs S1 => g f xs S1) :=
  ⟨fun pins s σ H Q I ⟨env, S, m, hs, hen, hp⟩ => wpAny_Call_Name_kw (ld_glob I hg hm (callWith_f (F f) hr tk he I hs hen hp) hdb)⟩
/-- a local name that holds a def -/
theorem ok_calld (F : Fns X.prog X.w X.K X.mg X.base T k g) (hr : Room k X.A) (tk : ∀ u s', XEL X L W u s' → X.xe u s') {x : Str} {p pos : Pos} {fe : Env → Store → R D} (ha : PE X (.Name x p) (tI X T W fe)) {es : List Expr} {fs : List (Env → Store → R D)} (he : PEs X T W es fs) :
    PE X (.Call (.Name x p) es [] pos) (tI X T W fun env S => (fe env S).bind fun d S1 => match d with
      | .fn f => (evAll fs env S1).bind fun xs S2 => g f xs S2
      | _ => .bad) := by
  refine ⟨fun pins s σ H Q I ⟨env, S, m, hs, hen, hp⟩ => ?_⟩
  refine wpAny_Call_Name_kw (run_bind ha I hs hen hp fun v s1 x H1 d S1 m1 I1 r1 l1 hs1 hen1 hr1 h1 => ?_)
  cases d <;> first | exact h1.elim | skip
  rename_i f
  cases hr1
  cases r1
  exact callWith_f (F f) hr tk he I1 hs1 hen1 h1

/-! ### methods -/
theorem meth_node {M : Program} {w : World} {A : Around} {E : Value → Shared → Prop} {s : Shared} {env : PySem.Env} {o : Expr} {name : Str} {apos pos : Pos} {args : List Expr} {Q : Value → Shared → Prop}
    (hbase : attributeBase o name env (eval o env) = eval o env)
    (hfew : methodCallForm (args.length + ([] : List Keyword).length) (backTo pos (starEach args env)) (backToKw pos (keywordEach [] env)) = true)
    (hline : (apos.endLine == pos.line) = true)
    (h : wpAny (model M w) A (eval o env) (fun ov s₁ => wpAny (model M w) A (getMethod ov name (do return (← importBound o env).getD true)) (fun fx s₂ => wpAny (model M w) A (callWith pos fx.1 fx.2 (backTo pos (starEach args env)) (backToKw pos (keywordEach [] env))) Q E s₂) E s₁) E s) :
    wpAny (model M w) A (eval (.Call (.Attribute o name apos) args [] pos) env) Q E s := by
  rw [arm_eval_Call, hbase]
  refine wpAny_bind (wpAny_mono h (fun ov s₁ h₁ => ?_) fun _ _ e => e)
  refine wpAny_bind (wpAny_standAt ?_)
  have hpos : methodCallPos true o env apos pos = pure pos := by unfold methodCallPos; simp [hline]
  unfold methodCall
  rw [hfew]
  exact wpAny_bind (wpAny_holding (thn h₁ fun fx s₂ h₂ => wpAny_bind (wpAny_of_eq hpos h₂)))
theorem PEs.few {es : List Expr} {fs : List (Env → Store → R D)} (h : PEs X T W es fs) (pos : Pos) (hl : es.length < 29) : methodCallForm (es.length + ([] : List Keyword).length) (backTo pos (starEach es X.env)) (backToKw pos (keywordEach [] X.env)) = true := by
  have few : ((backTo pos (starEach es X.env)).all (fun x => !x.1) && (backToKw pos (keywordEach [] X.env)).all (fun x => x.1.isSome)
      && decide (es.length + ([] : List Keyword).length + (if ([] : List Keyword).isEmpty then 0 else 1) < 30)) = true := by
    rw [any_all_not _ _ (h.stars pos)]
    have : es.length + ([] : List Keyword).length + (if ([] : List Keyword).isEmpty then 0 else 1) < 30 := by simp; omega
    rw [decide_eq_true this]; rfl
  exact few
theorem lookup_zip_none {m : Str} : ∀ {ns : List Str} {vs : List V}, m ∉ ns → (ns.zip vs).lookup m = none
  | [], _, _ => rfl
  | _ :: _, [], _ => rfl
  | n :: ns, v :: vs, h => by
    show (match m == n with | true => some v | false => (ns.zip vs).lookup m) = none
    have e : (m == n) = false := by
      simpa using fun z => h (by rw [z]; exact List.mem_cons_self)
    rw [e]
    exact lookup_zip_none fun z => h (List.mem_cons_of_mem _ z)
theorem ok_meth (F : Fns X.prog X.w X.K X.mg X.base T k g) {P : Prog} (C : Clss X.K T P) (hr : Room k X.A) (tk : ∀ u s', XEL X L W u s' → X.xe u s') {o : Expr} {name : Str} {es : List Expr} {fo : Env → Store → R D} {fs : List (Env → Store → R D)} {apos pos : Pos}
    (ho : PE X o (tI X T W fo)) (hno : noCall0 o = true) (he : PEs X T W es fs) (hl : es.length < 29) (hline : (apos.endLine == pos.line) = true) :
    PE X (.Call (.Attribute o name apos) es [] pos) (tI X T W fun env S => (fo env S).bind fun x S1 => match clsOf S1 x with
      | some c => match methOf P c name with
        | some f => (evAll fs env S1).bind fun xs S2 => g f (x :: xs) S2
        | none => .bad
      | none => .bad) := by
  refine ⟨fun pins s σ H Q I ⟨env, S, m, hs, hen, hp⟩ => ?_⟩
  refine meth_node (base_ok hno _ _ _) (he.few pos hl) hline (run_bind ho I hs hen hp fun v s1 x H1 d S1 m1 I1 r1 l1 hs1 hen1 hr1 h1 => ?_)
  split at h1
  · rename_i c hc
    split at h1
    · rename_i f hf
      obtain ⟨a, dx, ns, vs, rfl, ha, hk⟩ := clsOf_rep hs1 hr1 hc
      cases (show v = Value.ref a from r1)
      unfold methOf at hf
      split at hf
      · rename_i CD hCD
        have M := (C c CD hCD).meths name f hf
        have hn : name ∉ ns := fun z => by
          have n := hk.2 name z
          have n' : PySem.W.findIn X.K (.ref (T.clA c)) name = some none := n
          rw [M.at_] at n'; cases n'
        refine getmeth_ok I1 ha hk.1 M (lookup_zip_none hn) ?_
        have hA := he.args.run pos pins s1 σ H1 _ I1 ⟨env, S1, m1, hs1, hen1, PostR.bind (rep' := Reps X.K T) h1⟩
        cases he with
        | nil => exact PySem.W.callWith_K0 (first := [.ref a]) I1.kIn M.kp (run_f (us := [.ref a]) (F f) hr tk I1 (.cons (show RelV (V.ref a) (Value.ref a) from rfl) .nil) hs1 (.cons hr1 Reps.nil) h1)
        | @cons e f' es fs he hn hr' =>
          exact PySem.W.callWith_K (first := [.ref a]) (h₀ := X.base) I1.ok.mod.kin M.kp (thn hA fun us s2 ⟨ws, H2, I2, r2, ds, S2, m2, l2, hs2, hr2, h2⟩ => ⟨I2.kIn, run_f (us := .ref a :: us) (F f) hr tk I2 (.cons (show RelV (V.ref a) (Value.ref a) from rfl) r2) hs2 (.cons (Rep.mono l2 _ _ hr1) hr2) h2⟩) (star_cons hn) (hr'.stars pos)
      · cases hf
    · exact h1.elim
  · exact h1.elim

/-! ### a new thing of a class -/
theorem run_new {C : Addr} {f : Nat} (M : Mk X.K C (T.fnA f)) (F : FnAt X.prog X.w X.K X.mg X.base T k g f) (hr : Room (k + 1) X.A) (tk : ∀ u s', XEL X L W u s' → X.xe u s') {pins : List (Addr × Obj)} {σ : L2.St} {H : Hp} {s : Shared} {Q : VK} {us : List Value} {vs : List V} (I : Inv X pins σ H s) (r : Vals vs us)
    (h : ∀ x dx, H x = none → H dx = none → dx ≠ x → spF X.K T (g f) (.ref x :: vs) (upd (upd H dx (.own x)) x (.ins C dx [])) (fun v H2 => v = .non ∧ Q (.ref x) H2) (WE W σ)) :
    wpAny (model X.prog X.w) X.A (PySem.call (.ref C) us) (EP X pins σ Q) X.xe s := by
  obtain ⟨fd, ps, F, hb⟩ := F.ex
  have hq := h (s.heap.objs.size + 1) s.heap.objs.size (I.hok.fresh (Nat.le_succ _)) (I.hok.fresh (Nat.le_refl _)) (Nat.ne_of_lt (Nat.lt_succ_self _))
  have I2 := Inv.made (C := C) I
  have r2 : Vals (V.ref (s.heap.objs.size + 1) :: vs) (Value.ref (s.heap.objs.size + 1) :: us) := .cons rfl r
  have hl : (Value.ref (s.heap.objs.size + 1) :: us).length = ps.length := by
    have e := r2.length
    rw [F.len _ _ _ _ hq] at e
    exact e.symm
  have b := hb { s with heap := (s.heap.push PySem.W.emptyDict).push (PySem.W.instObj C s.heap.objs.size) } (Value.ref (s.heap.objs.size + 1) :: us) I2.kIn (by rw [List.append_nil]; exact hl)
  rw [List.append_nil] at b
  refine wpAny_call (make_map (f := T.fnA f) I.kIn M.makes M.init (beq_iff_eq.mp M.fn) (codeAny_mono (F.run _ X.stack _ _ ⟨Value.ref (s.heap.objs.size + 1) :: us, []⟩ (Value.ref (s.heap.objs.size + 1) :: us) _ _ (WE W σ) (hr.make C us [])
    (I2.env0.make C us []) b r2 hq) fun r s' hq' => ?_))
  cases r with
  | error e => exact tk e s' (XEL.of_call I2 (fun _ _ _ h => h) hq')
  | ok fl =>
    cases fl with
    | ret u =>
      obtain ⟨v, H', I3, rv, ev, q3⟩ := I2.after hq'
      subst ev
      exact ⟨rv, ⟨V.ref (s.heap.objs.size + 1), H', I3, rfl, q3⟩⟩
    | next => exact False.elim hq'
    | brk => exact False.elim hq'
    | cont => exact False.elim hq'
theorem new_sp {c : Nat} {C : ClsDef} (hC : ClsAt X.K T c C) {σ : L2.St} {H : Hp} {Q : VK} {m : Mem} {S : Store} {ds : List D} {vs : List V} (hs : SRc X.K T m S H) (hd : Reps X.K T m ds vs)
    (h : PostR X.K T (Rep X.K T) W m σ Q ((g C.init (.ref S.top :: ds) (S.new (.ins c [] []))).bind fun v S2 => match v with
      | .non => .ok (.ref S.top) S2
      | _ => .bad)) (x dx : Addr) (hx : H x = none) (hdx : H dx = none) (hne : dx ≠ x) :
    spF X.K T (g C.init) (.ref x :: vs) (upd (upd H dx (.own x)) x (.ins (T.clA c) dx [])) (fun v H2 => v = .non ∧ Q (.ref x) H2) (WE W σ) := by
  have h1 := hs.same (same_upd (o := .own x) hdx)
  have hx' : upd H dx (.own x) x = none := by rw [upd_ne (fun z => hne z.symm)]; exact hx
  obtain ⟨h2, l⟩ := h1.new (o := .ins (T.clA c) dx []) (c := .ins c [] []) hx' ⟨dx, [], rfl, rfl, ⟨hC.cls, fun f z => by cases z⟩, Reps.nil⟩
  refine ⟨_, _, .ref S.top :: ds, h2, .cons ⟨x, rfl, if_pos rfl⟩ (Reps.mono l _ _ hd), PostR.callW (σ := σ) (W := W) ?_⟩
  refine PostR.imp (fun v H' z => ?_) (PostR.bind (rep' := Rep X.K T) (PostR.mono l h))
  obtain ⟨d, S', m', l', hs', hr, q⟩ := z
  cases d <;> first | exact q.elim | skip
  exact ⟨hr, q.val hs' ⟨x, rfl, l'.rho _ _ (if_pos rfl)⟩⟩
theorem ok_make (F : Fns X.prog X.w X.K X.mg X.base T k g) {P : Prog} (CC : Clss X.K T P) (hr : Room (k + 1) X.A) (tk : ∀ u s', XEL X L W u s' → X.xe u s') {c : Nat} {x : Str} {p pos : Pos} (hg : Gl X x) (hm : X.mg x = some (.ref (T.clA c))) (hdb : (x == ("__debug__" : Str)) = false) (hc : c < P.cls.length) {es : List Expr} {fs : List (Env → Store → R D)} (he : PEs X T W es fs) :
    PE X (.Call (.Name x p) es [] pos) (tI X T W fun env S => (evAll fs env S).bind fun xs S1 => match P.cls[c]? with
      | some C => (g C.init (.ref S1.top :: xs) (S1.new (.ins c [] []))).bind fun v S2 => match v with
        | .non => .ok (.ref S1.top) S2
        | _ => .bad
      | none => .bad) := by
  refine ⟨fun pins s σ H Q I ⟨env, S, m, hs, hen, hp⟩ => ?_⟩
  have eC : P.cls[c]? = some P.cls[c] := List.getElem?_eq_getElem hc
  have A := CC c _ eC
  rw [eC] at hp
  refine wpAny_Call_Name_kw (ld_glob I hg hm ?_ hdb)
  have hA := he.args.run pos pins s σ H _ I ⟨env, S, m, hs, hen, PostR.bind (rep' := Reps X.K T) hp⟩
  cases he with
  | nil => exact PySem.W.callWith_K0 I.kIn A.made.kp (run_new (us := []) A.made (F _) hr tk I .nil (new_sp A hs Reps.nil hp))
  | @cons e f es fs he hn hr' =>
    exact PySem.W.callWith_K (h₀ := X.base) I.ok.mod.kin A.made.kp (thn hA fun us s1 ⟨vs, H1, I1, r1, ds, S1, m1, l1, hs1, hr1, h1⟩ => ⟨I1.kIn, run_new A.made (F _) hr tk I1 r1 (new_sp A hs1 hr1 h1)⟩) (star_cons hn) (hr'.stars pos)
end
end
end HI
set_option Elab.async false
set_option linter.all false
set_option maxRecDepth 100000
/-! HiIter: what a loop walks. -/
namespace HI
open PySem PySem.Spec PyProof.Rows L2

/-- the iterator gives these, one by one, whatever else happens -/
def Steps (K : PySem.W.Frag) (T : Tab) (J : L2.It) (xs : List D) (m0 : Mem) : Prop := ∀ m S H, LeF m0 m → SRc K T m S H →
  (∀ i x, xs[i]? = some x → J.go i H ∧ ∀ v H', J.yld i H v H' → ∃ m', Le m m' ∧ SRc K T m' S H' ∧ Rep K T m' x v) ∧ J.stop xs.length H
section
variable {X : Cx} {T : Tab} {W : WX} {tg : Expr}
def repI (K : PySem.W.Frag) (T : Tab) : Mem → List D → L2.It → Prop := fun m xs J => Steps K T J xs m
def tIt (X : Cx) (T : Tab) (W : WX) (f : Env → Store → R (List D)) : TI := fun σ H Q => ∃ env S m, SRc X.K T m S H ∧ EnvOk X.K T X.pn m env σ ∧ PostR X.K T (repI X.K T) W m σ Q (f env S)

theorem steps_list {K : PySem.W.Frag} {a : Addr} {vs : List V} {xs : List D} {m0 : Mem} (h : m0.fz a = some (.lst vs)) (hr : Reps K T m0 xs vs) : Steps K T (Itl K a) xs m0 := fun m S H l hs => by
  have e : SqL K H a vs := .inl (.inl (hs.fz _ _ (l.fz _ _ h)))
  refine ⟨fun i x hx => ?_, ⟨vs, e, by rw [hr.length]; exact Nat.le_refl _⟩⟩
  obtain ⟨v, h1, h2⟩ := hr.get hx
  refine ⟨⟨vs, v, e, h1⟩, fun w H' ⟨eH, hw⟩ => ?_⟩
  subst eH
  have := hw vs e
  rw [h1] at this; cases this
  exact ⟨m, Le.refl m, hs, Rep.monoF l _ _ h2⟩
theorem steps_tup {K : PySem.W.Frag} {a : Addr} {vs : List V} {xs : List D} {m0 : Mem} (h : SqT K m0.fz a vs) (hr : Reps K T m0 xs vs) : Steps K T (Itt K a) xs m0 := fun m S H l hs => by
  have e : SqT K H a vs := SqT.same (l.fz.trans hs.fz) h
  refine ⟨fun i x hx => ?_, ⟨vs, e, by rw [hr.length]; exact Nat.le_refl _⟩⟩
  obtain ⟨v, h1, h2⟩ := hr.get hx
  refine ⟨⟨vs, v, e, h1⟩, fun w H' ⟨eH, hw⟩ => ?_⟩
  subst eH
  have := hw vs e
  rw [h1] at this; cases this
  exact ⟨m, Le.refl m, hs, Rep.monoF l _ _ h2⟩
theorem rangeD_get {lo : Int} {n i : Nat} {x : D} (h : (rangeD lo n)[i]? = some x) : i < n ∧ x = .int (lo + i) := by
  unfold rangeD at h
  rw [List.getElem?_map] at h
  by_cases hi : i < n
  · rw [List.getElem?_range hi] at h
    exact ⟨hi, by cases h; rfl⟩
  · rw [List.getElem?_eq_none (by simpa using hi)] at h; cases h
theorem steps_range {K : PySem.W.Frag} {lo : Int} {n : Nat} {m0 : Mem} : Steps K T (Itr lo n) (rangeD lo n) m0 := fun m S H l hs => by
  refine ⟨fun i x hx => ?_, show n ≤ (rangeD lo n).length by unfold rangeD; simp⟩
  obtain ⟨h1, rfl⟩ := rangeD_get hx
  refine ⟨h1, fun w H' ⟨eH, hw⟩ => ?_⟩
  subst eH hw
  exact ⟨m, Le.refl m, hs, rfl⟩
theorem steps_str {K : PySem.W.Frag} {z : Str} {m0 : Mem} : Steps K T (Its z) (signs z) m0 := fun m S H l hs => by
  refine ⟨fun i x hx => ?_, show z.cps.size ≤ (signs z).length by unfold signs; simp⟩
  unfold signs at hx
  rw [List.getElem?_map] at hx
  obtain ⟨c, h1, h2⟩ := Option.map_eq_some_iff.mp hx
  have h3 : z.cps[i]? = some c := by simpa using h1
  refine ⟨(Array.getElem?_eq_some_iff.mp h3).1, fun w H' ⟨eH, c', k1, hw⟩ => ?_⟩
  rw [h3] at k1; cases k1
  subst eH hw h2
  exact ⟨m, Le.refl m, hs, rfl⟩
theorem enumD_get : ∀ {xs : List D} {n i : Nat} {x : D}, (enumD n xs)[i]? = some x → ∃ y, xs[i]? = some y ∧ x = .tup [.int ((n + i : Nat) : Int), y]
  | [], _, _, _, h => by simp [enumD] at h
  | y :: xs, n, 0, x, h => by
    simp [enumD] at h
    exact ⟨y, rfl, by rw [← h]; rfl⟩
  | y :: xs, n, i + 1, x, h => by
    obtain ⟨z, h1, h2⟩ := enumD_get (xs := xs) (n := n + 1) (i := i) (by simpa [enumD] using h)
    exact ⟨z, by simpa using h1, by rw [h2, show n + 1 + i = n + (i + 1) by omega]⟩
theorem enumD_length : ∀ (xs : List D) (n : Nat), (enumD n xs).length = xs.length
  | [], _ => rfl
  | _ :: xs, n => by simp [enumD, enumD_length xs (n + 1)]
theorem steps_enum {K : PySem.W.Frag} {a : Addr} {vs : List V} {xs : List D} {m0 : Mem} (h : m0.fz a = some (.lst vs)) (hr : Reps K T m0 xs vs) : Steps K T (Ite K a) (enumD 0 xs) m0 := fun m S H l hs => by
  have e : SqL K H a vs := .inl (.inl (hs.fz _ _ (l.fz _ _ h)))
  refine ⟨fun i x hx => ?_, ⟨vs, e, by rw [enumD_length, hr.length]; exact Nat.le_refl _⟩⟩
  obtain ⟨y, k1, k2⟩ := enumD_get hx
  obtain ⟨v, h1, h2⟩ := hr.get k1
  refine ⟨⟨vs, v, e, h1⟩, fun w H' ⟨p, u, e1, np, eH, hw⟩ => ?_⟩
  have := hw vs e
  rw [h1] at this; cases this
  subst e1 eH k2
  obtain ⟨h3, l3⟩ := hs.add (o := .tup [.int (i : Nat), v]) np
  refine ⟨_, l3, h3, p, [.int (i : Nat), v], rfl, upd_same, .cons (by show V.int _ = _; simp) (.cons (Rep.monoF (l.trans l3.toF) _ _ h2) Reps.nil)⟩
theorem zipD_get : ∀ {xs ys : List D} {i : Nat} {x : D}, (zipD xs ys)[i]? = some x → ∃ a b, xs[i]? = some a ∧ ys[i]? = some b ∧ x = .tup [a, b]
  | [], _, _, _, h => by simp [zipD] at h
  | _ :: _, [], _, _, h => by simp [zipD] at h
  | a :: xs, b :: ys, 0, x, h => by
    simp [zipD] at h
    exact ⟨a, b, rfl, rfl, h.symm⟩
  | a :: xs, b :: ys, i + 1, x, h => by
    obtain ⟨c, d, h1, h2, h3⟩ := zipD_get (xs := xs) (ys := ys) (i := i) (by simpa [zipD] using h)
    exact ⟨c, d, by simpa using h1, by simpa using h2, h3⟩
theorem zipD_length : ∀ (xs ys : List D), (zipD xs ys).length = min xs.length ys.length
  | [], _ => by simp [zipD]
  | _ :: _, [] => by simp [zipD]
  | _ :: xs, _ :: ys => by simp [zipD, zipD_length xs ys] <;> omega
theorem steps_zip {K : PySem.W.Frag} {a b : Addr} {vs us : List V} {xs ys : List D} {m0 : Mem} (h : m0.fz a = some (.lst vs)) (hr : Reps K T m0 xs vs) (h' : m0.fz b = some (.lst us)) (hr' : Reps K T m0 ys us) : Steps K T (Itz K a b) (zipD xs ys) m0 := fun m S H l hs => by
  have e : SqL K H a vs := .inl (.inl (hs.fz _ _ (l.fz _ _ h)))
  have e' : SqL K H b us := .inl (.inl (hs.fz _ _ (l.fz _ _ h')))
  refine ⟨fun i x hx => ?_, ⟨vs, us, e, e', by rw [zipD_length, hr.length, hr'.length]; omega⟩⟩
  obtain ⟨y, z, k1, k2, k3⟩ := zipD_get hx
  obtain ⟨v, h1, h2⟩ := hr.get k1
  obtain ⟨u, h3, h4⟩ := hr'.get k2
  refine ⟨⟨vs, us, v, u, e, e', h1, h3⟩, fun w H' ⟨p, v', u', e1, np, eH, hw, hw'⟩ => ?_⟩
  have := hw vs e
  rw [h1] at this; cases this
  have := hw' us e'
  rw [h3] at this; cases this
  subst e1 eH k3
  obtain ⟨h5, l5⟩ := hs.add (o := .tup [v, u]) np
  exact ⟨_, l5, h5, p, [v, u], rfl, upd_same, .cons (Rep.monoF (l.trans l5.toF) _ _ h2) (.cons (Rep.monoF (l.trans l5.toF) _ _ h4) Reps.nil)⟩

/-! ### the rules -/
theorem pi_val {e : Expr} {fe : Env → Store → R D} (he : PE X e (tI X T W fe)) : PI X tg e (tIt X T W fun env S => (fe env S).bind fun x S1 => match walkOf x with
    | some xs => .ok xs S1
    | none => .bad) := by
  refine ⟨fun pins s σ H Q I ⟨env, S, m, hs, hen, hp⟩ => ?_⟩
  refine run_bind he I hs hen hp fun v s1 x H1 d S1 m1 I1 r1 l1 hs1 hen1 hr1 h1 => ?_
  have tupC : ∀ {a : Addr} {vs : List V} {xs : List D}, x = .ref a → SqT X.K m1.fz a vs → Reps X.K T m1 xs vs → PostR X.K T (repI X.K T) W m1 σ Q (.ok xs S1) → wpAny (model X.prog X.w) X.A (pyIter v) (PIE X pins σ tg Q) X.xe s1 := fun {a vs xs} ex hq hv h' => by
    subst ex
    cases (show v = Value.ref a from r1)
    obtain ⟨its, rv, p, hz⟩ := I1.tuple (SqT.same hs1.fz hq)
    refine wpAny_pyIter_tuple (show s1.heap.IsTuple a its.toArray from p) ?_
    refine ⟨s1.heap.objs.size, [s1.heap.objs.size], _, _, H1, rfl, I1.kept (t' := s1.toks) fun b o e => Heap.get?_push_of_some _ e, turn_tuple a _, ⟨_, Heap.get?_push_size _ rfl, rfl, rfl⟩, fun b hb => ?_, h'.val hs1 (steps_tup hq hv)⟩
    have e : b = s1.heap.objs.size := by simpa using hb
    subst e
    exact I1.fpOk (Nat.le_refl _) (I1.hok.fresh (Nat.le_refl _))
  cases d <;> first | exact h1.elim | skip
  · rename_i z
    cases hr1
    obtain ⟨t, rfl⟩ := r1
    have q := PostR.val (rep := repI X.K T) h1 hs1 steps_str
    cases ha : z.cps.all (· < 128)
    · exact wpAny_pyIter_wide ha (pi_one (tk := s1.toks) I1 _ (turn_str _ z t "str_iterator" (.inr rfl)) ⟨_, Heap.get?_push_size _ rfl, rfl, rfl⟩ q)
    · exact wpAny_pyIter_ascii ha (pi_one (tk := s1.toks) I1 _ (turn_str _ z t "str_ascii_iterator" (.inl rfl)) ⟨_, Heap.get?_push_size _ rfl, rfl, rfl⟩ q)
  · obtain ⟨a, vs, rfl, h2, h3⟩ := hr1
    cases (show v = Value.ref a from r1)
    obtain ⟨its, rv, p, hz⟩ := I1.list (xs := vs) (.inl (.inl (hs1.fz _ _ h2)))
    refine wpAny_pyIter_list p.isList ?_
    refine ⟨s1.heap.objs.size, [s1.heap.objs.size], _, _, H1, rfl, I1.kept (t' := s1.toks) fun b o e => Heap.get?_push_of_some _ e, turn_list a _, ⟨_, Heap.get?_push_size _ rfl, rfl, rfl⟩, fun b hb => ?_, PostR.val (rep := repI X.K T) h1 hs1 (steps_list h2 h3)⟩
    have e : b = s1.heap.objs.size := by simpa using hb
    subst e
    exact I1.fpOk (Nat.le_refl _) (I1.hok.fresh (Nat.le_refl _))
  · obtain ⟨a, vs, rfl, h2, h3⟩ := hr1
    exact tupC rfl (.inl (.inl h2)) h3 h1
  · obtain ⟨a, vs, rfl, h2, h4, h3⟩ := hr1
    exact tupC rfl h2 h3 h1
  · obtain ⟨a, vs, o, rfl, h2, h4, h5, h3⟩ := hr1
    exact tupC rfl (.inl (.inr ⟨o, h2⟩)) h3 h1
theorem R.bind_ok {α β : Type} (a : α) (S : Store) (f : α → Store → R β) : (R.ok a S).bind f = f a S := rfl
theorem pi_rng1 {a : Expr} {p pos : Pos} {fa : Env → Store → R D} (hg : Gl X "range") (hm : X.mg "range" = none) (ha : PE X a (tI X T W fa)) (hn : notStar a = true) : PI X tg (.Call (.Name "range" p) [a] [] pos) (tIt X T W fun env S => (fa env S).bind fun x S1 => match x with
    | .int j => if -(2 ^ 62) ≤ j ∧ j < 2 ^ 62 then .ok (rangeD 0 j.toNat) S1 else .bad
    | _ => .bad) := by
  refine ⟨fun pins s σ H Q I ⟨env, S, m, hs, hen, hp⟩ => ?_⟩
  dsimp only at hp
  refine (pi_range1 hg hm (PEs.args (.cons ha hn .nil)) (by rw [star_cons hn]; rfl)).run pins s σ H Q I ⟨env, S, m, hs, hen, ?_⟩
  show PostR X.K T (Reps X.K T) W m σ _ ((fa env S).bind fun x S1 => .ok [x] S1)
  cases q : fa env S with
  | bad => rw [q] at hp; exact hp.elim
  | er x S' => rw [q] at hp; exact hp
  | ok d S' =>
    rw [q] at hp
    intro vs H' m' l hs' hr
    rw [R.bind_ok] at hp
    cases d <;> first | exact hp.elim | skip
    rename_i j
    obtain ⟨v, _, rfl, h1, rfl⟩ := hr
    cases h1
    dsimp only at hp
    split at hp
    · rename_i hj
      exact ⟨j, rfl, hj.1, hj.2, PostR.valLe (rep := repI X.K T) hp l hs' steps_range⟩
    · exact hp.elim
theorem pi_rng2 {a b : Expr} {p pos : Pos} {fa fb : Env → Store → R D} (hg : Gl X "range") (hm : X.mg "range" = none) (ha : PE X a (tI X T W fa)) (hn : notStar a = true) (hb : PE X b (tI X T W fb)) (hnb : notStar b = true) : PI X tg (.Call (.Name "range" p) [a, b] [] pos) (tIt X T W fun env S => (fa env S).bind fun x S1 => (fb env S1).bind fun y S2 => match x, y with
    | .int i, .int j => if -(2 ^ 62) ≤ i ∧ i < 2 ^ 62 ∧ -(2 ^ 62) ≤ j ∧ j < 2 ^ 62 then .ok (rangeD i (j - i).toNat) S2 else .bad
    | _, _ => .bad) := by
  refine ⟨fun pins s σ H Q I ⟨env, S, m, hs, hen, hp⟩ => ?_⟩
  dsimp only at hp
  refine (pi_range2 hg hm (PEs.args (.cons ha hn (.cons hb hnb .nil))) (by rw [star_cons hn, star_cons hnb]; rfl) (by rw [star_cons hnb]; rfl)).run pins s σ H Q I ⟨env, S, m, hs, hen, ?_⟩
  show PostR X.K T (Reps X.K T) W m σ _ ((fa env S).bind fun x S1 => ((fb env S1).bind fun y S2 => .ok [y] S2).bind fun xs S2 => .ok (x :: xs) S2)
  cases q : fa env S with
  | bad => rw [q] at hp; exact hp.elim
  | er x S' => rw [q] at hp; exact hp
  | ok d S' =>
    rw [q] at hp
    rw [R.bind_ok] at hp
    show PostR X.K T (Reps X.K T) W m σ _ (((fb env S').bind fun y S2 => .ok [y] S2).bind fun xs S2 => .ok (d :: xs) S2)
    cases q2 : fb env S' with
    | bad => rw [q2] at hp; exact hp.elim
    | er x S2 => rw [q2] at hp; exact hp
    | ok e S2 =>
      rw [q2] at hp
      intro vs H' m' l hs' hr
      rw [R.bind_ok] at hp
      cases d <;> first | exact hp.elim | skip
      cases e <;> first | exact hp.elim | skip
      obtain ⟨v, _, rfl, h1, w, _, rfl, h2, rfl⟩ := hr
      cases h1; cases h2
      dsimp only at hp
      split at hp
      · rename_i hj
        exact ⟨_, _, rfl, hj, PostR.valLe (rep := repI X.K T) hp l hs' steps_range⟩
      · exact hp.elim
theorem frzL_rep {m : Mem} {d : D} {v : V} {xs : List D} (hr : Rep X.K T m d v) (h : frzL d = some xs) : ∃ a vs, v = .ref a ∧ m.fz a = some (.lst vs) ∧ Reps X.K T m xs vs := by
  cases d <;> first | (cases h; done) | skip
  cases h
  exact hr
theorem pi_enu {e : Expr} {p pos tpos : Pos} {elts : List Expr} {kk : Nat} {fe : Env → Store → R D} (hg : Gl X "enumerate") (hm : X.mg "enumerate" = none) (he : PE X e (tI X T W fe)) (hn : notStar e = true) : PI X (.Tuple elts kk tpos) (.Call (.Name "enumerate" p) [e] [] pos) (tIt X T W fun env S => (fe env S).bind fun x S1 => match frzL x with
    | some xs => .ok (enumD 0 xs) S1
    | none => .bad) := by
  refine ⟨fun pins s σ H Q I ⟨env, S, m, hs, hen, hp⟩ => ?_⟩
  dsimp only at hp
  refine (pi_enum hg hm (PEs.args (.cons he hn .nil)) (by rw [star_cons hn]; rfl)).run pins s σ H Q I ⟨env, S, m, hs, hen, ?_⟩
  show PostR X.K T (Reps X.K T) W m σ _ ((fe env S).bind fun x S1 => .ok [x] S1)
  cases q : fe env S with
  | bad => rw [q] at hp; exact hp.elim
  | er x S' => rw [q] at hp; exact hp
  | ok d S' =>
    rw [q] at hp
    intro vs H' m' l hs' hr
    rw [R.bind_ok] at hp
    obtain ⟨v, _, rfl, h1, rfl⟩ := hr
    split at hp
    · rename_i xs hx
      obtain ⟨a, ws, rfl, h2, h3⟩ := frzL_rep h1 hx
      exact ⟨a, ws, rfl, .inl (.inl (hs'.fz _ _ h2)), PostR.valLe (rep := repI X.K T) hp l hs' (steps_enum h2 h3)⟩
    · exact hp.elim
theorem pi_zp {a b : Expr} {p pos tpos : Pos} {elts : List Expr} {kk : Nat} {fa fb : Env → Store → R D} (hg : Gl X "zip") (hm : X.mg "zip" = none) (ha : PE X a (tI X T W fa)) (hn : notStar a = true) (hb : PE X b (tI X T W fb)) (hnb : notStar b = true) : PI X (.Tuple elts kk tpos) (.Call (.Name "zip" p) [a, b] [] pos) (tIt X T W fun env S => (fa env S).bind fun x S1 => (fb env S1).bind fun y S2 => match frzL x, frzL y with
    | some xs, some ys => .ok (zipD xs ys) S2
    | _, _ => .bad) := by
  refine ⟨fun pins s σ H Q I ⟨env, S, m, hs, hen, hp⟩ => ?_⟩
  dsimp only at hp
  have hst := star_cons (es := [b]) (env := X.env) hn
  refine (pi_zip hg hm (PEs.args (.cons ha hn (.cons hb hnb .nil))) hst (by rw [star_cons hnb]; rfl)).run pins s σ H Q I ⟨env, S, m, hs, hen, ?_⟩
  show PostR X.K T (Reps X.K T) W m σ _ ((fa env S).bind fun x S1 => ((fb env S1).bind fun y S2 => .ok [y] S2).bind fun xs S2 => .ok (x :: xs) S2)
  cases q : fa env S with
  | bad => rw [q] at hp; exact hp.elim
  | er x S' => rw [q] at hp; exact hp
  | ok d S' =>
    rw [q] at hp
    rw [R.bind_ok] at hp
    show PostR X.K T (Reps X.K T) W m σ _ (((fb env S').bind fun y S2 => .ok [y] S2).bind fun xs S2 => .ok (d :: xs) S2)
    cases q2 : fb env S' with
    | bad => rw [q2] at hp; exact hp.elim
    | er x S2 => rw [q2] at hp; exact hp
    | ok e S2 =>
      rw [q2] at hp
      intro vs H' m' l hs' hr
      rw [R.bind_ok] at hp
      obtain ⟨v, _, rfl, h1, w, _, rfl, h2, rfl⟩ := hr
      split at hp
      · rename_i xs ys hx hy
        obtain ⟨a', ws, rfl, h3, h4⟩ := frzL_rep h1 hx
        obtain ⟨b', us, rfl, h5, h6⟩ := frzL_rep h2 hy
        exact ⟨a', b', ws, us, rfl, .inl (.inl (hs'.fz _ _ h3)), .inl (.inl (hs'.fz _ _ h5)), PostR.valLe (rep := repI X.K T) hp l hs' (steps_zip h3 h4 h5 h6)⟩
      · exact hp.elim
end
end HI
set_option Elab.async false
set_option linter.all false
set_option maxRecDepth 100000
/-! HiComp: targets, list comprehensions. -/
namespace HI
open PySem PySem.Spec PyProof.Rows L2

mutual
def tgIn : Tg → List Nat → Bool
  | .name i, vs => vs.contains i
  | .tup ts, vs => tgsIn ts vs
  | _, _ => false
def tgsIn : Tgs → List Nat → Bool
  | .nil, _ => true
  | .cons t ts, vs => tgIn t vs && tgsIn ts vs
end
theorem wipe_set {σ : L2.St} {i : Nat} {x : Option V} : ∀ {vs : List Nat}, i ∈ vs → L2.wipe (σ.set i x) vs = L2.wipe σ vs
  | [], h => by cases h
  | v :: vs, h => by
    show (L2.wipe (σ.set i x) vs).set v none = (L2.wipe σ vs).set v none
    by_cases hv : i ∈ vs
    · rw [wipe_set hv]
    · have e : i = v := by
        rcases List.mem_cons.mp h with z | z
        · exact z
        · exact absurd z hv
      subst e
      have key : ∀ {ws : List Nat}, i ∉ ws → ∀ τ : L2.St, L2.wipe (τ.set i x) ws = (L2.wipe τ ws).set i x := by
        intro ws
        induction ws with
        | nil => intro _ τ; rfl
        | cons w ws ih =>
          intro hw τ
          simp only [List.mem_cons, not_or] at hw
          show (L2.wipe (τ.set i x) ws).set w none = ((L2.wipe τ ws).set w none).set i x
          rw [ih hw.2, List.set_comm _ _ hw.1]
      rw [key hv, List.set_set]

section
variable {X : Cx} {T : Tab} {W : WX} {P : Prog}
def tG (P : Prog) (X : Cx) (T : Tab) (tg : Tg) : TG := fun v σ H Q => ∃ d env S m p, SRc X.K T m S H ∧ EnvOk X.K T X.pn m env σ ∧ Rep X.K T m d v ∧ bindT P tg d env S = some p ∧
  ∀ σ' H', SRc X.K T m p.2 H' → EnvOk X.K T X.pn m p.1 σ' → (∀ vs, tgIn tg vs = true → L2.wipe σ' vs = L2.wipe σ vs) → Q σ' H'
def tGs (P : Prog) (X : Cx) (T : Tab) (ts : Tgs) : TGs := fun vs σ H Q => ∃ ds env S m p, SRc X.K T m S H ∧ EnvOk X.K T X.pn m env σ ∧ Reps X.K T m ds vs ∧ bindTs P ts ds env S = some p ∧
  ∀ σ' H', SRc X.K T m p.2 H' → EnvOk X.K T X.pn m p.1 σ' → (∀ us, tgsIn ts us = true → L2.wipe σ' us = L2.wipe σ us) → Q σ' H'
theorem PG.of {tg : Expr} {t t' : TG} (h : PG X tg t) (i : ∀ v σ H Q, t' v σ H Q → t v σ H Q) : PG X tg t' := ⟨fun pins s σ H v u Q I r q => h.run pins s σ H v u Q I r (i v σ H Q q)⟩
theorem g_name {i : Nat} {x : Str} {pos : Pos} (hN : X.N.Nodup) (hi : X.N[i]? = some x) (hx : Loc X.env.scope x) (hf : X.fn x = true ∨ X.env.scope.names.lookup x = some .local) : PG X (.Name x pos) (tG P X T (.name i)) :=
  PG.of (pg_name hN hi hx hf) fun v σ H Q ⟨d, env, S, m, p, hs, hen, hr, hb, k⟩ => by
    cases hb
    exact k _ _ hs (hen.set i (SlotOk.of hr)) fun vs z => wipe_set (by simpa [tgIn] using z)
theorem gs_nil : PGs X [] (tGs P X T .nil) := ⟨fun pins s σ H vs us Q I r ⟨ds, env, S, m, p, hs, hen, hr, hb, k⟩ => by
  cases ds with
  | cons _ _ => cases hb
  | nil =>
    cases hr
    cases hb
    exact (pgs_nil).run pins s σ H [] us Q I r ⟨rfl, k _ _ hs hen fun _ _ => rfl⟩⟩
theorem gs_cons {e : Expr} {es : List Expr} {t : Tg} {ts : Tgs} (h1 : PG X e (tG P X T t)) (h2 : PGs X es (tGs P X T ts)) (hn : notStar e = true) : PGs X (e :: es) (tGs P X T (.cons t ts)) := by
  have hs' : (assignEach (e :: es) X.env).map (·.2) = assign e X.env :: (assignEach es X.env).map (·.2) := by cases e <;> first | rfl | (cases hn; done)
  refine ⟨fun pins s σ H vs us Q I r ⟨ds, env, S, m, p, hs, hen, hr, hb, k⟩ => ?_⟩
  cases ds with
  | nil => cases hb
  | cons d ds =>
    obtain ⟨v, ws, rfl, r1, r2⟩ := hr
    have hb : (match bindT P t d env S with
      | some p => bindTs P ts ds p.1 p.2
      | none => none) = some p := hb
    split at hb
    · rename_i p1 hb1
      refine (pgs_cons h1 h2 hs').run pins s σ H _ us Q I r ⟨v, ws, rfl, d, env, S, m, p1, hs, hen, r1, hb1, fun σ1 H1 hs1 hen1 k1 => ?_⟩
      exact ⟨ds, p1.1, p1.2, m, p, hs1, hen1, r2, hb, fun σ2 H2 hs2 hen2 k2 => k σ2 H2 hs2 hen2 fun us z => by
        have z : (tgIn t us && tgsIn ts us) = true := z
        rw [Bool.and_eq_true] at z
        rw [k2 us z.2, k1 us z.1]⟩
    · cases hb
def Tgs.len : Tgs → Nat
  | .nil => 0
  | .cons _ ts => ts.len + 1
theorem bindTs_len : ∀ {ts : Tgs} {ds : List D} {env : Env} {S : Store} {p : Env × Store}, bindTs P ts ds env S = some p → ds.length = ts.len
  | .nil, [], _, _, _, _ => rfl
  | .nil, _ :: _, _, _, _, h => by cases h
  | .cons _ _, [], _, _, _, h => by cases h
  | .cons t ts, d :: ds, env, S, p, h => by
    have h : (match bindT P t d env S with
      | some p => bindTs P ts ds p.1 p.2
      | none => none) = some p := h
    split at h
    · show ds.length + 1 = ts.len + 1
      rw [bindTs_len h]
    · cases h
theorem g_tup {es : List Expr} {kk : Nat} {pos : Pos} {ts : Tgs} (hc : X.calm = true) (h : PGs X es (tGs P X T ts)) (hn : (assignEach es X.env).length = ts.len) (hst : (assignEach es X.env).findIdx? (·.1) = none) : PG X (.Tuple es kk pos) (tG P X T (.tup ts)) := by
  refine ⟨fun pins s σ H v u Q I r ⟨d, env, S, m, p, hs, hen, hr, hb, k⟩ => ?_⟩
  have hb : (match seqOf S d with
    | some xs => bindTs P ts xs env S
    | none => none) = some p := hb
  cases q : seqOf S d with
  | none => rw [q] at hb; cases hb
  | some xs =>
    rw [q] at hb
    obtain ⟨a, vs, rfl, h2, h3⟩ := seqOf_rep hs hr q
    rcases h2 with h2 | h2
    · exact (pg_lst hc h hn hst).run pins s σ H _ u Q I r ⟨a, vs, rfl, h2, by rw [← h3.length]; exact bindTs_len hb, _, env, S, m, p, hs, hen, h3, hb, k⟩
    · exact (pg_tup hc h hn hst).run pins s σ H _ u Q I r ⟨a, vs, rfl, h2, by rw [← h3.length]; exact bindTs_len hb, _, env, S, m, p, hs, hen, h3, hb, k⟩

/-! ### the clause's tests -/
def tTs (X : Cx) (T : Tab) (W : WX) (f : Env → Store → R Bool) : TT := fun σ H Q => ∃ env S m, SRc X.K T m S H ∧ EnvOk X.K T X.pn m env σ ∧ PostR X.K T (fun _ d b => d = b) W m σ Q (f env S)
theorem ts_nil : PTs X [] (tTs X T W fun _ S => .ok true S) := ⟨fun pins s σ H Q I ⟨env, S, m, hs, hen, hp⟩ => pts_nil.run pins s σ H Q I (PostR.val (rep := fun _ d b => d = b) (b := true) hp hs rfl)⟩
theorem ts_one {c : Expr} {f : Env → Store → R D} (h : PT X c (tT X T W f)) : PTs X [c] (tTs X T W fun env S => (f env S).bind fun x S1 => match x with
    | .bl true => .ok true S1
    | .bl false => .ok false S1
    | _ => .bad) := by
  refine ⟨fun pins s σ H Q I ⟨env, S, m, hs, hen, hp⟩ => ?_⟩
  refine (pts_one h).run pins s σ H Q I ⟨env, S, m, hs, hen, ?_⟩
  refine PostR.imp (fun b H' z => ?_) (PostR.bind (rep' := repB) hp)
  obtain ⟨d, S', m', l, hs', hr, q⟩ := z
  cases (show d = .bl b from hr)
  cases b with
  | true => exact PostR.val (rep := fun _ d b => d = b) (b := true) q hs' rfl
  | false => exact PostR.val (rep := fun _ d b => d = b) (b := false) q hs' rfl

/-! ### the list that grows -/
theorem SRc.unhold {K : PySem.W.Frag} {m : Mem} {S : Store} {H : Hp} {a : Addr} {o : HO} (h : SRc K T (m.hold a o) S H) (hr : m.fr a = none) : SRc K T m S H := by
  refine ⟨h.fz, fun b u e => ?_, h.lo, h.dom, fun r c e hd => ?_, h.inj⟩
  · exact h.fr b u (show upd m.fr a o b = some u by rw [upd_ne (fun z => by rw [z, hr] at e; cases e)]; exact e)
  · obtain ⟨b, u, h1, h2, h3, h4, h5⟩ := h.cell r c e hd
    have h3 : upd m.fr a o b = none := h3
    have hne : b ≠ a := fun z => by rw [z, upd_same] at h3; cases h3
    rw [upd_ne hne] at h3
    exact ⟨b, u, h1, h2, h3, h4, CellOk.monoF (m := m.hold a o) (n := m) ⟨Same.refl m.fz, fun _ _ q => q⟩ h5⟩
/-- the answer of a part while a thing is held -/
theorem PostR.bindH {K : PySem.W.Frag} {α β γ δ : Type} {rep : Mem → α → β → Prop} {rep' : Mem → γ → δ → Prop} {σ : L2.St} {Q : β → Hp → Prop} {m : Mem} {a : Addr} {o : HO} (hr : m.fr a = none) (hrep : ∀ n fr c d, rep' n c d → rep' { n with fr := fr } c d) {f : γ → Store → R α} :
    ∀ {r : R γ}, PostR K T rep W m σ Q (r.bind f) →
      PostR K T rep' W (m.hold a o) σ (fun d H' => ∃ c S n, Le m n ∧ SRc K T (n.hold a o) S H' ∧ (m.fz a = none → n.fz a = none) ∧ n.fr a = none ∧ rep' n c d ∧ PostR K T rep W n σ Q (f c S)) r
  | .ok c S, h => fun d H' n l hs hd => by
    obtain ⟨l', e⟩ := Le.ofHold l hr
    have hz : m.fz a = none → n.fz a = none := fun hf => Le.fzHold l hf
    exact ⟨c, S, n.free m, l', by rw [e] at hs; exact hs, hz, hr, hrep _ _ _ _ hd, PostR.mono l' h⟩
  | .er x S, h => fun cls dx H' n l hs hx => by
    obtain ⟨l', e⟩ := Le.ofHold l hr
    obtain ⟨h1, d, vs, h2, h3, h4, h5, h6⟩ := hx
    exact h cls dx H' (n.free m) l' (SRc.unhold (by rw [e] at hs; exact hs) hr) ⟨h1, d, vs, h2, h3, h4, Reps.monoF (m := n) (n := n.free m) ⟨Same.refl n.fz, fun _ _ q => q⟩ _ _ h5, h6⟩
  | .bad, h => h
theorem repFr {K : PySem.W.Frag} (n : Mem) (fr : Hp) (c : D) (d : V) (h : Rep K T n c d) : Rep K T { n with fr := fr } c d := Rep.monoF (m := n) (n := { n with fr := fr }) ⟨Same.refl n.fz, fun _ _ q => q⟩ _ _ h
theorem repBFr (n : Mem) (fr : Hp) (c : D) (d : Bool) (h : repB n c d) : repB { n with fr := fr } c d := h
theorem PostR.calm {K : PySem.W.Frag} {α β : Type} {rep : Mem → α → β → Prop} {m : Mem} {σ : L2.St} {Q : β → Hp → Prop} : ∀ {r : R α}, PostR K T rep W m σ Q (calmR r) → PostR K T rep (fun _ _ _ _ => False) m σ Q r
  | .ok _ _, h => h
  | .er _ _, h => h.elim
  | .bad, h => h

/-! ### [elt for target in iter if ..] -/
def fBind (P : Prog) (tg : Tg) (own : List Nat) (ft : Env → Store → R Bool) (fe : Env → Store → R D) (env : Env) : D → Store → R (Option D) := fun x S2 => match bindT P tg x (HI.wipe (noXc env) own) S2 with
  | some p => (ft p.1 p.2).bind fun b S3 => if b then (fe p.1 S3).bind fun y S4 => .ok (some y) S4 else .ok none S3
  | none => .bad
theorem wipe_get (σ : L2.St) (j : Nat) : ∀ vs : List Nat, (L2.wipe σ vs)[j]? = if j ∈ vs then (σ[j]?).map (fun _ => none) else σ[j]?
  | [] => by simp [L2.wipe]
  | v :: vs => by
    show ((L2.wipe σ vs).set v none)[j]? = _
    rw [List.getElem?_set]
    have ih := wipe_get σ j vs
    by_cases hv : v = j
    · subst hv
      rw [if_pos rfl, if_pos List.mem_cons_self, L2.wipe_length]
      by_cases hl : v < σ.length
      · rw [if_pos hl, List.getElem?_eq_getElem hl]; rfl
      · rw [if_neg hl, List.getElem?_eq_none (by omega)]; rfl
    · rw [if_neg hv, ih]
      by_cases hj : j ∈ vs
      · rw [if_pos hj, if_pos (List.mem_cons_of_mem _ hj)]
      · rw [if_neg hj, if_neg (by simp only [List.mem_cons, not_or]; exact ⟨fun z => hv z.symm, hj⟩)]
theorem wipe_idem (σ : L2.St) (vs : List Nat) : L2.wipe (L2.wipe σ vs) vs = L2.wipe σ vs := by
  apply List.ext_getElem?
  intro j
  rw [wipe_get, wipe_get]
  by_cases hj : j ∈ vs
  · rw [if_pos hj, if_pos hj, Option.map_map]; rfl
  · rw [if_neg hj, if_neg hj]
theorem PostR.sig {K : PySem.W.Frag} {α β : Type} {rep : Mem → α → β → Prop} {m : Mem} {σ σ' : L2.St} {Q : β → Hp → Prop} : ∀ {r : R α}, PostR K T rep (fun _ _ _ _ => False) m σ Q r → PostR K T rep (fun _ _ _ _ => False) m σ' Q r
  | .ok _ _, h => h
  | .er _ _, h => h
  | .bad, h => h
/-- the loop within: a list that grows at A -/
structure Grow (K : PySem.W.Frag) (T : Tab) (σ : L2.St) (A : Addr) (m1 : Mem) (Q : Hp → Prop) (r : List D → Store → R D) (QV : VK) (H : Hp) : Prop where
  ex : ∃ m S acc vs, Le m1 m ∧ SRc K T (m.hold A (.lst vs)) S H ∧ m.fz A = none ∧ m.fr A = none ∧ Reps K T m acc vs ∧ PostR K T (Rep K T) (fun _ _ _ _ => False) m σ QV (r acc S)
theorem lc_pre {own : List (Str × Nat)} {tgt : Tg} {fi : Env → Store → R (List D)} {ft : Env → Store → R Bool} {fe : Env → Store → R D} (hin : tgIn tgt (own.map (·.2)) = true) {σ : L2.St} {H : Hp} {Q : VK} {env : Env} {S : Store} {m : Mem} (hsr : SRc X.K T m S H) (hen : EnvOk X.K T X.pn m env σ)
    (hp : PostR X.K T (Rep X.K T) W m σ Q ((fi env S).bind fun xs S1 => calmR ((walkC (fBind P tgt (own.map (·.2)) ft fe env) xs [] S1).bind fun ys S5 => .ok (.lst ys) S5))) :
    tLc (tIt X T W fi) (tG P { X with pn := [] } T tgt) (tTs { X with pn := [] } T (fun _ _ _ _ => False) ft) (tI { X with pn := [] } T (fun _ _ _ _ => False) fe) (own.map (·.2)) σ H Q := by
  refine ⟨env, S, m, hsr, hen, PostR.imp (fun J H1 z => ?_) (PostR.bind (rep' := repI X.K T) hp)⟩
  obtain ⟨xs, S1, m1, l1, hs1, hJ, h1⟩ := z
  have h1 := PostR.calm h1
  intro A hA
  refine ⟨fun i n H => n = xs.length - i ∧ i ≤ xs.length ∧ Grow X.K T σ A m1 (fun _ => True) (fun acc S => (walkC (fBind P tgt (own.map (·.2)) ft fe env) (xs.drop i) acc S).bind fun ys S5 => .ok (.lst ys) S5) Q H,
    ⟨xs.length, rfl, Nat.zero_le _, ⟨m1, S1, [], [], Le.refl _, hs1.hold hA, hs1.fzNone hA, hs1.frNone hA, Reps.nil, h1⟩⟩, ?_⟩
  rintro i n H2 ⟨hn, hi', ⟨mm, SS, acc, vs, lm, hs2, hfz, hfr, hacc, h2⟩⟩
  have lF : LeF m1 (mm.hold A (.lst vs)) := ⟨lm.fz, lm.rho⟩
  have hstep := hJ (mm.hold A (.lst vs)) SS H2 lF hs2
  by_cases he' : i = xs.length
  · left
    subst he'
    refine ⟨hstep.2, ?_⟩
    rw [List.drop_length] at h2
    obtain ⟨h3, l3⟩ := hs2.holdFin hfz hfr
    exact PostR.valLe (rep := Rep X.K T) h2 l3 h3 (rep_new_lst (Reps.mono l3 _ _ hacc))
  · right
    have hlt : i < xs.length := by omega
    have hx : xs[i]? = some xs[i] := List.getElem?_eq_getElem hlt
    have hd : xs.drop i = xs[i] :: xs.drop (i + 1) := List.drop_eq_getElem_cons hlt
    rw [hd] at h2
    obtain ⟨hgo, hy⟩ := hstep.1 i _ hx
    refine ⟨hgo, Grow X.K T σ A m1 (fun _ => True) (fun acc S => (walkC (fBind P tgt (own.map (·.2)) ft fe env) (xs.drop (i + 1)) acc S).bind fun ys S5 => .ok (.lst ys) S5) Q, fun H' nx => ⟨xs.length - (i + 1), by omega, rfl, by omega, nx⟩, fun xv H' yl => ?_⟩
    obtain ⟨m', l', hs', hr'⟩ := hy xv H' yl
    obtain ⟨ln, en⟩ := Le.ofHold l' hfr
    have hzn := Le.fzHold l' hfz
    have h2 : PostR X.K T (Rep X.K T) (fun _ _ _ _ => False) mm σ Q (((fBind P tgt (own.map (·.2)) ft fe env xs[i] SS).bind fun o S1 => match o with
      | some y => if acc.length < sizeLine then walkC (fBind P tgt (own.map (·.2)) ft fe env) (xs.drop (i + 1)) (acc ++ [y]) S1 else .bad
      | none => walkC (fBind P tgt (own.map (·.2)) ft fe env) (xs.drop (i + 1)) acc S1).bind fun ys S5 => .ok (.lst ys) S5) := h2
    rw [R.bind_assoc] at h2
    rw [show fBind P tgt (own.map (·.2)) ft fe env xs[i] SS = (match bindT P tgt xs[i] (HI.wipe (noXc env) (own.map (·.2))) SS with
      | some p => (ft p.1 p.2).bind fun b S3 => if b then (fe p.1 S3).bind fun y S4 => .ok (some y) S4 else .ok none S3
      | none => .bad) from rfl] at h2
    split at h2
    · rename_i p hb
      have h3 := PostR.mono ln h2
      rw [R.bind_assoc] at h3
      have ln1 : Le m1 (m'.free mm) := lm.trans ln
      refine ⟨xs[i], HI.wipe (noXc env) (own.map (·.2)), SS, m', p, hs', ?_, hr', hb, fun σ2 H3 hs3 hen3 hw => ⟨by rw [hw _ hin, wipe_idem], ?_⟩⟩
      · refine EnvOk.wipe (EnvOk.noXc (EnvOk.monoF ?_ hen)) _
        exact l1.toF.trans (lF.trans l'.toF)
      refine ⟨p.1, p.2, m', hs3, hen3, ?_⟩
      rw [en]
      refine PostR.imp (fun b H4 z => ?_) (PostR.sig (σ := σ) (PostR.bindH (m := m'.free mm) (rep' := fun _ d b => d = b) (a := A) (o := .lst vs) hfr (fun _ _ _ _ q => q) h3))
      obtain ⟨c, S4, n4, l4, hs4, hz4, hf4, ec, h4⟩ := z
      subst ec
      have hz4 := hz4 hzn
      have ln4 : Le m1 n4 := ln1.trans l4
      cases c with
      | false =>
        rw [if_neg (by decide)]
        exact ⟨n4, S4, acc, vs, ln4, hs4, hz4, hf4, Reps.mono (ln.trans l4) _ _ hacc, h4⟩
      | true =>
        rw [if_pos rfl]
        refine ⟨p.1, S4, n4.hold A (.lst vs), hs4, EnvOk.monoF (m := m') ?_ hen3, ?_⟩
        · exact ⟨l4.fz, l4.rho⟩
        have h4 : PostR X.K T (Rep X.K T) (fun _ _ _ _ => False) n4 σ Q ((((fe p.1 S4).bind fun y S4 => .ok (some y) S4).bind fun o S1 => (match o with
          | some y => if acc.length < sizeLine then walkC (fBind P tgt (own.map fun q : Str × Nat => q.2) ft fe env) (xs.drop (i + 1)) (acc ++ [y]) S1 else .bad
          | none => walkC (fBind P tgt (own.map fun q : Str × Nat => q.2) ft fe env) (xs.drop (i + 1)) acc S1).bind fun ys S5 => .ok (.lst ys) S5)) := h4
        rw [R.bind_assoc] at h4
        refine PostR.imp (fun y H5 z => ?_) (PostR.sig (σ := σ) (PostR.bindH (rep' := Rep X.K T) (a := A) (o := .lst vs) hf4 (fun n fr c d q => repFr n fr c d q) h4))
        obtain ⟨yd, S5, n5, l5, hs5, hz5, hf5, hr5, h5⟩ := z
        have hz5 := hz5 hz4
        have h5 : PostR X.K T (Rep X.K T) (fun _ _ _ _ => False) n5 σ Q ((if acc.length < sizeLine then walkC (fBind P tgt (own.map fun q : Str × Nat => q.2) ft fe env) (xs.drop (i + 1)) (acc ++ [yd]) S5 else .bad).bind fun ys S5 => .ok (.lst ys) S5) := h5
        by_cases hl : acc.length < sizeLine
        · rw [if_pos hl] at h5
          have hac5 := Reps.mono ((ln.trans l4).trans l5) _ _ hacc
          refine ⟨vs, hs5.holdAt, by rw [← hacc.length]; exact hl, ⟨n5, S5, acc ++ [yd], vs ++ [y], ln4.trans l5, hs5.holdPut hz5, hz5, hf5, hac5.append (.cons hr5 Reps.nil), h5⟩⟩
        · rw [if_neg hl] at h5
          exact h5.elim
    · exact h2.elim
theorem ok_lc {elt tg iter : Expr} {ifs : List Expr} {scope : Scope} {own : List (Str × Nat)} {pos : Pos} {tgt : Tg} {fi : Env → Store → R (List D)} {ft : Env → Store → R Bool} {fe : Env → Store → R D}
    (hc : X.calm = true) (hN : X.N.Nodup) (hi : PI X tg iter (tIt X T W fi)) (ok : BlkOk X.N X.env.scope scope own)
    (hg : ∀ (s : Shared) (H : Hp) (C : Addr) (cl : List (Str × Addr)) (fp : List Addr), PG (X.blk s H scope (compEnvC scope cl C X.env) fp) tg (tG P (X.blk s H scope (compEnvC scope cl C X.env) fp) T tgt))
    (ht : ∀ (s : Shared) (H : Hp) (C : Addr) (cl : List (Str × Addr)) (fp : List Addr), PTs (X.blk s H scope (compEnvC scope cl C X.env) fp) ifs (tTs (X.blk s H scope (compEnvC scope cl C X.env) fp) T (fun _ _ _ _ => False) ft))
    (he : ∀ (s : Shared) (H : Hp) (C : Addr) (cl : List (Str × Addr)) (fp : List Addr), PE (X.blk s H scope (compEnvC scope cl C X.env) fp) elt (tI (X.blk s H scope (compEnvC scope cl C X.env) fp) T (fun _ _ _ _ => False) fe))
    (hs : ∀ x, foldedSetIterable iter X.env x = pure x) (hin : tgIn tgt (own.map (·.2)) = true) :
    PE X (.ListComp elt [⟨tg, iter, ifs, 0⟩] scope pos) (tI X T W fun env S => (fi env S).bind fun xs S1 => calmR ((walkC (fBind P tgt (own.map (·.2)) ft fe env) xs [] S1).bind fun ys S5 => .ok (.lst ys) S5)) := by
  exact PE.of (pe_lc (g := tG P { X with pn := [] } T tgt) (tt := tTs { X with pn := [] } T (fun _ _ _ _ => False) ft) (te := tI { X with pn := [] } T (fun _ _ _ _ => False) fe) (wi := tIt X T W fi) hc hN hi ok hg ht he hs) fun σ H Q ⟨env, S, m, hsr, hen, hp⟩ => lc_pre hin hsr hen hp
end
end HI
set_option Elab.async false
set_option linter.all false
set_option maxRecDepth 100000
/-! HiStmt: statements. -/
namespace HI
open PySem PySem.Spec PyProof.Rows L2

section
variable (K : PySem.W.Frag) (T : Tab) (W : WX) (pn : List (Addr × Obj)) (D : Ends) (m : Mem)
/-- what is wanted behind a statement -/
def PostS : RS → Prop
  | .nx env S => ∀ σ' H' m', Le m m' → SRc K T m' S H' → EnvOk K T pn m' env σ' → D.nx σ' H'
  | .bk env S => ∀ σ' H' m', Le m m' → SRc K T m' S H' → EnvOk K T pn m' env σ' → D.bk σ' H'
  | .ct env S => ∀ σ' H' m', Le m m' → SRc K T m' S H' → EnvOk K T pn m' env σ' → D.ct σ' H'
  | .rt d S => ∀ v H' m', Le m m' → SRc K T m' S H' → Rep K T m' d v → D.rt v H'
  | .er x env S => ∀ cls dx σ' H' m', Le m m' → SRc K T m' S H' → EnvOk K T pn m' env σ' → XRep K T m' x cls dx → W cls dx σ' H'
  | .bad => False
end
section
variable {K : PySem.W.Frag} {T : Tab} {W W' : WX} {pn pn' : List (Addr × Obj)} {D : Ends} {m m' : Mem} {σ : L2.St}
theorem PostS.mono (l : Le m m') : ∀ {r : RS}, PostS K T W pn D m r → PostS K T W pn D m' r
  | .nx _ _, h => fun σ H n k => h σ H n (l.trans k)
  | .bk _ _, h => fun σ H n k => h σ H n (l.trans k)
  | .ct _ _, h => fun σ H n k => h σ H n (l.trans k)
  | .rt _ _, h => fun σ H n k => h σ H n (l.trans k)
  | .er _ _ _, h => fun c d σ H n k => h c d σ H n (l.trans k)
  | .bad, h => h
theorem PostS.thn {α β : Type} {rep : Mem → α → β → Prop} {env : Env} {f : α → Store → RS} (hen : EnvOk K T pn m env σ) : ∀ {r : R α}, PostS K T W pn D m (r.thn env f) →
    PostR K T rep W m σ (fun b H' => ∃ a S m', Le m m' ∧ SRc K T m' S H' ∧ rep m' a b ∧ EnvOk K T pn m' env σ ∧ PostS K T W pn D m' (f a S)) r
  | .ok a S, h => fun b H' n k hs hr => ⟨a, S, n, k, hs, hr, hen.mono k, PostS.mono k h⟩
  | .er x S, h => fun c d H' n k hs hx => h c d σ H' n k hs (hen.mono k) hx
  | .bad, h => h
end
section
variable {X : Cx} {T : Tab} {W : WX} {P : Prog}
def tS (X : Cx) (T : Tab) (W : WX) (f : Env → Store → RS) : TS := fun D σ H => ∃ env S m, SRc X.K T m S H ∧ EnvOk X.K T X.pn m env σ ∧ PostS X.K T W X.pn D m (f env S)
theorem PS.of {st : Stmt} {t t' : TS} (h : PS X st t) (i : ∀ D σ H, t' D σ H → t D σ H) : PS X st t' := ⟨fun pins s σ H D I q => h.run pins s σ H D I (i D σ H q)⟩
theorem PSs.of {st : List Stmt} {t t' : TS} (h : PSs X st t) (i : ∀ D σ H, t' D σ H → t D σ H) : PSs X st t' := ⟨fun pins s σ H D I q => h.run pins s σ H D I (i D σ H q)⟩
theorem s_nil : PSs X [] (tS X T W fun env S => .nx env S) := PSs.of pss_nil fun D σ H ⟨env, S, m, hs, hen, h⟩ => h σ H m (Le.refl m) hs hen
theorem s_cons {st : Stmt} {rest : List Stmt} {f g : Env → Store → RS} (h1 : PS X st (tS X T W f)) (h2 : PSs X rest (tS X T W g)) : PSs X (st :: rest) (tS X T W fun env S => match f env S with
    | .nx env' S' => g env' S'
    | r => r) := by
  refine PSs.of (pss_cons h1 h2) fun D σ H ⟨env, S, m, hs, hen, h⟩ => ⟨env, S, m, hs, hen, ?_⟩
  dsimp only at h
  cases q : f env S with
  | nx env' S' =>
    rw [q] at h
    exact fun σ' H' m' l hs' hen' => ⟨env', S', m', hs', hen', PostS.mono l h⟩
  | bk env' S' => rw [q] at h; exact h
  | ct env' S' => rw [q] at h; exact h
  | rt d S' => rw [q] at h; exact h
  | er x env' S' => rw [q] at h; exact h
  | bad => rw [q] at h; exact h
/-- nothing in the program -/
theorem s_still {rest : List Stmt} {i : Nat} {g : Env → Store → RS} (h : PSs X rest (tS X T W g)) : PSs X rest (tS X T W fun env S => match (match env[i]? with
    | some (some d) => (frzCell S d).thn env fun x S1 => .nx (env.set i (some x)) S1
    | _ => .bad : RS) with
    | .nx env' S' => g env' S'
    | r => r) := by
  refine PSs.of h fun De σ H ⟨env, S, m, hs, hen, hp⟩ => ?_
  dsimp only at hp
  cases q : env[i]? with
  | none => rw [q] at hp; exact hp.elim
  | some o =>
    cases o with
    | none => rw [q] at hp; exact hp.elim
    | some d =>
      rw [q] at hp
      dsimp only at hp
      obtain ⟨v, h1, h2⟩ := hen.at_ i d q
      have same : ∀ S', frzCell S d = .ok d S' → S' = S → tS X T W g De σ H := fun S' e e2 => by
        rw [e] at hp
        subst e2
        refine ⟨env.set i (some d), _, m, hs, ?_, hp⟩
        have e3 : env.set i (some d) = env := by
          apply List.ext_getElem?
          intro j
          rw [List.getElem?_set]
          split
          · rename_i e4
            subst e4
            rw [q]
            split
            · rfl
            · rename_i z
              rw [List.getElem?_eq_none (by omega)] at q; cases q
          · rfl
        rw [e3]; exact hen
      cases d with
      | ref r =>
        obtain ⟨a, rfl, h3⟩ := h2
        have hset : ∀ {m' : Mem} {d' : D}, Le m m' → Rep X.K T m' d' (.ref a) → EnvOk X.K T X.pn m' (env.set i (some d')) σ := fun {m' d'} l hr => by
          have e3 : σ.set i (some (.ref a)) = σ := by
            apply List.ext_getElem?
            intro j
            rw [List.getElem?_set]
            split
            · rename_i e4
              subst e4
              rw [h1]
              split
              · rfl
              · rename_i z
                rw [List.getElem?_eq_none (by omega)] at h1; cases h1
            · rfl
          have := (hen.mono l).set i (SlotOk.of (pn := X.pn) hr)
          rwa [e3] at this
        simp only [frzCell] at hp
        cases hg : S.get r with
        | none => rw [hg] at hp; exact hp.elim
        | some c =>
          rw [hg] at hp
          cases c with
          | dead => exact hp.elim
          | lst xs =>
            obtain ⟨a', o, k1, k4, k5, l, hc, hf⟩ := hs.frz hg (fun z => by cases z)
            rw [h3] at k1; cases k1
            obtain ⟨vs, rfl, k⟩ := hc
            exact ⟨_, _, _, k5, hset (d' := D.lst xs) l ⟨a, vs, rfl, hf, k⟩, PostS.mono l hp⟩
          | dK ks ds =>
            obtain ⟨a', o, k1, k4, k5, l, hc, hf⟩ := hs.frz hg (fun z => by cases z)
            rw [h3] at k1; cases k1
            obtain ⟨vs, rfl, k6, k⟩ := hc
            exact ⟨_, _, _, k5, hset (d' := D.dK ks ds) l ⟨a, vs, rfl, hf, k6, k⟩, PostS.mono l hp⟩
          | dT ks ds =>
            obtain ⟨a', o, k1, k4, k5, l, hc, hf⟩ := hs.frz hg (fun z => by cases z)
            rw [h3] at k1; cases k1
            obtain ⟨vs, rfl, k6, k⟩ := hc
            exact ⟨_, _, _, k5, hset (d' := D.dT ks ds) l ⟨a, vs, rfl, hf, k6, k⟩, PostS.mono l hp⟩
          | ins c ns fs =>
            obtain ⟨a', o, k1, k4, k5, l, hc, hf⟩ := hs.frz hg (fun z => by cases z)
            rw [h3] at k1; cases k1
            obtain ⟨dx, vs, rfl, k6, k7, k⟩ := hc
            exact ⟨_, _, _, k5, hset (d' := D.ins c ns fs) l ⟨a, dx, vs, rfl, hf, k6, k7, k⟩, PostS.mono l hp⟩
      | _ => exact same S rfl rfl
def noComp : Expr → Bool
  | .ListComp _ _ _ _ => false
  | .SetComp _ _ _ _ => false
  | .DictComp _ _ _ _ _ => false
  | _ => true
theorem swaps_no {e : Expr} (h : noComp e = true) (t : Option Expr) (l : Nat) (env : PySem.Env) : swapsWith e t l env = pure false := by
  cases e <;> first | rfl | (cases h; done)
theorem s_expr {e : Expr} {pos : Pos} {fe : Env → Store → R D} (he : PE X e (tI X T W fe)) (hn : noComp e = true) : PS X (.Expr e pos) (tS X T W fun env S => (fe env S).thn env fun _ S1 => .nx env S1) :=
  PS.of (ps_expr he (swaps_no hn _ _ _)) fun D σ H ⟨env, S, m, hs, hen, h⟩ => ⟨env, S, m, hs, hen, PostR.imp (fun v H' ⟨d, S1, m1, l, hs1, hr, hen1, q⟩ => q σ H' m1 (Le.refl m1) hs1 hen1) (PostS.thn (rep := Rep X.K T) hen h)⟩
theorem s_asg {tg e : Expr} {tgt : Tg} {pos : Pos} {fe : Env → Store → R D} (he : PE X e (tI X T W fe)) (hg : PG X tg (tG P X T tgt)) (hs : swapsWithSole [tg] e pos.line X.env = pure false) (hw : swappedStores [tg] e X.env = pure none) (hn : notStar tg = true) :
    PS X (.Assign [tg] e pos) (tS X T W fun env S => (fe env S).thn env fun x S1 => match bindT P tgt x env S1 with
      | some p => .nx p.1 p.2
      | none => .bad) := by
  have h1 : (assignEach [tg] X.env).map (·.2) = [assign tg X.env] := by cases tg <;> first | rfl | (cases hn; done)
  refine PS.of (ps_asg he hg hs hw h1) fun D σ H ⟨env, S, m, hs, hen, h⟩ => ⟨env, S, m, hs, hen, PostR.imp (fun v H' z => ?_) (PostS.thn (rep := Rep X.K T) hen h)⟩
  obtain ⟨d, S1, m1, l, hs1, hr, hen1, q⟩ := z
  split at q
  · rename_i p hb
    exact ⟨d, env, S1, m1, p, hs1, hen1, hr, hb, fun σ' H2 hs2 hen2 _ => q σ' H2 m1 (Le.refl m1) hs2 hen2⟩
  · exact q.elim
theorem s_if {c : Expr} {a b : List Stmt} {pos : Pos} {fc : Env → Store → R D} {fa fb : Env → Store → RS} (hc : PT X c (tT X T W fc)) (ha : PSs X a (tS X T W fa)) (hb : PSs X b (tS X T W fb)) : PS X (.If c a b pos) (tS X T W fun env S => (fc env S).thn env fun x S1 => match x with
    | .bl true => fa env S1
    | .bl false => fb env S1
    | _ => .bad) := by
  refine PS.of (ps_if hc ha hb) fun D σ H ⟨env, S, m, hs, hen, h⟩ => ⟨env, S, m, hs, hen, PostR.imp (fun v H' z => ?_) (PostS.thn (rep := repB) hen h)⟩
  obtain ⟨d, S1, m1, l, hs1, hr, hen1, q⟩ := z
  cases (show d = .bl v from hr)
  cases v with
  | true => exact ⟨env, S1, m1, hs1, hen1, q⟩
  | false => exact ⟨env, S1, m1, hs1, hen1, q⟩
theorem s_ret {e : Expr} {pos : Pos} {fe : Env → Store → R D} (he : PE X e (tI X T W fe)) : PS X (.Return (some e) pos) (tS X T W fun env S => (fe env S).thn env fun x S1 => .rt x S1) :=
  PS.of (ps_ret he) fun D σ H ⟨env, S, m, hs, hen, h⟩ => ⟨env, S, m, hs, hen, PostR.imp (fun v H' ⟨d, S1, m1, l, hs1, hr, hen1, q⟩ => q v H' m1 (Le.refl m1) hs1 hr) (PostS.thn (rep := Rep X.K T) hen h)⟩
theorem s_retN {pos : Pos} : PS X (.Return none pos) (tS X T W fun env S => .rt .non S) :=
  PS.of ps_retN fun D σ H ⟨env, S, m, hs, hen, h⟩ => h .non H m (Le.refl m) hs rfl
theorem s_pass {pos : Pos} : PS X (.Pass pos) (tS X T W fun env S => .nx env S) := PS.of ps_pass fun D σ H ⟨env, S, m, hs, hen, h⟩ => h σ H m (Le.refl m) hs hen
theorem s_brk {pos : Pos} : PS X (.Break pos) (tS X T W fun env S => .bk env S) := PS.of ps_break fun D σ H ⟨env, S, m, hs, hen, h⟩ => h σ H m (Le.refl m) hs hen
theorem s_cont {pos : Pos} : PS X (.Continue pos) (tS X T W fun env S => .ct env S) := PS.of ps_continue fun D σ H ⟨env, S, m, hs, hen, h⟩ => h σ H m (Le.refl m) hs hen
/-- a, b = x, y -/
theorem s_par {i j : Nat} {x y : Str} {a b : Expr} {fa fb : Env → Store → R D} {px py pt pos : Pos} {kt k2 pt2} (hc : X.calm = true) (hN : X.N.Nodup) (hi : X.N[i]? = some x) (hj : X.N[j]? = some y) (hij : i ≠ j)
    (hx : X.env.scope.names.lookup x = some .local) (hy : X.env.scope.names.lookup y = some .local) (ha : PE X a (tI X T W fa)) (hna : notStar a = true) (hb : PE X b (tI X T W fb)) (hnb : notStar b = true)
    (hw : swappedStores [.Tuple [.Name x px, .Name y py] kt pt] (.Tuple [a, b] k2 pt2) X.env = pure (some [x, y])) :
    PS X (.Assign [.Tuple [.Name x px, .Name y py] kt pt] (.Tuple [a, b] k2 pt2) pos) (tS X T W fun env S => (fa env S).thn env fun u S1 => (fb env S1).thn env fun v S2 => .nx ((env.set i (some u)).set j (some v)) S2) := by
  refine PS.of (ps_par hc hN hi hj hij hx hy (PEs.args (.cons ha hna (.cons hb hnb .nil))) hw rfl) fun D σ H ⟨env, S, m, hs, hen, h⟩ => ⟨env, S, m, hs, hen, ?_⟩
  show PostR X.K T (Reps X.K T) W m σ _ ((fa env S).bind fun x S1 => ((fb env S1).bind fun y S2 => .ok [y] S2).bind fun xs S2 => .ok (x :: xs) S2)
  dsimp only at h
  cases q : fa env S with
  | bad => rw [q] at h; exact h.elim
  | er x S' => rw [q] at h; exact fun c d H' n k hs hx => h c d σ H' n k hs (hen.mono k) hx
  | ok d S' =>
    rw [q] at h
    have h : PostS X.K T W X.pn D m ((fb env S').thn env fun v S2 => .nx ((env.set i (some d)).set j (some v)) S2) := h
    show PostR X.K T (Reps X.K T) W m σ _ (((fb env S').bind fun y S2 => .ok [y] S2).bind fun xs S2 => .ok (d :: xs) S2)
    cases q2 : fb env S' with
    | bad => rw [q2] at h; exact h.elim
    | er x S2 => rw [q2] at h; exact fun c d H' n k hs hx => h c d σ H' n k hs (hen.mono k) hx
    | ok e S2 =>
      rw [q2] at h
      intro vs H' m' l hs' hr
      obtain ⟨v, _, rfl, h1, w, _, rfl, h2, rfl⟩ := hr
      exact ⟨v, w, rfl, h _ H' m' l hs' (((hen.mono l).set i (SlotOk.of h1)).set j (SlotOk.of h2))⟩
/-- a loop -/
theorem s_for {tg iter : Expr} {tgt : Tg} {body : List Stmt} {pos : Pos} {fi : Env → Store → R (List D)} {fb : Env → Store → RS} (hp : PassesOwn (model X.prog X.w) X.A X.env X.xe) (hc : X.calm = true) (hi : PI X tg iter (tIt X T W fi)) (hg : PG X tg (tG P X T tgt)) (hb : PSs X body (tS X T W fb))
    (hs : ∀ x, foldedSetIterable iter X.env x = pure x) :
    PS X (.For tg iter body [] pos) (tS X T W fun env S => (fi env S).thn env fun xs S1 => forGo (fun x env' S' => match bindT P tgt x env' S' with
      | some p => fb p.1 p.2
      | none => .bad) xs env S1) := by
  refine PS.of (ps_for hp hc hi hg hb hs) fun D σ H ⟨env, S, m, hsr, hen, h⟩ => ⟨env, S, m, hsr, hen, PostR.imp (fun J H' z => ?_) (PostS.thn (rep := repI X.K T) hen h)⟩
  obtain ⟨xs, S1, m1, l1, hs1, hJ, hen1, h1⟩ := z
  refine ⟨fun i n σ H => n = xs.length - i ∧ i ≤ xs.length ∧ ∃ env mm SS, Le m1 mm ∧ SRc X.K T mm SS H ∧ EnvOk X.K T X.pn mm env σ ∧ PostS X.K T W X.pn D mm (forGo (fun x env' S' => match bindT P tgt x env' S' with
      | some p => fb p.1 p.2
      | none => .bad) (xs.drop i) env SS), ⟨xs.length, rfl, Nat.zero_le _, env, m1, S1, Le.refl _, hs1, hen1, h1⟩, ?_⟩
  rintro i n σ2 H2 ⟨hn, hi', env2, mm, SS, lm, hs2, hen2, h2⟩
  have hstep := hJ mm SS H2 lm.toF hs2
  by_cases he' : i = xs.length
  · left
    subst he'
    rw [List.drop_length] at h2
    exact ⟨hstep.2, h2 σ2 H2 mm (Le.refl mm) hs2 hen2⟩
  · right
    have hlt : i < xs.length := by omega
    have hx : xs[i]? = some xs[i] := List.getElem?_eq_getElem hlt
    have hd : xs.drop i = xs[i] :: xs.drop (i + 1) := List.drop_eq_getElem_cons hlt
    rw [hd] at h2
    obtain ⟨hgo, hy⟩ := hstep.1 i _ hx
    refine ⟨hgo, fun σ' H' => ∃ env mm SS, Le m1 mm ∧ SRc X.K T mm SS H' ∧ EnvOk X.K T X.pn mm env σ' ∧ PostS X.K T W X.pn D mm (forGo (fun x env' S' => match bindT P tgt x env' S' with
      | some p => fb p.1 p.2
      | none => .bad) (xs.drop (i + 1)) env SS), fun σ' H' nx => ⟨xs.length - (i + 1), by omega, rfl, by omega, nx⟩, fun xv H' yl => ?_⟩
    obtain ⟨m', l', hs', hr'⟩ := hy xv H' yl
    have h3 := PostS.mono l' h2
    unfold forGo at h3
    cases hbd : bindT P tgt xs[i] env2 SS with
    | none => rw [hbd] at h3; exact h3.elim
    | some p =>
      rw [hbd] at h3
      dsimp only at h3
      refine ⟨xs[i], env2, SS, m', p, hs', hen2.mono l', hr', hbd, fun σ3 H3 hs3 hen3 _ => ⟨p.1, p.2, m', hs3, hen3, ?_⟩⟩
      cases q : fb p.1 p.2 with
      | nx env' S' => rw [q] at h3; exact fun σ4 H4 m4 l4 hs4 hen4 => ⟨env', m4, S', (lm.trans l').trans l4, hs4, hen4, PostS.mono l4 h3⟩
      | ct env' S' => rw [q] at h3; exact fun σ4 H4 m4 l4 hs4 hen4 => ⟨env', m4, S', (lm.trans l').trans l4, hs4, hen4, PostS.mono l4 h3⟩
      | bk env' S' => rw [q] at h3; exact h3
      | rt d S' => rw [q] at h3; exact h3
      | er x env' S' => rw [q] at h3; exact h3
      | bad => rw [q] at h3; exact h3
end
end HI
set_option Elab.async false
set_option linter.all false
set_option maxRecDepth 100000
/-! HiStmt2: items, fields, a list comprehension's name, try. -/
namespace HI
open PySem PySem.Spec PyProof.Rows L2

section
variable {X : Cx} {T : Tab} {W : WX} {P : Prog}
/-! ### o[i] = v -/
theorem putK_zip {κ : Type} [DecidableEq κ] {k : κ} {v : V} : ∀ {ks : List κ} {vs : List V}, ks.length = vs.length → putK (ks.zip vs) k v = (putKd k v ks vs).1.zip (putKd k v ks vs).2 := by
  intro ks vs hl
  have any_eq : ((ks.zip vs).any fun kv => decide (kv.1 = k)) = decide (k ∈ ks) := by
    induction ks generalizing vs with
    | nil => simp
    | cons c ks ih =>
      cases vs with
      | nil => simp at hl
      | cons w vs =>
        have := ih (vs := vs) (by simpa using hl)
        rw [List.zip_cons_cons, List.any_cons, this]
        by_cases h : c = k
        · subst h; simp
        · have h' : ¬ k = c := fun z => h z.symm
          simp [h, h']
  unfold putK putKd
  rw [any_eq]
  by_cases hk : k ∈ ks
  · rw [if_pos (by simpa using hk), if_pos hk]
    dsimp only
    clear any_eq hk
    induction ks generalizing vs with
    | nil => rfl
    | cons c ks ih =>
      cases vs with
      | nil => simp at hl
      | cons w vs =>
        have := ih (vs := vs) (by simpa using hl)
        rw [List.zip_cons_cons, List.map_cons, this, List.zipWith_cons_cons, List.zip_cons_cons]
        by_cases h : c = k
        · rw [if_pos h, if_pos h]
        · rw [if_neg h, if_neg h]
  · rw [if_neg (by simpa using hk), if_neg hk]
    dsimp only
    rw [List.zip_append hl]; rfl
theorem putKd_len {κ α : Type} [DecidableEq κ] {k : κ} {v : α} {ks : List κ} {vs : List α} (h : ks.length = vs.length) : (putKd k v ks vs).1.length = (putKd k v ks vs).2.length := by
  unfold putKd
  split
  · simp; omega
  · simp [h]
theorem putKd_fst {κ α β : Type} [DecidableEq κ] {k : κ} {v : α} {w : β} {ks : List κ} {vs : List α} {ws : List β} : (putKd k v ks vs).1 = (putKd k w ks ws).1 := by
  unfold putKd
  split <;> rfl
theorem putKd_rep {κ : Type} [DecidableEq κ] {m : Mem} {k : κ} {d : D} {v : V} (hd : Rep X.K T m d v) : ∀ {ks : List κ} {ds : List D} {vs : List V}, Reps X.K T m ds vs → Reps X.K T m (putKd k d ks ds).2 (putKd k v ks vs).2 := by
  intro ks ds vs h
  unfold putKd
  split
  · dsimp only
    rename_i hk
    clear hk
    induction ks generalizing ds vs with
    | nil => exact Reps.nil
    | cons c ks ih =>
      cases ds with
      | nil => cases h; exact Reps.nil
      | cons e ds =>
        obtain ⟨w, ws, rfl, h1, h2⟩ := h
        rw [List.zipWith_cons_cons, List.zipWith_cons_cons]
        refine .cons ?_ (ih h2)
        split
        · exact hd
        · exact h1
  · exact h.append (.cons hd Reps.nil)
def rSetA : TSet := fun o i v H Q => rSetL o i v H Q ∨ rSetD o i v H Q
theorem set_any (hu : X.A.units + 1 < cLine) : PSet X rSetA := by
  intro pins s σ H o i v ov iv u Q I ro ri rv h
  rcases h with h | h
  · exact set_list pins s σ H o i v ov iv u Q I ro ri rv h
  · exact set_dict hu pins s σ H o i v ov iv u Q I ro ri rv h
theorem setItem_rep {m : Mem} {S S' : Store} {H : Hp} {σ : L2.St} {o i d : D} {x y v : V} {Q : Hp → Prop} (hs : SRc X.K T m S H) (ho : Rep X.K T m o x) (hi : Rep X.K T m i y) (hd : Rep X.K T m d v) (h : setItem S o i d = some S') (q : ∀ H', SRc X.K T m S' H' → Q H') : rSetA x y v H Q := by
  cases o <;> first | (cases h; done) | skip
  rename_i r
  obtain ⟨a, rfl, h2⟩ := ho
  simp only [setItem] at h
  cases hg : S.get r with
  | none => rw [hg] at h; cases h
  | some c =>
    rw [hg] at h
    obtain hd' | hd' : c = .dead ∨ c ≠ .dead := by
      cases c <;> first | exact .inl rfl | exact .inr (fun z => by cases z)
    · subst hd'; cases h
    obtain ⟨a', o, k1, k2, k3, k4, k5⟩ := hs.cell r c hg hd'
    rw [h2] at k1; cases k1
    cases c with
    | dead => exact absurd rfl hd'
    | ins _ _ _ => cases h
    | lst xs =>
      obtain ⟨vs, rfl, k6⟩ := k5
      cases i <;> first | (cases h; done) | skip
      rename_i k
      cases hi
      dsimp only at h
      split at h
      · rename_i j hj
        cases h
        rw [k6.length] at hj
        exact .inl ⟨a, vs, k, j, rfl, rfl, k4, hj, q _ (hs.put hg hd' h2 ⟨_, rfl, k6.set hd j⟩)⟩
      · cases h
    | dK ks ds =>
      obtain ⟨vs, rfl, k7, k6⟩ := k5
      dsimp only at h
      split at h
      · rename_i k hk
        split at h
        · rename_i hl
          cases h
          have e1 := keyOf_rep hi hk
          subst e1
          refine .inr ⟨a, _, rfl, DPut.k k4 (by rw [List.length_zip, ← k7]; simpa using hl), q _ ?_⟩
          rw [putK_zip k7]
          refine hs.put hg hd' h2 ⟨(putKd k v ks vs).2, ?_, ?_, putKd_rep hd k6⟩
          · rw [putKd_fst (w := d) (ws := ds)]
          · rw [putKd_fst (w := v) (ws := vs)]; exact putKd_len k7
        · cases h
      · cases h
    | dT ks ds =>
      obtain ⟨vs, rfl, k7, k6⟩ := k5
      dsimp only at h
      split at h
      · rename_i k0
        split at h
        · rename_i k hk
          split at h
          · rename_i hl
            cases h
            obtain ⟨b, us, rfl, b1, b2⟩ := hi
            have e1 := keysOf_rep b2 hk
            subst e1
            refine .inr ⟨a, _, rfl, DPut.t k4 (hs.fz _ _ b1) (by rw [List.length_zip, ← k7]; simpa using hl), q _ ?_⟩
            rw [putK_zip k7]
            refine hs.put hg hd' h2 ⟨(putKd k v ks vs).2, ?_, ?_, putKd_rep hd k6⟩
            · rw [putKd_fst (w := d) (ws := ds)]
            · rw [putKd_fst (w := v) (ws := vs)]; exact putKd_len k7
          · cases h
        · cases h
      · cases h
theorem s_seti {o i e : Expr} {pos pos' : Pos} {fo fi fe : Env → Store → R D} (hu : X.A.units + 200 < cLine) (he : PE X e (tI X T W fe)) (ho : PE X o (tI X T W fo)) (hi : PE X i (tI X T W fi)) (hn : noComp e = true)
    (hw : swappedStores [.Subscript o i pos'] e X.env = pure none) (hns : noSlice i = true) :
    PS X (.Assign [.Subscript o i pos'] e pos) (tS X T W fun env S => (fe env S).thn env fun y S1 => (fo env S1).thn env fun x S2 => (fi env S2).thn env fun k S3 => match setItem S3 x k y with
      | some S4 => .nx env S4
      | none => .bad) := by
  refine PS.of (ps_asg he (pg_sub ho hi (set_any (by omega)) (fun v => by cases i <;> first | rfl | (cases hns; done))) (show swapsWithSole [.Subscript o i pos'] e pos.line X.env = pure false from swaps_no hn (some (.Subscript o i pos')) pos.line X.env) hw rfl) fun De σ H ⟨env, S, m, hs, hen, h⟩ => ⟨env, S, m, hs, hen, PostR.imp (fun v H' z => ?_) (PostS.thn (rep := Rep X.K T) hen h)⟩
  obtain ⟨d, S1, m1, l1, hs1, hr1, hen1, q1⟩ := z
  refine ⟨env, S1, m1, hs1, hen1, PostR.imp (fun x H2 z => ?_) (PostS.thn (rep := Rep X.K T) hen1 q1)⟩
  obtain ⟨dx, S2, m2, l2, hs2, hr2, hen2, q2⟩ := z
  refine ⟨env, S2, m2, hs2, hen2, PostR.imp (fun y H3 z => ?_) (PostS.thn (rep := Rep X.K T) hen2 q2)⟩
  obtain ⟨dk, S3, m3, l3, hs3, hr3, hen3, q3⟩ := z
  cases hst : setItem S3 dx dk d with
  | none => rw [hst] at q3; exact q3.elim
  | some S4 =>
    rw [hst] at q3
    exact setItem_rep (σ := σ) hs3 (Rep.mono l3 _ _ hr2) hr3 (Rep.mono (l2.trans l3) _ _ hr1) hst fun H4 hs4 => q3 σ H4 m3 (Le.refl m3) hs4 hen3

/-! ### name = [..] -/
theorem s_setLc {i : Nat} {y : Str} {py : Pos} {elt tg iter : Expr} {ifs : List Expr} {scope : Scope} {own : List (Str × Nat)} {pos spos : Pos} {tgt : Tg} {fi : Env → Store → R (List D)} {ft : Env → Store → R Bool} {fe : Env → Store → R D}
    (hc : X.calm = true) (hN : X.N.Nodup) (hy : X.N[i]? = some y) (hyl : X.env.scope.names.lookup y = some .local)
    (hsw : swapsWith (.ListComp elt [⟨tg, iter, ifs, 0⟩] scope pos) (some (.Name y py)) spos.line X.env = pure true) (hi : PI X tg iter (tIt X T W fi)) (ok : BlkOk X.N X.env.scope scope own)
    (hg : ∀ (s : Shared) (H : Hp) (C : Addr) (cl : List (Str × Addr)) (fp : List Addr), PG (X.blk s H scope (compEnvC scope cl C X.env) fp) tg (tG P (X.blk s H scope (compEnvC scope cl C X.env) fp) T tgt))
    (ht : ∀ (s : Shared) (H : Hp) (C : Addr) (cl : List (Str × Addr)) (fp : List Addr), PTs (X.blk s H scope (compEnvC scope cl C X.env) fp) ifs (tTs (X.blk s H scope (compEnvC scope cl C X.env) fp) T (fun _ _ _ _ => False) ft))
    (he : ∀ (s : Shared) (H : Hp) (C : Addr) (cl : List (Str × Addr)) (fp : List Addr), PE (X.blk s H scope (compEnvC scope cl C X.env) fp) elt (tI (X.blk s H scope (compEnvC scope cl C X.env) fp) T (fun _ _ _ _ => False) fe))
    (hs : ∀ x, foldedSetIterable iter X.env x = pure x) (hin : tgIn tgt (own.map (·.2)) = true) :
    PS X (.Assign [.Name y py] (.ListComp elt [⟨tg, iter, ifs, 0⟩] scope pos) spos) (tS X T W fun env S => ((fi env S).bind fun xs S1 => calmR ((walkC (fBind P tgt (own.map (·.2)) ft fe env) xs [] S1).bind fun ys S5 => .ok (.lst ys) S5)).thn env fun x S1 => match bindT P (.name i) x env S1 with
      | some p => .nx p.1 p.2
      | none => .bad) := by
  refine PS.of (ps_setLc (g := tG P { X with pn := [] } T tgt) (tt := tTs { X with pn := [] } T (fun _ _ _ _ => False) ft) (te := tI { X with pn := [] } T (fun _ _ _ _ => False) fe) (wi := tIt X T W fi) hc hN hy hyl hsw hi ok hg ht he hs) fun De σ H ⟨env, S, m, hsr, hen, h⟩ => ?_
  refine lc_pre hin hsr hen (PostR.imp (fun v H' z => ?_) (PostS.thn (rep := Rep X.K T) hen h))
  obtain ⟨d, S1, m1, l1, hs1, hr1, hen1, q1⟩ := z
  exact q1 _ H' m1 (Le.refl m1) hs1 (hen1.set i (SlotOk.of hr1))

/-! ### a caught exception's field -/
theorem ok_efld {i : Nat} {x f : Str} {p pos : Pos} (hN : X.N[i]? = some x) (hv : visB X.env.scope x = true) (hd : (x == ("__debug__" : Str)) = false) (hcd : (x == ("__classdict__" : Str)) = false) :
    PE X (.Attribute (.Name x p) f pos) (tI X T W fun env S => match env[i]? with
      | some (some (.xc _ ns fs)) => match lookF f ns fs with
        | some d => .ok d S
        | none => .bad
      | _ => .bad) := by
  refine ⟨fun pins s σ H Q I ⟨env, S, m, hs, hen, hp⟩ => ?_⟩
  dsimp only at hp
  split at hp
  · rename_i c ns fs e
    split at hp
    · rename_i d hl
      obtain ⟨v, h1, a, oe, dx, vs, rfl, h3, h4, h5, ⟨us, h6⟩, h7, h8, h9, h10⟩ := hen.at_ i _ e
      refine attr_of rfl (thn ((pe_var hN (visB_ok hv) hd hcd).run pins s σ H (fun v H1 => v = .ref a ∧ H1 = H) I ⟨.ref a, h1, rfl, rfl⟩) fun u s1 ⟨w, H1, I1, rx, ew, eH⟩ => ?_)
      subst ew eH
      obtain rfl : u = Value.ref a := rx
      obtain ⟨ha, _⟩ := I1.pin (a, oe) (List.mem_append_left _ h3)
      have hx : ObjOk X.prog X.w H1 s1.heap dx (.xd (ns.zip vs)) := I1.hok dx _ (hs.fz _ _ h7)
      obtain ⟨mA, hns, hr⟩ := hx
      obtain ⟨od, ho, hlk⟩ := lookIn_ns hns
      obtain ⟨w, l1, l2⟩ := lookF_rep h9 hl
      obtain ⟨u, hu, ru⟩ := RelO.some_of (v := w) (o := mA f) (by rw [← l1]; exact hr f)
      have J : PySem.W.InstAt s1.heap a oe (T.exA c) (some od) := ⟨ha, h4, by unfold PySem.W.notCls; rw [h6] <;> rfl, by rw [h5]; exact ho⟩
      exact HandSPX.exc_get I1.kIn J h10.1.ga h10.1.gg h10.1.exC (PySem.W.findObj_own h10.1.hdC (h10.2 f (lookF_mem hl)) rfl (by rw [hlk, hu])) (handed_of ru) ⟨w, H1, I1.tok _, ru, hp.val hs l2⟩
    · exact hp.elim
  · exact hp.elim

/-! ### try -/
def ExMatch (K : PySem.W.Frag) (T : Tab) (P : Prog) (c : Nat) : Prop := ∀ j, j < P.exc.length → PySem.W.exmOne K (.ref (T.exA j)) (.ref (T.exA c)) = some (isSub P j [c])
theorem s_try {i c : Nat} {x n : Str} {b₀ : Stmt} {body suite : List Stmt} {np pos pos' : Pos} {fb fh : Env → Store → RS}
    (hs : X.stack = X.env :: X.outer) (hf : X.env.frame = some X.env.locals) (hN : X.N.Nodup) (hi : X.N[i]? = some n) (hln : X.env.kindOf n = some .local) (hx : Names X x (.ref (T.exA c))) (hm : ExMatch X.K T P c) (tk : Takes X W)
    (hb : ∀ (W : WX) (pn : List (Addr × Obj)) (xe : Value → Shared → Prop), Takes (X.tr pn xe) W → PassesOwn (model X.prog X.w) X.A X.env xe → PSs (X.tr pn xe) body (tS (X.tr pn xe) T W fb))
    (hh : ∀ (a : Addr) (oe : Obj) (pn : List (Addr × Obj)), PSs (X.suite a ((a, oe) :: pn)) (b₀ :: suite) (tS (X.suite a ((a, oe) :: pn)) T (fun _ _ _ _ => False) fh)) :
    PS X (.Try body [.ExceptHandler (some (.Name x np)) (some n) (b₀ :: suite) pos'] [] [] pos) (tS X T W fun env S => match fb (noXc env) S with
      | .er x env' S' => if P.exc.length ≤ x.c then .bad else if isSub P x.c [c] then
          match fh ((noXc env').set i (some (.xc x.c x.ns x.fs))) S' with
          | .nx env2 S2 => .nx ((noXc env2).set i none) S2
          | .bk env2 S2 => .bk ((noXc env2).set i none) S2
          | .ct env2 S2 => .ct ((noXc env2).set i none) S2
          | .er _ _ _ => .bad
          | r => r
        else .er x (noXc env') S'
      | .nx env' S' => .nx (noXc env') S'
      | .bk env' S' => .bk (noXc env') S'
      | .ct env' S' => .ct (noXc env') S'
      | r => r) := by
  refine PS.of (ps_try_as (Wout := W) (c := .ref (T.exA c)) (tb := fun W' D σ H => ∀ pn xe, tS (X.tr pn xe) T W' fb D σ H)
    (ts := fun a cls d D σ H => ∀ oe pn, Zc cls d oe → (∃ vs, oe.data = .fields vs) → tS (X.suite a ((a, oe) :: pn)) T (fun _ _ _ _ => False) fh D σ H)
    hs hf hN hi hln hx tk (fun W' pn xe tk' hp => PSs.of (hb W' pn xe tk' hp) fun D σ H q => q pn xe)
    (fun a oe cls d pn hz hfl => PSs.of (hh a oe pn) fun D σ H q => q oe pn hz hfl)) fun De σ H ⟨env, S, m, hsr, hen, h⟩ pn xe => ?_
  refine ⟨noXc env, S, m, hsr, hen.noXc, ?_⟩
  dsimp only at h
  cases q : fb (noXc env) S with
  | nx env' S' => rw [q] at h; exact fun σ' H' m' l hs' hen' => h σ' H' m' l hs' hen'.noXc
  | bk env' S' => rw [q] at h; exact fun σ' H' m' l hs' hen' => h σ' H' m' l hs' hen'.noXc
  | ct env' S' => rw [q] at h; exact fun σ' H' m' l hs' hen' => h σ' H' m' l hs' hen'.noXc
  | rt d S' => rw [q] at h; exact h
  | bad => rw [q] at h; exact h
  | er x env' S' =>
    rw [q] at h
    dsimp only at h
    intro cls dx σ' H' m' l hs' hen' hxr
    obtain ⟨hc1, d, vs, rfl, h3, h4, h5, h6⟩ := hxr
    by_cases hlen : P.exc.length ≤ x.c
    · rw [if_pos hlen] at h; exact h.elim
    rw [if_neg hlen] at h
    refine ⟨isSub P x.c [c], by rw [hc1]; exact hm x.c (by omega), fun e a hna => ?_, fun e => ?_⟩
    · intro oe pn' hz hfl
      rw [if_pos e] at h
      refine ⟨(noXc env').set i (some (.xc x.c x.ns x.fs)), S', m', hs', ?_, ?_⟩
      · exact EnvOk.set (EnvOk.noXc hen') i ⟨a, oe, d, vs, rfl, List.mem_cons_self, by rw [hz.1, hc1], hz.2, hfl, h3, h4, h5, h6⟩
      · have h := PostS.mono l h
        cases q2 : fh ((noXc env').set i (some (.xc x.c x.ns x.fs))) S' with
        | nx env2 S2 => rw [q2] at h; exact fun σ2 H2 m2 l2 hs2 hen2 => h _ H2 m2 l2 hs2 (EnvOk.setNone hen2.noXc i)
        | bk env2 S2 => rw [q2] at h; exact fun σ2 H2 m2 l2 hs2 hen2 => h _ H2 m2 l2 hs2 (EnvOk.setNone hen2.noXc i)
        | ct env2 S2 => rw [q2] at h; exact fun σ2 H2 m2 l2 hs2 hen2 => h _ H2 m2 l2 hs2 (EnvOk.setNone hen2.noXc i)
        | rt d S2 => rw [q2] at h; exact h
        | er x2 env2 S2 => rw [q2] at h; exact h.elim
        | bad => rw [q2] at h; exact h.elim
    · rw [if_neg (by rw [e]; decide)] at h
      exact h cls (some d) σ' H' m' l hs' hen'.noXc ⟨hc1, d, vs, rfl, h3, h4, h5, h6⟩
end
end HI
set_option Elab.async false
set_option linter.all false
set_option maxRecDepth 100000
set_option maxHeartbeats 4000000
/-! HiExc: own exceptions whose __init__ says Base.__init__(self, ..) and stores. -/
namespace HI
open PySem PySem.Spec PyProof.Rows L2

/-! ### a class's line of ancestors: own ones, then a built-in's -/
def tailB (tl : List Value) : List Value → Bool
  | .ref _ :: r => tailB tl r
  | l => l == tl
theorem tailB_cases {tl : List Value} : ∀ l : List Value, tailB tl l = true → (∃ c r, l = .ref c :: r ∧ tailB tl r = true) ∨ l = tl
  | [], e => .inr (beq_iff_eq.mp e)
  | .ref c :: r, e => .inl ⟨c, r, rfl, e⟩
  | .none :: _, e => .inr (beq_iff_eq.mp e)
  | .ellipsis :: _, e => .inr (beq_iff_eq.mp e)
  | .notImplemented :: _, e => .inr (beq_iff_eq.mp e)
  | .bool _ :: _, e => .inr (beq_iff_eq.mp e)
  | .int _ _ :: _, e => .inr (beq_iff_eq.mp e)
  | .float _ _ :: _, e => .inr (beq_iff_eq.mp e)
  | .str _ _ :: _, e => .inr (beq_iff_eq.mp e)
  | .bytes _ _ :: _, e => .inr (beq_iff_eq.mp e)
  | .type _ :: _, e => .inr (beq_iff_eq.mp e)
  | .builtin _ :: _, e => .inr (beq_iff_eq.mp e)
/-- what one of the built-in bases has -/
structure BaseX (B newId initId : String) (tl : List Value) : Prop where
  F : ExcBaseFacts B newId initId tl
  pass : ∀ self : Value, refuseLoop self "__setattr__" tl = pure ()
  ob : tl.contains (.type "object") = true
  ne : tl ≠ []
  boot : bootBuiltins (B : Str) = some (.type B)
  nm : (B : Str) ≠ "__name__"
  nd : ((B : Str) == ("__debug__" : Str)) = false
  ty : typeOf (.type B) = pure (.type "type")
  stub : Manifest.isStub B = false
section
variable {tl : List Value}
theorem tailB_pass (hp : ∀ self : Value, refuseLoop self "__setattr__" tl = pure ()) (self : Value) : ∀ l : List Value, tailB tl l = true → refuseLoop self "__setattr__" l = pure () := by
  intro l
  induction l with
  | nil => intro e; rw [show ([] : List Value) = tl from beq_iff_eq.mp e]; exact hp self
  | cons a r ih =>
    intro e
    rcases tailB_cases (a :: r) e with ⟨c, r', q, h⟩ | q
    · obtain ⟨rfl, rfl⟩ := List.cons.inj q
      rw [refuseLoop_ref]; exact ih h
    · rw [q]; exact hp self
theorem tailB_contains (Y : String) : ∀ l : List Value, tailB tl l = true → l.contains (.type Y) = tl.contains (.type Y) := by
  intro l
  induction l with
  | nil => intro e; rw [show ([] : List Value) = tl from beq_iff_eq.mp e]
  | cons a r ih =>
    intro e
    rcases tailB_cases (a :: r) e with ⟨c, r', q, h⟩ | q
    · obtain ⟨rfl, rfl⟩ := List.cons.inj q
      rw [List.contains_cons, ih h]; rfl
    · rw [q]
theorem tailB_ne (h : tl ≠ []) {l : List Value} (e : tailB tl l = true) : l.isEmpty = false := by
  cases l with
  | nil => exact absurd (show ([] : List Value) = tl from beq_iff_eq.mp e).symm h
  | cons _ _ => rfl
end
abbrev tailOf (B : String) : List Value := [.type B, .type "Exception", .type "BaseException", .type "object"]
theorem baseX_Value : BaseX "ValueError" "ValueError.__new__" "ValueError.__init__" (tailOf "ValueError") where
  F := F.excBase_ValueError
  pass := F.store_ValueError.passes
  ob := by decide +kernel
  ne := by simp
  boot := by decide +kernel
  nm := by decide
  nd := by decide
  ty := by kernel_rfl
  stub := by decide +kernel
theorem baseX_Lookup : BaseX "LookupError" "LookupError.__new__" "LookupError.__init__" (tailOf "LookupError") where
  F := F.excBase_LookupError
  pass := F.store_LookupError.passes
  ob := by decide +kernel
  ne := by simp
  boot := by decide +kernel
  nm := by decide
  nd := by decide
  ty := by kernel_rfl
  stub := by decide +kernel
theorem baseX_Runtime : BaseX "RuntimeError" "RuntimeError.__new__" "RuntimeError.__init__" (tailOf "RuntimeError") where
  F := F.excBase_RuntimeError
  pass := F.store_RuntimeError.passes
  ob := by decide +kernel
  ne := by simp
  boot := by decide +kernel
  nm := by decide
  nd := by decide
  ty := by kernel_rfl
  stub := by decide +kernel
end HI
namespace PySem
namespace HIX
open PySem.W PySem.Calls PyProof.Rows PySem.HandSPX
section
open Builtin Builtin.ObjectAttr
variable {prog : Program} {w : World} {A : Around} {E : Value → Shared → Prop} {R : Result → Shared → Prop} {hp : Heap} {g : Array GenState} {d : Drawn} {t : Nat} {os : OsState}
theorem osa_new {K : W.Frag} {tl : List Value} (hps : ∀ self : Value, refuseLoop self "__setattr__" tl = pure ()) (hob0 : tl.contains (.type "object") = true) (hne : tl ≠ []) {name : Str} {tk : Tok} {v : Value} {x C : Addr} {fv : Array Value} {cd : ClassData}
    (X : K.In hp) (hx : hp.get? x = some { cls := .ref C, data := .fields fv }) (hcd : W.clsIn K C = some cd) (hm : HI.tailB tl cd.mro = true) (hh : cd.hasDict = true) (ha : W.findIn K (.ref C) name = some none)
    (hq : ∀ h' tk' dx, (∀ b o, b ≠ x → hp.get? b = some o → h'.get? b = some o) → hp.objs.size ≤ dx → dx ≠ x → h'.get? x = some { cls := .ref C, dict := some dx, data := .fields fv } →
      h'.Ns1 dx (fun y => if y = name then some v else none) → R (.ok (.ret .none)) ⟨h', g, d, tk', os⟩) :
    codeAny (model prog w) A (.call (.builtin "object.__setattr__") ⟨[.ref x, .str name tk, v], []⟩) R ⟨hp, g, d, t, os⟩ := by
  have I : W.InstAt hp x { cls := .ref C, data := .fields fv } C none := ⟨hx, rfl, rfl, trivial⟩
  have SF := F.store_object
  have ne := HI.tailB_ne hne hm
  have hob : cd.mro.contains (.type "object") = true := (HI.tailB_contains "object" _ hm).trans hob0
  have hxs : x ≠ hp.objs.size := Nat.ne_of_lt (Heap.lt_size hx)
  have sub : W.Looks (model prog w) hp (isInstance (.ref x) (.type "object")) true := I.type.andThen (W.looks_mroIn X (by unfold W.mroIn; rw [hcd, Option.bind_some, if_neg (by rw [ne]; decide), hob]))
  refine codeAny_call_builtin SF.slot.plain SF.entry (@W.check_slot (model prog w) _ _ ⟨hp, g, d, t, os⟩ "object.__setattr__" "object" "__setattr__" (.ref x) [.str name tk, v] [] _ SF.kind SF.split sub (SF.args (.ref x) (.str name tk) v) ?_)
  have hmr : W.Looks (model prog w) hp (mroOf (.ref C)) cd.mro := (W.looks_clsIn X hcd).andThen .now
  have L3 : W.Looks (model prog w) hp (storeTaker? none) none := .now
  have hcls : W.Looks (model prog w) hp (classData C) cd := W.looks_clsIn X hcd
  rw [W.osa_eq, refuse_eq]
  refine wpAny_bind (wpAny_bind (I.type.at (wpAny_bind (hmr.at ?_))))
  rw [HI.tailB_pass hps _ _ hm]
  refine wpAny_pure (wpAny_bind (I.type.at (wpAny_bind ((W.looks_findIn X ha).at (wpAny_bind (L3.at ?_))))))
  show wpAny _ _ (storeInOwnDict (.ref x) (.ref C) (.str name tk) name v false) _ _ _
  obtain ⟨nm, bs, mro, ns, qn, hd, sn, sb, ab, col, del⟩ := cd
  dsimp only at hh
  subst hh
  unfold storeInOwnDict ownDictForStores
  repeat (first | with_reducible refine store_in_new ?_ ?_ | with_reducible refine wpAny_loadPart_at hx ?_ | with_reducible refine hcls.at ?_ | wp_step)
  · exact ⟨_, #[], _, (Heap.get?_update_ne _ _ _ _ hxs.symm).trans (Heap.get?_push_at rfl rfl), rfl, fun e he => absurd he (by simp), fun _ => rfl⟩
  · intro h' tk' hn' hs
    have hx₁ : (hp.push { cls := .type "dict", data := .dict #[] }).get? x = some { cls := .ref C, data := .fields fv } := Heap.get?_push_of_some _ hx
    refine hq h' tk' hp.objs.size (fun b o hb ho => ?_) (Nat.le_refl _) hxs.symm ?_ hn'
    · exact (hs.2 b (Nat.ne_of_lt (Heap.lt_size ho))).trans ((Heap.get?_update_ne _ _ _ _ hb).trans (Heap.get?_push_of_some _ ho))
    · exact (hs.2 x hxs).trans (Heap.get?_update_self _ hx₁ rfl)
/-- a further field of an exception that has its dict -/
theorem osa_more {K : W.Frag} {tl : List Value} (hps : ∀ self : Value, refuseLoop self "__setattr__" tl = pure ()) (hob0 : tl.contains (.type "object") = true) (hne : tl ≠ []) {name : Str} {tk : Tok} {v : Value} {x C dx : Addr} {fv : Array Value} {cd : ClassData} {m0 : Str → Option Value} {nl : List Str}
    (X : K.In hp) (hx : hp.get? x = some { cls := .ref C, dict := some dx, data := .fields fv }) (hns : hp.Ns1 dx m0) (hw : Within m0 nl) (hz : nl.length ≤ 1000) (hcd : W.clsIn K C = some cd) (hm : HI.tailB tl cd.mro = true) (hh : cd.hasDict = true)
    (ha : W.findIn K (.ref C) name = some none)
    (hq : ∀ h' tk', (∀ b o, b ≠ dx → hp.get? b = some o → h'.get? b = some o) → h'.Ns1 dx (fun y => if y = name then some v else m0 y) → R (.ok (.ret .none)) ⟨h', g, d, tk', os⟩) :
    codeAny (model prog w) A (.call (.builtin "object.__setattr__") ⟨[.ref x, .str name tk, v], []⟩) R ⟨hp, g, d, t, os⟩ := by
  obtain ⟨oD, esD, epD, hoD, hdD, _⟩ := hns.count hw
  have I : W.InstAt hp x { cls := .ref C, dict := some dx, data := .fields fv } C (some oD) := ⟨hx, rfl, rfl, hoD⟩
  have SF := F.store_object
  have ne := HI.tailB_ne hne hm
  have hob : cd.mro.contains (.type "object") = true := (HI.tailB_contains "object" _ hm).trans hob0
  have sub : W.Looks (model prog w) hp (isInstance (.ref x) (.type "object")) true := I.type.andThen (W.looks_mroIn X (by unfold W.mroIn; rw [hcd, Option.bind_some, if_neg (by rw [ne]; decide), hob]))
  refine codeAny_call_builtin SF.slot.plain SF.entry (@W.check_slot (model prog w) _ _ ⟨hp, g, d, t, os⟩ "object.__setattr__" "object" "__setattr__" (.ref x) [.str name tk, v] [] _ SF.kind SF.split sub (SF.args (.ref x) (.str name tk) v) ?_)
  have hmr : W.Looks (model prog w) hp (mroOf (.ref C)) cd.mro := (W.looks_clsIn X hcd).andThen .now
  have L3 : W.Looks (model prog w) hp (storeTaker? none) none := .now
  have hcls : W.Looks (model prog w) hp (classData C) cd := W.looks_clsIn X hcd
  rw [W.osa_eq, refuse_eq]
  refine wpAny_bind (wpAny_bind (I.type.at (wpAny_bind (hmr.at ?_))))
  rw [HI.tailB_pass hps _ _ hm]
  refine wpAny_pure (wpAny_bind (I.type.at (wpAny_bind ((W.looks_findIn X ha).at (wpAny_bind (L3.at ?_))))))
  show wpAny _ _ (storeInOwnDict (.ref x) (.ref C) (.str name tk) name v false) _ _ _
  obtain ⟨nm, bs, mro, ns, qn, hd, sn, sb, ab, col, del⟩ := cd
  dsimp only at hh
  subst hh
  unfold storeInOwnDict ownDictForStores
  repeat (first | with_reducible refine OEX.store_in_old hns hw hz ?_ | with_reducible refine wpAny_loadPart_at hx ?_ | with_reducible refine hcls.at ?_ | wp_step)
  intro h' tk' hn' hs
  exact hq h' tk' (fun b o hb ho => (hs.2 b hb).trans ho) hn'
end
end HIX
end PySem
set_option Elab.async false
set_option linter.all false
set_option maxRecDepth 100000
set_option maxHeartbeats 4000000
/-! HiExc2: such an exception is made, its fields are laid; raise. -/
namespace HI
open PySem PySem.Spec PyProof.Rows L2

def XB.nm : XB → String
  | .value => "ValueError" | .lookup => "LookupError" | .runtime => "RuntimeError"
def XB.newId : XB → String
  | .value => "ValueError.__new__" | .lookup => "LookupError.__new__" | .runtime => "RuntimeError.__new__"
def XB.initId : XB → String
  | .value => "ValueError.__init__" | .lookup => "LookupError.__init__" | .runtime => "RuntimeError.__init__"
abbrev XB.tl (b : XB) : List Value := tailOf b.nm
theorem XB.base : ∀ b : XB, BaseX b.nm b.newId b.initId b.tl
  | .value => baseX_Value
  | .lookup => baseX_Lookup
  | .runtime => baseX_Runtime
structure ExC (K : PySem.W.Frag) (b : XB) (C : Addr) : Prop where
  cls : ∃ nm q N bs bm sn sub ab col dd k0 k1 k2 k3 k5, K.lookup C = some (excClassObj nm q C N bs bm true sn sub ab col dd k0 k1 k2 k3 k5 b.newId) ∧ tailB b.tl bm = true
  sa : PySem.W.findIn K (.ref C) "__setattr__" = some (some (.builtin "object.__setattr__"))
  exC : PySem.W.subIn K (.ref C) (.type "BaseException") = some true
  tyC : PySem.W.typeIn K (.ref C) = some (.type "type")
  kC : PySem.W.keepIn K (.ref C) = true
def excB (K : PySem.W.Frag) (b : XB) (C : Addr) : Bool := match K.lookup C with
  | some ⟨.type "type", _, .cls cd, sl⟩ => (match cd.mro, sl.toList with
    | .ref C' :: bm, [_, _, _, _, some (.builtin n), _] => C' == C && n == b.newId && !cd.hasDel && cd.hasDict && tailB b.tl bm
    | _, _ => false)
  | _ => false
theorem excB_ok {K : PySem.W.Frag} {b : XB} {C : Addr} (h : excB K b C = true) : ∃ nm q N bs bm sn sub ab col dd k0 k1 k2 k3 k5, K.lookup C = some (excClassObj nm q C N bs bm true sn sub ab col dd k0 k1 k2 k3 k5 b.newId) ∧ tailB b.tl bm = true := by
  unfold excB at h
  split at h
  · rename_i dd cd sl ho
    split at h
    · rename_i C' bm k0 k1 k2 k3 n k5 hm hs
      simp only [Bool.and_eq_true, beq_iff_eq, Bool.not_eq_true'] at h
      obtain ⟨⟨⟨⟨rfl, hn⟩, hdel⟩, hdict⟩, ht⟩ := h
      obtain ⟨nm, bs, mro, ns, qn, hd, sn, sub, ab, col, del⟩ := cd
      dsimp only at hm hdel hdict
      subst hm hdel hdict hn
      have hsl : sl = #[k0, k1, k2, k3, some (.builtin b.newId), k5] := by
        obtain ⟨l⟩ := sl
        simp only at hs
        rw [hs]
      subst hsl
      exact ⟨nm, qn, ns, bs, bm, sn, sub, ab, col, dd, k0, k1, k2, k3, k5, ho, ht⟩
    · cases h
  · cases h

section
variable {X : Cx} {pins : List (Addr × Obj)} {σ : L2.St} {H : Hp} {s : Shared} {a C dx : Addr} {f : Str} {y : V} {u : Value} {fs : List (Str × V)} {Q : Unit → Shared → Prop} {E : Value → Shared → Prop} {A : Around} {b : XB}
/-- self.f = y, the first one -/
theorem x_new (T : ExC X.K b C) (I : Inv X pins σ H s) (e : H a = some (exo a C none)) (hno : PySem.W.findIn X.K (.ref C) f = some none) (ry : RelV y u)
    (h : ∀ dx s', H dx = none → dx ≠ a → Inv X pins σ (upd (upd H dx (exd dx [(f, y)])) a (exo a C (some dx))) s' → Q () s') : wpAny (model X.prog X.w) A (setAttr (.ref a) f u) Q E s := by
  obtain ⟨nm, q, N, bs, bm, sn, sub, ab, col, dd, k0, k1, k2, k3, k5, hC, hbm⟩ := T.cls
  have hcl : PySem.W.clsIn X.K C = some { name := nm, bases := bs, mro := .ref C :: bm, ns := N, qualname := q, hasDict := true, slotNames := sn, subclasses := sub, abstract := ab, collection := col, hasDel := false } := by unfold PySem.W.clsIn; rw [hC] <;> rfl
  obtain ⟨t1, ho⟩ := exo_at I.hok e
  obtain ⟨hp, g, d, t, os⟩ := s
  refine PySem.W.set_plain I.kIn (ox := { cls := .ref C, dict := none, data := .fields #[.ref t1, .none, .none, .none, .bool false, .none] }) (od := none) ⟨ho, rfl, rfl, trivial⟩ T.sa ?_
  refine PySem.HIX.osa_new b.base.pass b.base.ob b.base.ne I.kIn ho hcl (show tailB b.tl (.ref C :: bm) = true from hbm) rfl hno (fun h' tk' dx k dn dne hx hn => ?_)
  have hnd : H dx = none := I.hok.fresh dn
  have nd : ∀ {c : Addr} {o : Obj}, hp.get? c = some o → c ≠ dx := fun {c o} q => Nat.ne_of_lt (Nat.lt_of_lt_of_le (Heap.lt_size q) dn)
  have na : ∀ {c : Addr}, H c = none → c ≠ a := fun {c} n z => by
    rw [z, e] at n
    cases n
  have Un1 : Un X.fs [] H (upd (upd H dx (exd dx [(f, y)])) a (exo a C (some dx))) hp h' := {
    keep := fun c o q n _ _ => k c o (na n) q
    slot := fun c o q n _ _ => ⟨o.slots, k c o (na n) q⟩
    free := fun c o q n _ => by rw [upd_ne (na n), upd_ne (nd q)]; exact n
    there := fun c o q _ => by
      by_cases hb : c = a
      · exact ⟨_, by rw [hb]; exact hx⟩
      · exact ⟨o, k c o hb q⟩
    tups := fun c xs q => by rw [upd_ne (at_ne e q exo_tup), upd_ne (ne_of_none q hnd)]; exact q
    frzs := fun c o v q => by rw [upd_ne (at_ne e q exo_frz), upd_ne (ne_of_none q hnd)]; exact q
    tbls := fun c ps q => ⟨#[], by rw [upd_ne (at_ne e q exo_tbl), upd_ne (ne_of_none q hnd), q]; simp⟩ }
  refine h dx _ hnd dne (I.un (t' := tk') Un1 fun c o q => ?_)
  by_cases hb : c = a
  · subst hb
    rw [upd_same] at q
    cases q
    exact exo_ok hx
  · rw [upd_ne hb] at q
    by_cases hd : c = dx
    · subst hd
      rw [upd_same] at q
      cases q
      exact exd_ok hn (relO_put (fs := []) ry fun g => True.intro)
    · rw [upd_ne hd] at q
      exact (I.hok c o q).stay (fun c' v hc z => k c' v (by
          rcases hc with hc | hc
          · rw [hc]
            exact hb
          · exact at_ne e hc exo_own) z)
        (fun c' hc => by rw [upd_ne (at_ne e hc exo_own), upd_ne (ne_of_none hc hnd)]; exact hc) (fun c' xs hc => by rw [upd_ne (at_ne e hc exo_tup), upd_ne (ne_of_none hc hnd)]; exact hc)
/-- self.f = y, a further one -/
theorem x_more (T : ExC X.K b C) (I : Inv X pins σ H s) (e : H a = some (exo a C (some dx))) (ed : H dx = some (exd dx fs)) (hl : fs.length ≤ 900) (hno : PySem.W.findIn X.K (.ref C) f = some none) (ry : RelV y u)
    (h : ∀ s', Inv X pins σ (upd H dx (exd dx ((f, y) :: fs))) s' → Q () s') : wpAny (model X.prog X.w) A (setAttr (.ref a) f u) Q E s := by
  obtain ⟨nm, q, N, bs, bm, sn, sub, ab, col, dd, k0, k1, k2, k3, k5, hC, hbm⟩ := T.cls
  have hcl : PySem.W.clsIn X.K C = some { name := nm, bases := bs, mro := .ref C :: bm, ns := N, qualname := q, hasDict := true, slotNames := sn, subclasses := sub, abstract := ab, collection := col, hasDel := false } := by unfold PySem.W.clsIn; rw [hC] <;> rfl
  obtain ⟨t1, ho⟩ := exo_at I.hok e
  obtain ⟨mA, hns, rel⟩ := exd_at I.hok ed
  have hw := within_of rel
  obtain ⟨hp, g, d, t, os⟩ := s
  obtain ⟨oD, _, _, hoD, _, _⟩ := hns.count hw
  refine PySem.W.set_plain I.kIn (ox := { cls := .ref C, dict := some dx, data := .fields #[.ref t1, .none, .none, .none, .bool false, .none] }) (od := some oD) ⟨ho, rfl, rfl, hoD⟩ T.sa ?_
  refine PySem.HIX.osa_more b.base.pass b.base.ob b.base.ne I.kIn ho hns hw (by rw [List.length_map]; omega) hcl (show tailB b.tl (.ref C :: bm) = true from hbm) rfl hno (fun h' tk' k hn => ?_)
  have hd : ∃ o, h'.get? dx = some o := by
    obtain ⟨o, _, _, e', _⟩ := hn
    exact ⟨o, e'⟩
  exact h _ (I.write (t' := tk') (x := dx) (e := dx) (o := exd dx ((f, y) :: fs)) (by rw [ed]; exact True.intro) (.inl rfl) k hd (exd_ok hn (relO_put ry rel)))
/-- Base.__init__(self) -/
theorem x_init {us : List Value} {Q : Value → Shared → Prop} (T : ExC X.K b C) (I : Inv X pins σ H s) (e : H a = some (exo a C none)) (hl : us.length ≤ sizeLine) (h : ∀ s', Inv X pins σ H s' → Q .none s') :
    wpAny (model X.prog X.w) A (PySem.call (.builtin b.initId) (.ref a :: us)) Q E s := by
  obtain ⟨nm, q, N, bs, bm, sn, sub, ab, col, dd, k0, k1, k2, k3, k5, hC, hbm⟩ := T.cls
  obtain ⟨t1, ho⟩ := exo_at I.hok e
  obtain ⟨hp, g, d, t, os⟩ := s
  refine wpAny_call (PySem.HandSPX.init_base b.base.F (fun Y => tailB_contains Y bm hbm) (I.kIn _ _ hC) ho hl fun h' t2 k hx => ?_)
  have J := I.write (t' := t) (x := a) (e := a) (o := exo a C none) (by rw [e]; exact True.intro) (.inl rfl) k ⟨_, hx⟩ (exo_ok hx)
  have eu : upd H a (exo a C none) = H := by
    funext c
    by_cases hb : c = a
    · rw [hb, upd_same, e]
    · rw [upd_ne hb]
  rw [eu] at J
  exact h _ J
end

/-! ### where a field comes from -/
def Src.v (ws : List V) : Src → V
  | .arg i => ws.getD i .non
  | .txt x => .str x
theorem Src.rep {K : PySem.W.Frag} {T : Tab} {m : Mem} {ds : List D} {vs : List V} (h : Reps K T m ds vs) : ∀ s : Src, Rep K T m (s.d ds) (s.v vs)
  | .txt x => rfl
  | .arg i => by
    show Rep K T m (ds.getD i .non) (vs.getD i .non)
    rw [List.getD_eq_getElem?_getD, List.getD_eq_getElem?_getD]
    cases q : ds[i]? with
    | none =>
      have : vs[i]? = none := by
        rw [List.getElem?_eq_none_iff] at q ⊢
        rw [← h.length]; exact q
      rw [this]; rfl
    | some d =>
      obtain ⟨v, h1, h2⟩ := h.get q
      rw [h1]; exact h2
theorem srcs_rep {K : PySem.W.Frag} {T : Tab} {m : Mem} {ds : List D} {vs : List V} (h : Reps K T m ds vs) : ∀ ss : List Src, Reps K T m (ss.map (Src.d ds)) (ss.map (Src.v vs))
  | [] => rfl
  | s :: ss => .cons (Src.rep h s) (srcs_rep h ss)

/-! ### what an __init__ promises -/
abbrev Flds := List (Str × Src)
def fldV (fl : Flds) (ws : List V) : List (Str × V) := fl.map fun p => (p.1, p.2.v ws)
def spX (K : PySem.W.Frag) (b : XB) (np : Nat) (fl : Flds) : Sp := fun vs H Q _ => ∃ a C ws, vs = .ref a :: ws ∧ ws.length = np ∧ ExC K b C ∧ (∀ p ∈ fl, PySem.W.findIn K (.ref C) p.1 = some none) ∧ H a = some (exo a C none) ∧
  ∀ dx, H dx = none → dx ≠ a → Q .non (upd (upd H dx (exd dx (fldV fl ws))) a (exo a C (some dx)))
/-- an exception's class and its __init__ -/
structure ExAt (P : Program) (w : World) (K : PySem.W.Frag) (mg : Str → Option Value) (base : Heap) (k : Nat) (b : XB) (np : Nat) (fl : Flds) (C fI : Addr) : Prop where
  cls : ExC K b C
  no : ∀ p ∈ fl, PySem.W.findIn K (.ref C) p.1 = some none
  init : PySem.W.findIn K (.ref C) "__init__" = some (some (.ref fI))
  tyI : PySem.W.typeIn K (.ref fI) = some (.type "function")
  fn : ∃ (fd : FuncData) (ps : List Str), FnOk P w K mg base (L2.CX P w) k fI fd ps (spX K b np fl) ∧ Binds K fd ps []

section
variable {X : Cx} {T : Tab} {W : WX} {b : XB} {np k : Nat} {fl : Flds} {C fI : Addr}
/-- C(e, ..) -/
theorem pmk_x (A : ExAt X.prog X.w X.K X.mg X.base k b np fl C fI) (hr : Room (k + 1) X.A) {x : Str} {p pos : Pos} (hg : Gl X x) (hm : X.mg x = some (.ref C)) (hdb : (x == ("__debug__" : Str)) = false) (hnp : np ≤ 900) {es : List Expr} {fs : List (Env → Store → R D)} (he : PEs X T W es fs) :
    PMk X (.Call (.Name x p) es [] pos) (fun σ H Q => ∃ env S m, SRc X.K T m S H ∧ EnvOk X.K T X.pn m env σ ∧ PostR X.K T (Reps X.K T) W m σ (fun vs H1 => vs.length = np ∧ ∀ d, H1 d = none → Q (.ref C) (some d) (upd H1 d (.xd (fldV fl vs)))) (evAll fs env S)) := by
  intro pins s σ H Q I ⟨env, S, m, hs, hen, hp⟩
  have T0 := A.cls
  obtain ⟨nm, q, N, bs, bm, sn, sub, ab, col, dd, k0, k1, k2, k3, k5, hC, hbm⟩ := T0.cls
  obtain ⟨fd, ps, F1, hb⟩ := A.fn
  refine wpAny_Call_Name_kw (ld_glob I hg hm ?_ hdb)
  have main : ∀ (us : List Value) (s1 : Shared) (vs : List V) (H1 : Hp), Inv X pins σ H1 s1 → Vals vs us → vs.length = np → (∀ d, H1 d = none → Q (.ref C) (some d) (upd H1 d (.xd (fldV fl vs)))) → wpAny (model X.prog X.w) X.A (PySem.call (.ref C) us) (MkP X pins σ Q) X.xe s1 := by
    intro us s1 vs H1 I1 r1 hz q1
    obtain ⟨hp, g, dr, tk, os⟩ := s1
    have hsz : hp.objs.size ≤ hp.objs.size + 1 := Nat.le_succ _
    have hn : H1 (hp.objs.size + 1) = none := I1.hok.fresh hsz
    have kk : ∀ c o, hp.get? c = some o → ((hp.push (PySem.W.kdv_tup us)).push (PySem.HandSPX.excO C hp.objs.size)).get? c = some o := fun c o e => Heap.get?_push_of_some _ (Heap.get?_push_of_some _ e)
    have hget : ((hp.push (PySem.W.kdv_tup us)).push (PySem.HandSPX.excO C hp.objs.size)).get? (hp.objs.size + 1) = some (PySem.HandSPX.excO C hp.objs.size) := by heap_get
    have I2 : Inv X pins σ (upd H1 (hp.objs.size + 1) (exo (hp.objs.size + 1) C none)) ⟨(hp.push (PySem.W.kdv_tup us)).push (PySem.HandSPX.excO C hp.objs.size), g, dr, tk, os⟩ :=
      I1.laid (t' := tk) (a := hp.objs.size + 1) (o := exo (hp.objs.size + 1) C none) (h' := (hp.push (PySem.W.kdv_tup us)).push (PySem.HandSPX.excO C hp.objs.size)) kk hsz (exo_ok hget)
    have r2 : Vals (V.ref (hp.objs.size + 1) :: vs) (Value.ref (hp.objs.size + 1) :: us) := .cons rfl r1
    have hq : spX X.K b np fl (V.ref (hp.objs.size + 1) :: vs) (upd H1 (hp.objs.size + 1) (exo (hp.objs.size + 1) C none))
        (fun v H2 => v = .non ∧ ∃ (d : Addr) (fs : List (Str × V)), H2 (hp.objs.size + 1) = some (exo (hp.objs.size + 1) C (some d)) ∧ H2 d = some (exd d fs) ∧ H1 d = none ∧ Q (.ref C) (some d) (upd (del H2 (hp.objs.size + 1)) d (.xd fs))) (fun _ _ _ => False) := by
      refine ⟨hp.objs.size + 1, C, vs, rfl, hz, T0, A.no, upd_same, fun dx n ne => ⟨rfl, dx, _, upd_same, by rw [upd_ne ne, upd_same], ?_, ?_⟩⟩
      · rwa [upd_ne ne] at n
      · have n' : H1 dx = none := by rwa [upd_ne ne] at n
        have eH : upd (del (upd (upd (upd H1 (hp.objs.size + 1) (exo (hp.objs.size + 1) C none)) dx (exd dx (fldV fl vs))) (hp.objs.size + 1) (exo (hp.objs.size + 1) C (some dx))) (hp.objs.size + 1)) dx (.xd (fldV fl vs)) = upd H1 dx (.xd (fldV fl vs)) := by
          funext c
          by_cases h1 : c = dx
          · rw [h1, upd_same, upd_same]
          · rw [upd_ne h1, upd_ne h1]
            by_cases h2 : c = hp.objs.size + 1
            · rw [h2, del_same, hn]
            · rw [del_ne h2, upd_ne h2, upd_ne h1, upd_ne h2]
        rw [eH]
        exact q1 dx n'
    have hl : (Value.ref (hp.objs.size + 1) :: us).length = ps.length := by
      have e := r2.length
      rw [F1.len _ _ _ _ hq] at e
      exact e.symm
    have hus : us.length ≤ sizeLine := by
      rw [← Paired.length r1, sizeLine_eq]
      omega
    have hbb := hb ⟨(hp.push (PySem.W.kdv_tup us)).push (PySem.HandSPX.excO C hp.objs.size), g, dr, tk, os⟩ (Value.ref (hp.objs.size + 1) :: us) I2.kIn (by rw [List.append_nil]; exact hl)
    rw [List.append_nil] at hbb
    refine wpAny_call (PySem.HandSPX.call_own b.base.F (fun Y => tailB_contains Y bm hbm) (I1.kIn _ _ hC) (PySem.W.looks_findIn I1.kIn A.init) (fun self => PySem.W.bind_fn I1.kIn self A.tyI) hus
      (codeAny_mono (F1.run _ X.stack _ _ ⟨Value.ref (hp.objs.size + 1) :: us, []⟩ (Value.ref (hp.objs.size + 1) :: us) _ _ (fun _ _ _ => False) (hr.make C us []) (I2.env0.make C us []) hbb r2 hq) fun r s' hq' => ?_))
    cases r with
    | error er =>
      obtain ⟨_, _, _, _, _, _, _, _, _, _, _, _, z⟩ := hq'
      exact z.elim
    | ok fl =>
      cases fl with
      | ret u =>
        obtain ⟨v, H2, os2, bare2, un2, hok2, rv, ev, d, fs, ea, ed, hd1, q2⟩ := hq'
        subst ev
        obtain ⟨h2, g2, d2, t2, os'⟩ := s'
        exact ⟨rv, mk_end (raises_own T0.exC T0.tyC) I1 hsz kk un2 hok2 os2 bare2 ea ed hd1 q2⟩
      | next => exact False.elim hq'
      | brk => exact False.elim hq'
      | cont => exact False.elim hq'
  have hA := he.args.run pos pins s σ H _ I ⟨env, S, m, hs, hen, hp⟩
  cases he with
  | nil =>
    have z := PostR.val (rep := Reps X.K T) (b := ([] : List V)) hp hs Reps.nil
    exact PySem.W.callWith_K0 I.kIn T0.kC (main [] s [] H I .nil z.1 z.2)
  | @cons e f es fs he hn hr' =>
    exact PySem.W.callWith_K (h₀ := X.base) I.ok.mod.kin T0.kC (thn hA fun us s1 ⟨vs, H1, I1, r, q⟩ => ⟨I1.kIn, main us s1 vs H1 I1 r q.1 q.2⟩) (star_cons hn) (hr'.stars pos)
end
end HI
set_option Elab.async false
set_option linter.all false
set_option maxRecDepth 100000
set_option maxHeartbeats 4000000
/-! HiExc3: raise; the walk of such an __init__. -/
namespace HI
open PySem PySem.Spec PyProof.Rows L2

section
variable {X : Cx} {T : Tab} {W : WX} {P : Prog} {b : XB} {np k : Nat}
theorem fldV_zip (fl : Flds) (ws : List V) : fldV fl ws = (fl.map (·.1)).zip (fl.map fun p => p.2.v ws) := by
  unfold fldV
  induction fl with
  | nil => rfl
  | cons p fl ih => simp only [List.map_cons, List.zip_cons_cons, ih]
/-- raise C(e, ..) -/
theorem s_raise {c : Nat} {C : ExcDef} {fI : Addr} (hc : X.calm = true) (tk : Takes X W) (hC : P.exc[c]? = some C) (A : ExAt X.prog X.w X.K X.mg X.base k C.base C.args C.flds (T.exA c) fI) (hr : Room (k + 1) X.A) (hx : XOk X.K T c C.ns) (hnp : C.args ≤ 900)
    {x : Str} {p pos pos' : Pos} (hg : Gl X x) (hm : X.mg x = some (.ref (T.exA c))) (hdb : (x == ("__debug__" : Str)) = false) {es : List Expr} {fs : List (Env → Store → R D)} (he : PEs X T W es fs) :
    PS X (.Raise (some (.Call (.Name x p) es [] pos)) none pos') (tS X T W fun env S => (evAll fs env S).thn env fun xs S1 => match P.exc[c]? with
      | some C => if xs.length = C.args then .er ⟨c, C.ns, C.fill xs⟩ env S1 else .bad
      | none => .bad) := by
  refine PS.of (ps_raise hc tk (pmk_x A hr hg hm hdb hnp he)) fun De σ H ⟨env, S, m, hs, hen, h⟩ => ⟨env, S, m, hs, hen, PostR.imp (fun vs H1 z => ?_) (PostS.thn (rep := Reps X.K T) hen h)⟩
  obtain ⟨ds, S1, m1, l1, hs1, hr1, hen1, q1⟩ := z
  rw [hC] at q1
  dsimp only at q1
  by_cases hl : ds.length = C.args
  · rw [if_pos hl] at q1
    refine ⟨by rw [← hr1.length]; exact hl, fun d nd => ?_⟩
    obtain ⟨h2, l2⟩ := hs1.add (o := .xd (fldV C.flds vs)) nd
    refine q1 _ _ σ _ _ l2 h2 (hen1.mono l2) ⟨rfl, d, C.flds.map fun p => p.2.v vs, rfl, ?_, ?_, ?_, hx⟩
    · show upd m1.fz d (.xd (fldV C.flds vs)) d = _
      rw [upd_same, fldV_zip]; rfl
    · show (C.flds.map (·.1)).length = _
      rw [List.length_map, List.length_map]
    · have := srcs_rep (Reps.mono l2 _ _ hr1) (C.flds.map (·.2))
      rw [List.map_map, List.map_map] at this
      exact this
  · rw [if_neg hl] at q1
    exact q1.elim
end

/-! ### the walk of an __init__ -/
def Src.ok (n : Nat) : Src → Bool
  | .arg i => decide (i < n)
  | .txt _ => true
/-- the slots at an __init__'s body: self, then the arguments -/
def AtI (σ : L2.St) (a : Addr) (ws : List V) : Prop := σ = some (.ref a) :: ws.map some
section
variable {X : Cx}
def tSrc (s : Src) : TE := fun σ H Q => ∃ a ws, AtI σ a ws ∧ s.ok ws.length = true ∧ Q (s.v ws) H
def chkSrc (N : List Str) (sc : Scope) : Expr → Src → Bool
  | .Name x _, .arg i => decide (N[i + 1]? = some x) && visB sc x && !(x == ("__debug__" : Str)) && !(x == ("__classdict__" : Str))
  | .Constant (.str x) _ _, .txt y => decide (x = y)
  | _, _ => false
theorem pe_src {e : Expr} {s : Src} (h : chkSrc X.N X.env.scope e s = true) : PE X e (tSrc s) ∧ notStar e = true := by
  unfold chkSrc at h
  split at h
  · rename_i x p i
    simp only [Bool.and_eq_true, decide_eq_true_eq, Bool.not_eq_true'] at h
    obtain ⟨⟨⟨h1, h2⟩, h3⟩, h4⟩ := h
    refine ⟨⟨fun pins st σ H Q I ⟨a, ws, hA, hok, q⟩ => ?_⟩, rfl⟩
    have hi : i < ws.length := of_decide_eq_true hok
    refine (pe_var (pos := p) h1 (visB_ok h2) h3 h4).run pins st σ H Q I ⟨ws[i], ?_, ?_⟩
    · unfold AtI at hA
      rw [hA]
      simp [List.getElem?_map, List.getElem?_eq_getElem hi]
    · have e : (Src.arg i).v ws = ws[i] := by
        show ws.getD i .non = _
        rw [List.getD_eq_getElem?_getD, List.getElem?_eq_getElem hi]; rfl
      rw [e] at q; exact q
  · rename_i x j p y
    have h : x = y := of_decide_eq_true h
    subst h
    exact ⟨⟨fun pins st σ H Q I ⟨a, ws, hA, hok, q⟩ => (pe_str (j := j) (pos := p)).run pins st σ H Q I q⟩, rfl⟩
  · cases h
def tSrcs (ss : List Src) : TA := fun σ H Q => ∃ a ws, AtI σ a ws ∧ ss.all (Src.ok ws.length) = true ∧ Q (ss.map (Src.v ws)) H
def chkSrcs (N : List Str) (sc : Scope) : List Expr → List Src → Bool
  | [], [] => true
  | e :: es, s :: ss => chkSrc N sc e s && chkSrcs N sc es ss
  | _, _ => false
theorem pa_srcs : ∀ {es : List Expr} {ss : List Src}, chkSrcs X.N X.env.scope es ss = true → PA X es (tSrcs ss)
  | [], [], _ => ⟨fun pos pins s σ H Q I ⟨a, ws, hA, hok, q⟩ => pa_nil.run pos pins s σ H Q I q⟩
  | e :: es, s :: ss, h => by
    have h : (chkSrc X.N X.env.scope e s && chkSrcs X.N X.env.scope es ss) = true := h
    rw [Bool.and_eq_true] at h
    obtain ⟨p1, p2⟩ := pe_src h.1
    have p3 := pa_srcs h.2
    refine ⟨fun pos pins st σ H Q I ⟨a, ws, hA, hok, q⟩ => ?_⟩
    rw [List.all_cons, Bool.and_eq_true] at hok
    exact (pa_cons p1 p3 (star_cons p2)).run pos pins st σ H Q I ⟨a, ws, hA, hok.1, a, ws, hA, hok.2, q⟩
  | [], _ :: _, h => by cases h
  | _ :: _, [], h => by cases h

/-- the fields that are stored one by one -/
def putAll (asg : Flds) (ws : List V) (fs : List (Str × V)) : List (Str × V) := asg.foldl (fun fs p => (p.1, p.2.v ws) :: fs) fs
theorem putAll_eq : ∀ (asg : Flds) (ws : List V) (fs : List (Str × V)), putAll asg ws fs = fldV asg.reverse ws ++ fs
  | [], _, _ => rfl
  | p :: asg, ws, fs => by
    show putAll asg ws ((p.1, p.2.v ws) :: fs) = _
    rw [putAll_eq asg]
    unfold fldV
    simp
def chkAsg (N : List Str) (sc : Scope) : List Stmt → Flds → Bool
  | [], [] => true
  | .Assign [.Attribute (.Name x _) f _] e _ :: sts, (g, s) :: asg => decide (N[0]? = some x) && visB sc x && !(x == ("__debug__" : Str)) && !(x == ("__classdict__" : Str)) && decide (f = g) && chkSrc N sc e s && noComp e && chkAsg N sc sts asg
  | _, _ => false
/-- behind the first store -/
def tMore (b : XB) (asg : Flds) : TS := fun D σ H => ∃ a C dx fs ws, AtI σ a ws ∧ asg.all (fun p => p.2.ok ws.length) = true ∧ ExC X.K b C ∧ (∀ p ∈ asg, PySem.W.findIn X.K (.ref C) p.1 = some none) ∧ H a = some (exo a C (some dx)) ∧ H dx = some (exd dx fs) ∧ dx ≠ a ∧ fs.length + asg.length ≤ 900 ∧
  D.nx σ (upd H dx (exd dx (putAll asg ws fs)))
theorem upd_self {H : Hp} {a : Addr} {o : HO} (h : H a = some o) : upd H a o = H := by
  funext c
  by_cases hc : c = a
  · rw [hc, upd_same, h]
  · rw [upd_ne hc]
theorem upd_upd {H : Hp} {a : Addr} {o o' : HO} : upd (upd H a o) a o' = upd H a o' := by
  funext c
  by_cases hc : c = a
  · rw [hc, upd_same, upd_same]
  · rw [upd_ne hc, upd_ne hc, upd_ne hc]
theorem pss_more {b : XB} : ∀ {sts : List Stmt} {asg : Flds}, chkAsg X.N X.env.scope sts asg = true → PSs X sts (tMore (X := X) b asg)
  | [], [], _ => ⟨fun pins s σ H D I ⟨a, C, dx, fs, ws, hA, _, _, _, ha, hd, hne, hl, q⟩ => by
    have q : D.nx σ (upd H dx (exd dx fs)) := q
    rw [upd_self hd] at q
    exact pss_nil.run pins s σ H D I q⟩
  | .Assign [.Attribute (.Name x p1) f p2] e pos :: sts, (g, src) :: asg, h => by
    have h : (decide (X.N[0]? = some x) && visB X.env.scope x && !(x == ("__debug__" : Str)) && !(x == ("__classdict__" : Str)) && decide (f = g) && chkSrc X.N X.env.scope e src && noComp e && chkAsg X.N X.env.scope sts asg) = true := h
    simp only [Bool.and_eq_true, decide_eq_true_eq, Bool.not_eq_true'] at h
    obtain ⟨⟨⟨⟨⟨⟨⟨h1, h2⟩, h3⟩, h4⟩, h5⟩, h6⟩, h7⟩, h8⟩ := h
    subst h5
    obtain ⟨p3, _⟩ := pe_src h6
    have rest := pss_more (b := b) h8
    refine ⟨fun pins s σ H D I ⟨a, C, dx, fs, ws, hA, hok, T, hno, ha, hd, hne, hl, q⟩ => ?_⟩
    rw [List.all_cons, Bool.and_eq_true] at hok
    have st : PS X (.Assign [.Attribute (.Name x p1) f p2] e pos) (fun D σ H => ∃ a C dx fs ws, AtI σ a ws ∧ src.ok ws.length = true ∧ ExC X.K b C ∧ PySem.W.findIn X.K (.ref C) f = some none ∧ H a = some (exo a C (some dx)) ∧ H dx = some (exd dx fs) ∧ fs.length ≤ 900 ∧ D.nx σ (upd H dx (exd dx ((f, src.v ws) :: fs)))) := by
      refine ⟨fun pins s σ H D I ⟨a, C, dx, fs, ws, hA, hok, T, hno, ha, hd, hl, q⟩ => ?_⟩
      refine plainObj_wpAny_Assign_Attribute (thn (p3.run pins s σ H (fun v H1 => v = src.v ws ∧ H1 = H) I ⟨a, ws, hA, hok, rfl, rfl⟩) fun v s1 ⟨y, H1, I1, r1, e1, e2⟩ => ?_) (swaps_no h7 _ _ _)
      subst e1 e2
      refine thn ((pe_var (pos := p1) h1 (visB_ok h2) h3 h4).run pins s1 σ H1 (fun v H2 => v = .ref a ∧ H2 = H1) I1 ⟨.ref a, by unfold AtI at hA; rw [hA]; rfl, rfl, rfl⟩) fun u s2 ⟨x2, H2, I2, r2, e3, e4⟩ => ?_
      subst e3 e4
      obtain rfl : u = Value.ref a := r2
      exact x_more T I2 ha hd hl hno r1 fun s' J => ⟨σ, _, J, q⟩
    refine (pss_cons st rest).run pins s σ H D I ⟨a, C, dx, fs, ws, hA, hok.1, T, hno (f, src) List.mem_cons_self, ha, hd, by simp at hl; omega, ?_⟩
    refine ⟨a, C, dx, (f, src.v ws) :: fs, ws, hA, hok.2, T, fun p hp => hno p (List.mem_cons_of_mem _ hp), by rw [upd_ne (fun z => hne z.symm)]; exact ha, upd_same, hne, by simp at hl ⊢; omega, ?_⟩
    rw [upd_upd]
    exact q
  | [], _ :: _, h => by cases h
  | st :: sts, [], h => absurd h (by simp [chkAsg])
/-- behind Base.__init__(self): the first store, then the others -/
def tFirst (b : XB) (asg : Flds) : TS := fun D σ H => ∃ a C ws, AtI σ a ws ∧ asg.all (fun p => p.2.ok ws.length) = true ∧ ExC X.K b C ∧ (∀ p ∈ asg, PySem.W.findIn X.K (.ref C) p.1 = some none) ∧ H a = some (exo a C none) ∧ asg.length ≤ 900 ∧
  ∀ dx, H dx = none → dx ≠ a → D.nx σ (upd (upd H dx (exd dx (putAll asg ws []))) a (exo a C (some dx)))
theorem pss_first {b : XB} : ∀ {sts : List Stmt} {asg : Flds}, chkAsg X.N X.env.scope sts asg = true → asg ≠ [] → PSs X sts (tFirst (X := X) b asg)
  | .Assign [.Attribute (.Name x p1) f p2] e pos :: sts, (g, src) :: asg, h, _ => by
    have h : (decide (X.N[0]? = some x) && visB X.env.scope x && !(x == ("__debug__" : Str)) && !(x == ("__classdict__" : Str)) && decide (f = g) && chkSrc X.N X.env.scope e src && noComp e && chkAsg X.N X.env.scope sts asg) = true := h
    simp only [Bool.and_eq_true, decide_eq_true_eq, Bool.not_eq_true'] at h
    obtain ⟨⟨⟨⟨⟨⟨⟨h1, h2⟩, h3⟩, h4⟩, h5⟩, h6⟩, h7⟩, h8⟩ := h
    subst h5
    obtain ⟨p3, _⟩ := pe_src h6
    have rest := pss_more (b := b) h8
    refine ⟨fun pins s σ H D I ⟨a, C, ws, hA, hok, T, hno, ha, hl, q⟩ => ?_⟩
    rw [List.all_cons, Bool.and_eq_true] at hok
    have st : PS X (.Assign [.Attribute (.Name x p1) f p2] e pos) (fun D σ H => ∃ a C ws, AtI σ a ws ∧ src.ok ws.length = true ∧ ExC X.K b C ∧ PySem.W.findIn X.K (.ref C) f = some none ∧ H a = some (exo a C none) ∧ ∀ dx, H dx = none → dx ≠ a → D.nx σ (upd (upd H dx (exd dx [(f, src.v ws)])) a (exo a C (some dx)))) := by
      refine ⟨fun pins s σ H D I ⟨a, C, ws, hA, hok, T, hno, ha, q⟩ => ?_⟩
      refine plainObj_wpAny_Assign_Attribute (thn (p3.run pins s σ H (fun v H1 => v = src.v ws ∧ H1 = H) I ⟨a, ws, hA, hok, rfl, rfl⟩) fun v s1 ⟨y, H1, I1, r1, e1, e2⟩ => ?_) (swaps_no h7 _ _ _)
      subst e1 e2
      refine thn ((pe_var (pos := p1) h1 (visB_ok h2) h3 h4).run pins s1 σ H1 (fun v H2 => v = .ref a ∧ H2 = H1) I1 ⟨.ref a, by unfold AtI at hA; rw [hA]; rfl, rfl, rfl⟩) fun u s2 ⟨x2, H2, I2, r2, e3, e4⟩ => ?_
      subst e3 e4
      obtain rfl : u = Value.ref a := r2
      exact x_new T I2 ha hno r1 fun dx s' n ne J => ⟨σ, _, J, q dx n ne⟩
    refine (pss_cons st rest).run pins s σ H D I ⟨a, C, ws, hA, hok.1, T, hno (f, src) List.mem_cons_self, ha, fun dx n ne => ?_⟩
    refine ⟨a, C, dx, [(f, src.v ws)], ws, hA, hok.2, T, fun p hp => hno p (List.mem_cons_of_mem _ hp), upd_same, by rw [upd_ne ne, upd_same], ne, by simp at hl ⊢; omega, ?_⟩
    have e : upd (upd (upd H dx (exd dx [(f, src.v ws)])) a (exo a C (some dx))) dx (exd dx (putAll asg ws [(f, src.v ws)])) = upd (upd H dx (exd dx (putAll ((f, src) :: asg) ws []))) a (exo a C (some dx)) := by
      funext c
      by_cases h1 : c = dx
      · rw [h1, upd_same, upd_ne ne, upd_same]; rfl
      · rw [upd_ne h1]
        by_cases h2 : c = a
        · rw [h2, upd_same, upd_same]
        · rw [upd_ne h2, upd_ne h1, upd_ne h2, upd_ne h1]
    rw [e]
    exact q dx n ne
  | [], [], _, z => absurd rfl z
  | [], _ :: _, h, _ => by cases h
  | st :: sts, [], h, _ => absurd h (by simp [chkAsg])

/-! ### the call of the base's __init__ -/
def chkSelf (N : List Str) (sc : Scope) : Expr → Bool
  | .Name x _ => decide (N[0]? = some x) && visB sc x && !(x == ("__debug__" : Str)) && !(x == ("__classdict__" : Str))
  | _ => false
theorem pe_self {e : Expr} (h : chkSelf X.N X.env.scope e = true) : PE X e (fun σ H Q => ∃ v, σ[0]? = some (some v) ∧ Q v H) ∧ notStar e = true := by
  unfold chkSelf at h
  split at h
  · simp only [Bool.and_eq_true, decide_eq_true_eq, Bool.not_eq_true'] at h
    obtain ⟨⟨⟨h1, h2⟩, h3⟩, h4⟩ := h
    exact ⟨⟨fun pins s σ H Q I q => (pe_var h1 (visB_ok h2) h3 h4).run pins s σ H Q I q⟩, rfl⟩
  · cases h
theorem pe_binit {b : XB} {x : Str} {e : Expr} {p1 p2 pos : Pos} (hx : x = (b.nm : Str)) (hg : Gl X x) (hm : X.mg x = none) (vV : PySem.W.findCls X.K (.type b.nm) (.type "type") "__init__" = some (.val (.builtin b.initId))) (hs : chkSelf X.N X.env.scope e = true) (hline : (p2.endLine == pos.line) = true) :
    PE X (.Call (.Attribute (.Name x p1) "__init__" p2) [e] [] pos) (fun σ H Q => ∃ a C, σ[0]? = some (some (.ref a)) ∧ ExC X.K b C ∧ H a = some (exo a C none) ∧ Q .non H) := by
  subst hx
  obtain ⟨p3, p4⟩ := pe_self hs
  refine ⟨fun pins s σ H Q I ⟨a, C, h0, T, ha, q⟩ => ?_⟩
  have few : methodCallForm ([e].length + ([] : List Keyword).length) (backTo pos (starEach [e] X.env)) (backToKw pos (keywordEach [] X.env)) = true := by
    rw [star_cons p4]; rfl
  refine meth_node (base_ok rfl _ _ _) few hline (ld_blt I hg hm b.base.boot ?_ b.base.nm b.base.nd)
  obtain ⟨m, fr⟩ := I.fr
  refine PySem.W.method_type fr I.ok.mod.kin b.base.ty b.base.stub vV (by cases b <;> decide +kernel) ?_
  show wpAny _ _ (callWith pos (Value.builtin b.initId) [] (backTo pos (starEach [e] X.env)) []) _ _ _
  have pa := pa_cons p3 (pa_nil (X := X)) (star_cons p4)
  refine PyProof.Rows.callWith_method1 (thn (pa.run pos pins _ σ H (fun vs H1 => vs = [.ref a] ∧ H1 = H) (I.tok _) ⟨.ref a, h0, rfl, rfl⟩) fun us s1 ⟨vs, H1, I1, r1, ev, eH⟩ => ?_) (star_cons p4) rfl
  subst ev eH
  cases r1 with
  | @cons _ u0 _ ur ra rw' =>
    obtain rfl : u0 = Value.ref a := ra
    cases rw'
    exact x_init T I1 ha (by simp) fun s' J => ⟨.non, H1, J, rfl, q⟩
end
end HI
set_option Elab.async false
set_option linter.all false
set_option maxRecDepth 100000
set_option maxHeartbeats 4000000
/-! HiExc4: an own base's __init__; the promise of such an __init__. -/
namespace HI
open PySem PySem.Spec PyProof.Rows L2

/-- of a class: its __init__ is called by the class's name -/
structure ByName (K : PySem.W.Frag) (C fI : Addr) : Prop where
  kp : PySem.W.keepIn K (.ref fI) = true
  fc : PySem.W.findCls K (.ref C) (.type "type") "__init__" = some (.val (.ref fI))
  rd : PySem.W.readsIn K C (.type "type") = true
  sg : PySem.W.specialIn K (.ref C) "__getattribute__" = some (some (.builtin "type.__getattribute__"))
section
variable {X : Cx} {b : XB} {np k : Nat} {fl : Flds} {C0 fI : Addr}
def tOInit (b : XB) (np : Nat) (fl : Flds) (ss : List Src) : TE := fun σ H Q => ∃ a C ws, AtI σ a ws ∧ ss.all (Src.ok ws.length) = true ∧ ss.length = np ∧ ExC X.K b C ∧ (∀ p ∈ fl, PySem.W.findIn X.K (.ref C) p.1 = some none) ∧ H a = some (exo a C none) ∧
  ∀ dx, H dx = none → dx ≠ a → Q .non (upd (upd H dx (exd dx (fldV fl (ss.map (Src.v ws))))) a (exo a C (some dx)))
theorem pe_oinit (A : ExAt X.prog X.w X.K X.mg X.base k b np fl C0 fI) (B : ByName X.K C0 fI) (hr : Room k X.A) {x : Str} {e : Expr} {es : List Expr} {ss : List Src} {p1 p2 pos : Pos} (hg : Gl X x) (hm : X.mg x = some (.ref C0)) (hdb : (x == ("__debug__" : Str)) = false)
    (hs : chkSelf X.N X.env.scope e = true) (ha : chkSrcs X.N X.env.scope es ss = true) (hl : es.length < 28) (hst : ∀ e ∈ es, notStar e = true) (hline : (p2.endLine == pos.line) = true) :
    PE X (.Call (.Attribute (.Name x p1) "__init__" p2) (e :: es) [] pos) (tOInit (X := X) b np fl ss) := by
  obtain ⟨p3, p4⟩ := pe_self hs
  obtain ⟨fd, ps, F, hb⟩ := A.fn
  have stars : ∀ {es : List Expr}, (∀ e ∈ es, notStar e = true) → (backTo pos (starEach es X.env)).any (·.1) = false := by
    intro es
    induction es with
    | nil => intro _; rfl
    | cons c es ih =>
      intro h
      rw [star_cons (h c List.mem_cons_self)]
      show (false || (backTo pos (starEach es X.env)).any (·.1)) = false
      rw [ih fun e he => h e (List.mem_cons_of_mem _ he)]; rfl
  have few : methodCallForm ((e :: es).length + ([] : List Keyword).length) (backTo pos (starEach (e :: es) X.env)) (backToKw pos (keywordEach [] X.env)) = true := by
    have h1 : (backTo pos (starEach (e :: es) X.env)).any (·.1) = false := by
      rw [star_cons p4]
      show (false || (backTo pos (starEach es X.env)).any (·.1)) = false
      rw [stars hst]; rfl
    have h2 : ((backTo pos (starEach (e :: es) X.env)).all (fun x => !x.1) && (backToKw pos (keywordEach [] X.env)).all (fun x => x.1.isSome)
        && decide ((e :: es).length + ([] : List Keyword).length + (if ([] : List Keyword).isEmpty then 0 else 1) < 30)) = true := by
      rw [any_all_not _ _ h1]
      have : (e :: es).length + ([] : List Keyword).length + (if ([] : List Keyword).isEmpty then 0 else 1) < 30 := by simp; omega
      rw [decide_eq_true this]; rfl
    exact h2
  refine ⟨fun pins s σ H Q I ⟨a, C, ws, hA, hok, hn, T, hno, hx, q⟩ => ?_⟩
  refine meth_node (base_ok rfl _ _ _) few hline (ld_glob I hg hm ?_ hdb)
  refine PySem.W.method_cls I.kIn B.sg (PySem.W.cls_value I.kIn B.rd B.fc rfl ?_)
  have pa := pa_cons p3 (pa_srcs ha) (star_cons p4)
  refine PySem.W.callWith_K (h₀ := X.base) I.ok.mod.kin B.kp (thn (pa.run pos pins _ σ H (fun vs H1 => vs = .ref a :: ss.map (Src.v ws) ∧ H1 = H) (I.tok _) ⟨.ref a, by unfold AtI at hA; rw [hA]; rfl, a, ws, hA, hok, rfl, rfl⟩) fun us s1 ⟨vs, H1, I1, r1, ev, eH⟩ => ⟨I1.kIn, ?_⟩) (star_cons p4) (stars hst)
  subst ev eH
  have hq : spX X.K b np fl (V.ref a :: ss.map (Src.v ws)) H1 Q (fun _ _ _ => False) := ⟨a, C, ss.map (Src.v ws), rfl, by rw [List.length_map]; exact hn, T, hno, hx, q⟩
  have hl' : us.length = ps.length := by rw [← r1.length]; exact F.len _ _ _ _ hq
  have bb := hb s1 us I1.kIn (by rw [List.append_nil]; exact hl')
  rw [List.append_nil] at bb
  refine wpAny_call (codeAny_mono (F.run X.A X.stack s1 H1 ⟨us, []⟩ us _ Q (fun _ _ _ => False) hr I1.env0 bb r1 hq) fun r s' hq => ?_)
  cases r with
  | error er =>
    obtain ⟨_, _, _, _, _, _, _, _, _, _, _, _, z⟩ := hq
    exact z.elim
  | ok fl =>
    cases fl with
    | ret u => exact I1.after hq
    | next => exact False.elim hq
    | brk => exact False.elim hq
    | cont => exact False.elim hq
end

/-! ### the promise -/
def Src.sub (args : List Src) : Src → Src
  | .arg i => args.getD i (.txt "")
  | s => s
theorem Src.sub_v (args : List Src) (ws : List V) (s : Src) (h : s.ok args.length = true) : (s.sub args).v ws = s.v (args.map (Src.v ws)) := by
  cases s with
  | txt x => rfl
  | arg i =>
    have hi : i < args.length := of_decide_eq_true h
    show (args.getD i (.txt "")).v ws = (args.map (Src.v ws)).getD i .non
    rw [List.getD_eq_getElem?_getD, List.getD_eq_getElem?_getD, List.getElem?_map, List.getElem?_eq_getElem hi]; rfl
/-- an __init__'s text against what is said of it; cn: the classes' names -/
def chkIni (P : Prog) (cn : List Str) (bn : List Str) (N : List Str) (sc : Scope) (body : List Stmt) (C : ExcDef) : Bool :=
  match body with
  | .Expr (.Call (.Attribute (.Name x _) m p2) (e :: es) [] pos) _ :: sts => decide (m = "__init__") && glB sc x && !(x == ("__debug__" : Str)) && chkSelf N sc e && (p2.endLine == pos.line) && chkAsg N sc sts C.asg && decide (C.asg.length ≤ 400) && C.asg.all (fun p => p.2.ok C.args) &&
    (match C.own with
    | none => decide (x = (C.base.nm : Str)) && es.isEmpty && !C.asg.isEmpty && decide (C.flds = C.asg.reverse) && bn.contains x
    | some (j, args) => decide (cn[j]? = some x) && chkSrcs N sc es args && decide (es.length < 28) && es.all notStar && args.all (Src.ok C.args) && (match P.exc[j]? with
      | some B => decide (B.base = C.base) && decide (args.length = B.args) && B.flds.all (fun p => p.2.ok B.args) && decide (B.flds.length ≤ 400) && decide (C.flds = C.asg.reverse ++ B.flds.map fun p => (p.1, p.2.sub args))
      | none => false))
  | _ => false
theorem init_fn {P : Prog} {cn bn : List Str} {Pg : Program} {w : World} {K : PySem.W.Frag} {mg : Str → Option Value} {base : Heap} {T : Tab} {ini : Nat → Addr} {k : Nat} {f : Addr} {name qual : Str} {params : Arguments} {body : List Stmt} {scope : Scope} {dV kV doc pm cdv ct oc : Value} {an od : Option Addr}
    {osl : Array (Option Value)} {N : List Str} {C : ExcDef} (lk : K.lookup f = some ⟨oc, od, .func (PySem.W.fnOf name qual params body scope dV kV doc pm an cdv ct), osl⟩) (hcd : PySem.W.codeIn K cdv qual = true) (S : FnScope N N scope)
    (hN : N.length = C.args + 1) (hc : chkIni P cn bn N scope body C = true) (hb : PySem.W.findCls K (.type C.base.nm) (.type "type") "__init__" = some (.val (.builtin C.base.initId))) (hbn : ∀ x ∈ bn, mg x = none)
    (hcn : ∀ j x, cn[j]? = some x → mg x = some (.ref (T.exA j))) (hby : ∀ j, j < P.exc.length → ByName K (T.exA j) (ini j))
    (hown : ∀ j args B, C.own = some (j, args) → P.exc[j]? = some B → ExAt Pg w K mg base k B.base B.args B.flds (T.exA j) (ini j)) :
    FnOk Pg w K mg base (L2.CX Pg w) (k + 1) f (PySem.W.fnOf name qual params body scope dV kV doc pm an cdv ct) N (spX K C.base C.args C.flds) := by
  refine fn_of lk hcd S (fun vs H Q E ⟨a, Ca, ws, e, hl, _⟩ => by rw [e, List.length_cons, hl, hN]) fun A outer s H vs Q E hr ⟨a, Ca, ws, ev, hl, T0, hno, ha, q⟩ => ?_
  subst ev
  have hst : AtI (L2.start N (.ref a :: ws)) a ws := by
    unfold AtI L2.start
    rw [show N.length - (V.ref a :: ws).length = 0 by rw [hN, List.length_cons, hl]; omega]
    simp
  have hok : C.asg.all (fun p => p.2.ok ws.length) = true → True := fun _ => trivial
  unfold chkIni at hc
  split at hc
  · rename_i x p1 m p2 e es pos ep sts
    simp only [Bool.and_eq_true, decide_eq_true_eq, Bool.not_eq_true'] at hc
    obtain ⟨⟨⟨⟨⟨⟨⟨⟨h1, h2⟩, h3⟩, h4⟩, h5⟩, h6⟩, h7⟩, h8⟩, h9⟩ := hc
    subst h1
    have hg : ∀ X : Cx, X.env.scope = scope → Gl X x := fun X e => glB_ok (by rw [e]; exact h2)
    split at h9
    · rename_i hown'
      simp only [Bool.and_eq_true, decide_eq_true_eq, Bool.not_eq_true'] at h9
      obtain ⟨⟨⟨⟨k1, k2⟩, k3⟩, k4⟩, k5⟩ := h9
      have hes : es = [] := by cases es <;> first | rfl | cases k2
      subst hes
      have hne : C.asg ≠ [] := fun z => by rw [z] at k3; cases k3
      refine ⟨_, pss_cons (ps_expr (pe_binit (b := C.base) k1 (hg _ rfl) (hbn x (by simpa using k5)) hb h4 h5) rfl) (pss_first (b := C.base) h6 hne), ?_⟩
      refine ⟨a, Ca, by unfold AtI at hst; rw [hst]; rfl, T0, ha, ?_⟩
      refine ⟨a, Ca, ws, hst, by rw [hl]; exact h8, T0, fun p hp => hno p (by rw [k4]; exact List.mem_reverse.mpr hp), ha, by omega, fun dx n ne => ?_⟩
      have := q dx n ne
      rw [k4] at this
      rw [putAll_eq, List.append_nil]
      exact this
    · rename_i j args hown'
      simp only [Bool.and_eq_true, decide_eq_true_eq, Bool.not_eq_true'] at h9
      obtain ⟨⟨⟨⟨⟨k1, k2⟩, k3⟩, k4⟩, k5⟩, k6⟩ := h9
      split at k6
      · rename_i B hB
        simp only [Bool.and_eq_true, decide_eq_true_eq] at k6
        obtain ⟨⟨⟨⟨m1, m2⟩, m3⟩, m4⟩, m5⟩ := k6
        have hj : j < P.exc.length := (List.getElem?_eq_some_iff.mp hB).1
        have AB := hown j args B hown' hB
        rw [m1] at AB
        refine ⟨_, pss_cons (ps_expr (pe_oinit AB (hby j hj) hr (hg _ rfl) (hcn j x k1) h3 h4 k2 k3 (fun e he => by simpa using List.all_eq_true.mp k4 e he) h5) rfl) (pss_more (b := C.base) h6), ?_⟩
        refine ⟨a, Ca, ws, hst, by rw [hl]; exact k5, m2, T0, fun p hp => ?_, ha, fun dx n ne => ?_⟩
        · exact hno (p.1, p.2.sub args) (by rw [m5]; exact List.mem_append_right _ (List.mem_map.mpr ⟨p, hp, rfl⟩))
        · have ef : fldV B.flds (args.map (Src.v ws)) = fldV (B.flds.map fun p => (p.1, p.2.sub args)) ws := by
            unfold fldV
            rw [List.map_map]
            apply List.map_congr_left
            intro p hp
            have hp2 := List.all_eq_true.mp m3 p hp
            show (p.1, p.2.v (args.map (Src.v ws))) = (p.1, (p.2.sub args).v ws)
            rw [Src.sub_v args ws p.2 (by rw [m2]; exact hp2)]
          rw [ef]
          refine ⟨a, Ca, dx, _, ws, hst, by rw [hl]; exact h8, T0, fun p hp => hno p (by rw [m5]; exact List.mem_append_left _ (List.mem_reverse.mpr hp)), upd_same, by rw [upd_ne ne, upd_same], ne, ?_, ?_⟩
          · unfold fldV; rw [List.length_map, List.length_map]; omega
          · have := q dx n ne
            rw [m5] at this
            rw [putAll_eq]
            have e2 : fldV (C.asg.reverse ++ B.flds.map fun p => (p.1, p.2.sub args)) ws = fldV C.asg.reverse ws ++ fldV (B.flds.map fun p => (p.1, p.2.sub args)) ws := by unfold fldV; rw [List.map_append]
            rw [e2] at this
            have eH : upd (upd (upd H dx (exd dx (fldV (B.flds.map fun p => (p.1, p.2.sub args)) ws))) a (exo a Ca (some dx))) dx (exd dx (fldV C.asg.reverse ws ++ fldV (B.flds.map fun p => (p.1, p.2.sub args)) ws)) = upd (upd H dx (exd dx (fldV C.asg.reverse ws ++ fldV (B.flds.map fun p => (p.1, p.2.sub args)) ws))) a (exo a Ca (some dx)) := by
              funext c
              by_cases h1 : c = dx
              · rw [h1, upd_same, upd_ne ne, upd_same]
              · rw [upd_ne h1]
                by_cases h2 : c = a
                · rw [h2, upd_same, upd_same]
                · rw [upd_ne h2, upd_ne h1, upd_ne h2, upd_ne h1]
            rw [eH]
            exact this
      · cases k6
  · cases hc
end HI
set_option Elab.async false
set_option linter.all false
set_option maxRecDepth 100000
set_option maxHeartbeats 4000000
/-! HiDict: a dict's display. -/
namespace HI
open PySem PySem.Spec PyProof.Rows L2

/-- a display's keys are these -/
def keyE : Key → Option Expr → Bool
  | .inr z, some (.Constant (.str y) _ _) => decide (z = y)
  | .inl i, some (.Constant (.int j) _ _) => decide (i = j)
  | _, _ => false
def keysE : List Key → List (Option Expr) → Bool
  | [], [] => true
  | k :: ks, e :: es => keyE k e && keysE ks es
  | _, _ => false
section
variable {X : Cx} {T : Tab} {W : WX}
theorem keyE_ok {k : Key} {e : Option Expr} (h : keyE k e = true) : ∃ x, e = some x ∧ PE X x (tC (kV k)) := by
  unfold keyE at h
  split at h
  · have h := of_decide_eq_true h; subst h; exact ⟨_, rfl, pe_str⟩
  · have h := of_decide_eq_true h; subst h; exact ⟨_, rfl, pe_int⟩
  · cases h
def trsOf (X : Cx) (T : Tab) (W : WX) : List Key → List (Env → Store → R D) → List (TE × TE)
  | k :: ks, f :: fs => (tC (kV k), tI X T W f) :: trsOf X T W ks fs
  | _, _ => []
theorem pps_of : ∀ {ks : List Key} {keys : List (Option Expr)} {values : List Expr} {fs : List (Env → Store → R D)} {pos : Pos}, keysE ks keys = true → keys.length = values.length → PEs X T W values fs → PPs X pos keys values (trsOf X T W ks fs)
  | [], [], [], [], _, _, _, _ => pps_nil
  | [], [], _ :: _, _, _, _, hl, _ => by simp at hl
  | [], [], [], _ :: _, _, _, _, p => by cases p
  | [], _ :: _, _, _, _, h, _, _ => by cases h
  | _ :: _, [], _, _, _, h, _, _ => by cases h
  | _ :: _, _ :: _, [], _, _, _, hl, _ => by simp at hl
  | k :: ks, e :: es, v :: vs, fs, pos, h, hl, p => by
    have h : (keyE k e && keysE ks es) = true := h
    rw [Bool.and_eq_true] at h
    obtain ⟨x, rfl, hx⟩ := keyE_ok (X := X) h.1
    cases p with
    | cons h1 _ h2 => exact pps_cons hx h1 (pps_of h.2 (by simpa using hl) h2)
theorem keysE_all : ∀ {ks : List Key} {keys : List (Option Expr)}, keysE ks keys = true → keys.all (·.isSome) = true ∧ keys.length = ks.length
  | [], [], _ => ⟨rfl, rfl⟩
  | [], _ :: _, h => by cases h
  | _ :: _, [], h => by cases h
  | k :: ks, e :: es, h => by
    have h : (keyE k e && keysE ks es) = true := h
    rw [Bool.and_eq_true] at h
    obtain ⟨a, b⟩ := keysE_all h.2
    refine ⟨?_, by simp [b]⟩
    rw [List.all_cons, a, Bool.and_true]
    have h1 := h.1
    cases e with
    | some _ => rfl
    | none => cases k <;> cases h1
theorem valV_none {κ : Type} [DecidableEq κ] : ∀ {kvs : List (κ × V)} {k : κ}, k ∉ kvs.map (·.1) → valV kvs k = none
  | [], _, _ => rfl
  | p :: r, k, h => by
    simp only [List.map_cons, List.mem_cons, not_or] at h
    rw [valV_neg (fun z => h.1 z.symm)]
    exact valV_none h.2
theorem mergeK_app : ∀ (more acc : List (Key × V)), ((acc ++ more).map (·.1)).Nodup → mergeK acc more = acc ++ more
  | [], acc, _ => by rw [List.append_nil]; rfl
  | p :: r, acc, h => by
    show mergeK (putK acc p.1 p.2) r = _
    have hp : p.1 ∉ acc.map (·.1) := fun z => by
      rw [List.map_append, List.map_cons] at h
      exact (List.nodup_append.mp h).2.2 _ z _ (List.mem_cons_self) rfl
    rw [putK_new p.2 (valV_none hp), mergeK_app r (acc ++ [(p.1, p.2)]) (by rw [List.append_assoc]; exact h), List.append_assoc]
    rfl
theorem mergeK_zip {ks : List Key} {vs : List V} (hn : ks.Nodup) (hl : ks.length = vs.length) : mergeK [] (ks.zip vs) = ks.zip vs := by
  have := mergeK_app (ks.zip vs) [] (by
    rw [List.nil_append, List.map_fst_zip (by omega)]
    exact hn)
  simpa using this
/-- the values, the new dict held -/
theorem pairs_run {α β : Type} {rep : Mem → α → β → Prop} {p : Addr} {o : HO} {σ : L2.St} {Qb : β → Hp → Prop} :
    ∀ {ks : List Key} {fs : List (Env → Store → R D)} {H : Hp} {env : Env} {S : Store} {m : Mem} {g : List D → Store → R α} {Qp : List (V × V) → Hp → Prop}, ks.length = fs.length →
      SRc X.K T (m.hold p o) S H → EnvOk X.K T X.pn m env σ → m.fz p = none → m.fr p = none → PostR X.K T rep W m σ Qb ((evAll fs env S).bind g) →
      (∀ H' S' m' ds vs, Le m m' → SRc X.K T (m'.hold p o) S' H' → m'.fz p = none → m'.fr p = none → Reps X.K T m' ds vs → ds.length = ks.length → PostR X.K T rep W m' σ Qb (g ds S') → Qp ((ks.zip vs).map fun kv => (kV kv.1, kv.2)) H') →
      tPairs (trsOf X T W ks fs) σ H Qp
  | [], [], H, env, S, m, g, Qp, _, hs, he, hz, hf, h, k => k H S m [] [] (Le.refl m) hs hz hf Reps.nil rfl h
  | [], _ :: _, _, _, _, _, _, _, hl, _, _, _, _, _, _ => by simp at hl
  | _ :: _, [], _, _, _, _, _, _, hl, _, _, _, _, _, _ => by simp at hl
  | c :: ks, f :: fs, H, env, S, m, g, Qp, hl, hs, he, hz, hf, h, k => by
    show tI X T W f σ H _
    have h : PostR X.K T rep W m σ Qb (((f env S).bind fun x S1 => (evAll fs env S1).bind fun xs S2 => .ok (x :: xs) S2).bind g) := h
    rw [R.bind_assoc] at h
    refine ⟨env, S, m.hold p o, hs, EnvOk.monoF (m := m) ⟨Same.refl m.fz, fun _ _ q => q⟩ he, ?_⟩
    refine PostR.imp (fun y H1 z => ?_) (PostR.bindH (rep' := Rep X.K T) (a := p) (o := o) hf (fun n fr c d q => repFr n fr c d q) h)
    obtain ⟨d, S1, m1, l1, hs1, hz1, hf1, hr1, h1⟩ := z
    rw [R.bind_assoc] at h1
    refine pairs_run (g := fun xs S2 => g (d :: xs) S2) (by simpa using hl) hs1 (he.mono l1) (hz1 hz) hf1 h1 fun H2 S2 m2 ds vs l2 hs2 hz2 hf2 hr2 hlen h2 => ?_
    exact k H2 S2 m2 (d :: ds) (y :: vs) (l1.trans l2) hs2 hz2 hf2 (.cons (Rep.mono l2 _ _ hr1) hr2) (by simp [hlen]) h2
theorem ok_dict {ks : List Key} {keys : List (Option Expr)} {values : List Expr} {fs : List (Env → Store → R D)} {pos : Pos} (hk : keysE ks keys = true) (hl : keys.length = values.length) (h15 : keys.length ≤ 15) (p : PEs X T W values fs) :
    PE X (.Dict keys values pos) (tI X T W fun env S => (evAll fs env S).bind fun xs S1 => evOp (.dK ks) xs S1) := by
  have hfl : ∀ {es : List Expr} {fs : List (Env → Store → R D)}, PEs X T W es fs → es.length = fs.length := by
    intro es fs p
    induction p with
    | nil => rfl
    | cons _ _ _ ih => simp [ih]
  obtain ⟨hall, hkl⟩ := keysE_all hk
  have hfl := hfl p
  by_cases h0 : keys = []
  · subst h0
    cases values with
    | cons _ _ => simp at hl
    | nil =>
      cases ks with
      | cons _ _ => simp at hkl
      | nil =>
        cases p
        refine PE.of pe_dnewK fun σ H Q ⟨env, S, m, hs, hen, hp⟩ => ?_
        intro a hn
        have hp : PostR X.K T (Rep X.K T) W m σ Q (.ok (.dK [] []) S) := hp
        obtain ⟨h1, l⟩ := hs.add (o := .dK []) hn
        exact hp.valLe l h1 ⟨a, [], rfl, upd_same, rfl, Reps.nil⟩
  · refine PE.of (pe_disp (pps_of hk hl p) hall hl h0 h15) fun σ H Q ⟨env, S, m, hs, hen, hp⟩ => ?_
    intro a hn
    refine pairs_run (by rw [← hkl, hl, hfl]) (hs.hold hn) hen (hs.fzNone hn) (hs.frNone hn) hp fun H2 S2 m2 ds vs l2 hs2 hz2 hf2 hr2 hlen h2 => ?_
    refine ⟨hs2.holdAt, ks.zip vs, rfl, by rw [List.length_zip]; omega, ?_⟩
    have h2 : PostR X.K T (Rep X.K T) W m2 σ Q (if ks.length = ds.length ∧ ks.Nodup ∧ ks.length ≤ 15 then .ok (.dK ks ds) S2 else .bad) := h2
    obtain ⟨⟨e1, e2, e3⟩, h2⟩ := PostR.ite h2
    have e4 : ks.length = vs.length := by rw [e1, hr2.length]
    rw [mergeK_zip e2 e4]
    have hs3 := hs2.holdPut (o' := .dK (ks.zip vs)) hz2
    obtain ⟨h4, l4⟩ := hs3.holdFin hz2 hf2
    exact h2.valLe l4 h4 ⟨a, vs, rfl, upd_same, e4, Reps.mono l4 _ _ hr2⟩
end
end HI
set_option Elab.async false
set_option linter.all false
set_option maxRecDepth 100000
set_option maxHeartbeats 4000000
/-! HiZip: dict(zip(xs, ys)). -/
namespace HI
open PySem PySem.Spec PyProof.Rows L2

theorem keysOf_len : ∀ {ds : List D} {ks : List Key}, keysOf ds = some ks → ks.length = ds.length
  | [], _, h => by cases h; rfl
  | d :: ds, ks, h => by
    unfold keysOf at h
    split at h
    · rename_i k ks' e1 e2
      cases h
      simp [keysOf_len e2]
    · cases h
section
variable {K : PySem.W.Frag} {T : Tab} {m : Mem}
theorem reps_take : ∀ {ds : List D} {vs : List V} (n : Nat), Reps K T m ds vs → Reps K T m (ds.take n) (vs.take n)
  | ds, vs, 0, _ => by rw [List.take_zero, List.take_zero]; exact Reps.nil
  | [], _, n + 1, h => by cases h; exact Reps.nil
  | d :: ds, vs, n + 1, ⟨v, ws, e1, h1, h2⟩ => by
    subst e1
    rw [List.take_succ_cons, List.take_succ_cons]
    exact .cons h1 (reps_take n h2)
end
theorem kv_zip : ∀ {ks : List Key} {vs : List V} {us : List Value}, ks.length = vs.length → Vals vs us → KV (ks.zip vs) (ks.zip us)
  | [], _, _, _, _ => by rw [List.zip_nil_left, List.zip_nil_left]; exact .nil
  | k :: ks, _, _, hl, .nil => by simp at hl
  | k :: ks, _, _, hl, .cons h t => by
    rw [List.zip_cons_cons, List.zip_cons_cons]
    exact .cons ⟨rfl, h⟩ (kv_zip (by simpa using hl) t)
theorem vals_take : ∀ {vs : List V} {us : List Value} (n : Nat), Vals vs us → Vals (vs.take n) (us.take n)
  | _, _, 0, _ => by rw [List.take_zero, List.take_zero]; exact .nil
  | _, _, n + 1, .nil => .nil
  | _, _, n + 1, .cons h t => by
    rw [List.take_succ_cons, List.take_succ_cons]
    exact .cons h (vals_take n t)
theorem key_rel {k : Key} {u : Value} (h : RelV (kV k) u) : keyIs k u = true := by
  cases k with
  | inl i => obtain ⟨t, rfl⟩ := h; exact keyIs_int i t
  | inr x => obtain ⟨t, rfl⟩ := h; exact keyIs_str x t
theorem keys_at : ∀ {ks : List Key} {us : List Value} (i : Nat) (u : Value), Vals (ks.map kV) us → us[i]? = some u → ∃ k, ks[i]? = some k ∧ keyIs k u = true
  | [], _, i, u, .nil, h => by simp at h
  | k :: ks, _, 0, u, .cons r t, h => by
    simp at h
    subst h
    exact ⟨k, rfl, key_rel r⟩
  | k :: ks, _, i + 1, u, .cons r t, h => by
    obtain ⟨k', e1, e2⟩ := keys_at i u t (by simpa using h)
    exact ⟨k', by simpa using e1, e2⟩
theorem zip_apart (n l l' : Nat) (h : l < n) (h' : l' < n) : ZipApart (n + 4) (n + 2) (n + 3) n (n + 1) l l' := by
  refine ⟨?_, ?_, ?_, ?_, ?_, ?_, ?_, ?_, ?_, ?_, ?_, ?_, ?_, ?_, ?_, ?_, ?_, ?_⟩ <;> (intro (z : (_ : Nat) = _); omega)
section
variable {X : Cx} {T : Tab} {W : WX}
theorem ok_dz (hc : X.calm = true) {a b : Expr} {fs : List (Env → Store → R D)} {p p2 pos pos2 : Pos} (he : PEs X T W [a, b] fs) (hg : Gl X "dict") (hm : X.mg "dict" = none) (hg2 : Gl X "zip") (hm2 : X.mg "zip" = none) :
    PE X (.Call (.Name "dict" p) [.Call (.Name "zip" p2) [a, b] [] pos2] [] pos) (tI X T W fun env S => (evAll fs env S).bind fun xs S1 => evOp .dz xs S1) := by
  refine ⟨fun pins s σ H Q I ⟨env, S, m, hs, hen, hp⟩ => ?_⟩
  have hn : notStar a = true := by cases he with | cons _ hn _ => exact hn
  have hst : (backTo pos2 (starEach [b] X.env)).any (·.1) = false := by cases he with | cons _ _ h => exact h.stars pos2
  refine Call_ (ld_blt I hg hm PyProof.Rows.boot_dict ?_)
  refine PyProof.Rows.callWith_type1 (PyProof.Rows.args_cons ?_ rfl) rfl rfl
  refine Call_ (ld_blt I hg2 hm2 PyProof.Rows.boot_zip ?_)
  refine PyProof.Rows.callWith_type1 (thn ((PEs.args he).run pos2 pins s σ H _ I ⟨env, S, m, hs, hen, PostR.bind (rep' := Reps X.K T) hp⟩) fun us s1 h1 => ?_) (star_cons hn) hst
  obtain ⟨vs, H1, I1, r1, ds, S1, m1, l1, hs1, hr1, h1⟩ := h1
  match ds, hr1, h1 with
  | [], _, h1 => exact h1.elim
  | [_], _, h1 => exact h1.elim
  | _ :: _ :: _ :: _, _, h1 => exact h1.elim
  | [d, e], hr1, h1 =>
    obtain ⟨v, _, rfl, k1, w, _, rfl, k2, rfl⟩ := hr1
    obtain ⟨xs, e1, h1⟩ := PostR.opt h1
    obtain ⟨ys, e2, h1⟩ := PostR.opt h1
    obtain ⟨ks, e3, h1⟩ := PostR.opt h1
    obtain ⟨⟨hnd, hsz⟩, h1⟩ := PostR.ite h1
    obtain ⟨l, ws, rfl, j1, j2⟩ := lstOf_rep hs1 k1 e1
    obtain ⟨l', ws', rfl, j3, j4⟩ := lstOf_rep hs1 k2 e2
    cases r1 with
    | cons ra rr =>
      cases rr with
      | cons rb rr =>
        cases rr
        cases ra
        cases rb
        obtain ⟨its, rv, pl, hz⟩ := I1.list (xs := ws) (.inl (.inl j1))
        obtain ⟨its', rv', pl', hz'⟩ := I1.list (xs := ws') (.inl (.inl j3))
        have hl1 : l < s1.heap.objs.size := let ⟨_, q, _⟩ := pl.isList; Heap.lt_size q
        have hl2 : l' < s1.heap.objs.size := let ⟨_, q, _⟩ := pl'.isList; Heap.lt_size q
        refine call_zip_2 pl.isList pl'.isList fun h' z1 z2 z3 z4 z5 z6 k0 => ?_
        refine PyProof.Rows.args_nil ?_
        have I2 : Inv X pins σ H1 { s1 with heap := h' } := I1.kept k0
        have hli : its.length = xs.length := by rw [← rv.length, ← j2.length]
        have hli' : its'.length = ys.length := by rw [← rv'.length, ← j4.length]
        have hkl := keysOf_len e3
        have hkl : ks.length = min xs.length ys.length := by rw [hkl, List.length_take]; omega
        have hkr : Vals (ks.map kV) (its.take (min xs.length ys.length)) := by
          rw [← keysOf_rep (X := X) (T := T) (reps_take _ j2) e3]
          exact vals_take _ rv
        have D : ZipApart (s1.heap.objs.size + 4) (s1.heap.objs.size + 2) (s1.heap.objs.size + 3) s1.heap.objs.size (s1.heap.objs.size + 1) l l' := zip_apart _ _ _ hl1 hl2
        refine PySem.call_dict_pairs (knd := mixKind X.prog X.w) (kvs := ks.zip (its'.take (min xs.length ys.length))) (PairArg.zip _ _ _ _ _ _ _ D its.toArray its'.toArray) (I1.ok.hd hc)
          ⟨z1, z2, ⟨_, _, z3⟩, z4, z5, pl.isList.at fun o e => k0 _ _ e, pl'.isList.at fun o e => k0 _ _ e⟩ ⟨by simp [hkl, hli, hli'], fun i key v hkv => ?_⟩ (by simp [hli, hli']; omega) fun h2 tk hd2 hk2 => ?_
        · obtain ⟨q1, q2⟩ := hkv
          rw [List.getElem?_toArray] at q1 q2
          have i1 := (List.getElem?_eq_some_iff.mp q1).1
          have i2 := (List.getElem?_eq_some_iff.mp q2).1
          have hi : i < min xs.length ys.length := by omega
          obtain ⟨k, g1, g2⟩ := keys_at i key hkr (by rw [List.getElem?_take_of_lt hi]; exact q1)
          refine ⟨k, ?_, g2⟩
          rw [List.getElem?_zip_eq_some]
          exact ⟨g1, by rw [List.getElem?_take_of_lt hi]; exact q2⟩
        · rw [merged_nil_of_nodup _ (by rw [List.map_fst_zip (by rw [List.length_take]; omega)]; exact hnd)] at hd2
          have kk : ∀ b o, s1.heap.get? b = some o → h2.get? b = some o := fun b o e => by
            have hb := Heap.lt_size e
            refine hk2 b o ?_ (k0 b o e)
            simp only [List.mem_cons, List.not_mem_nil, or_false]
            have hb : (b : Nat) < s1.heap.objs.size := hb
            rintro (z | z | z | z)
            · exact Nat.ne_of_lt (Nat.lt_of_lt_of_le hb (Nat.le_add_right _ _)) z
            · exact Nat.ne_of_lt (Nat.lt_of_lt_of_le hb (Nat.le_add_right _ _)) z
            · exact Nat.ne_of_lt hb z
            · exact Nat.ne_of_lt (Nat.lt_of_lt_of_le hb (Nat.le_add_right _ _)) z
          have hle : s1.heap.objs.size ≤ h'.objs.size := by
            have := Heap.lt_size z1
            omega
          have hn : H1 h'.objs.size = none := I1.hok.fresh hle
          have hz : (ks.zip (ws'.take (min xs.length ys.length))).length ≤ sizeLine := by rw [List.length_zip]; omega
          refine ⟨.ref h'.objs.size, _, I1.laid (a := h'.objs.size) (o := .dK (ks.zip (ws'.take (min xs.length ys.length)))) (t' := tk) kk hle (dk_new hz (beq_eq_false_iff_ne.mpr fun z => Nat.ne_of_gt (Nat.lt_of_lt_of_le I1.big hle) z) (kv_zip (by rw [List.length_take, hkl, ← j4.length]; omega) (vals_take _ rv')) hd2), rfl, ?_⟩
          obtain ⟨g1, g2⟩ := hs1.add (o := .dK (ks.zip (ws'.take (min xs.length ys.length)))) hn
          exact h1.valLe g2 g1 ⟨_, _, rfl, upd_same, by rw [List.length_take, hkl, ← j4.length]; omega, Reps.mono g2 _ _ (reps_take _ j4)⟩
end
end HI
set_option Elab.async false
set_option linter.all false
set_option maxRecDepth 100000
set_option maxHeartbeats 4000000
/-! HiSet: sets of ints: set(list), ==, -, &. -/
namespace HI
open PySem PySem.Spec PyProof.Rows L2

section
variable {P : Program} {w : World} {A : Around} {E : Value → Shared → Prop} {s : Shared}
set_option maxHeartbeats 8000000 in
theorem call_set_listI {l : Addr} {items : Array Value} (ns : List Int) {Q : Value → Shared → Prop} (hh : A.handled = none) (hl : s.heap.IsList l items) (hit : IntsAre items.toList ns) (hb : ns.length + 1 < scanBound)
    (h : ∀ (h' : Heap) (tk c : Nat), SetR w h' s.heap.objs.size (fun j => decide (j ∈ ns)) c → c ≤ ns.length → (∀ b o, s.heap.get? b = some o → h'.get? b = some o) → Q (.ref s.heap.objs.size) { s with heap := h', toks := tk }) :
    wpAny (model P w) A (PySem.call (.type "set") [.ref l]) Q E s := by
  have hisz : items.size = ns.length := by
    have q := IntsAre.length hit
    rw [Array.length_toList] at q
    exact q
  obtain ⟨c, tl, hmro⟩ := F.called_set.mro
  have hmade := F.called_set.made
  have hsub := F.called_set.sub
  refine wpAny_call (codeAny_of_tree ?_)
  show wpAny _ _ (callAny (.type "set") _) _ _ _
  refine wpAny_pure ⟨Code.quiet_builtin _ (by decide +kernel), codeAny_builtin F.entry_type_call ?_⟩
  rw [Around.under_plain (weight_type_call_type "set" [.ref l] []) rfl]
  have h1 := F.called_set.notType
  have h2 := F.called_set.canCreate
  have hct := F.typeCall_set_1 (.ref l)
  repeat (any_goals (first | assumption | wp_step))
  refine codeAny_mono (code_set_led1 (.ref l) (E := E) (Q₁ := fun obj s₁ => obj = .ref s.heap.objs.size ∧ s₁ = { s with heap := s.heap.push { cls := .type "set", dict := none, data := .set #[] 0 (.fresh 0 0 (!w.params.followText "set-order")) } }) ⟨rfl, rfl⟩) fun r s₁ hr => ?_
  cases r with
  | error e => exact hr
  | ok fl =>
    cases fl with
    | ret obj =>
      obtain ⟨rfl, rfl⟩ := hr
      have hS : (s.heap.push { cls := .type "set", dict := none, data := .set #[] 0 (.fresh 0 0 (!w.params.followText "set-order")) }).get? s.heap.objs.size = some { cls := .type "set", dict := none, data := .set #[] 0 (.fresh 0 0 (!w.params.followText "set-order")) } := Heap.get?_push_size _ rfl
      have hT : Shared.TypeIs { s with heap := s.heap.push { cls := .type "set", dict := none, data := .set #[] 0 (.fresh 0 0 (!w.params.followText "set-order")) } } (.ref s.heap.objs.size) "set" := ⟨_, hS, rfl⟩
      have hli := F.called_set.init.lookup
      have hbi := F.called_set.init.bind (.ref s.heap.objs.size)
      repeat (any_goals (first | assumption | wp_step))
      refine codeAny_mono (codeAny_call_builtin (R := wants (fun r s₂ => r = .none ∧ ∃ h' tk c, s₂ = { s with heap := h', toks := tk } ∧ SetR w h' s.heap.objs.size (fun j => decide (j ∈ ns)) c ∧ c ≤ ns.length ∧
          (∀ b o, s.heap.get? b = some o → h'.get? b = some o)) E) F.called_set.init.plain F.entry_set_init (check_set_init_1 hT ?_)) fun r₂ s₂ hr₂ => ?_
      · obtain ⟨ol, hol, hcl, nl, hdl⟩ := hl
        obtain ⟨ocls, odict, odata, oslots⟩ := ol
        simp only at hcl hdl
        subst hcl; subst hdl
        have hol' : (s.heap.push { cls := .type "set", dict := none, data := .set #[] 0 (.fresh 0 0 (!w.params.followText "set-order")) }).get? l = some { cls := .type "list", dict := odict, data := .seq items nl, slots := oslots } := Heap.get?_push_of_some _ hol
        have hsls := F.sub_list_set
        have hslf := F.sub_list_frozenset
        have hne : (Value.type "list" == Value.type "dict") = false := by decide
        have hl1 : (s.heap.push { cls := .type "set", dict := none, data := .set #[] 0 (.fresh 0 0 (!w.params.followText "set-order")) }).IsList l items := ⟨_, hol', rfl, nl, rfl⟩
        unfold Builtin.«set.__init__» noKeywords Builtin.Frozenset.updateFrom
        generalize hPI : pyIter = PI
        wp_walk
        subst hPI
        refine wpAny_pyIter_list hl1 ?_
        refine wpAny_bind (wpAny_runValue ?_)
        have hlS : l < s.heap.objs.size := Heap.lt_size hol
        have hh3 : A.in1.in1.in1.handled = none := by simp [hh]
        have hz1 : (s.heap.push { cls := .type "set", dict := none, data := .set #[] 0 (.fresh 0 0 (!w.params.followText "set-order")) }).objs.size = s.heap.objs.size + 1 := Heap.size_push ..
        have hneI : l ≠ (s.heap.push { cls := .type "set", dict := none, data := .set #[] 0 (.fresh 0 0 (!w.params.followText "set-order")) }).objs.size := by
          rw [Heap.size_push]; exact Nat.ne_of_lt (Nat.lt_succ_of_lt hlS)
        have hSf : s.heap.objs.size ∉ [(s.heap.push { cls := .type "set", dict := none, data := .set #[] 0 (.fresh 0 0 (!w.params.followText "set-order")) }).objs.size, l] := by
          rw [Heap.size_push]; simp only [List.mem_cons, List.mem_singleton, List.not_mem_nil, or_false, not_or]
          exact ⟨Nat.ne_of_lt (Nat.lt_succ_self _), Nat.ne_of_gt hlS⟩
        have hval : ∀ (i : Nat) (v : Value), items[i]? = some v → ∃ k t, ns[i]? = some k ∧ v = .int k t := fun i v hv => by
          have hi : i < ns.length := by rw [← hisz]; exact (Array.getElem?_eq_some_iff.mp hv).1
          obtain ⟨t, e⟩ := PyProof.Rows.IntsAre.int_at hit i v (by rw [Array.getElem?_toList]; exact hv)
          refine ⟨ns[i], t, List.getElem?_eq_getElem hi, ?_⟩
          rw [e, List.getD_eq_getElem?_getD, List.getElem?_eq_getElem hi] <;> rfl
        refine set_update_ints ((Walks.list hh3 _ l hneI items).toS) s.heap.objs.size
          hSf ns hisz hb hval (items.size - 0) 0 _ (by omega) (Nat.zero_le _)
          ⟨⟨_, Heap.get?_push_size _ rfl, rfl, rfl⟩, (hl1.push _)⟩ ?hS0 ?hR
        case hS0 =>
          have hget : ((s.heap.push { cls := .type "set", dict := none, data := .set #[] 0 (.fresh 0 0 (!w.params.followText "set-order")) }).push { cls := .type "list_iterator", data := .fields #[.ref l, .int 0 0] }).get? s.heap.objs.size
              = some { cls := .type "set", dict := none, data := .set #[] 0 (.fresh 0 0 (!w.params.followText "set-order")) } := Heap.get?_push_of_some _ hS
          exact ⟨0, Nat.le_refl 0, setR_new_at hget⟩
        case hR =>
          intro s' c' hm hc' hS'
          obtain ⟨h', g2, d', tk', os'⟩ := s'
          have eg : g2 = s.gens := hm.gens
          have ed : d' = s.drawn := hm.drawn
          have eo : os' = s.os := hm.os
          subst eg; subst ed; subst eo
          show wpAny _ _ _ _ _ _
          refine wpAny_pure ?_
          show wpAny _ _ (ret Value.none) _ _ _
          rw [hisz] at hc'
          refine wpAny_pure ⟨rfl, h', tk', c', rfl, hS', hc', fun b o e => ?_⟩
          have hb0 : b < s.heap.objs.size := Heap.lt_size e
          have hb1 : b ≠ s.heap.objs.size := Nat.ne_of_lt hb0
          have hb2 : b ≠ (s.heap.push { cls := .type "set", dict := none, data := .set #[] 0 (.fresh 0 0 (!w.params.followText "set-order")) }).objs.size := by
            rw [Heap.size_push]; exact Nat.ne_of_lt (Nat.lt_succ_of_lt hb0)
          exact hm.heap b o (by simp only [List.mem_cons, List.mem_singleton, List.not_mem_nil, or_false, not_or]; exact ⟨hb1, hb2⟩) (Heap.get?_push_of_some _ (Heap.get?_push_of_some _ e))
      · cases r₂ with
        | error e => exact hr₂
        | ok fl₂ =>
          cases fl₂ with
          | ret r =>
            obtain ⟨rfl, h', tk, c', rfl, hS', hc', hk'⟩ := hr₂
            repeat (any_goals (first | assumption | wp_step))
            exact h _ _ _ hS' hc' hk'
          | _ => exact hr₂.elim
    | _ => exact hr.elim

/-! ### the walk of a set -/
theorem setWalk_at {a : Addr} {es : Array (Int × Value)} {ep : Nat} {t : SetTable} {o : Obj} {Q : Array (Int × Value) → Shared → Prop} (ho : s.heap.get? a = some o) (hd : o.data = .set es ep t) (hf : t.fits es.size = true)
    (hl : w.params.followText "set-order" = true ∨ t.led = true) (h : ∀ es' d, es'.toList.Perm es.toList → Q es' { s with drawn := d }) : wpAny (model P w) A (setWalk a) Q E s := by
  unfold setWalk
  refine wpAny_bind (wpAny_setState_of ho hd hf ?_)
  dsimp only
  refine wpAny_bind (wpAny_byText ?_)
  cases hb : w.params.followText "set-order" with
  | true =>
    refine wp_if_pos rfl ?_
    exact wpAny_bind (wpAny_askSetting (wpAny_pure (h _ s.drawn (pick_perm _ es))))
  | false =>
    have hled : t.led = true := hl.resolve_left (by rw [hb]; exact Bool.false_ne_true)
    refine wp_if_neg Bool.false_ne_true ?_
    try refine wpAny_bind (wpAny_pure ?_)
    cases hdr : (!t.plain && decide (es.size > 1)) with
    | true =>
      refine wp_if_pos hdr ?_
      refine wpAny_bind (drawOrder_at _ _ _ _ (Nat.le_of_eq Array.length_toList) fun ys d hp => ?_)
      exact wpAny_pure (h _ d (by simpa using hp))
    | false =>
      refine wp_if_neg (by show ¬ ((!t.plain && decide (es.size > 1)) = true); rw [hdr]; exact Bool.false_ne_true) ?_
      try refine wpAny_bind (wpAny_pure ?_)
      refine wpAny_bind (wpAny_of_eq (a := ()) ?_ ?_)
      · show (if (!t.led && decide (es.size > 1)) = true then unsupported "set:maker-not-led" else pure ()) = pure ()
        rw [hled] <;> rfl
      · exact wpAny_pure (h _ s.drawn (List.Perm.refl _))
end
end HI
set_option Elab.async false
set_option linter.all false
set_option maxRecDepth 100000
set_option maxHeartbeats 4000000
/-! HiSet2: sets of ints: ==, -, &. -/
namespace HI
open PySem PySem.Spec PyProof.Rows L2

section
variable {P : Program} {w : World} {A : Around} {E : Value → Shared → Prop} {s : Shared}
theorem setsQuiet_at : ∀ {l : List Addr} {Q : Bool → Shared → Prop}, (∀ b ∈ l, ∃ S n, SetR w s.heap b S n) → Q true s → wpAny (model P w) A (setsQuiet l) Q E s := by
  intro l Q hl h
  unfold setsQuiet
  refine wpAny_bind (wpAny_forIn_list _ (fun rest b s' => b.1 = none ∧ s' = s ∧ ∀ x ∈ rest, ∃ S n, SetR w s.heap x S n) _ ?_ ?_ _ _ ⟨rfl, rfl, hl⟩)
  · rintro x rest b s' ⟨hb, rfl, hm⟩
    obtain ⟨S, n, o, es, ep, t, ho, hex, hd, g, nd, hmm, hbd, hf, hn, _⟩ := hm x List.mem_cons_self
    dsimp only
    refine wpAny_bind (wpAny_setEntries_of ho hd hf ?_)
    refine wpAny_bind (MeetsSeq2.wpAny_forIn_array _ (fun rest b s'' => b.1 = none ∧ s'' = s' ∧ ∀ x ∈ rest, GoodE x) _ ?_ ?_ _ _ ⟨rfl, rfl, g⟩)
    · rintro y rest' b' s'' ⟨hb', rfl, hm'⟩
      obtain ⟨k, tk, e1, e2⟩ := hm' y List.mem_cons_self
      obtain ⟨y1, y2⟩ := y
      dsimp only at e1 ⊢
      subst e1
      exact wpAny_pure ⟨rfl, rfl, fun z hz => hm' z (List.mem_cons_of_mem _ hz)⟩
    · rintro b' s'' ⟨hb', rfl, _⟩
      obtain ⟨b1, b2⟩ := b'
      dsimp only at hb'
      subst hb'
      exact wpAny_pure ⟨rfl, rfl, fun z hz => hm z (List.mem_cons_of_mem _ hz)⟩
  · rintro b s' ⟨hb, rfl, _⟩
    obtain ⟨b1, b2⟩ := b
    dsimp only at hb
    subst hb
    exact wpAny_pure h
/-- the walk of a set while another is filled -/
theorem setWalkUnseen_at {a r : Addr} {S Sr : Int → Bool} {n nr : Nat} {others : List Addr} {Q : Array (Int × Value) → Shared → Prop} (R : SetR w s.heap a S n) (Rr : SetR w s.heap r Sr nr) (har : a ≠ r)
    (ho : ∀ b ∈ others, ∃ S n, SetR w s.heap b S n)
    (h : ∀ es' h' d, (∀ e ∈ es'.toList, GoodE e) → (es'.toList.map L2.keyOf).Nodup → (∀ k, S k = true ↔ k ∈ es'.toList.map L2.keyOf) → es'.toList.length = n → Heap.SameBut r s.heap h' → SetR w h' r Sr nr → Q es' { s with heap := h', drawn := d }) :
    wpAny (model P w) A (setWalkUnseen a others (some r)) Q E s := by
  obtain ⟨o, es, ep, t, ho1, hex, hd, g, nd, hm, hb, hf, hn, hr, hl⟩ := id R
  unfold setWalkUnseen
  refine wpAny_bind (wpAny_setState_of ho1 hd hf ?_)
  dsimp only
  refine wpAny_bind (wpAny_byText ?_)
  have viaWalk : wpAny (model P w) A (setWalk a) Q E s := setWalk_at ho1 hd hf hl fun es' d hp =>
    h es' s.heap d (fun e he => g e (hp.mem_iff.mp he)) ((hp.map L2.keyOf).nodup_iff.mpr nd) (fun k => (hm k).trans (hp.map L2.keyOf).mem_iff.symm) (by rw [hp.length_eq, Array.length_toList, hn]) (Heap.SameBut.refl _ _) Rr
  split
  · exact viaWalk
  · try refine wpAny_bind (wpAny_pure ?_)
    refine wpAny_bind (setsQuiet_at (fun b hb' => ?_) ?_)
    · rcases List.mem_cons.mp hb' with z | z
      · rw [z]; exact ⟨S, n, R⟩
      · exact ho b z
    · refine wp_if_neg (by simp) ?_
      try refine wpAny_bind (wpAny_pure ?_)
      refine wpAny_bind (wpAny_rule ?_)
      obtain ⟨o2, es2, ep2, t2, ho2, hex2, hd2, g2, nd2, hm2, hb2, hf2, hn2, hr2, hl2⟩ := Rr
      have fin : ∀ h', Heap.SameBut r s.heap h' → SetR w h' r Sr nr → Q es { s with heap := h' } := fun h' sb rr => h es h' s.drawn g nd hm (by rw [Array.length_toList, hn]) sb rr
      try dsimp only
      refine wpAny_bind (wpAny_setState_of ho2 hd2 hf2 ?_)
      dsimp only
      split
      · have hb2' := hb2
        refine wpAny_bind (wpAny_storeSet_of ho2 hd2 ?_ (fits_of_scanBound hb2))
        refine wpAny_pure (fin _ (Heap.SameBut.update _ _ _) ⟨_, es2, _, _, store_at ho2 hd2, hex2, rfl, g2, nd2, hm2, hb2, ?_, hn2, hr2, ?_⟩)
        · exact hf2
        · rcases hl with z | z
          · exact .inl z
          · rcases hl2 with y | y
            · exact .inl y
            · refine .inr ?_
              show (t2.led && t.led) = true
              rw [y, z]; rfl
      · exact wpAny_pure (fin _ (Heap.SameBut.refl _ _) ⟨o2, es2, ep2, t2, ho2, hex2, hd2, g2, nd2, hm2, hb2, hf2, hn2, hr2, hl2⟩)
theorem setR_typeIs {a : Addr} {S : Int → Bool} {n : Nat} (R : SetR w s.heap a S n) : s.TypeIs (.ref a) "set" := by
  obtain ⟨o, es, ep, t, ho, hex, _⟩ := R
  exact ⟨o, ho, hex.1⟩
theorem isAnySet_at {a : Addr} {Q : Bool → Shared → Prop} (hT : s.TypeIs (.ref a) "set") (h : Q true s) : wpAny (model P w) A (Builtin.Frozenset.isAnySet (.ref a)) Q E s := by
  unfold Builtin.Frozenset.isAnySet
  refine wpAny_bind (wpAny_isInstance (b := true) hT sub_set_self ?_)
  exact wpAny_pure h
theorem sizeOf_at {a : Addr} {S : Int → Bool} {n : Nat} {Q : Nat → Shared → Prop} (R : SetR w s.heap a S n) (h : Q n s) : wpAny (model P w) A (Builtin.Frozenset.sizeOf a) Q E s := by
  obtain ⟨o, es, ep, t, ho, hex, hd, g, nd, hm, hb, hf, hn, _⟩ := R
  unfold Builtin.Frozenset.sizeOf
  refine wpAny_bind (wpAny_setEntries_of ho hd hf (wpAny_pure ?_))
  rw [hn]; exact h
theorem baseOf_at {a : Addr} {Q : Value → Shared → Prop} (hT : s.TypeIs (.ref a) "set") (h : Q (.type "set") s) : wpAny (model P w) A (Builtin.Frozenset.baseOf a) Q E s := by
  unfold Builtin.Frozenset.baseOf
  refine wpAny_bind (wpAny_isInstance (b := true) hT sub_set_self ?_)
  exact wpAny_pure h
theorem newSet_at {Q : Value → Shared → Prop} (h : Q (.ref s.heap.objs.size) { s with heap := s.heap.push { cls := .type "set", dict := none, data := .set #[] 0 (.fresh 0 0 (!w.params.followText "set-order")) } }) : wpAny (model P w) A (newSet (.type "set")) Q E s := by
  unfold newSet
  refine wpAny_bind (wpAny_byText ?_)
  exact wpAny_newObj_type h
def Ep (h : Heap) (a : Addr) (e : Nat) : Prop := ∃ o es t, h.get? a = some o ∧ o.data = .set es e t ∧ t.fits es.size = true
theorem setR_ep {h : Heap} {a : Addr} {S : Int → Bool} {n : Nat} (R : SetR w h a S n) : ∃ e, Ep h a e := by
  obtain ⟨o, es, ep, t, ho, hex, hd, g, nd, hm, hb, hf, hn, _⟩ := R
  exact ⟨ep, o, es, t, ho, hd, hf⟩
theorem Ep.at {h h' : Heap} {a : Addr} {e : Nat} (x : Ep h a e) (k : ∀ o, h.get? a = some o → h'.get? a = some o) : Ep h' a e := by
  obtain ⟨o, es, t, ho, hd, hf⟩ := x
  exact ⟨o, es, t, k o ho, hd, hf⟩
theorem epoch_at {a : Addr} {e : Nat} {Q : Nat → Shared → Prop} (x : Ep s.heap a e) (h : Q e s) : wpAny (model P w) A (setEpoch a) Q E s := by
  obtain ⟨o, es, t, ho, hd, hf⟩ := x
  exact wpAny_setEpoch_of ho hd hf h
theorem unchanged_at {a : Addr} {e : Nat} {id : String} {Q : Unit → Shared → Prop} (x : Ep s.heap a e) (h : Q () s) : wpAny (model P w) A (Builtin.Frozenset.unchanged id a e) Q E s := by
  unfold Builtin.Frozenset.unchanged
  refine wpAny_bind (epoch_at x ?_)
  rw [if_neg (by simp)]
  exact wpAny_pure h
theorem find_at {a : Addr} {S : Int → Bool} {n : Nat} {k : Int} {tk : Tok} {Q : Option Nat → Shared → Prop} (R : SetR w s.heap a S n) (h : ∀ r : Option Nat, r.isSome = S k → Q r s) : wpAny (model P w) A (setFind a (.int k tk) (hashInt k)) Q E s :=
  wpAny_setFind_of (knd := intKind P w) (intKind_is P w k tk) rfl R.setOf h
theorem add_at {a : Addr} {S : Int → Bool} {n : Nat} {k : Int} {tk : Tok} {Q : Bool → Shared → Prop} (R : SetR w s.heap a S n) (room : n + 1 < scanBound)
    (h : ∀ h' b, Heap.SameBut a s.heap h' → SetR w h' a (fun j => S j || decide (j = k)) (if S k = true then n else n + 1) → Q b { s with heap := h' }) : wpAny (model P w) A (setAddHashed a (.int k tk) (hashInt k)) Q E s :=
  setR_add_hashed (P := P) R room fun h' sb r => h h' _ sb r
theorem dec_snoc {j k : Int} {l : List Int} : decide (j ∈ l ++ [k]) = (decide (j ∈ l) || decide (j = k)) := by
  by_cases h1 : j ∈ l <;> by_cases h2 : j = k <;> simp [h1, h2]
/-- s - t -/
theorem diff_at {a b : Addr} {id : String} {S S' : Int → Bool} {n m : Nat} {Q : Value → Shared → Prop} (Ra : SetR w s.heap a S n) (Rb : SetR w s.heap b S' m) (hq : n / 4 ≤ m) (hn : n + 1 < scanBound)
    (h : ∀ h' d c, SetR w h' s.heap.objs.size (fun k => S k && !S' k) c → (∀ x o, s.heap.get? x = some o → h'.get? x = some o) → Q (.ref s.heap.objs.size) { s with heap := h', drawn := d }) :
    wpAny (model P w) A (Builtin.Frozenset.difference id a (.ref b)) Q E s := by
  have ha := Ra.lt
  have hb := Rb.lt
  unfold Builtin.Frozenset.difference
  dsimp only
  refine wpAny_bind (isAnySet_at (setR_typeIs Rb) ?_)
  refine wpAny_bind (wpAny_pure ?_)
  refine wp_if_neg (by simp) ?_
  try refine wpAny_bind (wpAny_pure ?_)
  refine wp_if_pos rfl ?_
  refine wpAny_bind (sizeOf_at Rb ?_)
  refine wpAny_bind (sizeOf_at Ra ?_)
  refine wp_if_neg (by omega) ?_
  try refine wpAny_bind (wpAny_pure ?_)
  refine wpAny_bind (baseOf_at (setR_typeIs Ra) ?_)
  refine wpAny_bind (newSet_at ?_)
  have Rr := setR_fresh (h := s.heap) w
  have hgrow : ∀ x o, s.heap.get? x = some o → (s.heap.push { cls := .type "set", dict := none, data := .set #[] 0 (.fresh 0 0 (!w.params.followText "set-order")) }).get? x = some o := fun x o e => Heap.get?_push_of_some _ e
  generalize s.heap.push { cls := .type "set", dict := none, data := .set #[] 0 (.fresh 0 0 (!w.params.followText "set-order")) } = H0 at Rr hgrow ⊢
  have har : a ≠ s.heap.objs.size := Nat.ne_of_lt ha
  have hbr : b ≠ s.heap.objs.size := Nat.ne_of_lt hb
  refine wpAny_bind (wpAny_pure ?_)
  obtain ⟨ep, he⟩ := setR_ep Ra
  have Ra1 : SetR w H0 a S n := Ra.at fun o e => hgrow _ _ e
  have Rb1 : SetR w H0 b S' m := Rb.at fun o e => hgrow _ _ e
  have he1 : Ep H0 a ep := he.at fun o e => hgrow _ _ e
  refine wpAny_bind (epoch_at (s := { s with heap := H0 }) he1 ?_)
  refine wpAny_bind (wpAny_holding ?_)
  refine wpAny_bind (wp_if_pos rfl ?_)
  refine setWalkUnseen_at (s := { s with heap := H0 }) Ra1 Rr har (fun x hx => ?_) fun es' h1 d g nd hm hlen sb Rr1 => ?_
  · rcases List.mem_cons.mp hx with z | z
    · rw [z]; exact ⟨S', m, Rb1⟩
    · rw [List.mem_singleton.mp z]; exact ⟨_, _, Rr⟩
  have hk1 : ∀ x o, x ≠ s.heap.objs.size → H0.get? x = some o → h1.get? x = some o := fun x o hx e => by
    have := sb.2 x hx
    rw [this]; exact e
  refine wpAny_bind (MeetsSeq2.wpAny_forIn_array _ (fun rest _ s' => ∃ pre h2 c, s' = { s with heap := h2, drawn := d } ∧ es'.toList = pre ++ rest ∧ SetR w h2 s.heap.objs.size (fun k => decide (k ∈ pre.map L2.keyOf) && !S' k) c ∧ c ≤ pre.length ∧
    (∀ x o, x ≠ s.heap.objs.size → H0.get? x = some o → h2.get? x = some o)) _ ?_ ?_ _ _ ⟨[], h1, 0, rfl, rfl, Rr1.congr fun k => by simp, Nat.le_refl _, hk1⟩)
  · rintro e rest _ s' ⟨pre, h2, c, rfl, hp, R2, hc, hk2⟩
    obtain ⟨k, tk, e1, e2⟩ := g e (by rw [hp]; exact List.mem_append_right _ List.mem_cons_self)
    obtain ⟨eh, ev⟩ := e
    dsimp only at e1 e2 ⊢
    subst e1 e2
    have hkp : k ∉ pre.map L2.keyOf := fun z => by
      rw [hp, List.map_append, List.map_cons] at nd
      exact (List.nodup_append.mp nd).2.2 _ z _ List.mem_cons_self rfl
    have hlp : pre.length + 1 ≤ n := by
      rw [← hlen, hp, List.length_append, List.length_cons]; omega
    have Rb2 : SetR w h2 b S' m := Rb1.at fun o e => hk2 _ _ hbr e
    have he2 : Ep h2 a ep := he1.at fun o e => hk2 _ _ har e
    have eqS : ∀ b', S' k = b' → ∀ j, (decide (j ∈ (pre ++ [(hashInt k, Value.int k tk)]).map L2.keyOf) && !S' j) = ((decide (j ∈ pre.map L2.keyOf) && !S' j) || (!b' && decide (j = k))) := fun b' hb' j => by
      rw [List.map_append, List.map_singleton]
      show (decide (j ∈ pre.map L2.keyOf ++ [k]) && !S' j) = _
      rw [dec_snoc]
      by_cases hj : j = k
      · subst hj; rw [hb', decide_eq_true (rfl : j = j), decide_eq_false hkp]; cases b' <;> rfl
      · rw [decide_eq_false hj, Bool.or_false, Bool.and_false, Bool.or_false]
    refine wpAny_bind (wpAny_holding ?_)
    refine wp_if_pos rfl ?_
    refine wpAny_bind (find_at (s := { s with heap := h2, drawn := d }) Rb2 fun r hr => ?_)
    refine wpAny_bind (wpAny_pure ?_)
    cases hS : S' k with
    | true =>
      rw [hS] at hr
      refine wp_if_neg (by rw [hr]; simp) (wpAny_pure ?_)
      refine wpAny_bind (unchanged_at (s := { s with heap := h2, drawn := d }) he2 ?_)
      refine wpAny_pure ⟨pre ++ [(hashInt k, .int k tk)], h2, c, rfl, by rw [hp, List.append_assoc]; rfl, R2.congr fun j => ?_, by rw [List.length_append]; omega, hk2⟩
      rw [eqS true hS j]; simp
    | false =>
      rw [hS] at hr
      refine wp_if_pos (by rw [hr]; rfl) ?_
      refine wpAny_bind (add_at (s := { s with heap := h2, drawn := d }) R2 (by omega) fun h3 bb sb3 R3 => wpAny_pure ?_)
      have hk3 : ∀ x o, x ≠ s.heap.objs.size → H0.get? x = some o → h3.get? x = some o := fun x o hx e => by
        rw [sb3.2 x hx]; exact hk2 x o hx e
      have he3 : Ep h3 a ep := he1.at fun o e => hk3 _ _ har e
      refine wpAny_bind (unchanged_at (s := { s with heap := h3, drawn := d }) he3 ?_)
      rw [if_neg (by simp [hkp])] at R3
      refine wpAny_pure ⟨pre ++ [(hashInt k, .int k tk)], h3, c + 1, rfl, by rw [hp, List.append_assoc]; rfl, R3.congr fun j => ?_, by rw [List.length_append, List.length_singleton]; omega, hk3⟩
      rw [eqS false hS j]; simp
  · rintro _ s' ⟨pre, h2, c, rfl, hp, R2, hc, hk2⟩
    rw [List.append_nil] at hp
    refine wpAny_pure (wpAny_pure (h h2 d c (R2.congr fun k => ?_) fun x o e => hk2 x o (Nat.ne_of_lt (Heap.lt_size e)) (hgrow x o e)))
    rw [← hp]
    congr 1
    cases hS : S k with
    | true => exact (decide_eq_true ((hm k).mp hS)).symm
    | false => exact (decide_eq_false fun z => by rw [(hm k).mpr z] at hS; cases hS).symm
/-- s & t -/
theorem inter_at {a b : Addr} {id : String} {S S' : Int → Bool} {n m : Nat} {Q : Value → Shared → Prop} (hab : a ≠ b) (Ra : SetR w s.heap a S n) (Rb : SetR w s.heap b S' m) (hn : n + 1 < scanBound) (hm' : m + 1 < scanBound)
    (h : ∀ h' d c, SetR w h' s.heap.objs.size (fun k => S k && S' k) c → (∀ x o, s.heap.get? x = some o → h'.get? x = some o) → Q (.ref s.heap.objs.size) { s with heap := h', drawn := d }) :
    wpAny (model P w) A (Builtin.Frozenset.intersection id a (.ref b)) Q E s := by
  unfold Builtin.Frozenset.intersection
  try dsimp only
  refine wp_if_neg (by simp [Ne.symm hab]) ?_
  try refine wpAny_bind (wpAny_pure ?_)
  refine wpAny_bind (baseOf_at (setR_typeIs Ra) ?_)
  refine wpAny_bind (newSet_at ?_)
  have Rr := setR_fresh (h := s.heap) w
  have hgrow : ∀ x o, s.heap.get? x = some o → (s.heap.push { cls := .type "set", dict := none, data := .set #[] 0 (.fresh 0 0 (!w.params.followText "set-order")) }).get? x = some o := fun x o e => Heap.get?_push_of_some _ e
  generalize s.heap.push { cls := .type "set", dict := none, data := .set #[] 0 (.fresh 0 0 (!w.params.followText "set-order")) } = H0 at Rr hgrow ⊢
  refine wpAny_bind (wpAny_pure ?_)
  have Ra1 : SetR w H0 a S n := Ra.at fun o e => hgrow _ _ e
  have Rb1 : SetR w H0 b S' m := Rb.at fun o e => hgrow _ _ e
  refine wpAny_bind (wpAny_holding ?_)
  refine wpAny_bind (isAnySet_at (s := { s with heap := H0 }) (setR_typeIs (s := { s with heap := H0 }) Rb1) ?_)
  refine wp_if_pos rfl ?_
  refine wpAny_bind (wpAny_pure ?_)
  refine wpAny_bind (sizeOf_at (s := { s with heap := H0 }) Rb1 ?_)
  refine wpAny_bind (sizeOf_at (s := { s with heap := H0 }) Ra1 ?_)
  have har : a ≠ s.heap.objs.size := Nat.ne_of_lt Ra.lt
  have hbr : b ≠ s.heap.objs.size := Nat.ne_of_lt Rb.lt
  have core : ∀ (k0 w0 : Addr) (SK SW : Int → Bool) (nK nW : Nat), SetR w H0 k0 SK nK → SetR w H0 w0 SW nW → k0 ≠ s.heap.objs.size → w0 ≠ s.heap.objs.size → nW + 1 < scanBound → (∀ k, (SW k && SK k) = (S k && S' k)) →
      wpAny (model P w) A (do
        let was ← setEpoch w0
        let es ← setWalkUnseen w0 [k0, s.heap.objs.size] (some s.heap.objs.size)
        forIn es PUnit.unit fun x _ => do
          holding [x.snd] (do
            let q ← setFind k0 x.snd x.fst
            if q.isSome = true then do
              let _ ← setAddHashed s.heap.objs.size x.snd x.fst
              pure ()
            else pure ())
          Builtin.Frozenset.unchanged id w0 was
          pure (ForInStep.yield PUnit.unit)
        pure ()) (fun a s' => wpAny (model P w) A (pure (Value.ref s.heap.objs.size)) Q E s') E { s with heap := H0 } := by
    intro k0 w0 SK SW nK nW RK RW hk0 hw0 hnW hSS
    obtain ⟨ep, he1⟩ := setR_ep RW
    refine wpAny_bind (epoch_at (s := { s with heap := H0 }) he1 ?_)
    refine wpAny_bind ?_
    refine setWalkUnseen_at (s := { s with heap := H0 }) RW Rr hw0 (fun x hx => ?_) fun es' h1 d g nd hm hlen sb Rr1 => ?_
    · rcases List.mem_cons.mp hx with z | z
      · rw [z]; exact ⟨SK, nK, RK⟩
      · rw [List.mem_singleton.mp z]; exact ⟨_, _, Rr⟩
    have hk1 : ∀ x o, x ≠ s.heap.objs.size → H0.get? x = some o → h1.get? x = some o := fun x o hx e => by
      have := sb.2 x hx
      rw [this]; exact e
    refine wpAny_bind (MeetsSeq2.wpAny_forIn_array _ (fun rest _ s' => ∃ pre h2 c, s' = { s with heap := h2, drawn := d } ∧ es'.toList = pre ++ rest ∧ SetR w h2 s.heap.objs.size (fun k => decide (k ∈ pre.map L2.keyOf) && SK k) c ∧ c ≤ pre.length ∧
      (∀ x o, x ≠ s.heap.objs.size → H0.get? x = some o → h2.get? x = some o)) _ ?_ ?_ _ _ ⟨[], h1, 0, rfl, rfl, Rr1.congr fun k => by simp, Nat.le_refl _, hk1⟩)
    · rintro e rest _ s' ⟨pre, h2, c, rfl, hp, R2, hc, hk2⟩
      obtain ⟨k, tk, e1, e2⟩ := g e (by rw [hp]; exact List.mem_append_right _ List.mem_cons_self)
      obtain ⟨eh, ev⟩ := e
      dsimp only at e1 e2 ⊢
      subst e1 e2
      have hkp : k ∉ pre.map L2.keyOf := fun z => by
        rw [hp, List.map_append, List.map_cons] at nd
        exact (List.nodup_append.mp nd).2.2 _ z _ List.mem_cons_self rfl
      have hlp : pre.length + 1 ≤ nW := by
        rw [← hlen, hp, List.length_append, List.length_cons]; omega
      have RK2 : SetR w h2 k0 SK nK := RK.at fun o e => hk2 _ _ hk0 e
      have he2 : Ep h2 w0 ep := he1.at fun o e => hk2 _ _ hw0 e
      have eqS : ∀ b', SK k = b' → ∀ j, (decide (j ∈ (pre ++ [(hashInt k, Value.int k tk)]).map L2.keyOf) && SK j) = ((decide (j ∈ pre.map L2.keyOf) && SK j) || (b' && decide (j = k))) := fun b' hb' j => by
        rw [List.map_append, List.map_singleton]
        show (decide (j ∈ pre.map L2.keyOf ++ [k]) && SK j) = _
        rw [dec_snoc]
        by_cases hj : j = k
        · subst hj; rw [hb', decide_eq_true (rfl : j = j), decide_eq_false hkp]; cases b' <;> rfl
        · rw [decide_eq_false hj, Bool.or_false, Bool.and_false, Bool.or_false]
      refine wpAny_bind (wpAny_holding ?_)
      refine wpAny_bind (find_at (s := { s with heap := h2, drawn := d }) RK2 fun r hr => ?_)
      cases hS : SK k with
      | false =>
        rw [hS] at hr
        refine wp_if_neg (by rw [hr]; simp) (wpAny_pure ?_)
        refine wpAny_bind (unchanged_at (s := { s with heap := h2, drawn := d }) he2 ?_)
        refine wpAny_pure ⟨pre ++ [(hashInt k, .int k tk)], h2, c, rfl, by rw [hp, List.append_assoc]; rfl, R2.congr fun j => ?_, by rw [List.length_append]; omega, hk2⟩
        rw [eqS false hS j]; simp
      | true =>
        rw [hS] at hr
        refine wp_if_pos hr ?_
        refine wpAny_bind (add_at (s := { s with heap := h2, drawn := d }) R2 (by omega) fun h3 bb sb3 R3 => wpAny_pure ?_)
        have hk3 : ∀ x o, x ≠ s.heap.objs.size → H0.get? x = some o → h3.get? x = some o := fun x o hx e => by
          rw [sb3.2 x hx]; exact hk2 x o hx e
        have he3 : Ep h3 w0 ep := he1.at fun o e => hk3 _ _ hw0 e
        refine wpAny_bind (unchanged_at (s := { s with heap := h3, drawn := d }) he3 ?_)
        rw [if_neg (by simp [hkp])] at R3
        refine wpAny_pure ⟨pre ++ [(hashInt k, .int k tk)], h3, c + 1, rfl, by rw [hp, List.append_assoc]; rfl, R3.congr fun j => ?_, by rw [List.length_append, List.length_singleton]; omega, hk3⟩
        rw [eqS true hS j]; simp
    · rintro _ s' ⟨pre, h2, c, rfl, hp, R2, hc, hk2⟩
      rw [List.append_nil] at hp
      refine wpAny_pure (wpAny_pure (h h2 d c (R2.congr fun k => ?_) fun x o e => hk2 x o (Nat.ne_of_lt (Heap.lt_size e)) (hgrow x o e)))
      rw [← hp, ← hSS k]
      congr 1
      cases hS : SW k with
      | true => exact (decide_eq_true ((hm k).mp hS)).symm
      | false => exact (decide_eq_false fun z => by rw [(hm k).mpr z] at hS; cases hS).symm
  by_cases hmn : m > n
  · simp only [if_pos hmn]
    exact core b a S' S m n Rb1 Ra1 hbr har hn fun k => rfl
  · simp only [if_neg hmn]
    exact core a b S S' n m Ra1 Rb1 har hbr hm' fun k => Bool.and_comm _ _
theorem nodup_len : ∀ {l1 l2 : List Int}, l1.Nodup → (∀ x ∈ l1, x ∈ l2) → l1.length ≤ l2.length
  | [], _, _, _ => Nat.zero_le _
  | x :: l1, l2, hn, hs => by
    have hx := hs x List.mem_cons_self
    rw [List.nodup_cons] at hn
    have ih := nodup_len (l1 := l1) (l2 := l2.erase x) hn.2 fun y hy => (List.mem_erase_of_ne (fun z : y = x => hn.1 (z ▸ hy))).mpr (hs y (List.mem_cons_of_mem _ hy))
    rw [List.length_erase_of_mem hx] at ih
    have : 0 < l2.length := List.length_pos_of_mem hx
    rw [List.length_cons]; omega
theorem setR_le {h : Heap} {a b : Addr} {S S' : Int → Bool} {n m : Nat} (Ra : SetR w h a S n) (Rb : SetR w h b S' m) (hs : ∀ k, S k = true → S' k = true) : n ≤ m := by
  obtain ⟨o, es, ep, t, ho, hex, hd, g, nd, hm, hb, hf, hn, _⟩ := Ra
  obtain ⟨o2, es2, ep2, t2, ho2, hex2, hd2, g2, nd2, hm2, hb2, hf2, hn2, _⟩ := Rb
  have := nodup_len nd fun x hx => (hm2 x).mp (hs x ((hm x).mpr hx))
  rw [List.length_map, List.length_map, Array.length_toList, Array.length_toList, hn, hn2] at this
  exact this
theorem walkUnseen_at {a b : Addr} {S S' : Int → Bool} {n m : Nat} {Q : List (Int × Value) → Shared → Prop} (Ra : SetR w s.heap a S n) (Rb : SetR w s.heap b S' m)
    (h : ∀ l, (∀ e ∈ l, GoodE e) → (∀ k, S k = true ↔ k ∈ l.map L2.keyOf) → Q l s) : wpAny (model P w) A (Builtin.Frozenset.walkUnseen a b) Q E s := by
  obtain ⟨o, es, ep, t, ho, hex, hd, g, nd, hm, hb, hf, hn, hr, hl⟩ := Ra
  obtain ⟨o2, es2, ep2, t2, ho2, hex2, hd2, g2, nd2, hm2, hb2, hf2, hn2, _⟩ := Rb
  unfold Builtin.Frozenset.walkUnseen
  refine wpAny_bind (wpAny_setEntries_of ho hd hf ?_)
  refine wpAny_bind (wpAny_setEntries_of ho2 hd2 hf2 ?_)
  refine wpAny_bind (wpAny_forIn_list _ (fun rest b s' => b.1 = none ∧ s' = s ∧ ∀ x ∈ rest, GoodE x) _ ?_ ?_ _ _ ⟨rfl, rfl, fun x hx => (List.mem_append.mp hx).elim (g x) (g2 x)⟩)
  · rintro y rest' b' s'' ⟨hb', rfl, hm'⟩
    obtain ⟨k, tk, e1, e2⟩ := hm' y List.mem_cons_self
    obtain ⟨y1, y2⟩ := y
    dsimp only at e1 ⊢
    subst e1
    refine wpAny_bind (wpAny_pure ?_)
    exact wpAny_pure ⟨rfl, rfl, fun z hz => hm' z (List.mem_cons_of_mem _ hz)⟩
  · rintro b s' ⟨hb, rfl, _⟩
    obtain ⟨b1, b2⟩ := b
    dsimp only at hb
    subst hb
    exact wpAny_pure (h _ g hm)
/-- s is within t -/
theorem subset_at {a b : Addr} {id : String} {S S' : Int → Bool} {n m : Nat} {Q : Bool → Shared → Prop} (Ra : SetR w s.heap a S n) (Rb : SetR w s.heap b S' m)
    (h : ∀ q : Bool, (q = true ↔ ∀ k, S k = true → S' k = true) → Q q s) : wpAny (model P w) A (Builtin.Frozenset.subsetOf id a b) Q E s := by
  unfold Builtin.Frozenset.subsetOf
  refine wpAny_bind (sizeOf_at Ra ?_)
  refine wpAny_bind (sizeOf_at Rb ?_)
  by_cases hnm : n > m
  · refine wp_if_pos hnm ?_
    exact wpAny_pure (h false ⟨fun z => (by cases z), fun z => absurd (setR_le Ra Rb z) (by omega)⟩)
  · refine wp_if_neg hnm ?_
    try refine wpAny_bind (wpAny_pure ?_)
    obtain ⟨ep, he⟩ := setR_ep Ra
    refine wpAny_bind (epoch_at he ?_)
    refine wpAny_bind (walkUnseen_at Ra Rb fun l g hm => ?_)
    refine wpAny_bind (wpAny_forIn_list _ (fun rest b s' => b.1 = none ∧ s' = s ∧ ∃ pre, l = pre ++ rest ∧ ∀ k ∈ pre.map L2.keyOf, S' k = true) _ ?_ ?_ _ _ ⟨rfl, rfl, [], rfl, fun k hk => by simp at hk⟩)
    · rintro e rest b' s' ⟨hb', rfl, pre, hp, hk⟩
      obtain ⟨k, tk, e1, e2⟩ := g e (by rw [hp]; exact List.mem_append_right _ List.mem_cons_self)
      obtain ⟨eh, ev⟩ := e
      dsimp only at e1 e2 ⊢
      subst e1 e2
      refine wpAny_bind (wpAny_holding (find_at Rb fun r hr => ?_))
      cases hS : S' k with
      | false =>
        rw [hS] at hr
        cases r with
        | some _ => cases hr
        | none =>
          refine wp_if_pos rfl (wpAny_pure (wpAny_pure (h false ⟨fun z => (by cases z), fun z => ?_⟩)))
          have hk1 : S k = true := (hm k).mpr (by rw [hp, List.map_append, List.map_cons]; exact List.mem_append_right _ List.mem_cons_self)
          rw [z k hk1] at hS; cases hS
      | true =>
        rw [hS] at hr
        cases r with
        | none => cases hr
        | some _ =>
          refine wp_if_neg (by simp) ?_
          try refine wpAny_bind (wpAny_pure ?_)
          refine wpAny_bind (unchanged_at he ?_)
          refine wpAny_pure ⟨rfl, rfl, pre ++ [(hashInt k, .int k tk)], by rw [hp, List.append_assoc]; rfl, fun j hj => ?_⟩
          rw [List.map_append, List.mem_append] at hj
          rcases hj with z | z
          · exact hk j z
          · rw [List.mem_singleton.mp z]; exact hS
    · rintro b' s' ⟨hb', rfl, pre, hp, hk⟩
      obtain ⟨b1, b2⟩ := b'
      dsimp only at hb'
      subst hb'
      rw [List.append_nil] at hp
      subst hp
      exact wpAny_pure (h true ⟨fun _ k z => hk k ((hm k).mp z), fun _ => rfl⟩)

theorem entry_set_eq : entryFor table "set.__eq__" = some Builtin.«frozenset.__eq__» := entryFor_alias (id' := "frozenset.__eq__") (by kernel_rfl) rfl (by decide +kernel) (by kernel_rfl)
theorem entry_set_sub : entryFor table "set.__sub__" = some Builtin.«frozenset.__sub__» := entryFor_alias (id' := "frozenset.__sub__") (by kernel_rfl) rfl (by decide +kernel) (by kernel_rfl)
theorem entry_set_and : entryFor table "set.__and__" = some Builtin.«frozenset.__and__» := entryFor_alias (id' := "frozenset.__and__") (by kernel_rfl) rfl (by decide +kernel) (by kernel_rfl)
theorem slot1_at {nm : String} {x y : Value} {Q : Value × Value → Shared → Prop} (h : Q (x, y) s) : wpAny (model P w) A (Builtin.Frozenset.slot1 nm ⟨[x, y], []⟩) Q E s := wpAny_of_eq (a := (x, y)) rfl h

theorem set_sub {a b : Addr} {S S' : Int → Bool} {n m : Nat} {Q : Value → Shared → Prop} (Ra : SetR w s.heap a S n) (Rb : SetR w s.heap b S' m) (hq : n / 4 ≤ m) (hn : n + 1 < scanBound)
    (h : ∀ h' d c, SetR w h' s.heap.objs.size (fun k => S k && !S' k) c → (∀ x o, s.heap.get? x = some o → h'.get? x = some o) → Q (.ref s.heap.objs.size) { s with heap := h', drawn := d }) :
    wpAny (model P w) A (binaryOp .Sub (.ref a) (.ref b)) Q E s := by
  refine wpAny_binaryOp_same (setR_typeIs Ra) (setR_typeIs Rb) F.fills_set_sub F.slot_set_sub (wpAny_call_entry F.slot_set_sub (setR_typeIs Ra) entry_set_sub ?_ (F.args_set_sub_2 _ _))
  show wpAny _ _ (Builtin.Frozenset.slot1 "__sub__" _ >>= _) _ _ _
  refine wpAny_bind (slot1_at ?_)
  dsimp only
  refine wpAny_bind (wpAny_bind (isAnySet_at (setR_typeIs Ra) (isAnySet_at (setR_typeIs Rb) ?_)))
  refine wp_if_neg (by simp) ?_
  refine wpAny_bind (wpAny_pure ?_)
  refine wpAny_bind (diff_at Ra Rb hq hn fun h' d c R k => ?_)
  exact wpAny_pure ⟨_, rfl, (by intro z; cases z), h h' d c R k⟩
theorem set_and {a b : Addr} {S S' : Int → Bool} {n m : Nat} {Q : Value → Shared → Prop} (hab : a ≠ b) (Ra : SetR w s.heap a S n) (Rb : SetR w s.heap b S' m) (hn : n + 1 < scanBound) (hm' : m + 1 < scanBound)
    (h : ∀ h' d c, SetR w h' s.heap.objs.size (fun k => S k && S' k) c → (∀ x o, s.heap.get? x = some o → h'.get? x = some o) → Q (.ref s.heap.objs.size) { s with heap := h', drawn := d }) :
    wpAny (model P w) A (binaryOp .BitAnd (.ref a) (.ref b)) Q E s := by
  refine wpAny_binaryOp_same (setR_typeIs Ra) (setR_typeIs Rb) F.fills_set_and F.slot_set_and (wpAny_call_entry F.slot_set_and (setR_typeIs Ra) entry_set_and ?_ (F.args_set_and_2 _ _))
  show wpAny _ _ (Builtin.Frozenset.slot1 "__and__" _ >>= _) _ _ _
  refine wpAny_bind (slot1_at ?_)
  dsimp only
  refine wpAny_bind (wpAny_bind (isAnySet_at (setR_typeIs Ra) (isAnySet_at (setR_typeIs Rb) ?_)))
  refine wp_if_neg (by simp) ?_
  refine wpAny_bind (wpAny_pure ?_)
  refine wpAny_bind (inter_at hab Ra Rb hn hm' fun h' d c R k => ?_)
  exact wpAny_pure ⟨_, rfl, (by intro z; cases z), h h' d c R k⟩
theorem set_eq (hu : A.units < cLine) {a b : Addr} {S S' : Int → Bool} {n m : Nat} {Q : Value → Shared → Prop} (Ra : SetR w s.heap a S n) (Rb : SetR w s.heap b S' m)
    (h : ∀ q : Bool, (q = true ↔ ∀ k, S k = S' k) → Q (.bool q) s) :
    wpAny (model P w) A (compareOp .Eq (.ref a) (.ref b)) Q E s := by
  show wpAny _ _ (richCompare .Eq (.ref a) (.ref b)) _ _ _
  refine wpAny_richCompare_same_room (setR_typeIs Ra) (setR_typeIs Rb) F.slot_set_eq (wpAny_call_entry F.slot_set_eq (setR_typeIs Ra) entry_set_eq ?_ (F.args_set_eq_2 _ _)) hu
  show wpAny _ _ (Builtin.Frozenset.slot1 "__eq__" _ >>= _) _ _ _
  refine wpAny_bind (slot1_at ?_)
  dsimp only
  refine wpAny_bind (isAnySet_at (setR_typeIs Rb) ?_)
  refine wp_if_neg (by simp) ?_
  refine wpAny_bind (wpAny_pure ?_)
  refine wpAny_bind (wpAny_pure ?_)
  refine wpAny_bind (sizeOf_at Ra ?_)
  refine wpAny_bind (sizeOf_at Rb ?_)
  refine wpAny_bind ?_
  by_cases hnm : n = m
  · subst hnm
    refine wp_if_neg (by simp) ?_
    refine wpAny_bind (wpAny_bind (wpAny_isInstance (b := false) (setR_typeIs Ra) F.sub_set_frozenset (wpAny_pure ?_)))
    refine wp_if_neg (by simp) ?_
    refine subset_at Ra Rb fun q hq => wpAny_pure ⟨_, rfl, (by intro z; cases z), h q ?_⟩
    rw [hq]
    refine ⟨fun hs k => ?_, fun hs k z => by rw [← hs k]; exact z⟩
    cases hS : S k with
    | true => exact (hs k hS).symm
    | false =>
      cases hS' : S' k with
      | false => rfl
      | true =>
        exfalso
        obtain ⟨o, es, ep, t, ho, hex, hd, g, nd, hm, hb, hf, hn, _⟩ := Ra
        obtain ⟨o2, es2, ep2, t2, ho2, hex2, hd2, g2, nd2, hm2, hb2, hf2, hn2, _⟩ := Rb
        have hkn : k ∉ es.toList.map L2.keyOf := fun z => by rw [(hm k).mpr z] at hS; cases hS
        have := nodup_len (l1 := k :: es.toList.map L2.keyOf) (l2 := es2.toList.map L2.keyOf) (List.nodup_cons.mpr ⟨hkn, nd⟩) fun x hx => by
          rcases List.mem_cons.mp hx with z | z
          · rw [z]; exact (hm2 k).mp hS'
          · exact (hm2 x).mp (hs x ((hm x).mpr z))
        rw [List.length_cons, List.length_map, List.length_map, Array.length_toList, Array.length_toList, hn, hn2] at this
        omega
  · refine wp_if_pos (by simpa using hnm) (wpAny_pure (wpAny_pure ⟨_, rfl, (by intro z; cases z), h false ⟨fun z => (by cases z), fun hs => ?_⟩⟩))
    exact absurd (Nat.le_antisymm (setR_le Ra Rb fun k z => by rw [← hs k]; exact z) (setR_le Rb Ra fun k z => by rw [hs k]; exact z)) hnm
end
end HI
set_option Elab.async false
set_option linter.all false
set_option maxRecDepth 100000
set_option maxHeartbeats 4000000
/-! HiSet3: sets of ints, as the evaluator has them. -/
namespace HI
open PySem PySem.Spec PyProof.Rows L2

theorem uniq_mem : ∀ {xs : List Int} {k : Int}, k ∈ uniq xs ↔ k ∈ xs
  | [], _ => Iff.rfl
  | x :: xs, k => by
    unfold uniq
    split
    · rename_i h
      rw [uniq_mem, List.mem_cons]
      exact ⟨.inr, fun z => z.elim (fun e => by rw [e]; simpa using h) id⟩
    · rw [List.mem_cons, List.mem_cons, uniq_mem]
theorem uniq_nodup : ∀ (xs : List Int), (uniq xs).Nodup
  | [] => List.nodup_nil
  | x :: xs => by
    unfold uniq
    split
    · exact uniq_nodup xs
    · rename_i h
      refine List.nodup_cons.mpr ⟨fun z => h ?_, uniq_nodup xs⟩
      simpa using uniq_mem.mp z
def setX (w : World) (a : Addr) (is : List Int) : HO := .ext fun h => SetR w h a (fun k => decide (k ∈ is)) is.length
theorem setX_of {w : World} {h : Heap} {a : Addr} {S : Int → Bool} {c : Nat} {is : List Int} (R : SetR w h a S c) (hS : ∀ k, S k = true ↔ k ∈ is) (nd : is.Nodup) : SetR w h a (fun k => decide (k ∈ is)) is.length := by
  have e : c = is.length := by
    obtain ⟨o, es, ep, t, ho, hex, hd, g, nd1, hm, hb, hf, hn, _⟩ := R
    have h1 := nodup_len nd1 fun x hx => (hS x).mp ((hm x).mpr hx)
    have h2 := nodup_len nd fun x hx => (hm x).mp ((hS x).mpr hx)
    have e0 : (es.toList.map L2.keyOf).length = c := by rw [List.length_map, Array.length_toList, hn]
    rw [e0] at h1 h2
    omega
  rw [← e]
  refine R.congr fun k => ?_
  cases q : S k with
  | true => exact decide_eq_true ((hS k).mp q)
  | false => exact decide_eq_false fun z => by rw [(hS k).mpr z] at q; cases q
theorem setX_new {P : Program} {w : World} {H : Hp} {h : Heap} {a : Addr} {is : List Int} (R : SetR w h a (fun k => decide (k ∈ is)) is.length) : ObjOk P w H h a (setX w a is) := by
  have ⟨o, _, _, _, ho, _⟩ := id R
  exact ⟨R, ⟨o, ho⟩, fun h1 h2 p k => p.at k⟩
section
variable {X : Cx} {T : Tab} {W : WX}
theorem setX_get {pins : List (Addr × Obj)} {s : Shared} {σ : L2.St} {H : Hp} {S : Store} {m : Mem} {v : V} {is : List Int} (hsw : T.sw = X.w) (I : Inv X pins σ H s) (hs : SRc X.K T m S H) (hr : Rep X.K T m (.set is) v) :
    ∃ a, v = .ref a ∧ SetR X.w s.heap a (fun k => decide (k ∈ is)) is.length ∧ is.Nodup := by
  obtain ⟨a, rfl, h2, h3⟩ := hr
  refine ⟨a, rfl, ?_, h3⟩
  rw [← hsw]
  exact (I.hok a _ (hs.fz _ _ h2)).1
theorem PostR.newSet {K : PySem.W.Frag} {m : Mem} {σ : L2.St} {S : Store} {H : Hp} {Q : VK} {is : List Int} {p : Addr} (h : PostR K T (Rep K T) W m σ Q (.ok (.set is) S)) (hs : SRc K T m S H) (nd : is.Nodup) (n : H p = none) : Q (.ref p) (upd H p (setX T.sw p is)) :=
  let ⟨h1, l⟩ := hs.add (o := setX T.sw p is) n
  h.valLe l h1 ⟨p, rfl, upd_same, nd⟩
/-- a new set lies in a heap that has grown -/
theorem set_made {pins : List (Addr × Obj)} {s : Shared} {σ : L2.St} {H : Hp} {S : Store} {m : Mem} {Q : VK} {is : List Int} {h' : Heap} {d : Drawn} {tk : Tok} (hsw : T.sw = X.w) (I : Inv X pins σ H s) (hs : SRc X.K T m S H) (nd : is.Nodup)
    (R : SetR X.w h' s.heap.objs.size (fun k => decide (k ∈ is)) is.length) (k : ∀ x o, s.heap.get? x = some o → h'.get? x = some o) (h : PostR X.K T (Rep X.K T) W m σ Q (.ok (.set is) S)) :
    EP X pins σ Q (.ref s.heap.objs.size) { s with heap := h', drawn := d, toks := tk } := by
  have I1 : Inv X pins σ H { s with drawn := d } := I.call' (ch := []) (s' := { s with drawn := d }) rfl Un.refl I.hok I.bare (fun _ z => nomatch z)
  refine ⟨.ref s.heap.objs.size, _, I1.laid (t' := tk) (a := s.heap.objs.size) (o := setX X.w s.heap.objs.size is) (h' := h') k (Nat.le_refl _) (setX_new R), rfl, ?_⟩
  rw [← hsw]
  exact h.newSet hs nd (I.hok.fresh (Nat.le_refl _))
theorem nodup_filter {p : Int → Bool} {xs : List Int} (h : xs.Nodup) : (xs.filter p).Nodup := List.Pairwise.sublist List.filter_sublist h
theorem ok_sOf (hc : X.calm = true) (hsw : T.sw = X.w) {e : Expr} {fs : List (Env → Store → R D)} {p pos : Pos} (he : PEs X T W [e] fs) (hg : Gl X "set") (hm : X.mg "set" = none) :
    PE X (.Call (.Name "set" p) [e] [] pos) (tI X T W fun env S => (evAll fs env S).bind fun xs S1 => evOp .sOf xs S1) := by
  refine ⟨fun pins s σ H Q I ⟨env, S, m, hs, hen, hp⟩ => ?_⟩
  have hn : notStar e = true := by cases he with | cons _ hn _ => exact hn
  refine wpAny_Call_Name_kw (ld_blt I hg hm PyProof.Rows.boot_set ?_ (by decide) (by decide))
  refine PyProof.Rows.callWith_type1 (thn ((PEs.args he).run pos pins s σ H _ I ⟨env, S, m, hs, hen, PostR.bind (rep' := Reps X.K T) hp⟩) fun us s1 h1 => ?_) (star_cons hn) rfl
  obtain ⟨vs, H1, I1, r1, ds, S1, m1, l1, hs1, hr1, h1⟩ := h1
  match ds, hr1, h1 with
  | [], _, h1 => exact h1.elim
  | _ :: _ :: _, _, h1 => exact h1.elim
  | [d], hr1, h1 =>
    obtain ⟨v, _, rfl, k1, rfl⟩ := hr1
    obtain ⟨ys, e1, h1⟩ := PostR.opt h1
    obtain ⟨is, e2, h1⟩ := PostR.opt h1
    obtain ⟨h64, h1⟩ := PostR.ite h1
    obtain ⟨a, ws, rfl, j1, j2⟩ := lstOf_rep hs1 k1 e1
    rw [ints_rep j2 e2] at j1
    obtain ⟨u, rfl, rx⟩ := Vals.one r1
    cases (show u = Value.ref a from rx)
    obtain ⟨its, rv, pl, hz⟩ := I1.list (xs := is.map V.int) (.inl (.inl j1))
    refine call_set_listI is (I1.ok.hd hc) pl.isList (by simpa using rv.ints) (by unfold scanBound; omega) fun h' tk c R _ k => ?_
    exact set_made hsw I1 hs1 (uniq_nodup is) (setX_of R (fun k => by rw [decide_eq_true_eq, uniq_mem]) (uniq_nodup is)) k h1
/-- len(set) -/
theorem ok_sLen (hsw : T.sw = X.w) {e : Expr} {fs : List (Env → Store → R D)} {p pos : Pos} (he : PEs X T W [e] fs) (hg : Gl X "len") (hm : X.mg "len" = none) :
    PE X (.Call (.Name "len" p) [e] [] pos) (tI X T W fun env S => (evAll fs env S).bind fun xs S1 => evOp .sLen xs S1) := by
  refine ⟨fun pins s σ H Q I ⟨env, S, m, hs, hen, hp⟩ => ?_⟩
  have hn : notStar e = true := by cases he with | cons _ hn _ => exact hn
  refine wpAny_Call_Name_kw (ld_blt I hg hm PySem.boot_len ?_ (by decide) (by decide))
  refine PyProof.Rows.callWith_builtin1 (thn ((PEs.args he).run pos pins s σ H _ I ⟨env, S, m, hs, hen, PostR.bind (rep' := Reps X.K T) hp⟩) fun us s1 h1 => ?_) (star_cons hn) rfl
  obtain ⟨vs, H1, I1, r1, ds, S1, m1, l1, hs1, hr1, h1⟩ := h1
  match ds, hr1, h1 with
  | [], _, h1 => exact h1.elim
  | d :: _ :: _, _, h1 => exact (show False by cases d <;> exact h1).elim
  | [d], hr1, h1 =>
    cases d <;> first | exact h1.elim | skip
    obtain ⟨v, _, rfl, k1, rfl⟩ := hr1
    obtain ⟨a, rfl, R, nd⟩ := setX_get hsw I1 hs1 k1
    obtain ⟨u, rfl, rx⟩ := Vals.one r1
    cases (show u = Value.ref a from rx)
    obtain ⟨o, es, ep, t, ho, hex, hd, g, nd1, hm, hb, hf, hn, _⟩ := R
    refine call_len_set ho hex hd hf (by unfold scanBound at hb; omega) ⟨.int _, H1, I1.tok _, ⟨_, by rw [hn]⟩, PostR.okI h1 hs1⟩
/-- sorted(set) -/
theorem ok_sSort (hc : X.calm = true) (hsw : T.sw = X.w) {e : Expr} {fs : List (Env → Store → R D)} {p pos : Pos} (he : PEs X T W [e] fs) (hg : Gl X "sorted") (hm : X.mg "sorted" = none) :
    PE X (.Call (.Name "sorted" p) [e] [] pos) (tI X T W fun env S => (evAll fs env S).bind fun xs S1 => evOp .sSort xs S1) := by
  refine ⟨fun pins s σ H Q I ⟨env, S, m, hs, hen, hp⟩ => ?_⟩
  have hn : notStar e = true := by cases he with | cons _ hn _ => exact hn
  refine wpAny_Call_Name_kw (ld_blt I hg hm PyProof.Rows.boot_sorted ?_ (by decide) (by decide))
  refine PyProof.Rows.callWith_builtin1 (thn ((PEs.args he).run pos pins s σ H _ I ⟨env, S, m, hs, hen, PostR.bind (rep' := Reps X.K T) hp⟩) fun us s1 h1 => ?_) (star_cons hn) rfl
  obtain ⟨vs, H1, I1, r1, ds, S1, m1, l1, hs1, hr1, h1⟩ := h1
  match ds, hr1, h1 with
  | [], _, h1 => exact h1.elim
  | d :: _ :: _, _, h1 => exact (show False by cases d <;> exact h1).elim
  | [d], hr1, h1 =>
    cases d <;> first | exact h1.elim | skip
    rename_i is
    obtain ⟨v, _, rfl, k1, rfl⟩ := hr1
    obtain ⟨h64, h1⟩ := PostR.ite h1
    obtain ⟨a, rfl, R, nd⟩ := setX_get hsw I1 hs1 k1
    obtain ⟨u, rfl, rx⟩ := Vals.one r1
    cases (show u = Value.ref a from rx)
    have hq : H1 a = some (SetO X.w a (fun k => decide (k ∈ is)) is.length) := by
      obtain ⟨a', e1, e2, _⟩ := k1
      cases e1
      rw [hsw] at e2
      exact hs1.fz _ _ e2
    refine cr_sortedSet hc pins s1 σ H1 _ _ Q I1 (.cons rx .nil) ⟨a, _, _, rfl, hq, h64, fun ns p hs' hm' hl hnp => ?_⟩
    have pn : ns.Perm is := (List.perm_ext_iff_of_nodup (hs'.imp fun h => Int.ne_of_lt h) nd).mpr fun k => by rw [hm' k, decide_eq_true_eq]
    have e3 : ns = sortI is := sorted_unique (pn.trans (sortI_perm is).symm) (hs'.imp fun h => Int.le_of_lt h) (sortI_sorted is)
    subst e3
    exact h1.newLst hs1 (reps_ints _) hnp
/-- two sets, one behind the other -/
theorem sets2 (hsw : T.sw = X.w) {pins : List (Addr × Obj)} {s : Shared} {σ : L2.St} {H : Hp} {S : Store} {m : Mem} {x y : V} {v u : Value} {a b : List Int} (I : Inv X pins σ H s) (rx : RelV x v) (ry : RelV y u) (hs : SRc X.K T m S H) (hx : Rep X.K T m (.set a) x) (hy : Rep X.K T m (.set b) y) :
    ∃ p q, v = .ref p ∧ u = .ref q ∧ SetR X.w s.heap p (fun k => decide (k ∈ a)) a.length ∧ SetR X.w s.heap q (fun k => decide (k ∈ b)) b.length ∧ a.Nodup ∧ b.Nodup := by
  obtain ⟨p, rfl, R1, n1⟩ := setX_get hsw I hs hx
  obtain ⟨q, rfl, R2, n2⟩ := setX_get hsw I hs hy
  cases (show v = Value.ref p from rx)
  cases (show u = Value.ref q from ry)
  exact ⟨p, q, rfl, rfl, R1, R2, n1, n2⟩
theorem sEq_run (hu : X.A.units + 200 < cLine) (hsw : T.sw = X.w) {pins : List (Addr × Obj)} {s : Shared} {σ : L2.St} {H : Hp} {S : Store} {m : Mem} {x y : V} {v u : Value} {d e : D} {Q : VK} (I : Inv X pins σ H s) (rx : RelV x v) (ry : RelV y u) (hs : SRc X.K T m S H) (hx : Rep X.K T m d x) (hy : Rep X.K T m e y)
    (h : PostR X.K T (Rep X.K T) W m σ Q (evOp .sEq [d, e] S)) : wpAny (model X.prog X.w) X.A (compareOp .Eq v u) (EP X pins σ Q) X.xe s := by
  cases d <;> first | exact h.elim | skip
  cases e <;> first | exact h.elim | skip
  rename_i a b
  obtain ⟨p, q, rfl, rfl, R1, R2, n1, n2⟩ := sets2 hsw I rx ry hs hx hy
  refine set_eq (by omega) R1 R2 fun k hk => ⟨.bl k, H, I, rfl, ?_⟩
  have e1 : k = ((a.all fun k => b.contains k) && (b.all fun k => a.contains k)) := by
    rw [Bool.eq_iff_iff, hk, Bool.and_eq_true, List.all_eq_true, List.all_eq_true]
    refine ⟨fun z => ⟨fun j hj => ?_, fun j hj => ?_⟩, fun ⟨z1, z2⟩ j => ?_⟩
    · have := z j
      rw [decide_eq_true hj] at this
      simpa using this.symm
    · have := z j
      rw [decide_eq_true hj] at this
      simpa using this
    · rw [decide_eq_decide]
      exact ⟨fun hj => by simpa using z1 j hj, fun hj => by simpa using z2 j hj⟩
  rw [e1]
  exact PostR.okB h hs
theorem ok_sEq (hu : X.A.units + 200 < cLine) (hsw : T.sw = X.w) {a b : Expr} {pos : Pos} {fa fb : Env → Store → R D} (ha : PE X a (tI X T W fa)) (hb : PE X b (tI X T W fb)) (hm : behindInMarks .Eq b = false) :
    PE X (.Compare a [.Eq] [b] pos) (tI X T W fun env S => (fa env S).bind fun x S1 => (fb env S1).bind fun y S2 => evOp .sEq [x, y] S2) := by
  refine ⟨fun pins s σ H Q I ⟨env, S, m, hs, hen, hp⟩ => ?_⟩
  refine wpAny_Compare1 (run_bind ha I hs hen hp fun v s1 x H1 d S1 m1 I1 r1 l1 hs1 hen1 hr1 h1 => ?_) hm
  refine run_bind hb I1 hs1 hen1 h1 fun u s2 y H2 e S2 m2 I2 r2 l2 hs2 hen2 hr2 h2 => ?_
  exact sEq_run hu hsw I2 r1 r2 hs2 (Rep.mono l2 _ _ hr1) hr2 h2
theorem ok_sEqT (hu : X.A.units + 200 < cLine) (hsw : T.sw = X.w) {a b : Expr} {pos : Pos} {fa fb : Env → Store → R D} (ha : PE X a (tI X T W fa)) (hb : PE X b (tI X T W fb)) (hm : behindInMarks .Eq b = false) :
    PT X (.Compare a [.Eq] [b] pos) (tT X T W fun env S => tz true ((fa env S).bind fun x S1 => (fb env S1).bind fun y S2 => evOp .sEq [x, y] S2)) := by
  refine ⟨fun pins s σ H Q I ⟨env, S, m, hs, hen, hp⟩ => ?_⟩
  dsimp only at hp
  rw [tz_true, R.bind_assoc] at hp
  refine wpAny_isTrue_Compare1 (run_bind ha I hs hen hp fun v s1 x H1 d S1 m1 I1 r1 l1 hs1 hen1 hr1 h1 => ?_) hm
  rw [R.bind_assoc] at h1
  refine run_bind hb I1 hs1 hen1 h1 fun u s2 y H2 e S2 m2 I2 r2 l2 hs2 hen2 hr2 h2 => ?_
  have key : wpAny (model X.prog X.w) X.A (compareOp .Eq v u) (EP X pins σ fun x H' => ∃ k, x = .bl k ∧ Q k H') X.xe s2 := by
    refine sEq_run (T := T) (W := W) hu hsw I2 r1 r2 hs2 (Rep.mono l2 _ _ hr1) hr2 ?_
    cases d <;> first | exact h2.elim | skip
    cases e <;> first | exact h2.elim | skip
    exact fun b H' m' l hs' hr => ⟨_, hr, h2 _ H' m' l hs' rfl⟩
  refine thn key fun c s3 ⟨z, H3, I3, r3, k, e3, q3⟩ => ?_
  subst e3
  cases r3
  exact wpAny_truthy_bool ⟨H3, I3, q3⟩
/-- set - set, set & set -/
theorem ok_sSub (hsw : T.sw = X.w) {a b : Expr} {pos : Pos} {fa fb : Env → Store → R D} (ha : PE X a (tI X T W fa)) (hb : PE X b (tI X T W fb)) :
    PE X (.BinOp a .Sub b pos) (tI X T W fun env S => (fa env S).bind fun x S1 => (fb env S1).bind fun y S2 => evOp .sSub [x, y] S2) := by
  refine ⟨fun pins s σ H Q I ⟨env, S, m, hs, hen, hp⟩ => ?_⟩
  refine wpAny_BinOp (run_bind ha I hs hen hp fun v s1 x H1 d S1 m1 I1 r1 l1 hs1 hen1 hr1 h1 => ?_)
  refine run_bind hb I1 hs1 hen1 h1 fun u s2 y H2 e S2 m2 I2 r2 l2 hs2 hen2 hr2 h2 => ?_
  cases d <;> first | exact h2.elim | skip
  cases e <;> first | exact h2.elim | skip
  rename_i a' b'
  obtain ⟨p, q, rfl, rfl, R1, R2, n1, n2⟩ := sets2 hsw I2 r1 r2 hs2 (Rep.mono l2 _ _ hr1) hr2
  obtain ⟨⟨h3, h4⟩, h2⟩ := PostR.ite h2
  refine set_sub R1 R2 h3 (by unfold scanBound; omega) fun h' d c R k => ?_
  exact set_made hsw I2 hs2 (nodup_filter n1) (setX_of R (fun k => by simp [List.mem_filter]) (nodup_filter n1)) k h2
theorem ok_sAnd (hsw : T.sw = X.w) {a b : Expr} {pos : Pos} {fa fb : Env → Store → R D} (ha : PE X a (tI X T W fa)) (hb : PE X b (tI X T W fb)) :
    PE X (.BinOp a .BitAnd b pos) (tI X T W fun env S => (fa env S).bind fun x S1 => (fb env S1).bind fun y S2 => evOp .sAnd [x, y] S2) := by
  refine ⟨fun pins s σ H Q I ⟨env, S, m, hs, hen, hp⟩ => ?_⟩
  refine wpAny_BinOp (run_bind ha I hs hen hp fun v s1 x H1 d S1 m1 I1 r1 l1 hs1 hen1 hr1 h1 => ?_)
  refine run_bind hb I1 hs1 hen1 h1 fun u s2 y H2 e S2 m2 I2 r2 l2 hs2 hen2 hr2 h2 => ?_
  cases d <;> first | exact h2.elim | skip
  cases e <;> first | exact h2.elim | skip
  rename_i a' b'
  obtain ⟨p, q, rfl, rfl, R1, R2, n1, n2⟩ := sets2 hsw I2 r1 r2 hs2 (Rep.mono l2 _ _ hr1) hr2
  obtain ⟨⟨h3, h4, h5⟩, h2⟩ := PostR.ite h2
  have hpq : p ≠ q := fun z => by
    subst z
    obtain ⟨o, es, ep, t, ho, hex, hd, g, nd, hm, _⟩ := R1
    obtain ⟨o2, es2, ep2, t2, ho2, hex2, hd2, g2, nd2, hm2, _⟩ := R2
    rw [ho] at ho2
    cases ho2
    rw [hd] at hd2
    cases hd2
    rw [show (a'.all fun k => b'.contains k) = true from List.all_eq_true.mpr fun k hk => by
        have := (hm2 k).mpr ((hm k).mp (decide_eq_true hk))
        simpa using this,
      show (b'.all fun k => a'.contains k) = true from List.all_eq_true.mpr fun k hk => by
        have := (hm k).mpr ((hm2 k).mp (decide_eq_true hk))
        simpa using this] at h5
    cases h5
  refine set_and hpq R1 R2 (by unfold scanBound; omega) (by unfold scanBound; omega) fun h' d c R k => ?_
  exact set_made hsw I2 hs2 (nodup_filter n1) (setX_of R (fun k => by simp [List.mem_filter]) (nodup_filter n1)) k h2
end
end HI
set_option Elab.async false
set_option linter.all false
set_option maxRecDepth 100000
set_option maxHeartbeats 4000000
/-! HiChk: the text against our own syntax, expressions. -/
namespace HI
open PySem PySem.Spec PyProof.Rows L2

/-- the names of the text's top -/
structure Gam where
  fn : List Str
  cl : List Str
  ex : List Str
  bi : List Str
def okNm (x : Str) : Bool := !(x == ("__debug__" : Str)) && !(x == ("__classdict__" : Str))
/-- an operation's operands, where the text has its form -/
def opArgs (G : Gam) (hot : Bool) (sc : Scope) : Op → Expr → Option (List Expr)
  | .bin o, .BinOp a op b _ => if op = opOf o then some [a, b] else none
  | .neg, .UnaryOp .USub a _ => some [a]
  | .cmp o, .Compare a [op] [b] _ => if op = cmpOf o ∧ behindInMarks op b = false then some [a, b] else none
  | .lst, .List es _ => some es
  | .lstM, .List es _ => some es
  | .tup, .Tuple es _ _ => some es
  | .dK ks, .Dict keys values _ => if keysE ks keys = true ∧ keys.length = values.length ∧ keys.length ≤ 15 then some values else none
  | .sub, .Subscript a b _ => if noSlice b then some [a, b] else none
  | .slc lo hi, .Subscript a (.Slice l h none _) _ => if lo = l.isSome ∧ hi = h.isSome then some (a :: (l.toList ++ h.toList)) else none
  | .fld f, .Attribute a g _ => if f = g ∧ noCall0 a = true then some [a] else none
  | .bi b, .Call (.Name y _) es [] _ => if y = biN b ∧ biN b ≠ "__name__" ∧ glB sc y = true ∧ G.bi.contains y = true ∧ hot = false then some es else none
  | .frz, x => some [x]
  | .sOf, .Call (.Name y _) [e] [] _ => if y = "set" ∧ glB sc y = true ∧ G.bi.contains y = true ∧ hot = false then some [e] else none
  | .sLen, .Call (.Name y _) [e] [] _ => if y = "len" ∧ glB sc y = true ∧ G.bi.contains y = true then some [e] else none
  | .sSort, .Call (.Name y _) [e] [] _ => if y = "sorted" ∧ glB sc y = true ∧ G.bi.contains y = true ∧ hot = false then some [e] else none
  | .dz, .Call (.Name y _) [.Call (.Name z _) [a, b] [] _] [] _ => if y = "dict" ∧ z = "zip" ∧ glB sc y = true ∧ G.bi.contains y = true ∧ glB sc z = true ∧ G.bi.contains z = true ∧ hot = false then some [a, b] else none
  | .sEq, .Compare a [.Eq] [b] _ => if behindInMarks .Eq b = false then some [a, b] else none
  | .sSub, .BinOp a .Sub b _ => some [a, b]
  | .sAnd, .BinOp a .BitAnd b _ => some [a, b]
  | _, _ => none
theorem evAll1 {α : Type} {fa : Env → Store → R D} {env : Env} {S : Store} {g : List D → Store → R α} : (evAll [fa] env S).bind g = (fa env S).bind fun x S1 => g [x] S1 := by
  show ((fa env S).bind fun x S1 => (R.ok [] S1).bind fun xs S2 => .ok (x :: xs) S2).bind g = _
  cases fa env S <;> rfl
theorem evAll2 {α : Type} {fa fb : Env → Store → R D} {env : Env} {S : Store} {g : List D → Store → R α} : (evAll [fa, fb] env S).bind g = (fa env S).bind fun x S1 => (fb env S1).bind fun y S2 => g [x, y] S2 := by
  show ((fa env S).bind fun x S1 => (evAll [fb] env S1).bind fun xs S2 => .ok (x :: xs) S2).bind g = _
  rw [R.bind_assoc]
  congr 1; funext x S1
  rw [R.bind_assoc, evAll1]
  rfl
theorem evAll3 {α : Type} {fa fb fc : Env → Store → R D} {env : Env} {S : Store} {g : List D → Store → R α} : (evAll [fa, fb, fc] env S).bind g = (fa env S).bind fun x S1 => (fb env S1).bind fun y S2 => (fc env S2).bind fun z S3 => g [x, y, z] S3 := by
  show ((fa env S).bind fun x S1 => (evAll [fb, fc] env S1).bind fun xs S2 => .ok (x :: xs) S2).bind g = _
  rw [R.bind_assoc]
  congr 1; funext x S1
  rw [R.bind_assoc, evAll2]
  rfl
theorem partI_some {d : D} {r : List D} {g : Option Int × List D → R D} : optR (partI true (d :: r)) g = optR (partD (some d)) fun l => g (l, r) := by cases d <;> rfl
theorem partI_none {r : List D} {g : Option Int × List D → R D} : optR (partI false r) g = g (none, r) := rfl

section
variable {X : Cx} {T : Tab} {W : WX}
theorem PEs.inv1 {a : Expr} {fs : List (Env → Store → R D)} (h : PEs X T W [a] fs) : ∃ fa, fs = [fa] ∧ PE X a (tI X T W fa) := by
  cases h with | cons h1 _ h2 => cases h2; exact ⟨_, rfl, h1⟩
theorem PEs.inv2 {a b : Expr} {fs : List (Env → Store → R D)} (h : PEs X T W [a, b] fs) : ∃ fa fb, fs = [fa, fb] ∧ PE X a (tI X T W fa) ∧ PE X b (tI X T W fb) := by
  cases h with | cons h1 _ h2 => obtain ⟨fb, rfl, h3⟩ := h2.inv1; exact ⟨_, fb, rfl, h1, h3⟩
theorem PEs.inv3 {a b c : Expr} {fs : List (Env → Store → R D)} (h : PEs X T W [a, b, c] fs) : ∃ fa fb fc, fs = [fa, fb, fc] ∧ PE X a (tI X T W fa) ∧ PE X b (tI X T W fb) ∧ PE X c (tI X T W fc) := by
  cases h with | cons h1 _ h2 => obtain ⟨fb, fc, rfl, h3, h4⟩ := h2.inv2; exact ⟨_, fb, fc, rfl, h1, h3, h4⟩
theorem PE.cong {e : Expr} {f g : Env → Store → R D} (h : PE X e (tI X T W f)) (q : ∀ env S, g env S = f env S) : PE X e (tI X T W g) := by
  rw [show g = f from funext fun env => funext fun S => q env S]; exact h
theorem op_ok {G : Gam} {hot : Bool} (hc : hot = false → X.calm = true) (hu : X.A.units + 200 < cLine) (hkd : ∀ a z v, T.kd a z v → KDct X.K X.w a z v) (hsw : T.sw = X.w) (hbi : ∀ x ∈ G.bi, X.mg x = none) :
    ∀ {o : Op} {e : Expr} {as : List Expr} {fs : List (Env → Store → R D)}, opArgs G hot X.env.scope o e = some as → PEs X T W as fs → PE X e (tI X T W fun env S => (evAll fs env S).bind fun xs S1 => evOp o xs S1) := by
  intro o e as fs h p
  unfold opArgs at h
  split at h
  · split at h
    · rename_i ho
      cases h
      obtain ⟨fa, fb, rfl, h1, h2⟩ := p.inv2
      rw [ho]
      exact PE.cong (ok_bin h1 h2) fun env S => evAll2
    · cases h
  · cases h
    obtain ⟨fa, rfl, h1⟩ := p.inv1
    exact PE.cong (ok_neg h1) fun env S => evAll1
  · split at h
    · rename_i ho
      cases h
      obtain ⟨fa, fb, rfl, h1, h2⟩ := p.inv2
      obtain ⟨ho, hm⟩ := ho
      rw [ho] at hm ⊢
      exact PE.cong (ok_cmp hu h1 h2 hm) fun env S => evAll2
    · cases h
  · cases h; exact ok_list p
  · cases h; exact ok_listM p
  · cases h; exact ok_tuple p
  · split at h
    · rename_i ho
      cases h
      exact ok_dict ho.1 ho.2.1 ho.2.2 p
    · cases h
  · split at h
    · rename_i ho
      cases h
      obtain ⟨fa, fb, rfl, h1, h2⟩ := p.inv2
      exact PE.cong (ok_sub hu hkd h1 h2 ho) fun env S => evAll2
    · cases h
  · rename_i lo hi a l hh p1 p2
    split at h
    · rename_i ho
      obtain ⟨rfl, rfl⟩ := ho
      cases h
      cases l with
      | none =>
        cases hh with
        | none =>
          obtain ⟨fa, rfl, h1⟩ := p.inv1
          exact PE.cong (ok_slice h1 .none .none) fun env S => evAll1
        | some b =>
          obtain ⟨fa, fb, rfl, h1, h2⟩ := p.inv2
          refine PE.cong (ok_slice h1 .none (.some h2)) fun env S => evAll2.trans ?_
          congr 1; funext x S1
          show _ = ((fb env S1).bind fun x S1 => .ok (some x) S1).bind _
          rw [R.bind_assoc]
          congr 1; funext y S2
          exact partI_some (d := y) (r := []) (g := fun q => evSlc S2 x none q.1)
      | some b =>
        cases hh with
        | none =>
          obtain ⟨fa, fb, rfl, h1, h2⟩ := p.inv2
          refine PE.cong (ok_slice h1 (.some h2) .none) fun env S => evAll2.trans ?_
          congr 1; funext x S1
          show _ = ((fb env S1).bind fun x S1 => .ok (some x) S1).bind _
          rw [R.bind_assoc]
          congr 1; funext y S2
          exact partI_some
        | some c =>
          obtain ⟨fa, fb, fc, rfl, h1, h2, h3⟩ := p.inv3
          refine PE.cong (ok_slice h1 (.some h2) (.some h3)) fun env S => evAll3.trans ?_
          congr 1; funext x S1
          show _ = ((fb env S1).bind fun x S1 => .ok (some x) S1).bind _
          rw [R.bind_assoc]
          congr 1; funext y S2
          show _ = ((fc env S2).bind fun x S1 => .ok (some x) S1).bind _
          rw [R.bind_assoc]
          congr 1; funext z S3
          show optR (partI true [y, z]) _ = optR (partD (some y)) _
          rw [partI_some]
          congr 1; funext l
          exact partI_some
    · cases h
  · split at h
    · rename_i ho
      obtain ⟨rfl, hn⟩ := ho
      cases h
      obtain ⟨fa, rfl, h1⟩ := p.inv1
      exact PE.cong (ok_fld h1 hn) fun env S => evAll1
    · cases h
  · split at h
    · rename_i ho
      obtain ⟨h1, h2, h3, h4, h5⟩ := ho
      cases h
      exact ok_bi (hc h5) p h2 h1 (glB_ok h3) (hbi _ (by simpa using h4))
    · cases h
  · cases h
    obtain ⟨fa, rfl, h1⟩ := p.inv1
    exact PE.cong (ok_frz h1) fun env S => evAll1
  · split at h
    · rename_i ho
      obtain ⟨rfl, h3, h4, h5⟩ := ho
      cases h
      exact ok_sOf (hc h5) hsw p (glB_ok h3) (hbi _ (by simpa using h4))
    · cases h
  · split at h
    · rename_i ho
      obtain ⟨rfl, h3, h4⟩ := ho
      cases h
      exact ok_sLen hsw p (glB_ok h3) (hbi _ (by simpa using h4))
    · cases h
  · split at h
    · rename_i ho
      obtain ⟨rfl, h3, h4, h5⟩ := ho
      cases h
      exact ok_sSort (hc h5) hsw p (glB_ok h3) (hbi _ (by simpa using h4))
    · cases h
  · split at h
    · rename_i ho
      obtain ⟨rfl, rfl, h3, h4, h5, h6, h7⟩ := ho
      cases h
      exact ok_dz (hc h7) p (glB_ok h3) (hbi _ (by simpa using h4)) (glB_ok h5) (hbi _ (by simpa using h6))
    · cases h
  · split at h
    · rename_i ho
      cases h
      obtain ⟨fa, fb, rfl, h1, h2⟩ := p.inv2
      exact PE.cong (ok_sEq hu hsw h1 h2 ho) fun env S => evAll2
    · cases h
  · cases h
    obtain ⟨fa, fb, rfl, h1, h2⟩ := p.inv2
    exact PE.cong (ok_sSub hsw h1 h2) fun env S => evAll2
  · cases h
    obtain ⟨fa, fb, rfl, h1, h2⟩ := p.inv2
    exact PE.cong (ok_sAnd hsw h1 h2) fun env S => evAll2
  · cases h
end
end HI
set_option Elab.async false
set_option linter.all false
set_option maxRecDepth 100000
set_option maxHeartbeats 4000000
/-! HiChk2: the checker of expressions, and that it is right. -/
namespace HI
open PySem PySem.Spec PyProof.Rows L2

def isCmp : Op → Bool
  | .cmp _ => true
  | .sEq => true
  | _ => false
def ownP (N : List Str) (own : List Nat) : List (Str × Nat) := own.map fun i => (N.getD i "", i)
theorem ownP_snd (N : List Str) (own : List Nat) : (ownP N own).map (·.2) = own := by
  unfold ownP
  rw [List.map_map]
  exact List.map_id own
def fcB (scope : Scope) : Str → Bool := fun x => scope.names.lookup x == some .cell
def noSetIt : Expr → Bool
  | .Set _ _ _ => false
  | _ => true
theorem noSet_ok {e : Expr} (h : noSetIt e = true) (env : PySem.Env) (x : Value) : foldedSetIterable e env x = pure x := by
  cases e <;> first | rfl | (cases h; done)
section
variable (N : List Str) (sc : Scope) (fc : Str → Bool) (hot : Bool)
mutual
def chkT : Tg → Expr → Bool
  | .name i, x => match x with
    | .Name y _ => decide (N[i]? = some y) && (decide (sc.names.lookup y = some .local) || (decide (sc.names.lookup y = some .cell) && fc y))
    | _ => false
  | .tup ts, x => match x with
    | .Tuple es _ _ => !hot && chkTg ts es
    | _ => false
  | _, _ => false
def chkTg : Tgs → List Expr → Bool
  | .nil, es => es.isEmpty
  | .cons t ts, es => match es with
    | e :: es => chkT t e && notStar e && chkTg ts es
    | [] => false
end
end
section
variable (G : Gam) (P : Prog) (N : List Str) (hot : Bool)
mutual
def chkE : E → Scope → (Str → Bool) → Bool → Expr → Bool
  | .var i, sc, _, _, x => match x with
    | .Name y _ => decide (N[i]? = some y) && visB sc y && okNm y
    | _ => false
  | .efld i f, sc, _, _, x => match x with
    | .Attribute (.Name y _) g _ => decide (N[i]? = some y) && visB sc y && okNm y && decide (f = g)
    | _ => false
  | .con c, sc, _, _, x => match x with
    | .Name y _ => decide (y = c) && glB sc y && okNm y
    | _ => false
  | .gfn f, sc, _, _, x => match x with
    | .Name y _ => decide (G.fn[f]? = some y) && glB sc y && okNm y
    | _ => false
  | .gcl c, sc, _, _, x => match x with
    | .Name y _ => decide (G.cl[c]? = some y) && glB sc y && okNm y
    | _ => false
  | .gty n, sc, _, _, x => match x with
    | .Name y _ => decide (y = (n.nm : Str)) && decide (n ≠ .non) && glB sc y && okNm y && G.bi.contains y
    | _ => false
  | .int i, _, _, _, x => match x with
    | .Constant (.int j) _ _ => decide (i = j)
    | _ => false
  | .str z, _, _, _, x => match x with
    | .Constant (.str y) _ _ => decide (z = y)
    | _ => false
  | .bl b, _, _, _, x => match x with
    | .Constant (.bool c) _ _ => decide (b = c)
    | _ => false
  | .non, _, _, _, x => match x with
    | .Constant .none _ _ => true
    | _ => false
  | .op o es, sc, fc, t, x => (!t || plainT x || isCmp o) && (match opArgs G hot sc o x with
    | some as => chkEs es sc fc as
    | none => false)
  | .not a, sc, fc, t, x => match x with
    | .UnaryOp .Not y _ => chkE a sc fc t y
    | _ => false
  | .bm m o es, sc, fc, _, x => match x with
    | .Call (.Attribute a name apos) args [] pos => decide (name = bmN m) && noCall0 a && decide (args.length < 29) && (apos.endLine == pos.line) && chkE o sc fc false a && chkEs es sc fc args
    | _ => false
  | .and a b, sc, fc, t, x => match x with
    | .BoolOp .And (u :: v :: rest) pos => chkE a sc fc t u && (match rest with
      | [] => chkE b sc fc t v
      | _ => chkE b sc fc t (.BoolOp .And (v :: rest) pos))
    | _ => false
  | .or a b, sc, fc, t, x => match x with
    | .BoolOp .Or (u :: v :: rest) pos => chkE a sc fc t u && (match rest with
      | [] => chkE b sc fc t v
      | _ => chkE b sc fc t (.BoolOp .Or (v :: rest) pos))
    | _ => false
  | .ife c a b, sc, fc, t, x => match x with
    | .IfExp c' a' b' _ => chkE c sc fc true c' && chkE a sc fc t a' && chkE b sc fc t b'
    | _ => false
  | .chain o1 o2 a b c, sc, fc, _, x => match x with
    | .Compare a' [p1, p2] [b', c'] _ => decide (p1 = cmpOf o1) && decide (p2 = cmpOf o2) && !(lastMarks [p1, p2] [b', c']) && chkE a sc fc false a' && chkE b sc fc false b' && chkE c sc fc false c'
    | _ => false
  | .call f es, sc, fc, _, x => match x with
    | .Call (.Name y _) args [] _ => !hot && decide (G.fn[f]? = some y) && glB sc y && okNm y && chkEs es sc fc args
    | _ => false
  | .calld e es, sc, fc, _, x => match x with
    | .Call (.Name y p) args [] _ => !hot && chkE e sc fc false (.Name y p) && chkEs es sc fc args
    | _ => false
  | .meth e m es, sc, fc, _, x => match x with
    | .Call (.Attribute a name apos) args [] pos => !hot && decide (name = m) && noCall0 a && decide (args.length < 29) && (apos.endLine == pos.line) && chkE e sc fc false a && chkEs es sc fc args
    | _ => false
  | .make c es, sc, fc, _, x => match x with
    | .Call (.Name y _) args [] _ => !hot && decide (G.cl[c]? = some y) && decide (c < P.cls.length) && glB sc y && okNm y && chkEs es sc fc args
    | _ => false
  | .lc own tg it ifs elt, sc, fc, _, x => match x with
    | .ListComp elt' [⟨tg', it', ifs', 0⟩] scope _ => !hot && blkC N sc scope (ownP N own) && chkIt it sc fc tg' it' && noSetIt it' && tgIn tg own && chkT N (relS scope sc) (fcB scope) hot tg tg' && chkTs ifs (relS scope sc) (fcB scope) ifs' && chkE elt (relS scope sc) (fcB scope) false elt'
    | _ => false
  | .lc2 _ _ _ _ _ _ _ _, _, _, _, _ => false
def chkEs : Es → Scope → (Str → Bool) → List Expr → Bool
  | .nil, _, _, xs => xs.isEmpty
  | .cons e es, sc, fc, xs => match xs with
    | x :: xs => notStar x && chkE e sc fc false x && chkEs es sc fc xs
    | [] => false
def chkTs : Es → Scope → (Str → Bool) → List Expr → Bool
  | .nil, _, _, xs => xs.isEmpty
  | .cons e es, sc, fc, xs => match xs with
    | [x] => chkE e sc fc true x && (match es with | .nil => true | _ => false)
    | _ => false
def chkIt : It → Scope → (Str → Bool) → Expr → Expr → Bool
  | .val e, sc, fc, _, x => chkE e sc fc false x
  | .range1 a, sc, fc, _, x => match x with
    | .Call (.Name y _) [u] [] _ => decide (y = "range") && glB sc y && G.bi.contains y && notStar u && chkE a sc fc false u
    | _ => false
  | .range2 a b, sc, fc, _, x => match x with
    | .Call (.Name y _) [u, v] [] _ => decide (y = "range") && glB sc y && G.bi.contains y && notStar u && notStar v && chkE a sc fc false u && chkE b sc fc false v
    | _ => false
  | .enum e, sc, fc, tg, x => match tg, x with
    | .Tuple _ _ _, .Call (.Name y _) [u] [] _ => decide (y = "enumerate") && glB sc y && G.bi.contains y && notStar u && chkE e sc fc false u
    | _, _ => false
  | .zip a b, sc, fc, tg, x => match tg, x with
    | .Tuple _ _ _, .Call (.Name y _) [u, v] [] _ => decide (y = "zip") && glB sc y && G.bi.contains y && notStar u && notStar v && chkE a sc fc false u && chkE b sc fc false v
    | _, _ => false
end
end
/-- what a body's context has -/
structure Gd (G : Gam) (P : Prog) (cf : CallF) (T : Tab) (N : List Str) (hot : Bool) (X : Cx) (W : WX) (sc : Scope) (fc : Str → Bool) : Prop where
  hN : X.N = N
  nd : N.Nodup
  sc : X.env.scope = sc
  fc : X.fn = fc
  calm : hot = false → X.calm = true
  un : X.A.units + 200 < cLine
  kd : ∀ a z v, T.kd a z v → KDct X.K X.w a z v
  sw : T.sw = X.w
  bi : ∀ x ∈ G.bi, X.mg x = none
  fn : ∀ (f : Nat) (x : Str), G.fn[f]? = some x → X.mg x = some (.ref (T.fnA f))
  cl : ∀ (f : Nat) (x : Str), G.cl[f]? = some x → X.mg x = some (.ref (T.clA f))
  con : ∀ (x : Str) (d : D), P.con.lookup x = some d → ∃ v u, X.mg x = some u ∧ RelV v u ∧ ∀ m, Rep X.K T m d v
  cls : Clss X.K T P
  call : hot = false → ∃ k L, Room (k + 1) X.A ∧ Fns X.prog X.w X.K X.mg X.base T k cf ∧ (∀ u s', XEL X L W u s' → X.xe u s')
section
variable {G : Gam} {P : Prog} {cf : CallF} {T : Tab} {N : List Str} {hot : Bool}
theorem Gd.blk {X : Cx} {W : WX} {sc : Scope} {fc : Str → Bool} (g : Gd G P cf T N hot X W sc fc) (s : Shared) (H : Hp) (scope : Scope) (C : Addr) (cl : List (Str × Addr)) (fp : List Addr) :
    Gd G P cf T N hot (X.blk s H scope (compEnvC scope cl C X.env) fp) (fun _ _ _ _ => False) (relS scope sc) (fcB scope) where
  hN := g.hN
  nd := g.nd
  sc := by rw [← g.sc]; rfl
  fc := rfl
  calm := g.calm
  un := g.un
  kd := g.kd
  sw := g.sw
  bi := g.bi
  fn := g.fn
  cl := g.cl
  con := g.con
  cls := g.cls
  call := fun h => by
    obtain ⟨k, L, r, f, t⟩ := g.call h
    exact ⟨k, L, r, f, fun u s' ⟨_, _, _, _, _, _, _, _, _, _, _, _, _, _, _, _, w⟩ => w.elim⟩
end
end HI
set_option Elab.async false
set_option linter.all false
set_option maxRecDepth 100000
set_option maxHeartbeats 8000000
/-! HiSound: the checker of expressions is right. -/
namespace HI
open PySem PySem.Spec PyProof.Rows L2

/-- a test, and whatever its whole is, when it is an and / or -/
def PTW (X : Cx) (x : Expr) (t : TT) : Prop := PT X x t ∧ ∀ op vs pos, x = .BoolOp op vs pos → PW X x t
section
variable {G : Gam} {P : Prog} {cf : CallF} {T : Tab} {N : List Str} {hot : Bool}
/-- an expression of the text against one of ours -/
structure EOk (P : Prog) (cf : CallF) (T : Tab) (X : Cx) (W : WX) (t : Bool) (x : Expr) (e : E) : Prop where
  v : t = false → PE X x (tI X T W (evE P cf e false))
  b : t = true → PTW X x (tT X T W (evE P cf e true))
theorem EOk.plain {X : Cx} {W : WX} {t : Bool} {x : Expr} {e : E} (hp : plainT x = true) (h : PE X x (tI X T W (evE P cf e false))) (ht : ∀ env S, evE P cf e true env S = tz true (evE P cf e false env S)) : EOk P cf T X W t x e where
  v := fun _ => h
  b := fun _ => ⟨by
    rw [show evE P cf e true = fun env S => tz true (evE P cf e false env S) from funext fun env => funext fun S => ht env S]
    exact pt_of_pe hp h, fun op vs pos z => by subst z; cases hp⟩
theorem ok_glob {X : Cx} {W : WX} {x : Str} {pos : Pos} {d : D} (hg : Gl X x) (hdb : (x == ("__debug__" : Str)) = false) (h : ∃ v u, X.mg x = some u ∧ RelV v u ∧ ∀ m, Rep X.K T m d v) : PE X (.Name x pos) (tI X T W fun _ S => .ok d S) := by
  obtain ⟨v, u, h1, h2, h3⟩ := h
  exact ⟨fun pins s σ H Q I ⟨env, S, m, hs, hen, hp⟩ => ld_glob I hg h1 ⟨v, H, I, h2, hp.val hs (h3 m)⟩ hdb⟩
theorem boot_bt {n : Bt} (h : n ≠ .non) : bootBuiltins (n.nm : Str) = some (.type n.nm) ∧ (n.nm : Str) ≠ "__name__" ∧ ((n.nm : Str) == ("__debug__" : Str)) = false := by
  cases n <;> first | exact absurd rfl h | exact ⟨by decide +kernel, by decide, by decide⟩
theorem okNm_ok {y : Str} (h : okNm y = true) : (y == ("__debug__" : Str)) = false ∧ (y == ("__classdict__" : Str)) = false := by
  unfold okNm at h
  simp only [Bool.and_eq_true, Bool.not_eq_true'] at h
  exact h
theorem opArgs_cmp {G : Gam} {hot : Bool} {sc : Scope} {o : COp} {x : Expr} {as : List Expr} (h : opArgs G hot sc (.cmp o) x = some as) : ∃ a b op pos, x = .Compare a [op] [b] pos ∧ as = [a, b] ∧ op = cmpOf o ∧ behindInMarks op b = false := by
  unfold opArgs at h
  split at h <;> first | (cases h; done) | skip
  all_goals rename_i eq
  all_goals first | (cases eq; done) | skip
  split at h
  · rename_i q
    cases eq
    cases h
    exact ⟨_, _, _, _, rfl, rfl, q.1, q.2⟩
  · cases h
theorem opArgs_sEq {G : Gam} {hot : Bool} {sc : Scope} {x : Expr} {as : List Expr} (h : opArgs G hot sc .sEq x = some as) : ∃ a b pos, x = .Compare a [.Eq] [b] pos ∧ as = [a, b] ∧ behindInMarks .Eq b = false := by
  unfold opArgs at h
  split at h <;> first | (cases h; done) | skip
  all_goals rename_i eq
  all_goals first | (cases eq; done) | skip
  split at h
  · rename_i q
    cases h
    exact ⟨_, _, _, rfl, rfl, q⟩
  · cases h
def fsOf (P : Prog) (cf : CallF) : Es → List (Env → Store → R D)
  | .nil => []
  | .cons e es => evE P cf e false :: fsOf P cf es
theorem evEs_all : ∀ (es : Es), evEs P cf es = evAll (fsOf P cf es)
  | .nil => rfl
  | .cons e es => by
    funext env S
    show ((evE P cf e false env S).bind fun x S1 => (evEs P cf es env S1).bind fun xs S2 => .ok (x :: xs) S2) = ((evE P cf e false env S).bind fun x S1 => (evAll (fsOf P cf es) env S1).bind fun xs S2 => .ok (x :: xs) S2)
    rw [evEs_all es]
mutual
theorem chkT_ok : ∀ (tg : Tg) {X : Cx} {W : WX} {sc : Scope} {fc : Str → Bool} {x : Expr}, Gd G P cf T N hot X W sc fc → chkT N sc fc hot tg x = true → PG X x (tG P X T tg)
  | .name i, X, W, sc, fc, x, g, h => by
    unfold chkT at h
    split at h
    · simp only [Bool.and_eq_true, Bool.or_eq_true, decide_eq_true_eq] at h
      obtain ⟨h1, h2⟩ := h
      refine g_name (by rw [g.hN]; exact g.nd) (by rw [g.hN]; exact h1) ?_ ?_
      · rw [g.sc]
        rcases h2 with h2 | h2
        · exact .inl h2
        · exact .inr h2.1
      · rw [g.sc, g.fc]
        rcases h2 with h2 | h2
        · exact .inr h2
        · exact .inl h2.2
    · cases h
  | .tup ts, X, W, sc, fc, x, g, h => by
    unfold chkT at h
    split at h
    · simp only [Bool.and_eq_true, Bool.not_eq_true'] at h
      obtain ⟨q1, q2, q3⟩ := chkTg_ok ts g h.2
      exact g_tup (g.calm h.1) q1 q2 q3
    · cases h
  | .star _ _, X, W, sc, fc, x, g, h => by unfold chkT at h; cases h
  | .fld _ _, X, W, sc, fc, x, g, h => by unfold chkT at h; cases h
theorem chkTg_ok : ∀ (ts : Tgs) {X : Cx} {W : WX} {sc : Scope} {fc : Str → Bool} {xs : List Expr}, Gd G P cf T N hot X W sc fc → chkTg N sc fc hot ts xs = true → PGs X xs (tGs P X T ts) ∧ (assignEach xs X.env).length = ts.len ∧ (assignEach xs X.env).findIdx? (·.1) = none
  | .nil, X, W, sc, fc, xs, g, h => by
    unfold chkTg at h
    cases xs with
    | nil => exact ⟨gs_nil, rfl, rfl⟩
    | cons _ _ => cases h
  | .cons t ts, X, W, sc, fc, xs, g, h => by
    unfold chkTg at h
    split at h
    · rename_i e es
      simp only [Bool.and_eq_true] at h
      obtain ⟨⟨h1, h2⟩, h3⟩ := h
      obtain ⟨q1, q2, q3⟩ := chkTg_ok ts g h3
      have e1 : assignEach (e :: es) X.env = (false, assign e X.env) :: assignEach es X.env := by cases e <;> first | rfl | (cases h2; done)
      refine ⟨gs_cons (chkT_ok t g h1) q1 h2, ?_, ?_⟩
      · rw [e1]; show (assignEach es X.env).length + 1 = ts.len + 1; rw [q2]
      · rw [e1, List.findIdx?_cons, q3]; rfl
    · cases h
end
mutual
theorem chkE_ok : ∀ (e : E) {X : Cx} {W : WX} {sc : Scope} {fc : Str → Bool} {t : Bool} {x : Expr}, Gd G P cf T N hot X W sc fc → chkE G P N hot e sc fc t x = true → EOk P cf T X W t x e
  | .var i, X, W, sc, fc, t, x, g, h => by
    unfold chkE at h
    split at h
    · simp only [Bool.and_eq_true, decide_eq_true_eq] at h
      obtain ⟨⟨h1, h2⟩, h3⟩ := h
      obtain ⟨h4, h5⟩ := okNm_ok h3
      refine EOk.plain rfl (ok_var (by rw [g.hN]; exact h1) (by rw [g.sc]; exact h2) h4 h5) fun env S => ?_
      show (match env[i]? with
        | some (some (.xc _ _ _)) => .bad
        | some (some d) => tz true (.ok d S)
        | _ => .bad) = tz true (match env[i]? with
        | some (some (.xc _ _ _)) => .bad
        | some (some d) => .ok d S
        | _ => .bad)
      cases env[i]? with
      | none => rfl
      | some o =>
        cases o with
        | none => rfl
        | some d => cases d <;> rfl
    · cases h
  | .efld i f, X, W, sc, fc, t, x, g, h => by
    unfold chkE at h
    split at h
    · simp only [Bool.and_eq_true, decide_eq_true_eq] at h
      obtain ⟨⟨⟨h1, h2⟩, h3⟩, h6⟩ := h
      obtain ⟨h4, h5⟩ := okNm_ok h3
      subst h6
      refine EOk.plain rfl (ok_efld (by rw [g.hN]; exact h1) (by rw [g.sc]; exact h2) h4 h5) fun env S => ?_
      show (match env[i]? with
        | some (some (.xc _ ns fs)) => match lookF f ns fs with
          | some d => tz true (.ok d S)
          | none => .bad
        | _ => .bad) = tz true (match env[i]? with
        | some (some (.xc _ ns fs)) => match lookF f ns fs with
          | some d => .ok d S
          | none => .bad
        | _ => .bad)
      cases env[i]? with
      | none => rfl
      | some o =>
        cases o with
        | none => rfl
        | some d =>
          cases d <;> first | rfl | skip
          rename_i c ns fs
          show (match lookF f ns fs with
            | some d => tz true (.ok d S)
            | none => .bad) = tz true (match lookF f ns fs with
            | some d => .ok d S
            | none => .bad)
          cases lookF f ns fs <;> rfl
    · cases h
  | .con c, X, W, sc, fc, t, x, g, h => by
    unfold chkE at h
    split at h
    · simp only [Bool.and_eq_true, decide_eq_true_eq] at h
      obtain ⟨⟨h1, h2⟩, h3⟩ := h
      obtain ⟨h4, h5⟩ := okNm_ok h3
      subst h1
      rename_i y p
      have hg : Gl X y := glB_ok (by rw [g.sc]; exact h2)
      cases q : P.con.lookup y with
      | none =>
        have e : ∀ t env S, evE P cf (.con y) t env S = .bad := fun t env S => by
          show (match P.con.lookup y with
            | some d => tz t (.ok d S)
            | none => .bad) = _
          rw [q]
        refine EOk.plain rfl ⟨fun pins s σ H Q I ⟨env, S, m, hs, hen, hp⟩ => ?_⟩ fun env S => by rw [e, e]; rfl
        rw [e] at hp
        exact hp.elim
      | some d =>
        have e : ∀ t env S, evE P cf (.con y) t env S = tz t (.ok d S) := fun t env S => by
          show (match P.con.lookup y with
            | some d => tz t (.ok d S)
            | none => .bad) = _
          rw [q]
        refine EOk.plain rfl (PE.cong (ok_glob hg h4 (g.con y d q)) fun env S => e false env S) fun env S => by rw [e, e]; rfl
    · cases h
  | .gfn f, X, W, sc, fc, t, x, g, h => by
    unfold chkE at h
    split at h
    · simp only [Bool.and_eq_true, decide_eq_true_eq] at h
      obtain ⟨⟨h1, h2⟩, h3⟩ := h
      obtain ⟨h4, h5⟩ := okNm_ok h3
      exact EOk.plain rfl (ok_glob (d := .fn f) (glB_ok (by rw [g.sc]; exact h2)) h4 ⟨_, _, g.fn f _ h1, (show RelV (V.ref (T.fnA f)) (Value.ref (T.fnA f)) from rfl), fun m => rfl⟩) fun env S => rfl
    · cases h
  | .gcl f, X, W, sc, fc, t, x, g, h => by
    unfold chkE at h
    split at h
    · simp only [Bool.and_eq_true, decide_eq_true_eq] at h
      obtain ⟨⟨h1, h2⟩, h3⟩ := h
      obtain ⟨h4, h5⟩ := okNm_ok h3
      exact EOk.plain rfl (ok_glob (d := .cls f) (glB_ok (by rw [g.sc]; exact h2)) h4 ⟨_, _, g.cl f _ h1, (show RelV (V.ref (T.clA f)) (Value.ref (T.clA f)) from rfl), fun m => rfl⟩) fun env S => rfl
    · cases h
  | .gty n, X, W, sc, fc, t, x, g, h => by
    unfold chkE at h
    split at h
    · simp only [Bool.and_eq_true, decide_eq_true_eq] at h
      obtain ⟨⟨⟨⟨h1, h0⟩, h2⟩, h3⟩, h6⟩ := h
      subst h1
      obtain ⟨b1, b2, b3⟩ := boot_bt h0
      have hg : Gl X (n.nm : Str) := glB_ok (by rw [g.sc]; exact h2)
      have hm := g.bi _ (by simpa using h6)
      exact EOk.plain rfl ⟨fun pins s σ H Q I ⟨env, S, m, hs, hen, hp⟩ => ld_blt I hg hm b1 ⟨.ty n.nm, H, I, rfl, PostR.val (a := D.ty n) hp hs rfl⟩ b2 b3⟩ fun env S => rfl
    · cases h
  | .int i, X, W, sc, fc, t, x, g, h => by
    unfold chkE at h
    split at h
    · have h := of_decide_eq_true h
      subst h
      exact EOk.plain rfl (ok_const pe_int fun m => rfl) fun env S => rfl
    · cases h
  | .str i, X, W, sc, fc, t, x, g, h => by
    unfold chkE at h
    split at h
    · have h := of_decide_eq_true h
      subst h
      exact EOk.plain rfl (ok_const pe_str fun m => rfl) fun env S => rfl
    · cases h
  | .bl i, X, W, sc, fc, t, x, g, h => by
    unfold chkE at h
    split at h
    · have h := of_decide_eq_true h
      subst h
      exact EOk.plain rfl (ok_const pe_bl fun m => rfl) fun env S => rfl
    · cases h
  | .non, X, W, sc, fc, t, x, g, h => by
    unfold chkE at h
    split at h
    · exact EOk.plain rfl (ok_const pe_non fun m => rfl) fun env S => rfl
    · cases h
  | .op o es, X, W, sc, fc, t, x, g, h => by
    unfold chkE at h
    rw [Bool.and_eq_true] at h
    obtain ⟨h1, h2⟩ := h
    split at h2
    · rename_i as ha
      have p := chkEs_ok es g h2
      have pe := op_ok (W := W) g.calm g.un g.kd g.sw g.bi (by rw [g.sc]; exact ha) p
      have pe : PE X x (tI X T W (evE P cf (.op o es) false)) := PE.cong pe fun env S => by
        show (evEs P cf es env S).bind _ = _
        rw [evEs_all es] <;> rfl
      by_cases hp : plainT x = true
      · exact EOk.plain hp pe fun env S => rfl
      · refine ⟨fun _ => pe, fun ht => ?_⟩
        subst ht
        rw [Bool.or_eq_true, Bool.or_eq_true] at h1
        have h1 : isCmp o = true := by
          rcases h1 with (h1 | h1) | h1
          · cases h1
          · exact absurd h1 hp
          · exact h1
        cases o with
        | cmp o =>
          obtain ⟨a, b, op, pos, rfl, rfl, ho, hm⟩ := opArgs_cmp ha
          obtain ⟨fa, fb, ef, q1, q2⟩ := p.inv2
          rw [ho] at hm ⊢
          refine ⟨?_, fun op vs pos z => by cases z⟩
          have : evE P cf (.op (.cmp o) es) true = fun env S => tz true ((fa env S).bind fun x S1 => (fb env S1).bind fun y S2 => evCmp S2 o x y) := by
            funext env S
            show tz true ((evEs P cf es env S).bind _) = _
            rw [evEs_all es, ef, evAll2]
            rfl
          rw [this]
          exact ok_cmpT g.un q1 q2 hm
        | sEq =>
          obtain ⟨a, b, pos, rfl, rfl, hm⟩ := opArgs_sEq ha
          obtain ⟨fa, fb, ef, q1, q2⟩ := p.inv2
          refine ⟨?_, fun op vs pos z => by cases z⟩
          have : evE P cf (.op .sEq es) true = fun env S => tz true ((fa env S).bind fun x S1 => (fb env S1).bind fun y S2 => evOp .sEq [x, y] S2) := by
            funext env S
            show tz true ((evEs P cf es env S).bind _) = _
            rw [evEs_all es, ef, evAll2]
          rw [this]
          exact ok_sEqT g.un g.sw q1 q2 hm
        | _ => cases h1
    · cases h2
  | .not a, X, W, sc, fc, t, x, g, h => by
    unfold chkE at h
    split at h
    · have q := chkE_ok a g h
      exact ⟨fun ht => by subst ht; exact ok_not (q.v rfl), fun ht => by subst ht; exact ⟨ok_notT (q.b rfl).1, fun op vs pos z => by cases z⟩⟩
    · cases h
  | .bm m o es, X, W, sc, fc, t, x, g, h => by
    unfold chkE at h
    split at h
    · simp only [Bool.and_eq_true, decide_eq_true_eq] at h
      obtain ⟨⟨⟨⟨⟨h1, h2⟩, h3⟩, h4⟩, h5⟩, h6⟩ := h
      have po := chkE_ok o g h5
      have p := chkEs_ok es g h6
      refine EOk.plain rfl (PE.cong (ok_bm (po.v rfl) h2 p h1 h3 h4) fun env S => ?_) fun env S => rfl
      show (evE P cf o false env S).bind _ = _
      rw [evEs_all es] <;> rfl
    · cases h
  | .and a b, X, W, sc, fc, t, x, g, h => by
    unfold chkE at h
    split at h
    · rename_i u v rest pos
      rw [Bool.and_eq_true] at h
      obtain ⟨h1, h2⟩ := h
      have qa := chkE_ok a g h1
      split at h2
      · have qb := chkE_ok b g h2
        refine ⟨fun ht => ?_, fun ht => ?_⟩
        · subst ht; exact ok_and (qa.v rfl) (pe_one (qb.v rfl))
        · subst ht
          have w : PW X (.BoolOp .And [u, v] pos) (tT X T W (evE P cf (.and a b) true)) := ok_andT (qa.b rfl).1 (pw_and1 (qb.b rfl).1)
          exact ⟨w.pt, fun op vs pos' z => w⟩
      · rename_i rest' hr
        have qb := chkE_ok b g h2
        refine ⟨fun ht => ?_, fun ht => ?_⟩
        · subst ht; exact ok_and (qa.v rfl) (qb.v rfl)
        · subst ht
          have w : PW X (.BoolOp .And (u :: v :: rest) pos) (tT X T W (evE P cf (.and a b) true)) := ok_andT (qa.b rfl).1 ((qb.b rfl).2 _ _ _ rfl)
          exact ⟨w.pt, fun op vs pos' z => w⟩
    · cases h
  | .or a b, X, W, sc, fc, t, x, g, h => by
    unfold chkE at h
    split at h
    · rename_i u v rest pos
      rw [Bool.and_eq_true] at h
      obtain ⟨h1, h2⟩ := h
      have qa := chkE_ok a g h1
      split at h2
      · have qb := chkE_ok b g h2
        refine ⟨fun ht => ?_, fun ht => ?_⟩
        · subst ht; exact ok_or (qa.v rfl) (pe_one (qb.v rfl))
        · subst ht
          have w : PW X (.BoolOp .Or [u, v] pos) (tT X T W (evE P cf (.or a b) true)) := ok_orT (qa.b rfl).1 (pw_or1 (qb.b rfl).1)
          exact ⟨w.pt, fun op vs pos' z => w⟩
      · rename_i rest' hr
        have qb := chkE_ok b g h2
        refine ⟨fun ht => ?_, fun ht => ?_⟩
        · subst ht; exact ok_or (qa.v rfl) (qb.v rfl)
        · subst ht
          have w : PW X (.BoolOp .Or (u :: v :: rest) pos) (tT X T W (evE P cf (.or a b) true)) := ok_orT (qa.b rfl).1 ((qb.b rfl).2 _ _ _ rfl)
          exact ⟨w.pt, fun op vs pos' z => w⟩
    · cases h
  | .ife c a b, X, W, sc, fc, t, x, g, h => by
    unfold chkE at h
    split at h
    · simp only [Bool.and_eq_true] at h
      obtain ⟨⟨h1, h2⟩, h3⟩ := h
      have qc := chkE_ok c g h1
      have qa := chkE_ok a g h2
      have qb := chkE_ok b g h3
      refine ⟨fun ht => ?_, fun ht => ?_⟩
      · subst ht; exact ok_ife (qc.b rfl).1 (qa.v rfl) (qb.v rfl)
      · subst ht; exact ⟨ok_ifeT (qc.b rfl).1 (qa.b rfl).1 (qb.b rfl).1, fun op vs pos z => by cases z⟩
    · cases h
  | .chain o1 o2 a b c, X, W, sc, fc, t, x, g, h => by
    unfold chkE at h
    split at h
    · simp only [Bool.and_eq_true, decide_eq_true_eq, Bool.not_eq_true'] at h
      obtain ⟨⟨⟨⟨⟨h1, h2⟩, h3⟩, h4⟩, h5⟩, h6⟩ := h
      subst h1 h2
      have qa := chkE_ok a g h4
      have qb := chkE_ok b g h5
      have qc := chkE_ok c g h6
      exact ⟨fun _ => ok_chain g.un (qa.v rfl) (qb.v rfl) (qc.v rfl) h3, fun _ => ⟨ok_chainT g.un (qa.v rfl) (qb.v rfl) (qc.v rfl) h3, fun op vs pos z => by cases z⟩⟩
    · cases h
  | .call f es, X, W, sc, fc, t, x, g, h => by
    unfold chkE at h
    split at h
    · simp only [Bool.and_eq_true, decide_eq_true_eq, Bool.not_eq_true'] at h
      obtain ⟨⟨⟨⟨h1, h2⟩, h3⟩, h4⟩, h5⟩ := h
      have p := chkEs_ok es g h5
      obtain ⟨k, L, hr, F, tk⟩ := g.call h1
      refine EOk.plain rfl (PE.cong (ok_call F (hr.mono (Nat.le_succ k)) tk (glB_ok (by rw [g.sc]; exact h3)) (g.fn f _ h2) (okNm_ok h4).1 p) fun env S => ?_) fun env S => rfl
      show (evEs P cf es env S).bind _ = _
      rw [evEs_all es] <;> rfl
    · cases h
  | .calld e es, X, W, sc, fc, t, x, g, h => by
    unfold chkE at h
    split at h
    · simp only [Bool.and_eq_true, Bool.not_eq_true'] at h
      obtain ⟨⟨h1, h2⟩, h5⟩ := h
      have qe := chkE_ok e g h2
      have p := chkEs_ok es g h5
      obtain ⟨k, L, hr, F, tk⟩ := g.call h1
      refine EOk.plain rfl (PE.cong (ok_calld F (hr.mono (Nat.le_succ k)) tk (qe.v rfl) p) fun env S => ?_) fun env S => rfl
      show (evE P cf e false env S).bind _ = _
      rw [evEs_all es] <;> rfl
    · cases h
  | .meth e m es, X, W, sc, fc, t, x, g, h => by
    unfold chkE at h
    split at h
    · simp only [Bool.and_eq_true, decide_eq_true_eq, Bool.not_eq_true'] at h
      obtain ⟨⟨⟨⟨⟨⟨h1, h2⟩, h3⟩, h4⟩, h5⟩, h6⟩, h7⟩ := h
      subst h2
      have qe := chkE_ok e g h6
      have p := chkEs_ok es g h7
      obtain ⟨k, L, hr, F, tk⟩ := g.call h1
      refine EOk.plain rfl (PE.cong (ok_meth F g.cls (hr.mono (Nat.le_succ k)) tk (qe.v rfl) h3 p h4 h5) fun env S => ?_) fun env S => rfl
      show (evE P cf e false env S).bind _ = _
      rw [evEs_all es] <;> rfl
    · cases h
  | .make c es, X, W, sc, fc, t, x, g, h => by
    unfold chkE at h
    split at h
    · simp only [Bool.and_eq_true, decide_eq_true_eq, Bool.not_eq_true'] at h
      obtain ⟨⟨⟨⟨⟨h1, h2⟩, h3⟩, h4⟩, h5⟩, h6⟩ := h
      have p := chkEs_ok es g h6
      obtain ⟨k, L, hr, F, tk⟩ := g.call h1
      refine EOk.plain rfl (PE.cong (ok_make F g.cls hr tk (glB_ok (by rw [g.sc]; exact h4)) (g.cl c _ h2) (okNm_ok h5).1 h3 p) fun env S => ?_) fun env S => rfl
      show (evEs P cf es env S).bind _ = _
      rw [evEs_all es] <;> rfl
    · cases h
  | .lc own tg it ifs elt, X, W, sc, fc, t, x, g, h => by
    unfold chkE at h
    split at h
    · rename_i elt' tg' it' ifs' scope pos
      simp only [Bool.and_eq_true, Bool.not_eq_true'] at h
      obtain ⟨⟨⟨⟨⟨⟨⟨h1, h2⟩, h3⟩, h4⟩, h5⟩, h6⟩, h7⟩, h8⟩ := h
      have hi := chkIt_ok it g h3
      have bo : BlkOk X.N X.env.scope scope (ownP N own) := by rw [g.hN, g.sc]; exact blkOk_by h2
      have res := ok_lc (P := P) (W := W) (pos := pos) (tgt := tg) (g.calm h1) (by rw [g.hN]; exact g.nd) hi bo
        (fun s H C cl fp => chkT_ok tg (g.blk s H scope C cl fp) h6) (fun s H C cl fp => chkTs_ok ifs (g.blk s H scope C cl fp) h7) (fun s H C cl fp => (chkE_ok elt (g.blk s H scope C cl fp) h8).v rfl) (noSet_ok h4 _) (by rw [ownP_snd]; exact h5)
      rw [ownP_snd] at res
      exact EOk.plain rfl res fun env S => rfl
    · cases h
  | .lc2 _ _ _ _ _ _ _ _, X, W, sc, fc, t, x, g, h => by
    unfold chkE at h
    cases h
theorem chkEs_ok : ∀ (es : Es) {X : Cx} {W : WX} {sc : Scope} {fc : Str → Bool} {xs : List Expr}, Gd G P cf T N hot X W sc fc → chkEs G P N hot es sc fc xs = true → PEs X T W xs (fsOf P cf es)
  | .nil, X, W, sc, fc, xs, g, h => by
    unfold chkEs at h
    cases xs with
    | nil => exact .nil
    | cons _ _ => cases h
  | .cons e es, X, W, sc, fc, xs, g, h => by
    unfold chkEs at h
    split at h
    · simp only [Bool.and_eq_true] at h
      exact .cons ((chkE_ok e g h.1.2).v rfl) h.1.1 (chkEs_ok es g h.2)
    · cases h
theorem chkTs_ok : ∀ (es : Es) {X : Cx} {W : WX} {sc : Scope} {fc : Str → Bool} {xs : List Expr}, Gd G P cf T N hot X W sc fc → chkTs G P N hot es sc fc xs = true → PTs X xs (tTs X T W (evTests P cf es))
  | .nil, X, W, sc, fc, xs, g, h => by
    unfold chkTs at h
    cases xs with
    | nil => exact ts_nil
    | cons _ _ => cases h
  | .cons e es, X, W, sc, fc, xs, g, h => by
    unfold chkTs at h
    split at h
    · rw [Bool.and_eq_true] at h
      have q := (chkE_ok e g h.1).b rfl
      cases es with
      | nil => exact ts_one q.1
      | cons _ _ => cases h.2
    · cases h
theorem chkIt_ok : ∀ (it : It) {X : Cx} {W : WX} {sc : Scope} {fc : Str → Bool} {tg x : Expr}, Gd G P cf T N hot X W sc fc → chkIt G P N hot it sc fc tg x = true → PI X tg x (tIt X T W (evIt P cf it))
  | .val e, X, W, sc, fc, tg, x, g, h => by
    unfold chkIt at h
    exact pi_val ((chkE_ok e g h).v rfl)
  | .range1 a, X, W, sc, fc, tg, x, g, h => by
    unfold chkIt at h
    split at h
    · simp only [Bool.and_eq_true, decide_eq_true_eq] at h
      obtain ⟨⟨⟨⟨h1, h2⟩, h3⟩, h4⟩, h5⟩ := h
      subst h1
      exact pi_rng1 (glB_ok (by rw [g.sc]; exact h2)) (g.bi _ (by simpa using h3)) ((chkE_ok a g h5).v rfl) h4
    · cases h
  | .range2 a b, X, W, sc, fc, tg, x, g, h => by
    unfold chkIt at h
    split at h
    · simp only [Bool.and_eq_true, decide_eq_true_eq] at h
      obtain ⟨⟨⟨⟨⟨⟨h1, h2⟩, h3⟩, h4⟩, h5⟩, h6⟩, h7⟩ := h
      subst h1
      exact pi_rng2 (glB_ok (by rw [g.sc]; exact h2)) (g.bi _ (by simpa using h3)) ((chkE_ok a g h6).v rfl) h4 ((chkE_ok b g h7).v rfl) h5
    · cases h
  | .enum e, X, W, sc, fc, tg, x, g, h => by
    unfold chkIt at h
    split at h
    · simp only [Bool.and_eq_true, decide_eq_true_eq] at h
      obtain ⟨⟨⟨⟨h1, h2⟩, h3⟩, h4⟩, h5⟩ := h
      subst h1
      exact pi_enu (glB_ok (by rw [g.sc]; exact h2)) (g.bi _ (by simpa using h3)) ((chkE_ok e g h5).v rfl) h4
    · cases h
  | .zip a b, X, W, sc, fc, tg, x, g, h => by
    unfold chkIt at h
    split at h
    · simp only [Bool.and_eq_true, decide_eq_true_eq] at h
      obtain ⟨⟨⟨⟨⟨⟨h1, h2⟩, h3⟩, h4⟩, h5⟩, h6⟩, h7⟩ := h
      subst h1
      exact pi_zp (glB_ok (by rw [g.sc]; exact h2)) (g.bi _ (by simpa using h3)) ((chkE_ok a g h6).v rfl) h4 ((chkE_ok b g h7).v rfl) h5
    · cases h
end
end
end HI
set_option Elab.async false
set_option linter.all false
set_option maxRecDepth 100000
set_option maxHeartbeats 8000000
/-! HiSound2: the checker of statements, and that it is right. -/
namespace HI
open PySem PySem.Spec PyProof.Rows L2

/-! ### the stores of an assignment -/
theorem blockKind_of {env : PySem.Env} (hk : env.scope.kind = .function) : env.blockKind = .function := by unfold Env.blockKind; rw [hk]; rfl
def swapOn (sc : Scope) (y : Str) (py pos : Pos) (scope : Scope) : Bool := decide (sc.names.lookup y = some .local) && py.line == pos.line && !(scope.names.any fun (n, k) => n == y && (k == .local || k == .cell))
theorem sw_eq {elt : Expr} {gs : List Comprehension} {scope : Scope} {pos py : Pos} {y : Str} {l : Nat} {env : PySem.Env} (hk : env.scope.kind = .function) :
    swapsWith (.ListComp elt gs scope pos) (some (.Name y py)) l env = pure (swapOn env.scope y py pos scope) := by
  have hb := blockKind_of hk
  unfold swapsWith swapOn
  have e : (env.kindOf y == some NameKind.local) = decide (env.scope.names.lookup y = some .local) := by
    show (env.scope.names.lookup y == some NameKind.local) = _
    by_cases h : env.scope.names.lookup y = some .local
    · rw [h]; rfl
    · rw [decide_eq_false h]; simpa using h
  simp only [hb, e, Expr.pos]
  rfl
def swapPar (sc : Scope) (x y : Str) (px py : Pos) (a b : Expr) : Bool := decide (sc.kind = .function) && decide (sc.names.lookup x = some .local) && decide (sc.names.lookup y = some .local) && (py.line == px.line) && decide (x ≠ y) &&
  !([a, b].all (foldedForSure 8)) && !([a, b].all (constantsAlone 8)) && notStar a && notStar b
theorem sw_par {x y : Str} {px py pt pt2 : Pos} {kt k2} {a b : Expr} {env : PySem.Env} (h : swapPar env.scope x y px py a b = true) : swappedStores [.Tuple [.Name x px, .Name y py] kt pt] (.Tuple [a, b] k2 pt2) env = pure (some [x, y]) := by
  unfold swapPar at h
  simp only [Bool.and_eq_true, decide_eq_true_eq, Bool.not_eq_true', beq_iff_eq] at h
  obtain ⟨⟨⟨⟨⟨⟨⟨⟨h1, h2⟩, h3⟩, h4⟩, h5⟩, h6⟩, h7⟩, h8⟩, h9⟩ := h
  have hb := blockKind_of h1
  have kx : env.kindOf x = some .local := h2
  have ky : env.kindOf y = some .local := h3
  have st : ([a, b].any fun | .Starred _ _ => true | _ => false) = false := by
    cases a <;> first | (cases h8; done) | (cases b <;> first | (cases h9; done) | rfl)
  unfold swappedStores
  have hn : (([Expr.Name x px, Expr.Name y py] : List Expr).filterMap fun
    | .Name id pos => if env.kindOf id == some .local && pos.line == px.line then some id else none
    | _ => none) = [x, y] := by
    simp [kx, ky, h4]
  have hd : [x, y].eraseDups.length = 2 := by
    have : ([x, y] : List Str).eraseDups = [x, y] := by
      simp [List.eraseDups_cons, h5, Ne.symm h5]
    rw [this]; rfl
  have e0 : (([Expr.Name x px, Expr.Name y py] : List Expr).head?.map (·.pos.line)).getD 0 = px.line := rfl
  simp only [hb, h6, h7, e0]
  have g1 : (List.filterMap (fun x : Expr => match x with
      | .Name id pos => if (env.kindOf id == some NameKind.local && pos.line == px.line) = true then some id else none
      | _ => none) [Expr.Name x px, Expr.Name y py]) = [x, y] := by simp [kx, ky, h4]
  refine (if_neg (by simp)).trans ((if_neg ?_).trans ((if_neg ?_).trans ((if_neg (by decide)).trans ((if_neg (by decide)).trans ?_))))
  · intro z
    have : ([a, b].any fun | .Starred _ _ => true | _ => false) = true := z
    rw [st] at this; cases this
  · intro z
    have hd2 : ([x, y] : List Str).eraseDups = [x, y] := by simp [List.eraseDups_cons, h5, Ne.symm h5]
    simp [kx, ky, h4, hd2] at z
  · simp [kx, ky, h4]
end HI
set_option Elab.async false
set_option linter.all false
set_option maxRecDepth 100000
set_option maxHeartbeats 8000000
/-! HiSound3: the checker of statements, and that it is right. -/
namespace HI
open PySem PySem.Spec PyProof.Rows L2

/-- the stores of this assignment are not swapped -/
def noSwap : Expr → Expr → Bool
  | .Tuple _ _ _, .Tuple _ _ _ => false
  | .List _ _, .Tuple _ _ _ => false
  | _, _ => true
theorem noSwap_ok {tg e : Expr} (h : noSwap tg e = true) (env : PySem.Env) : swappedStores [tg] e env = pure none := by
  cases tg <;> cases e <;> first | rfl | (cases h; done)
/-- nothing comes of it: it is not walked -/
def isBad (P : Prog) : S → Bool
  | .raise c .nil => decide (P.exc.length ≤ c)
  | _ => false
theorem isBad_ok {P : Prog} {cf : CallF} : ∀ {s : S}, isBad P s = true → ∀ env S, evS P cf s env S = .bad
  | .raise c es, h, env, S => by
    cases es with
    | nil =>
      have hc : P.exc.length ≤ c := of_decide_eq_true h
      show (R.ok [] S).thn env (fun xs S1 => match P.exc[c]? with
        | some C => if xs.length = C.args then .er ⟨c, C.ns, C.fill xs⟩ env S1 else .bad
        | none => .bad) = _
      rw [show P.exc[c]? = none from List.getElem?_eq_none hc]
      rfl
    | cons _ _ => cases h
section
variable (G : Gam) (P : Prog) (N : List Str)
mutual
def chkS : S → Bool → Scope → (Str → Bool) → Stmt → Bool
  | .expr e, hot, sc, fc, st => match st with
    | .Expr x _ => noComp x && chkE G P N hot e sc fc false x
    | _ => false
  | .asg t e, hot, sc, fc, st => match st with
    | .Assign [tg] x pos => match tg, x with
      | .Name y py, .ListComp elt' [⟨tg', it', ifs', 0⟩] scope cpos => decide (sc.kind = .function) && (if swapOn sc y py cpos scope then
          (match t, e with
          | .name i, .lc own tg2 it ifs elt => decide (N[i]? = some y) && !hot && blkC N sc scope (ownP N own) && chkIt G P N hot it sc fc tg' it' && noSetIt it' && tgIn tg2 own && chkT N (relS scope sc) (fcB scope) hot tg2 tg' && chkTs G P N hot ifs (relS scope sc) (fcB scope) ifs' && chkE G P N hot elt (relS scope sc) (fcB scope) false elt'
          | _, _ => false) else chkT N sc fc hot t tg && chkE G P N hot e sc fc false x)
      | _, _ => noComp x && notStar tg && noSwap tg x && chkT N sc fc hot t tg && chkE G P N hot e sc fc false x
    | _ => false
  | .par i j a b, hot, sc, fc, st => match st with
    | .Assign [.Tuple [.Name x px, .Name y py] _ _] (.Tuple [a', b'] _ _) _ => !hot && decide (N[i]? = some x) && decide (N[j]? = some y) && decide (i ≠ j) && swapPar sc x y px py a' b' && chkE G P N hot a sc fc false a' && chkE G P N hot b sc fc false b'
    | _ => false
  | .seti o i e, hot, sc, fc, st => match st with
    | .Assign [.Subscript o' i' _] x _ => noComp x && noSlice i' && chkE G P N hot e sc fc false x && chkE G P N hot o sc fc false o' && chkE G P N hot i sc fc false i'
    | _ => false
  | .ife t a b, hot, sc, fc, st => match st with
    | .If c' a' b' _ => chkE G P N hot t sc fc true c' && chkSs a hot sc fc a' && chkSs b hot sc fc b'
    | _ => false
  | .ret e, hot, sc, fc, st => match st with
    | .Return (some x) _ => chkE G P N hot e sc fc false x
    | _ => false
  | .retN, _, _, _, st => match st with
    | .Return none _ => true
    | _ => false
  | .forr t it b, hot, sc, fc, st => match st with
    | .For tg iter body [] _ => !hot && chkT N sc fc hot t tg && chkIt G P N hot it sc fc tg iter && noSetIt iter && chkSs b hot sc fc body
    | _ => false
  | .raise c es, hot, sc, fc, st => match st with
    | .Raise (some (.Call (.Name y _) args [] _)) none _ => !hot && decide (G.ex[c]? = some y) && decide (c < P.exc.length) && glB sc y && okNm y && chkEs G P N hot es sc fc args
    | _ => false
  | .trye b cs i h, hot, sc, fc, st => match st with
    | .Try body [.ExceptHandler (some (.Name y _)) (some n) (b0 :: suite) _] [] [] _ => (match cs with
      | [c] => !hot && decide (G.ex[c]? = some y) && decide (c < P.exc.length) && glB sc y && okNm y && decide (N[i]? = some n) && decide (sc.names.lookup n = some .local) && chkSs b false sc fc body && chkSs h true sc fc (b0 :: suite)
      | _ => false)
    | _ => false
  | .brk, _, _, _, st => match st with
    | .Break _ => true
    | _ => false
  | .cont, _, _, _, st => match st with
    | .Continue _ => true
    | _ => false
  | .pass, _, _, _, st => match st with
    | .Pass _ => true
    | _ => false
  | _, _, _, _, _ => false
def chkSs : Ss → Bool → Scope → (Str → Bool) → List Stmt → Bool
  | .nil, _, _, _, sts => sts.isEmpty
  | .cons s ss, hot, sc, fc, sts => isBad P s || (match s with
    | .still _ => chkSs ss hot sc fc sts
    | _ => match sts with
      | st :: sts => chkS s hot sc fc st && chkSs ss hot sc fc sts
      | [] => false)
end
end
/-- what a body's statements have -/
structure GdS (G : Gam) (P : Prog) (cf : CallF) (T : Tab) (N : List Str) (hot : Bool) (X : Cx) (W : WX) (sc : Scope) (fc : Str → Bool) : Prop where
  g : Gd G P cf T N hot X W sc fc
  stk : X.stack = X.env :: X.outer
  frm : X.env.frame = some X.env.locals
  own : hot = false → PassesOwn (model X.prog X.w) X.A X.env X.xe
  tk : hot = false → Takes X W
  exn : ∀ (c : Nat) (x : Str), G.ex[c]? = some x → X.mg x = some (.ref (T.exA c))
  exa : hot = false → ∃ k, Room (k + 1) X.A ∧ ∀ (c : Nat) (C : ExcDef), P.exc[c]? = some C → ∃ fI, ExAt X.prog X.w X.K X.mg X.base k C.base C.args C.flds (T.exA c) fI
  exo : ∀ (c : Nat) (C : ExcDef), P.exc[c]? = some C → XOk X.K T c C.ns ∧ C.args ≤ 900
  exm : ∀ c, c < P.exc.length → ExMatch X.K T P c
  fns : ∃ k, Fns X.prog X.w X.K X.mg X.base T k cf ∧ (hot = false → Room (k + 1) X.A)
section
variable {G : Gam} {P : Prog} {cf : CallF} {T : Tab} {N : List Str}
theorem units_mark {A : Around} {v : Option Value} : (A.mark v).units = A.units := by
  first | rfl | simp [Around.mark, Around.units]
theorem GdS.tr {X : Cx} {W : WX} {sc : Scope} {fc : Str → Bool} (g : GdS G P cf T N false X W sc fc) (W' : WX) (pn : List (Addr × Obj)) (xe : Value → Shared → Prop) (tk : Takes (X.tr pn xe) W') (hp : PassesOwn (model X.prog X.w) X.A X.env xe) :
    GdS G P cf T N false (X.tr pn xe) W' sc fc where
  g := { hN := g.g.hN, nd := g.g.nd, sc := g.g.sc, fc := g.g.fc, calm := g.g.calm, un := g.g.un, kd := g.g.kd, sw := g.g.sw, bi := g.g.bi, fn := g.g.fn, cl := g.g.cl, con := g.g.con, cls := g.g.cls
         call := fun h => by
          obtain ⟨k, f, r⟩ := g.fns
          exact ⟨k, X.env.locals, r rfl, f, fun u s' x => tk u s' x⟩ }
  stk := g.stk
  frm := g.frm
  own := fun _ => hp
  tk := fun _ => tk
  exn := g.exn
  exa := g.exa
  exo := g.exo
  exm := g.exm
  fns := g.fns
theorem GdS.suite {X : Cx} {W : WX} {sc : Scope} {fc : Str → Bool} (g : GdS G P cf T N false X W sc fc) (a : Addr) (oe : Obj) (pn : List (Addr × Obj)) : GdS G P cf T N true (X.suite a ((a, oe) :: pn)) (fun _ _ _ _ => False) sc fc where
  g := { hN := g.g.hN, nd := g.g.nd, sc := g.g.sc, fc := g.g.fc, calm := fun h => by cases h
         un := by rw [show (X.suite a ((a, oe) :: pn)).A.units = X.A.units from units_mark]; exact g.g.un
         kd := g.g.kd, sw := g.g.sw, bi := g.g.bi, fn := g.g.fn, cl := g.g.cl, con := g.g.con, cls := g.g.cls, call := fun h => by cases h }
  stk := g.stk
  frm := g.frm
  own := fun h => by cases h
  tk := fun h => by cases h
  exn := g.exn
  exa := fun h => by cases h
  exo := g.exo
  exm := g.exm
  fns := by
    obtain ⟨k, f, r⟩ := g.fns
    exact ⟨k, f, fun h => by cases h⟩
mutual
theorem chkS_ok : ∀ (s : S) {hot : Bool} {X : Cx} {W : WX} {sc : Scope} {fc : Str → Bool} {st : Stmt}, GdS G P cf T N hot X W sc fc → chkS G P N s hot sc fc st = true → PS X st (tS X T W (evS P cf s))
  | .expr e, hot, X, W, sc, fc, st, g, h => by
    unfold chkS at h
    split at h
    · rw [Bool.and_eq_true] at h
      exact s_expr ((chkE_ok e g.g h.2).v rfl) h.1
    · cases h
  | .asg t e, hot, X, W, sc, fc, st, g, h => by
    unfold chkS at h
    split at h
    · rename_i tg x pos
      split at h
      · rename_i y py elt' tg' it' ifs' scope cpos
        rw [Bool.and_eq_true, decide_eq_true_eq] at h
        obtain ⟨hk, h⟩ := h
        have hk' : X.env.scope.kind = .function := by rw [g.g.sc]; exact hk
        split at h
        · rename_i hsw
          split at h
          · rename_i i own tg2 it ifs elt
            simp only [Bool.and_eq_true, decide_eq_true_eq, Bool.not_eq_true'] at h
            obtain ⟨⟨⟨⟨⟨⟨⟨⟨h0, h1⟩, h2⟩, h3⟩, h4⟩, h5⟩, h6⟩, h7⟩, h8⟩ := h
            have hi := chkIt_ok it g.g h3
            have bo : BlkOk X.N X.env.scope scope (ownP N own) := by rw [g.g.hN, g.g.sc]; exact blkOk_by h2
            have hyl : X.env.scope.names.lookup y = some .local := by
              rw [g.g.sc]
              unfold swapOn at hsw
              simp only [Bool.and_eq_true, decide_eq_true_eq] at hsw
              exact hsw.1.1
            have res := s_setLc (P := P) (W := W) (pos := cpos) (spos := pos) (py := py) (tgt := tg2) (i := i) (g.g.calm h1) (by rw [g.g.hN]; exact g.g.nd) (by rw [g.g.hN]; exact h0) hyl (by rw [sw_eq hk', g.g.sc, hsw]) hi bo
              (fun s H C cl fp => chkT_ok tg2 (g.g.blk s H scope C cl fp) h6) (fun s H C cl fp => chkTs_ok ifs (g.g.blk s H scope C cl fp) h7) (fun s H C cl fp => (chkE_ok elt (g.g.blk s H scope C cl fp) h8).v rfl) (noSet_ok h4 _) (by rw [ownP_snd]; exact h5)
            rw [ownP_snd] at res
            exact res
          · cases h
        · rename_i hsw
          rw [Bool.and_eq_true] at h
          refine s_asg ((chkE_ok e g.g h.2).v rfl) (chkT_ok t g.g h.1) ?_ rfl rfl
          show swapsWith (.ListComp elt' [⟨tg', it', ifs', 0⟩] scope cpos) (some (.Name y py)) pos.line X.env = pure false
          rw [sw_eq hk', g.g.sc]
          rw [show swapOn sc y py cpos scope = false by simpa using hsw]
      · simp only [Bool.and_eq_true] at h
        obtain ⟨⟨⟨⟨h1, h2⟩, h3⟩, h4⟩, h5⟩ := h
        exact s_asg ((chkE_ok e g.g h5).v rfl) (chkT_ok t g.g h4) (show swapsWithSole [tg] x pos.line X.env = pure false from swaps_no h1 (some tg) pos.line X.env) (noSwap_ok h3 _) h2
    · cases h
  | .par i j a b, hot, X, W, sc, fc, st, g, h => by
    unfold chkS at h
    split at h
    · simp only [Bool.and_eq_true, decide_eq_true_eq, Bool.not_eq_true'] at h
      obtain ⟨⟨⟨⟨⟨⟨h1, h2⟩, h3⟩, h4⟩, h5⟩, h6⟩, h7⟩ := h
      have h5' := h5
      unfold swapPar at h5'
      simp only [Bool.and_eq_true, decide_eq_true_eq, Bool.not_eq_true', beq_iff_eq] at h5'
      obtain ⟨⟨⟨⟨⟨⟨⟨⟨k1, k2⟩, k3⟩, k4⟩, k5⟩, k6⟩, k7⟩, k8⟩, k9⟩ := h5'
      exact s_par (g.g.calm h1) (by rw [g.g.hN]; exact g.g.nd) (by rw [g.g.hN]; exact h2) (by rw [g.g.hN]; exact h3) h4 (by rw [g.g.sc]; exact k2) (by rw [g.g.sc]; exact k3) ((chkE_ok a g.g h6).v rfl) k8 ((chkE_ok b g.g h7).v rfl) k9 (sw_par (by rw [g.g.sc]; exact h5))
    · cases h
  | .seti o i e, hot, X, W, sc, fc, st, g, h => by
    unfold chkS at h
    split at h
    · simp only [Bool.and_eq_true] at h
      obtain ⟨⟨⟨⟨h1, h2⟩, h3⟩, h4⟩, h5⟩ := h
      exact s_seti g.g.un ((chkE_ok e g.g h3).v rfl) ((chkE_ok o g.g h4).v rfl) ((chkE_ok i g.g h5).v rfl) h1 (noSwap_ok rfl _) h2
    · cases h
  | .ife t a b, hot, X, W, sc, fc, st, g, h => by
    unfold chkS at h
    split at h
    · simp only [Bool.and_eq_true] at h
      obtain ⟨⟨h1, h2⟩, h3⟩ := h
      exact s_if ((chkE_ok t g.g h1).b rfl).1 (chkSs_ok a g h2) (chkSs_ok b g h3)
    · cases h
  | .ret e, hot, X, W, sc, fc, st, g, h => by
    unfold chkS at h
    split at h
    · exact s_ret ((chkE_ok e g.g h).v rfl)
    · cases h
  | .retN, hot, X, W, sc, fc, st, g, h => by
    unfold chkS at h
    split at h
    · exact s_retN
    · cases h
  | .forr t it b, hot, X, W, sc, fc, st, g, h => by
    unfold chkS at h
    split at h
    · simp only [Bool.and_eq_true, Bool.not_eq_true'] at h
      obtain ⟨⟨⟨⟨h1, h2⟩, h3⟩, h4⟩, h5⟩ := h
      exact s_for (g.own h1) (g.g.calm h1) (chkIt_ok it g.g h3) (chkT_ok t g.g h2) (chkSs_ok b g h5) (noSet_ok h4 _)
    · cases h
  | .raise c es, hot, X, W, sc, fc, st, g, h => by
    unfold chkS at h
    split at h
    · simp only [Bool.and_eq_true, decide_eq_true_eq, Bool.not_eq_true'] at h
      obtain ⟨⟨⟨⟨⟨h1, h2⟩, h3⟩, h4⟩, h5⟩, h6⟩ := h
      have hC : P.exc[c]? = some P.exc[c] := List.getElem?_eq_getElem h3
      obtain ⟨k, hr, A⟩ := g.exa h1
      obtain ⟨fI, A⟩ := A c _ hC
      obtain ⟨x1, x2⟩ := g.exo c _ hC
      have p := chkEs_ok es g.g h6
      refine PS.of (s_raise (W := W) (P := P) (g.g.calm h1) (g.tk h1) hC A hr x1 x2 (glB_ok (by rw [g.g.sc]; exact h4)) (g.exn c _ h2) (okNm_ok h5).1 p) fun D σ H ⟨env, S, m, hs, hen, hp⟩ => ⟨env, S, m, hs, hen, ?_⟩
      have hp : PostS X.K T W X.pn D m ((evEs P cf es env S).thn env fun xs S1 => match P.exc[c]? with
        | some C => if xs.length = C.args then .er ⟨c, C.ns, C.fill xs⟩ env S1 else .bad
        | none => .bad) := hp
      rw [evEs_all es] at hp
      exact hp
    · cases h
  | .trye b cs i hh, hot, X, W, sc, fc, st, g, h => by
    unfold chkS at h
    split at h
    · split at h
      · rename_i y np n b0 suite pos' pos body c
        simp only [Bool.and_eq_true, decide_eq_true_eq, Bool.not_eq_true'] at h
        obtain ⟨⟨⟨⟨⟨⟨⟨⟨h1, h2⟩, h3⟩, h4⟩, h5⟩, h6⟩, h7⟩, h8⟩, h9⟩ := h
        subst h1
        exact s_try g.stk g.frm (by rw [g.g.hN]; exact g.g.nd) (by rw [g.g.hN]; exact h6) (show X.env.scope.names.lookup n = some .local by rw [g.g.sc]; exact h7) ⟨glB_ok (by rw [g.g.sc]; exact h4), (okNm_ok h5).1, .inl (g.exn c _ h2)⟩ (g.exm c h3) (g.tk rfl)
          (fun W' pn xe tk' hp => chkSs_ok b (g.tr W' pn xe tk' hp) h8) (fun a oe pn => chkSs_ok hh (g.suite a oe pn) h9)
      · cases h
    · cases h
  | .brk, hot, X, W, sc, fc, st, g, h => by
    unfold chkS at h
    split at h
    · exact s_brk
    · cases h
  | .cont, hot, X, W, sc, fc, st, g, h => by
    unfold chkS at h
    split at h
    · exact s_cont
    · cases h
  | .pass, hot, X, W, sc, fc, st, g, h => by
    unfold chkS at h
    split at h
    · exact s_pass
    · cases h
  | .aug _ _ _, hot, X, W, sc, fc, st, g, h => by unfold chkS at h; cases h
  | .setf _ _ _, hot, X, W, sc, fc, st, g, h => by unfold chkS at h; cases h
  | .augf _ _ _ _, hot, X, W, sc, fc, st, g, h => by unfold chkS at h; cases h
  | .wh _ _ _, hot, X, W, sc, fc, st, g, h => by unfold chkS at h; cases h
  | .still _, hot, X, W, sc, fc, st, g, h => by unfold chkS at h; cases h
theorem chkSs_ok : ∀ (ss : Ss) {hot : Bool} {X : Cx} {W : WX} {sc : Scope} {fc : Str → Bool} {sts : List Stmt}, GdS G P cf T N hot X W sc fc → chkSs G P N ss hot sc fc sts = true → PSs X sts (tS X T W (evSs P cf ss))
  | .nil, hot, X, W, sc, fc, sts, g, h => by
    unfold chkSs at h
    cases sts with
    | nil => exact s_nil
    | cons _ _ => cases h
  | .cons s ss, hot, X, W, sc, fc, sts, g, h => by
    unfold chkSs at h
    rw [Bool.or_eq_true] at h
    rcases h with h | h
    · refine ⟨fun pins s' σ H D I ⟨env, S, m, hs, hen, hp⟩ => ?_⟩
      have hp : PostS X.K T W X.pn D m (match evS P cf s env S with
        | .nx env' S' => evSs P cf ss env' S'
        | r => r) := hp
      rw [isBad_ok h] at hp
      exact hp.elim
    · split at h
      · exact s_still (chkSs_ok ss g h)
      · split at h
        · rw [Bool.and_eq_true] at h
          exact s_cons (chkS_ok s g h.1) (chkSs_ok ss g h.2)
        · cases h
end
end
end HI
set_option Elab.async false
set_option linter.all false
set_option maxRecDepth 100000
set_option maxHeartbeats 8000000
/-! HiFn: every def keeps what the evaluator says, by the evaluator's fuel. -/
namespace HI
open PySem PySem.Spec PyProof.Rows L2

/-- what is known of a def -/
structure FnFacts (K : PySem.W.Frag) (T : Tab) (G : Gam) (P : Prog) (f : Nat) (F : FnDef) : Prop where
  ex : ∃ (name qual : Str) (params : Arguments) (body : List Stmt) (scope : Scope) (dV kV doc pm cdv ct oc : Value) (an od : Option Addr) (osl : Array (Option Value)) (N ps : List Str),
    K.lookup (T.fnA f) = some ⟨oc, od, .func (PySem.W.fnOf name qual params body scope dV kV doc pm an cdv ct), osl⟩ ∧ PySem.W.codeIn K cdv qual = true ∧ FnScope N ps scope ∧ ps.length = F.np ∧ N.length = F.ns ∧ F.np ≤ F.ns ∧ chkSs G P N F.body false scope (fun _ => true) body = true ∧
      Binds K (PySem.W.fnOf name qual params body scope dV kV doc pm an cdv ct) ps []
  kp : PySem.W.keepIn K (.ref (T.fnA f)) = true
/-- what is known of the text -/
structure Stat (Pg : Program) (w : World) (K : PySem.W.Frag) (mg : Str → Option Value) (base : Heap) (T : Tab) (G : Gam) (P : Prog) : Prop where
  fn : ∀ (f : Nat) (F : FnDef), P.fns[f]? = some F → FnFacts K T G P f F
  out : ∀ f : Nat, P.fns[f]? = none → T.fnA f = T.fnA 0
  one : P.fns[0]? ≠ none
  kd : ∀ a z v, T.kd a z v → KDct K w a z v
  sw : T.sw = w
  bi : ∀ x ∈ G.bi, mg x = none
  fnN : ∀ (f : Nat) (x : Str), G.fn[f]? = some x → mg x = some (.ref (T.fnA f))
  cl : ∀ (f : Nat) (x : Str), G.cl[f]? = some x → mg x = some (.ref (T.clA f))
  con : ∀ (x : Str) (d : D), P.con.lookup x = some d → ∃ v u, mg x = some u ∧ RelV v u ∧ ∀ m, Rep K T m d v
  cls : Clss K T P
  exn : ∀ (c : Nat) (x : Str), G.ex[c]? = some x → mg x = some (.ref (T.exA c))
  exo : ∀ (c : Nat) (C : ExcDef), P.exc[c]? = some C → XOk K T c C.ns ∧ C.args ≤ 900
  exm : ∀ c, c < P.exc.length → ExMatch K T P c
  exa : ∀ (c : Nat) (C : ExcDef), P.exc[c]? = some C → ∃ fI, ExAt Pg w K mg base P.exc.length C.base C.args C.flds (T.exA c) fI
section
variable {Pg : Program} {w : World} {K : PySem.W.Frag} {mg : Str → Option Value} {base : Heap} {T : Tab} {G : Gam} {P : Prog}
theorem ExAt.mono {j k : Nat} {b : XB} {np : Nat} {fl : Flds} {C fI : Addr} (A : ExAt Pg w K mg base j b np fl C fI) (h : j ≤ k) : ExAt Pg w K mg base k b np fl C fI := by
  obtain ⟨h1, h2, h3, h4, fd, ps, F, hb⟩ := A
  exact ⟨h1, h2, h3, h4, fd, ps, F.mono h, hb⟩
def lv (P : Prog) (n : Nat) : Nat := P.exc.length + 2 * n
/-- the slots at a body's beginning -/
theorem env_start {m : Mem} {N : List Str} {ds : List D} {vs : List V} {np ns : Nat} (hr : Reps K T m ds vs) (h1 : ds.length = np) (h2 : N.length = ns) (h3 : np ≤ ns) : EnvOk K T [] m (ds.map some ++ List.replicate (ns - np) none) (L2.start N vs) := by
  have hl := hr.length
  refine ⟨?_, fun i d e => ?_⟩
  · unfold L2.start
    simp only [List.length_append, List.length_map, List.length_replicate]
    omega
  · have hi : i < ds.length := by
      by_cases hi : i < ds.length
      · exact hi
      · rw [List.getElem?_append_right (by simpa using hi), List.getElem?_replicate] at e
        split at e <;> cases e
    rw [List.getElem?_append_left (by simpa using hi), List.getElem?_map] at e
    cases q : ds[i]? with
    | none => rw [q] at e; cases e
    | some d' =>
      rw [q] at e
      cases e
      obtain ⟨v, k1, k2⟩ := hr.get q
      refine ⟨v, ?_, SlotOk.of k2⟩
      unfold L2.start
      rw [List.getElem?_append_left (by rw [List.length_map, ← hl]; exact hi), List.getElem?_map, k1]
      rfl
/-- a store of its own -/
def Mem.iso (m : Mem) (H : Hp) (S : Store) : Mem := ⟨m.fz, H, m.rho, S.top⟩
theorem SRc.iso {m : Mem} {S : Store} {H : Hp} (h : SRc K T m S H) : SRc K T (m.iso H S) ⟨S.top, []⟩ H where
  fz := h.fz
  fr := Same.refl H
  lo := rfl
  dom := fun r a e => by
    have := h.dom r a e
    exact ⟨this.1, this.2⟩
  cell := fun r c e => by
    unfold Store.get at e
    split at e
    · cases e
    · simp at e
  inj := h.inj
theorem SRc.uniso {m n : Mem} {S S' : Store} {H H' : Hp} (h : SRc K T m S H) (l : Le (m.iso H S) n) (h' : SRc K T n S' H') : SRc K T ⟨n.fz, m.fr, m.rho, m.lo⟩ S H' ∧ Le m ⟨n.fz, m.fr, m.rho, m.lo⟩ := by
  have hfr : Same H H' := by
    have := h'.fr
    rw [l.fr] at this
    exact this
  refine ⟨⟨h'.fz, h.fr.trans hfr, h.lo, fun r a e => ?_, fun r c e hd => ?_, h.inj⟩, ⟨l.fz, fun a o e => ?_, rfl, fun _ _ e => e, fun _ _ e => .inl e, rfl⟩⟩
  · have := h.dom r a e
    refine ⟨this.1, ?_⟩
    cases q : H a with
    | none => exact absurd q this.2
    | some o => rw [hfr _ _ q]; simp
  · obtain ⟨a, o, h1, h2, h3, h4, h5⟩ := h.cell r c e hd
    refine ⟨a, o, h1, ?_, h3, hfr _ _ h4, CellOk.monoF (m := m) (n := ⟨n.fz, m.fr, m.rho, m.lo⟩) ⟨l.fz, fun _ _ e => e⟩ h5⟩
    show n.fz a = none
    cases q : n.fz a with
    | none => rfl
    | some u =>
      rcases l.nw a u q with z | z
      · have z : m.fz a = some u := z
        rw [h2] at z; cases z
      · have z : H a = none := z
        rw [h4] at z; cases z
  · rcases l.nw a o e with z | z
    · exact .inl z
    · right
      have z : H a = none := z
      cases q : m.fr a with
      | none => rfl
      | some u => rw [h.fr _ _ q] at z; cases z
theorem rho_uniso {m n : Mem} {S : Store} {H : Hp} (l : Le (m.iso H S) n) : ∀ r a, r < S.top → n.rho r = some a → m.rho r = some a := fun r a hr e => by
  rcases l.ro r a e with z | z
  · exact z
  · have z : S.top ≤ r := z
    omega
theorem run_f_eq (n f : Nat) (ds : List D) (S : Store) : run P (n + 1) f ds S = (match P.fns[f]? with
    | none => .bad
    | some F =>
      if ds.length = F.np then
        let env := ds.map some ++ List.replicate (F.ns - F.np) none
        if F.iso then
          match evSs P (run P n) F.body env ⟨S.top, []⟩ with
          | .rt d _ => if below S.top d then .ok d S else .bad
          | .nx _ _ => .ok .non S
          | .er x _ _ => if belowAll S.top x.fs then .er x S else .bad
          | _ => .bad
        else
          match evSs P (run P n) F.body env S with
          | .rt d S' => .ok d S'
          | .nx _ S' => .ok .non S'
          | .er x _ S' => .er x S'
          | _ => .bad
      else .bad) := rfl
theorem fn_core (St : Stat Pg w K mg base T G P) {n : Nat} (F0 : Fns Pg w K mg base T (lv P n) (run P n)) {f : Nat} {F : FnDef} (hF : P.fns[f]? = some F) {name qual : Str} {params : Arguments} {body : List Stmt} {scope : Scope} {dV kV doc pm cdv ct oc : Value} {an od : Option Addr} {osl : Array (Option Value)} {N ps : List Str}
    (lk : K.lookup (T.fnA f) = some ⟨oc, od, .func (PySem.W.fnOf name qual params body scope dV kV doc pm an cdv ct), osl⟩) (hcd : PySem.W.codeIn K cdv qual = true) (S0 : FnScope N ps scope) (h1 : ps.length = F.np) (h2 : N.length = F.ns) (h3 : F.np ≤ F.ns) (hchk : chkSs G P N F.body false scope (fun _ => true) body = true) :
    FnOk Pg w K mg base (L2.CX Pg w) (lv P (n + 1)) (T.fnA f) (PySem.W.fnOf name qual params body scope dV kV doc pm an cdv ct) ps (spF K T (run P (n + 1) f)) := by
  have hlen : ∀ vs H Q E, spF K T (run P (n + 1) f) vs H Q E → vs.length = ps.length := by
    rintro vs H Q E ⟨m, S, ds, hs, hr, hp⟩
    rw [run_f_eq, hF] at hp
    dsimp only at hp
    split at hp
    · rename_i hl
      rw [← hr.length, hl, h1]
    · exact hp.elim
  have key := fn_of (CX := L2.CX Pg w) (P := Pg) (w := w) (mg := mg) (base := base) (k := lv P n + 1) (sp := spF K T (run P (n + 1) f)) lk hcd S0 hlen (fun A outer s H vs Q E hr hsp => by
    have hvl := hlen _ _ _ _ hsp
    obtain ⟨m, S, ds, hs, hrep, hp⟩ := hsp
    rw [run_f_eq, hF] at hp
    dsimp only at hp
    split at hp
    · rename_i hl
      have takes : Takes (cxOf (L2.CX Pg w) Pg w K mg base N qual scope (T.fnA f) cdv A outer s H E) (fun c d _ H' => E c d H') := takes_of rfl rfl rfl rfl
      have gd : GdS G P (run P n) T N false (cxOf (L2.CX Pg w) Pg w K mg base N qual scope (T.fnA f) cdv A outer s H E) (fun c d _ H' => E c d H') scope (fun _ => true) := {
        g := { hN := rfl, nd := S0.nd, sc := rfl, fc := rfl, calm := fun _ => rfl
               un := by have := hr.un; show (A.deeper (envOfC qual scope s.heap.objs.size (T.fnA f) cdv)).units + 200 < cLine; omega
               kd := St.kd, sw := St.sw, bi := St.bi, fn := St.fnN, cl := St.cl, con := St.con, cls := St.cls
               call := fun _ => ⟨lv P n, _, hr, F0, takes⟩ }
        stk := rfl
        frm := rfl
        own := fun _ => PassesOwn.leaving
        tk := fun _ => takes
        exn := St.exn
        exa := fun _ => ⟨lv P n, hr, fun c C hC => by
          obtain ⟨fI, a⟩ := St.exa c C hC
          exact ⟨fI, a.mono (by unfold lv; omega)⟩⟩
        exo := St.exo
        exm := St.exm
        fns := ⟨lv P n, F0, fun _ => hr⟩ }
      refine ⟨_, chkSs_ok F.body gd hchk, ?_⟩
      split at hp
      · -- a store of its own
        refine ⟨_, ⟨S.top, []⟩, m.iso H S, hs.iso, env_start (np := F.np) (Reps.monoF (m := m) (n := m.iso H S) ⟨Same.refl m.fz, fun _ _ e => e⟩ _ _ hrep) hl h2 h3, ?_⟩
        show PostS K T _ [] _ (m.iso H S) _
        cases q : evSs P (run P n) F.body (ds.map some ++ List.replicate (F.ns - F.np) none) ⟨S.top, []⟩ with
        | nx env' S' =>
          rw [q] at hp
          intro σ' H' n' l hs' hen
          obtain ⟨h4, l4⟩ := hs.uniso l hs'
          exact hp .non H' _ l4 h4 rfl
        | rt d S' =>
          rw [q] at hp
          dsimp only at hp
          split at hp
          · rename_i hbl
            intro v H' n' l hs' hd
            obtain ⟨h4, l4⟩ := hs.uniso l hs'
            exact hp v H' _ l4 h4 (Rep.mono' (m := n') (n := ⟨n'.fz, m.fr, m.rho, m.lo⟩) (Same.refl n'.fz) S.top (rho_uniso (m := m) l) d v hbl hd)
          · exact hp.elim
        | er x env' S' =>
          rw [q] at hp
          dsimp only at hp
          split at hp
          · rename_i hbl
            intro cls dx σ' H' n' l hs' hen hx
            obtain ⟨h4, l4⟩ := hs.uniso l hs'
            obtain ⟨x1, d, us, x2, x3, x4, x5, x6⟩ := hx
            exact hp cls dx H' _ l4 h4 ⟨x1, d, us, x2, x3, x4, Reps.mono' (m := n') (n := ⟨n'.fz, m.fr, m.rho, m.lo⟩) (Same.refl n'.fz) S.top (rho_uniso (m := m) l) _ _ hbl x5, x6⟩
          · exact hp.elim
        | bk env' S' => rw [q] at hp; exact hp.elim
        | ct env' S' => rw [q] at hp; exact hp.elim
        | bad => rw [q] at hp; exact hp.elim
      · refine ⟨_, S, m, hs, env_start hrep hl h2 h3, ?_⟩
        show PostS K T _ [] _ m _
        cases q : evSs P (run P n) F.body (ds.map some ++ List.replicate (F.ns - F.np) none) S with
        | nx env' S' => rw [q] at hp; exact fun σ' H' n' l hs' hen => hp .non H' n' l hs' rfl
        | rt d S' => rw [q] at hp; exact fun v H' n' l hs' hd => hp v H' n' l hs' hd
        | er x env' S' => rw [q] at hp; exact fun cls dx σ' H' n' l hs' hen hx => hp cls dx H' n' l hs' hx
        | bk env' S' => rw [q] at hp; exact hp.elim
        | ct env' S' => rw [q] at hp; exact hp.elim
        | bad => rw [q] at hp; exact hp.elim
    · exact hp.elim)
  exact key.mono (by unfold lv; omega)
theorem fn_step (St : Stat Pg w K mg base T G P) {n : Nat} (F0 : Fns Pg w K mg base T (lv P n) (run P n)) {f : Nat} {F : FnDef} (hF : P.fns[f]? = some F) : FnAt Pg w K mg base T (lv P (n + 1)) (run P (n + 1)) f := by
  have A := St.fn f F hF
  obtain ⟨name, qual, params, body, scope, dV, kV, doc, pm, cdv, ct, oc, an, od, osl, N, ps, lk, hcd, S0, h1, h2, h3, hchk, hb⟩ := A.ex
  exact ⟨⟨_, ps, fn_core St F0 hF lk hcd S0 h1 h2 h3 hchk, hb⟩, A.kp⟩
/-- what answers nothing -/
theorem fn_bad (St : Stat Pg w K mg base T G P) {k : Nat} {g : CallF} {f : Nat} (hA : ∃ j F, P.fns[j]? = some F ∧ T.fnA f = T.fnA j) (h : ∀ xs S, g f xs S = .bad) : FnAt Pg w K mg base T k g f := by
  obtain ⟨j, F, hF, e⟩ := hA
  have A := St.fn j F hF
  refine ⟨?_, by rw [e]; exact A.kp⟩
  obtain ⟨name, qual, params, body, scope, dV, kV, doc, pm, cdv, ct, oc, an, od, osl, N, ps, lk, hcd, S0, h1, h2, h3, hchk, hb⟩ := A.ex
  have no : ∀ vs H Q E, ¬ spF K T (g f) vs H Q E := by
    rintro vs H Q E ⟨m, S, ds, hs, hr, hp⟩
    rw [h] at hp
    exact hp
  exact ⟨_, ps, ⟨fun vs H Q E q => (no _ _ _ _ q).elim, fun A outer s H args us vs Q E _ _ _ _ q => (no _ _ _ _ q).elim⟩, hb⟩
theorem fns_all (St : Stat Pg w K mg base T G P) : ∀ n, Fns Pg w K mg base T (lv P n) (run P n) := by
  have at0 : ∀ f, ∃ j F, P.fns[j]? = some F ∧ T.fnA f = T.fnA j := fun f => by
    cases q : P.fns[f]? with
    | some F => exact ⟨f, F, q, rfl⟩
    | none =>
      cases q0 : P.fns[0]? with
      | none => exact absurd q0 St.one
      | some F => exact ⟨0, F, q0, St.out f q⟩
  intro n
  induction n with
  | zero => exact fun f => fn_bad St (at0 f) fun xs S => rfl
  | succ n ih =>
    intro f
    cases q : P.fns[f]? with
    | some F => exact fn_step St ih q
    | none => exact fn_bad St (at0 f) fun xs S => by rw [run_f_eq, q]
end
end HI
set_option Elab.async false
set_option linter.all false
set_option maxRecDepth 100000
set_option maxHeartbeats 8000000
/-! HiHead: what is read off the heap behind the top, and what comes of it. -/
namespace HI
open PySem PySem.Spec PyProof.Rows L2

/-! ### each def, without any heap -/
structure FnSt (G : Gam) (P : Prog) (F : FnDef) (d : He.DefD) : Prop where
  ex : ∃ N ps, FnScope N ps d.scope ∧ ps.length = F.np ∧ N.length = F.ns ∧ F.np ≤ F.ns ∧ chkSs G P N F.body false d.scope (fun _ => true) d.body = true ∧
    ∀ (kV doc pm : Value) (an : Option Addr) (cdv ct : Value) (us : List Value), us.length = ps.length → bindArgs (PySem.W.fnOf d.name d.qual d.params d.body d.scope .none kV doc pm an cdv ct) ⟨us, []⟩ = pure (ps.zip us)
  dfl : d.dfl = []
  kwd : d.kwd = []
/-- an exception's __init__, without any heap -/
structure ExSt (G : Gam) (P : Prog) (C : ExcDef) (d : He.DefD) : Prop where
  ex : ∃ N, FnScope N N d.scope ∧ N.length = C.args + 1 ∧ chkIni P G.ex G.bi N d.scope d.body C = true ∧
    ∀ (kV doc pm : Value) (an : Option Addr) (cdv ct : Value) (us : List Value), us.length = N.length → bindArgs (PySem.W.fnOf d.name d.qual d.params d.body d.scope .none kV doc pm an cdv ct) ⟨us, []⟩ = pure (N.zip us)
  dfl : d.dfl = []
  kwd : d.kwd = []
  args : C.args ≤ 900
/-- where all stands -/
def dAt (K : PySem.W.Frag) (dl : List He.DefD) (f : Nat) : Addr := He.fAd K ((dl[f]?.getD (dl.headD ⟨("", none), "", "", default, [], default, [], []⟩)).at_)
def gAt (K : PySem.W.Frag) (ns : List Str) (c : Nat) : Addr := He.ga K (ns[c]?.getD "")
def tabOf (w : World) (K : PySem.W.Frag) (G : Gam) (dl : List He.DefD) : Tab := ⟨dAt K dl, gAt K G.cl, gAt K G.ex, fun a z v => KDct K w a z v, w⟩
/-! ### facts of the heap -/
def dV (K : PySem.W.Frag) (dl : List He.DefD) : D → Option V
  | .str z => some (.str z)
  | .int i => some (.int i)
  | .bl b => some (.bl b)
  | .non => some .non
  | .fn f => some (.ref (dAt K dl f))
  | _ => none
def dVs (K : PySem.W.Frag) (dl : List He.DefD) : List D → Option (List V)
  | [] => some []
  | d :: ds => match dV K dl d, dVs K dl ds with
    | some v, some vs => some (v :: vs)
    | _, _ => none
theorem dV_rep {K : PySem.W.Frag} {w : World} {G : Gam} {dl : List He.DefD} {m : Mem} {d : D} {v : V} (h : dV K dl d = some v) : Rep K (tabOf w K G dl) m d v := by
  cases d <;> cases h <;> rfl
theorem dVs_rep {K : PySem.W.Frag} {w : World} {G : Gam} {dl : List He.DefD} {m : Mem} : ∀ {ds : List D} {vs : List V}, dVs K dl ds = some vs → Reps K (tabOf w K G dl) m ds vs
  | [], vs, h => by cases h; rfl
  | d :: ds, vs, h => by
    unfold dVs at h
    split at h
    · rename_i v vs' h1 h2
      cases h
      exact .cons (dV_rep h1) (dVs_rep h2)
    · cases h
def isVal (o : Option PySem.W.CFound) (v : Value) : Bool := match o with
  | some (.val u) => decide (u = v)
  | _ => false
theorem isVal_ok {o : Option PySem.W.CFound} {v : Value} (h : isVal o v = true) : o = some (.val v) := by
  unfold isVal at h
  split at h
  · rw [of_decide_eq_true h]
  · cases h
/-- a constant of the top -/
def conF (K : PySem.W.Frag) (dl : List He.DefD) (ts : List (Str × List Str)) : Str × D → Bool
  | (x, .str z) => (He.Fa.str x z).ok K
  | (x, .int i) => (He.Fa.int x i).ok K
  | (x, .kt xs) => (He.Fa.glo x).ok K && (match K.lookup (He.ga K x), dVs K dl xs with
    | some ⟨.type c, none, .seq its _, _⟩, some vs => decide (c = "tuple") && (decide (its.size ≤ sizeLine) && He.relAll vs its.toList)
    | _, _ => false)
  | (x, .kd ks ds) => (He.Fa.glo x).ok K && (match dVs K dl ds with
    | some vs => decide (ks.length = vs.length) && (decide (ts.lookup x ≠ none) && ((ks.zip vs).all fun q => match q.1 with
      | .inr z => (match PySem.W.nsIn K (He.ga K x) z with
        | some (some u) => He.relB q.2 u
        | _ => false)
      | .inl _ => true))
    | none => false)
  | _ => false
def exF (K : PySem.W.Frag) (x : Str) (C : ExcDef) : Bool := (He.Fa.glo x).ok K && (excB K C.base (He.ga K x) && (He.eqO (PySem.W.findIn K (.ref (He.ga K x)) "__setattr__") (some (some (.builtin "object.__setattr__"))) &&
  (decide (PySem.W.subIn K (.ref (He.ga K x)) (.type "BaseException") = some true) && (decide (PySem.W.typeIn K (.ref (He.ga K x)) = some (.type "type")) && (PySem.W.keepIn K (.ref (He.ga K x)) && (xfB K (He.ga K x) &&
  ((C.flds.all fun p => He.eqO (PySem.W.findIn K (.ref (He.ga K x)) p.1) (some none)) && (He.eqO (PySem.W.findIn K (.ref (He.ga K x)) "__init__") (some (some (.ref (He.ma K (He.ga K x) "__init__")))) && (decide (PySem.W.typeIn K (.ref (He.ma K (He.ga K x) "__init__")) = some (.type "function")) &&
  (PySem.W.keepIn K (.ref (He.ma K (He.ga K x) "__init__")) && (isVal (PySem.W.findCls K (.ref (He.ga K x)) (.type "type") "__init__") (.ref (He.ma K (He.ga K x) "__init__")) && (PySem.W.readsIn K (He.ga K x) (.type "type") &&
  (He.eqO (PySem.W.specialIn K (.ref (He.ga K x)) "__getattribute__") (some (some (.builtin "type.__getattribute__"))) && isVal (PySem.W.findCls K (.type C.base.nm) (.type "type") "__init__") (.builtin C.base.initId))))))))))))))
def factB (G : Gam) (P : Prog) (dl : List He.DefD) (ts : List (Str × List Str)) (K : PySem.W.Frag) : Bool :=
  (G.bi.all fun x => (He.Fa.free x).ok K) && ((G.fn.all fun x => (He.Fa.glo x).ok K) && ((P.con.all (conF K dl ts)) && (((List.range P.exc.length).all fun c => match G.ex[c]?, P.exc[c]? with
    | some x, some C => exF K x C
    | _, _ => false) && ((List.range P.exc.length).all fun j => (List.range P.exc.length).all fun c => decide (PySem.W.exmOne K (.ref (gAt K G.ex j)) (.ref (gAt K G.ex c)) = some (isSub P j [c]))))))
/-! ### the hook -/
abbrev HTab : Type := Str × List Str
def tabs (ts : List HTab) : List He.Tab := ts.map fun t => (fun K => He.ga K t.1, t.2)
abbrev AlH : Type := (Bool × List He.FnW) × List (Option (List (Option (Str × Int))))
def obsH (fb : PySem.W.Frag → Bool) (fn : List He.DefD) (ts : List HTab) (K : PySem.W.Frag) : AlH := ((fb K && fn.all (fun d => d.ok K), fn.map fun d => He.fnW K d.at_), ts.map fun t => He.dicW K (He.ga K t.1))
def valH (fn : List He.DefD) (ts : List HTab) (w : World) : AlH := ((true, fn.map He.DefD.val), ts.map fun t => some (He.keysIn w.params t.2))
def SaysH (fb : PySem.W.Frag → Bool) (fn : List He.DefD) (ts : List HTab) (w : World) (K : PySem.W.Frag) : Prop := obsH fb fn ts K = valH fn ts w
def obsHG (n : Nat) (fb : PySem.W.Frag → Bool) (fn : List He.DefD) (ts : List HTab) (g : Addr → Option Obj) : AlH := obsH fb fn ts (He.frG g (cStatics :: He.asD g n))
def hookH (n : Nat) (fb : PySem.W.Frag → Bool) (fn : List He.DefD) (ts : List HTab) : PySem.W.Hook where
  α := AlH
  obs := fun s => obsHG n fb fn ts s.heap.get?
  val := fun w => valH fn ts w
  says := fun w h => ∃ K : PySem.W.Frag, K.In h ∧ SaysH fb fn ts w K
  of := fun _ _ e => ⟨_, He.frG_in, e⟩
  keeps := fun _ _ _ ⟨K, hK, c⟩ k => ⟨K, PySem.W.Frag.In.keeps hK k, c⟩
theorem obsHG_eq {n : Nat} {fb : PySem.W.Frag → Bool} {fn : List He.DefD} {ts : List HTab} {g : Addr → Option Obj} {s : Shared} (h : ∀ a, g a = s.heap.get? a) : obsHG n fb fn ts g = (hookH n fb fn ts).obs s := by
  have e : g = s.heap.get? := funext h
  rw [e] <;> rfl
section
variable {fb : PySem.W.Frag → Bool} {fn : List He.DefD} {ts : List HTab} {w : World} {K : PySem.W.Frag}
theorem SaysH.fact (c : SaysH fb fn ts w K) : fb K = true := by
  have c1 : (fb K && fn.all (fun d => d.ok K)) = true := congrArg (fun z : AlH => z.1.1) c
  exact (Bool.and_eq_true_iff.mp c1).1
theorem SaysH.def_ (c : SaysH fb fn ts w K) {i : Nat} {d : He.DefD} (h : fn[i]? = some d) : ∃ fd, FunD K d.name d.qual d.params d.body d.scope (d.dvs K) (d.kws K) (He.fAd K d.at_) fd := by
  have c1 : (fb K && fn.all (fun d => d.ok K)) = true := congrArg (fun z : AlH => z.1.1) c
  have c2 := (Bool.and_eq_true_iff.mp c1).2
  have e : fn.map (fun d => He.fnW K d.at_) = fn.map He.DefD.val := congrArg (fun z : AlH => z.1.2) c
  have e2 : (fn.map fun d => He.fnW K d.at_)[i]? = (fn.map He.DefD.val)[i]? := by rw [e]
  rw [List.getElem?_map, List.getElem?_map, h] at e2
  exact He.DefD.funD (Option.some.inj e2) (List.all_eq_true.mp c2 d (List.mem_of_getElem? h))
theorem SaysH.tab (c : SaysH fb fn ts w K) {t : HTab} (h : t ∈ ts) : ∃ es n, KDict K w (He.ga K t.1) es n := by
  have e : ts.map (fun t => He.dicW K (He.ga K t.1)) = ts.map fun t => some (He.keysIn w.params t.2) := congrArg (fun z : AlH => z.2) c
  obtain ⟨i, hi, e1⟩ := List.getElem_of_mem h
  have e2 : (ts.map fun t => He.dicW K (He.ga K t.1))[i]? = (ts.map fun t => some (He.keysIn w.params t.2))[i]? := by rw [e]
  rw [List.getElem?_map, List.getElem?_map, List.getElem?_eq_getElem hi, e1] at e2
  exact He.dicW_ok (Option.some.inj e2)
end
/-! ### all of it -/
def fnAts (G : Gam) (dl : List He.DefD) : Bool := (List.range G.fn.length).all fun f => match G.fn[f]?, dl[f]? with
  | some x, some d => decide (d.at_ = (x, none))
  | _, _ => false
def exAts (G : Gam) (P : Prog) (xl : List He.DefD) : Bool := decide (G.ex.length = P.exc.length) && (List.range P.exc.length).all fun c => match G.ex[c]?, xl[c]?, P.exc[c]? with
  | some x, some d, some C => decide (d.at_ = (x, some ("__init__" : Str))) && (match C.own with
    | some (j, _) => decide (j < c)
    | none => true)
  | _, _, _ => false
theorem all_range {n : Nat} {p : Nat → Bool} (h : (List.range n).all p = true) {i : Nat} (hi : i < n) : p i = true := List.all_eq_true.mp h i (List.mem_range.mpr hi)
section
variable {Pg : Program} {w : World} {K : PySem.W.Frag} {mg : Str → Option Value} {h : Heap} {G : Gam} {P : Prog} {dl xl : List He.DefD} {ts : List HTab}
theorem dAt_of {f : Nat} {d : He.DefD} (e : dl[f]? = some d) : dAt K dl f = He.fAd K d.at_ := by unfold dAt; rw [e]; rfl
theorem gAt_of {ns : List Str} {c : Nat} {x : Str} (e : ns[c]? = some x) : gAt K ns c = He.ga K x := by unfold gAt; rw [e]; rfl
structure XFacts (K : PySem.W.Frag) (x : Str) (C : ExcDef) : Prop where
  glo : (He.Fa.glo x).ok K = true
  exc : ExC K C.base (He.ga K x)
  xf : XfC K (He.ga K x)
  no : ∀ p ∈ C.flds, PySem.W.findIn K (.ref (He.ga K x)) p.1 = some none
  init : PySem.W.findIn K (.ref (He.ga K x)) "__init__" = some (some (.ref (He.ma K (He.ga K x) "__init__")))
  tyI : PySem.W.typeIn K (.ref (He.ma K (He.ga K x) "__init__")) = some (.type "function")
  by_ : ByName K (He.ga K x) (He.ma K (He.ga K x) "__init__")
  hb : PySem.W.findCls K (.type C.base.nm) (.type "type") "__init__" = some (.val (.builtin C.base.initId))
theorem exF_ok {x : Str} {C : ExcDef} (c : exF K x C = true) : XFacts K x C := by
  unfold exF at c
  simp only [Bool.and_eq_true, decide_eq_true_eq, List.all_eq_true] at c
  obtain ⟨h1, h2, h3, h4, h5, h6, h7, h8, h9, h10, h11, h12, h13, h14, h15⟩ := c
  exact ⟨h1, ⟨excB_ok h2, He.eqO_ok h3, h4, h5, h6⟩, xfB_ok h7, fun p hp => He.eqO_ok (h8 p hp), He.eqO_ok h9, h10, ⟨h11, isVal_ok h12, h13, He.eqO_ok h14⟩, isVal_ok h15⟩
theorem conF_ok (X : K.In h) (Gm : h.Ns mainGlobals mg) (ht : ∀ x, ts.lookup x ≠ none → ∃ es n, KDict K w (He.ga K x) es n) {q : Str × D} (c : conF K dl ts q = true) : ∃ v u, mg q.1 = some u ∧ RelV v u ∧ ∀ m, Rep K (tabOf w K G dl) m q.2 v := by
  obtain ⟨x, d⟩ := q
  cases d <;> first | (cases c; done) | skip
  · obtain ⟨t, e⟩ := He.int_ok X Gm c
    exact ⟨_, _, e, (show RelV (V.int _) (Value.int _ t) from ⟨t, rfl⟩), fun m => rfl⟩
  · obtain ⟨t, e⟩ := He.str_ok X Gm c
    exact ⟨_, _, e, (show RelV (V.str _) (Value.str _ t) from ⟨t, rfl⟩), fun m => rfl⟩
  · rename_i xs
    unfold conF at c
    rw [Bool.and_eq_true] at c
    obtain ⟨c1, c2⟩ := c
    split at c2
    · rename_i cc its n sl vs e1 e2
      simp only [Bool.and_eq_true, decide_eq_true_eq] at c2
      obtain ⟨rfl, k1, k2⟩ := c2
      refine ⟨.ref (He.ga K x), _, He.glo_ok X Gm c1, rfl, fun m => ⟨_, vs, rfl, .inr ⟨_, its, n, e1, rfl, rfl, k1, He.relAll_ok k2⟩, ⟨_, e1, rfl, rfl⟩, dVs_rep e2⟩⟩
    · cases c2
  · rename_i ks ds
    unfold conF at c
    rw [Bool.and_eq_true] at c
    obtain ⟨c1, c2⟩ := c
    split at c2
    · rename_i vs e2
      simp only [Bool.and_eq_true, decide_eq_true_eq, List.all_eq_true] at c2
      obtain ⟨k0, k1, k2⟩ := c2
      obtain ⟨es, n, D⟩ := ht x k1
      refine ⟨.ref (He.ga K x), _, He.glo_ok X Gm c1, rfl, fun m => ⟨_, vs, rfl, fun z u e => ?_, dVs_rep e2⟩⟩
      have hm : (Sum.inr z, u) ∈ ks.zip vs := by
        unfold valV at e
        obtain ⟨p, e1, e3⟩ := Option.map_eq_some_iff.mp e
        have m1 := List.mem_of_find?_eq_some e1
        have m2 := List.find?_some e1
        have m2 : p.1 = Sum.inr z := by simpa using m2
        obtain ⟨p1, p2⟩ := p
        dsimp only at m2 e3
        subst m2 e3
        exact m1
      have k3 := k2 _ hm
      dsimp only at k3
      split at k3
      · rename_i u0 hu
        exact ⟨es, n, u0, D.at_, D.lit, hu, He.relB_ok k3⟩
      · cases k3
    · cases c2
theorem stat_of (X : K.In h) (Gm : h.Ns mainGlobals mg) (c : SaysH (factB G P dl ts) (dl ++ xl) ts w K) (hfn : ∀ (f : Nat) (F : FnDef), P.fns[f]? = some F → ∃ d, dl[f]? = some d ∧ FnSt G P F d) (hlen : dl.length = P.fns.length) (hone : P.fns[0]? ≠ none)
    (hex : ∀ (c : Nat) (C : ExcDef), P.exc[c]? = some C → ∃ d, xl[c]? = some d ∧ ExSt G P C d) (hcls : P.cls = []) (hcl : G.cl = []) (ha : fnAts G dl = true) (hx : exAts G P xl = true) (base : Heap) :
    Stat Pg w K mg base (tabOf w K G dl) G P := by
  have fb := c.fact
  unfold factB at fb
  simp only [Bool.and_eq_true, List.all_eq_true] at fb
  obtain ⟨f1, f2, f3, f4, f5⟩ := fb
  unfold exAts at hx
  rw [Bool.and_eq_true, decide_eq_true_eq] at hx
  obtain ⟨hxl, hx⟩ := hx
  have hbi : ∀ x ∈ G.bi, mg x = none := fun x hx => He.free_ok X Gm (f1 x hx)
  have hexN : ∀ (j : Nat) (x : Str), G.ex[j]? = some x → mg x = some (.ref (gAt K G.ex j)) := fun j x e => by
    rw [gAt_of e]
    have hj : j < P.exc.length := by rw [← hxl]; exact (List.getElem?_eq_some_iff.mp e).1
    have q := f4 j (List.mem_range.mpr hj)
    rw [e, List.getElem?_eq_getElem hj] at q
    exact He.glo_ok X Gm (exF_ok q).glo
  have xf : ∀ (j : Nat) (C : ExcDef), P.exc[j]? = some C → ∃ x, G.ex[j]? = some x ∧ XFacts K x C := fun j C e => by
    have hj : j < P.exc.length := (List.getElem?_eq_some_iff.mp e).1
    have hj' : j < G.ex.length := by rw [hxl]; exact hj
    have q := f4 j (List.mem_range.mpr hj)
    rw [e, List.getElem?_eq_getElem hj'] at q
    exact ⟨_, List.getElem?_eq_getElem hj', exF_ok q⟩
  have exall : ∀ (n c : Nat), c < n → ∀ C, P.exc[c]? = some C → ExAt Pg w K mg base (c + 1) C.base C.args C.flds (gAt K G.ex c) (He.ma K (gAt K G.ex c) "__init__") := by
    intro n
    induction n with
    | zero => intro c hc; omega
    | succ n ih =>
      intro c' hc C hC
      obtain ⟨x, e1, F⟩ := xf c' C hC
      obtain ⟨d, hd, S⟩ := hex c' C hC
      have hj : c' < P.exc.length := (List.getElem?_eq_some_iff.mp hC).1
      have hxc := all_range hx hj
      rw [e1, hd, hC] at hxc
      rw [Bool.and_eq_true, decide_eq_true_eq] at hxc
      obtain ⟨hat, hown⟩ := hxc
      have e2 := gAt_of (K := K) e1
      rw [e2]
      obtain ⟨N, sc, hN, hchk, hbind⟩ := S.ex
      obtain ⟨fd, FD⟩ := c.def_ (i := dl.length + c') (d := d) (by rw [List.getElem?_append_right (by omega)]; simpa using hd)
      have hfa : He.fAd K d.at_ = He.ma K (He.ga K x) "__init__" := by rw [hat]; rfl
      rw [hfa] at FD
      have hdv : d.dvs K = [] := by unfold He.DefD.dvs; rw [S.dfl]; rfl
      rw [hdv] at FD
      refine ⟨F.exc, F.no, F.init, F.tyI, ?_⟩
      have bb := FD.bindsN (ps := N) hbind
      obtain ⟨oc, od, dV, kV, doc, pm, an, cdv, ct, osl, e3, lk, hcd, _, _⟩ := FD.ex
      rw [e3] at lk
      refine ⟨fd, N, ?_, bb⟩
      rw [e3]
      refine init_fn (T := tabOf w K G dl) (ini := fun j => He.ma K (gAt K G.ex j) "__init__") lk hcd sc hN hchk F.hb hbi (fun j y ey => hexN j y ey) (fun j hj => ?_) (fun j args B ho hB => ?_)
      · obtain ⟨y, ey, Fy⟩ := xf j _ (List.getElem?_eq_getElem hj)
        show ByName K (gAt K G.ex j) (He.ma K (gAt K G.ex j) "__init__")
        rw [gAt_of ey]
        exact Fy.by_
      · rw [ho] at hown
        have hown : decide (j < c') = true := hown
        have hjc : j < c' := of_decide_eq_true hown
        exact (ih j (by omega) B hB).mono (by omega)
  refine {
    fn := fun f F hF => ?_
    out := fun f hf => ?_
    one := hone
    kd := fun a z v q => q
    sw := rfl
    bi := hbi
    fnN := fun f x e => ?_
    cl := fun f x e => by rw [hcl] at e; simp at e
    con := fun x d e => ?_
    cls := fun c C e => by rw [hcls] at e; simp at e
    exn := hexN
    exo := fun c' C hC => ?_
    exm := fun c' hc' j hj => ?_
    exa := fun c' C hC => ?_ }
  · obtain ⟨d, hd, S⟩ := hfn f F hF
    obtain ⟨fd, FD⟩ := c.def_ (i := f) (d := d) (by rw [List.getElem?_append_left (List.getElem?_eq_some_iff.mp hd).1]; exact hd)
    obtain ⟨N, ps, sc, h1, h2, h3, h4, hbind⟩ := S.ex
    have hdv : d.dvs K = [] := by unfold He.DefD.dvs; rw [S.dfl]; rfl
    rw [hdv] at FD
    have bb := FD.bindsN (ps := ps) hbind
    have ea : (tabOf w K G dl).fnA f = He.fAd K d.at_ := dAt_of hd
    refine ⟨?_, by rw [ea]; exact FD.kp⟩
    obtain ⟨oc, od, dV, kV, doc, pm, an, cdv, ct, osl, e3, lk, hcd, _, _⟩ := FD.ex
    rw [e3] at lk bb
    exact ⟨d.name, d.qual, d.params, d.body, d.scope, dV, kV, doc, pm, cdv, ct, oc, an, od, osl, N, ps, by rw [ea]; exact lk, hcd, sc, h1, h2, h3, h4, bb⟩
  · have hf' : dl[f]? = none := by
      rw [List.getElem?_eq_none_iff] at hf ⊢
      rw [hlen]; exact hf
    show dAt K dl f = dAt K dl 0
    cases hdl : dl with
    | nil => rfl
    | cons d r => rw [hdl] at hf'; unfold dAt; rw [hf']; rfl
  · have hf : f < G.fn.length := (List.getElem?_eq_some_iff.mp e).1
    have q := all_range ha hf
    rw [e] at q
    cases hd : dl[f]? with
    | none => rw [hd] at q; cases q
    | some d =>
      rw [hd] at q
      have q : d.at_ = (x, none) := of_decide_eq_true q
      have ea : (tabOf w K G dl).fnA f = He.fAd K d.at_ := dAt_of hd
      rw [ea, q]
      have z := f2 x (List.mem_of_getElem? e)
      exact He.glo_ok X Gm z
  · have hm : (x, d) ∈ P.con := PySem.mem_of_lookup e
    refine conF_ok (w := w) (G := G) X Gm (ts := ts) (fun y hy => ?_) (q := (x, d)) (f3 _ hm)
    cases q : ts.lookup y with
    | none => exact absurd q hy
    | some ks => exact c.tab (t := (y, ks)) (PySem.mem_of_lookup q)
  · obtain ⟨x, e1, F⟩ := xf c' C hC
    obtain ⟨d, hd, S⟩ := hex c' C hC
    refine ⟨⟨?_, fun f hf => ?_⟩, S.args⟩
    · show XfC K (gAt K G.ex c')
      rw [gAt_of e1]; exact F.xf
    · obtain ⟨p, hp, rfl⟩ := List.mem_map.mp hf
      show PySem.W.findIn K (.ref (gAt K G.ex c')) p.1 = some none
      rw [gAt_of e1]; exact F.no p hp
  · have q := f5 j (List.mem_range.mpr hj)
    have q2 : decide (PySem.W.exmOne K (.ref (gAt K G.ex j)) (.ref (gAt K G.ex c')) = some (isSub P j [c'])) = true := q c' (List.mem_range.mpr hc')
    exact of_decide_eq_true q2
  · exact ⟨_, (exall (c' + 1) c' (by omega) C hC).mono (by have := (List.getElem?_eq_some_iff.mp hC).1; omega)⟩
end
/-! ### the law's end -/
theorem walkEB {l : PySem.W.OpenLaw} {n k : Nat} {q : Program} {loose : List Str} {XP : (Str → Option Value) → Heap → Prop} {YP : World → Heap → Prop} {d : DefRec} {x : Str}
    (hn : l.most = some n) (hn2 : n ≤ sizeLine) (hdf : d.params.defaults = []) (hr : Room k callerA)
    (F : ∀ (w : World) (mg : Str → Option Value) (fa : Addr) (h : Heap), YP w h → h.Ns mainGlobals mg → mg d.name = some (.ref fa) →
      ∃ (K : PySem.W.Frag) (fd : FuncData) (sp : Sp), K.In h ∧ (∀ (s : Shared) (u : Value), BindsTo s fd ⟨[u], []⟩ [(x, u)]) ∧
        (∀ (H : Hp) (a : Addr) (ns : List Int), ns.length ≤ n → (∀ z ∈ ns, Builtin.Int.intBits z ≤ 1048576) → SqL K H a (ns.map V.int) → sp [.ref a] H (fun v _ => v = .bl true) fun _ _ _ => False) ∧
        ∀ base : Heap, K.In base → base.Ns mainGlobals mg → FnOk l.prog w K mg base (L2.CX l.prog w) k fa fd [x] sp) :
    PySem.W.WalkO q loose XP YP l.row.toRowW d [] (fun f vs => PySem.call f vs) := by
  refine Att.attach_callB hn hdf fun w s₀ s₁ mg mb fa o pm cd doc a vs ns G Y ho hd hcd hmg hobj hints hlen hbits hg => ?_
  obtain ⟨K, fd, sp, KX, hb, hsp, hF⟩ := F w mg fa _ Y G.T.g hmg
  exact law_call KX G.T.g G.T.b G.T.builtins G.T.nolimit hg hobj hints (Nat.le_trans hlen hn2) hr hF hb (fun H hO hS => hsp H a ns hlen hbits hS) fun H e s' hc => by
    obtain ⟨_, _, _, _, _, _, _, _, _, _, _, _, z⟩ := hc
    exact z
/-- the law's def, from what the evaluator says of it -/
theorem hi_law {l : PySem.W.OpenLaw} {w : World} {K : PySem.W.Frag} {mg : Str → Option Value} {h : Heap} {G : Gam} {P : Prog} {dl xl : List He.DefD} {ts : List HTab} {n i fuel : Nat} {x x0 : Str} {d : He.DefD} {fa : Addr} {FL : FnDef} {NL : List Str}
    (X : K.In h) (Gm : h.Ns mainGlobals mg) (c : SaysH (factB G P dl ts) (dl ++ xl) ts w K) (hfn : ∀ (f : Nat) (F : FnDef), P.fns[f]? = some F → ∃ d, dl[f]? = some d ∧ FnSt G P F d) (hlen : dl.length = P.fns.length) (hone : P.fns[0]? ≠ none)
    (hex : ∀ (c : Nat) (C : ExcDef), P.exc[c]? = some C → ∃ d, xl[c]? = some d ∧ ExSt G P C d) (hcls : P.cls = []) (hcl : G.cl = []) (ha : fnAts G dl = true) (hx : exAts G P xl = true)
    (hd : dl[i]? = some d) (hFL : P.fns[i]? = some FL) (sc : FnScope NL [x] d.scope) (h1 : FL.np = 1) (h2 : NL.length = FL.ns) (h3 : FL.np ≤ FL.ns) (hchk : chkSs G P NL FL.body false d.scope (fun _ => true) d.body = true)
    (hps : ∀ (kV doc pm : Value) (an : Option Addr) (cdv ct : Value) (us : List Value), us.length = 1 → bindArgs (PySem.W.fnOf d.name d.qual d.params d.body d.scope .none kV doc pm an cdv ct) ⟨us, []⟩ = pure ([x].zip us)) (hdfl : d.dfl = []) (hgn : G.fn[i]? = some x0) (hmg : mg x0 = some (.ref fa))
    (hL : ∀ ns : List Int, ns.length ≤ n → (∀ z ∈ ns, Builtin.Int.intBits z ≤ 1048576) → ∃ S, run P (fuel + 1) i [.scr ns] ⟨0, []⟩ = .ok (.bl true) S) :
    ∃ (fd : FuncData) (sp : Sp), (∀ (s : Shared) (u : Value), BindsTo s fd ⟨[u], []⟩ [(x, u)]) ∧
        (∀ (H : Hp) (a : Addr) (ns : List Int), ns.length ≤ n → (∀ z ∈ ns, Builtin.Int.intBits z ≤ 1048576) → SqL K H a (ns.map V.int) → sp [.ref a] H (fun v _ => v = .bl true) fun _ _ _ => False) ∧
        ∀ base : Heap, K.In base → base.Ns mainGlobals mg → FnOk l.prog w K mg base (L2.CX l.prog w) (lv P (fuel + 1)) fa fd [x] sp := by
  have hfa : fa = dAt K dl i := by
    have St := stat_of (Pg := l.prog) X Gm c hfn hlen hone hex hcls hcl ha hx h
    have e := St.fnN i x0 hgn
    rw [hmg] at e
    cases e; rfl
  obtain ⟨fd, FD⟩ := c.def_ (i := i) (d := d) (by rw [List.getElem?_append_left (List.getElem?_eq_some_iff.mp hd).1]; exact hd)
  have hdv : d.dvs K = [] := by unfold He.DefD.dvs; rw [hdfl]; rfl
  rw [hdv] at FD
  refine ⟨fd, spF K (tabOf w K G dl) (run P (fuel + 1) i), fun s u => FunD.bindsA (ps := [x]) FD hps s [u] rfl, fun H a ns hl hb hS => ?_, fun base KB GB => ?_⟩
  · obtain ⟨S, e⟩ := hL ns hl hb
    have s0 : SRc K (tabOf w K G dl) ⟨H, fun _ => none, fun _ => none, 0⟩ ⟨0, []⟩ H := {
      fz := Same.refl H
      fr := fun b o (e : (none : Option HO) = some o) => by cases e
      lo := rfl
      dom := fun r a (e : (none : Option Addr) = some a) => by cases e
      cell := fun r c e => by
        unfold Store.get at e
        split at e
        · cases e
        · simp at e
      inj := fun r r' a (e : (none : Option Addr) = some a) => by cases e }
    refine ⟨⟨H, fun _ => none, fun _ => none, 0⟩, ⟨0, []⟩, [.scr ns], s0, .cons ⟨a, rfl, hS⟩ Reps.nil, ?_⟩
    rw [e]
    exact fun b H' m' l hs hr => hr
  · have St := stat_of (Pg := l.prog) X Gm c hfn hlen hone hex hcls hcl ha hx base
    have F0 := fns_all St fuel
    obtain ⟨oc, od, dV, kV, doc, pm, an, cdv, ct, osl, e3, lk, hcd, _, _⟩ := FD.ex
    rw [e3] at lk
    have ea : (tabOf w K G dl).fnA i = He.fAd K d.at_ := dAt_of hd
    rw [← ea] at lk
    have z := fn_core St F0 hFL lk hcd sc (by rw [h1]; rfl) h2 h3 hchk
    rw [hfa, e3]
    exact z
end HI
set_option Elab.async false
set_option linter.all false
set_option maxRecDepth 100000
set_option maxHeartbeats 8000000
namespace HI
open PySem PySem.Spec PyProof.Rows L2
def i_sign : Nat := 0
def i_of_moments : Nat := 1
def i_beginning : Nat := 2
def i_earlier : Nat := 3
def i_of_stretches : Nat := 4
def i_of_courses : Nat := 5
def i_of_branches : Nat := 6
def i_of_parts : Nat := 7
def i_need_word : Nat := 8
def i_read_off : Nat := 9
def i__law_draw : Nat := 10
def i__law_flow : Nat := 11
def i__law_table : Nat := 12
def i__law_kinds_of : Nat := 13
def i__law_sign : Nat := 14
def i__law_kind_of_parts : Nat := 15
def i__law_kind_of_stretches : Nat := 16
def i__law_kind_of : Nat := 17
def i__law_same : Nat := 18
def i__law_number : Nat := 19
def i__law_thing : Nat := 20
def i_law : Nat := 21
def x_i_Missing : Nat := 0
def x_i_NoTable : Nat := 1
/- 0 sign: one other -/
def f_sign : FnDef := { np := 2, ns := 2, iso := true, body :=
  (.cons (.ret (.ife (.op (.cmp .lt) (.cons (.var 0) (.cons (.var 1) .nil))) (.int 0) (.ife (.op (.cmp .eq) (.cons (.var 0) (.cons (.var 1) .nil))) (.int 1) (.int 2)))) .nil) }
def n_sign : List Str := ["one", "other"]
/- 1 of_moments: one other -/
def f_of_moments : FnDef := { np := 2, ns := 2, iso := true, body :=
  (.cons (.ret (.op .sub (.cons (.op .tup (.cons (.str "ahead") (.cons (.str "same") (.cons (.str "behind") .nil)))) (.cons (.call i_sign (.cons (.var 0) (.cons (.var 1) .nil))) .nil)))) .nil) }
def n_of_moments : List Str := ["one", "other"]
/- 2 beginning: one other -/
def f_beginning : FnDef := { np := 2, ns := 2, iso := true, body :=
  (.cons (.ret (.op .sub (.cons (.op .tup (.cons (.str "begins") (.cons (.str "same") (.cons (.str "begun") .nil)))) (.cons (.call i_sign (.cons (.op .sub (.cons (.var 0) (.cons (.int 1) .nil))) (.cons (.op .sub (.cons (.var 1) (.cons (.int 1) .nil))) .nil))) .nil)))) .nil) }
def n_beginning : List Str := ["one", "other"]
/- 3 earlier: one other -/
def f_earlier : FnDef := { np := 2, ns := 2, iso := true, body :=
  (.cons (.ife (.op (.cmp .lt) (.cons (.op .sub (.cons (.var 0) (.cons (.int 1) .nil))) (.cons (.op .sub (.cons (.var 1) (.cons (.int 0) .nil))) .nil))) (.cons (.ret (.str "before")) .nil) .nil) (.cons (.ife (.op (.cmp .eq) (.cons (.op .sub (.cons (.var 0) (.cons (.int 1) .nil))) (.cons (.op .sub (.cons (.var 1) (.cons (.int 0) .nil))) .nil))) (.cons (.ret (.str "meets")) .nil) .nil) (.cons (.ret (.op .sub (.cons (.op .tup (.cons (.str "overlaps") (.cons (.str "ended") (.cons (.str "around") .nil)))) (.cons (.call i_sign (.cons (.op .sub (.cons (.var 0) (.cons (.int 1) .nil))) (.cons (.op .sub (.cons (.var 1) (.cons (.int 1) .nil))) .nil))) .nil)))) .nil))) }
def n_earlier : List Str := ["one", "other"]
/- 4 of_stretches: one other -/
def f_of_stretches : FnDef := { np := 2, ns := 2, iso := true, body :=
  (.cons (.ife (.op (.cmp .eq) (.cons (.op .sub (.cons (.var 0) (.cons (.int 0) .nil))) (.cons (.op .sub (.cons (.var 1) (.cons (.int 0) .nil))) .nil))) (.cons (.ret (.call i_beginning (.cons (.var 0) (.cons (.var 1) .nil)))) .nil) .nil) (.cons (.ife (.op (.cmp .lt) (.cons (.op .sub (.cons (.var 0) (.cons (.int 0) .nil))) (.cons (.op .sub (.cons (.var 1) (.cons (.int 0) .nil))) .nil))) (.cons (.ret (.call i_earlier (.cons (.var 0) (.cons (.var 1) .nil)))) .nil) .nil) (.cons (.ret (.op .sub (.cons (.con "STRETCH_KINDS") (.cons (.op (.bin .sub) (.cons (.int 12) (.cons (.bm .index (.con "STRETCH_KINDS") (.cons (.call i_earlier (.cons (.var 1) (.cons (.var 0) .nil))) .nil)) .nil))) .nil)))) .nil))) }
def n_of_stretches : List Str := ["one", "other"]
/- 5 of_courses: one other across up -/
def f_of_courses : FnDef := { np := 2, ns := 4, iso := true, body :=
  (.cons (.par 2 3 (.call i_sign (.cons (.op .sub (.cons (.var 0) (.cons (.int 0) .nil))) (.cons (.op .sub (.cons (.var 1) (.cons (.int 0) .nil))) .nil))) (.call i_sign (.cons (.op .sub (.cons (.var 0) (.cons (.int 1) .nil))) (.cons (.op .sub (.cons (.var 1) (.cons (.int 1) .nil))) .nil)))) (.cons (.ret (.op .sub (.cons (.con "COURSE_KINDS") (.cons (.op (.bin .add) (.cons (.op (.bin .mul) (.cons (.int 3) (.cons (.var 3) .nil))) (.cons (.var 2) .nil))) .nil)))) .nil)) }
def n_of_courses : List Str := ["one", "other", "across", "up"]
/- 6 of_branches: one other -/
def f_of_branches : FnDef := { np := 2, ns := 2, iso := true, body :=
  (.cons (.ife (.op (.cmp .eq) (.cons (.var 0) (.cons (.var 1) .nil))) (.cons (.ret (.str "same")) .nil) .nil) (.cons (.ife (.op (.cmp .eq) (.cons (.op (.bi .list) (.cons (.var 0) .nil)) (.cons (.op (.slc false true) (.cons (.op (.bi .list) (.cons (.var 1) .nil)) (.cons (.op (.bi .len) (.cons (.var 0) .nil)) .nil))) .nil))) (.cons (.ret (.str "up")) .nil) .nil) (.cons (.ret (.ife (.op (.cmp .eq) (.cons (.op (.bi .list) (.cons (.var 1) .nil)) (.cons (.op (.slc false true) (.cons (.op (.bi .list) (.cons (.var 0) .nil)) (.cons (.op (.bi .len) (.cons (.var 1) .nil)) .nil))) .nil))) (.str "down") (.str "apart"))) .nil))) }
def n_of_branches : List Str := ["one", "other"]
def q_of_parts_0 : Es :=
  (.cons (.op (.cmp .notin) (.cons (.var 4) (.cons (.var 1) .nil))) .nil)
def c_of_parts_0 : E :=
  (.var 4)
def q_of_parts_1 : Es :=
  (.cons (.op (.cmp .notin) (.cons (.var 4) (.cons (.var 0) .nil))) .nil)
def c_of_parts_1 : E :=
  (.var 4)
/- 7 of_parts: one other mine theirs mark -/
def f_of_parts : FnDef := { np := 2, ns := 5, iso := true, body :=
  (.cons (.asg (.name 2) (.lc [4] (.name 4) (.val (.var 0)) q_of_parts_0 c_of_parts_0)) (.cons (.asg (.name 3) (.lc [4] (.name 4) (.val (.var 1)) q_of_parts_1 c_of_parts_1)) (.cons (.ife (.or (.op (.cmp .eq) (.cons (.var 2) (.cons (.op .lst .nil) .nil))) (.op (.cmp .eq) (.cons (.var 3) (.cons (.op .lst .nil) .nil)))) (.cons (.ret (.op .sub (.cons (.op .tup (.cons (.str "within") (.cons (.str "same") (.cons (.str "around") .nil)))) (.cons (.call i_sign (.cons (.op (.bi .len) (.cons (.var 0) .nil)) (.cons (.op (.bi .len) (.cons (.var 1) .nil)) .nil))) .nil)))) .nil) .nil) (.cons (.ret (.ife (.op (.cmp .eq) (.cons (.op (.bi .len) (.cons (.var 2) .nil)) (.cons (.op (.bi .len) (.cons (.var 0) .nil)) .nil))) (.str "apart") (.str "across"))) .nil)))) }
def n_of_parts : List Str := ["one", "other", "mine", "theirs", "mark"]
/- 8 need_word: word -/
def f_need_word : FnDef := { np := 1, ns := 1, iso := true, body :=
  (.cons (.ife (.op (.cmp .notin) (.cons (.var 0) (.cons (.con "WORDS") .nil))) (.cons (.raise x_i_NoTable (.cons (.var 0) .nil)) .nil) .nil) .nil) }
def n_need_word : List Str := ["word"]
/- 9 read_off: word one other way -/
def f_read_off : FnDef := { np := 3, ns := 4, iso := true, body :=
  (.cons (.expr (.call i_need_word (.cons (.var 0) .nil))) (.cons (.asg (.name 3) (.op .sub (.cons (.con "KIND_OF") (.cons (.var 0) .nil)))) (.cons (.ret (.calld (.var 3) (.cons (.var 1) (.cons (.var 2) .nil)))) .nil))) }
def n_read_off : List Str := ["word", "one", "other", "way"]
/- 10 _law_draw: _law_flow_here _law_size _law_cell _law_here _law_mixed _law_found -/
def f__law_draw : FnDef := { np := 2, ns := 6, iso := false, body :=
  (.cons (.ife (.op (.cmp .gt) (.cons (.op .sub (.cons (.var 0) (.cons (.int 2) .nil))) (.cons (.int 0) .nil))) (.cons (.asg (.name 5) (.op (.bin .mod) (.cons (.op .sub (.cons (.var 0) (.cons (.int 2) .nil))) (.cons (.var 1) .nil)))) (.cons (.seti (.var 0) (.int 2) (.op (.bin .fdivW) (.cons (.op .sub (.cons (.var 0) (.cons (.int 2) .nil))) (.cons (.var 1) .nil)))) (.cons (.ret (.var 5)) .nil))) .nil) (.cons (.asg (.name 2) (.int 0)) (.cons (.ife (.op (.cmp .lt) (.cons (.op .sub (.cons (.var 0) (.cons (.int 1) .nil))) (.cons (.op (.bi .len) (.cons (.op .sub (.cons (.var 0) (.cons (.int 0) .nil))) .nil)) .nil))) (.cons (.asg (.name 2) (.op .sub (.cons (.op .sub (.cons (.var 0) (.cons (.int 0) .nil))) (.cons (.op .sub (.cons (.var 0) (.cons (.int 1) .nil))) .nil)))) .nil) .nil) (.cons (.seti (.var 0) (.int 1) (.op (.bin .add) (.cons (.op .sub (.cons (.var 0) (.cons (.int 1) .nil))) (.cons (.int 1) .nil)))) (.cons (.ife (.op (.cmp .ge) (.cons (.op (.bi .abs) (.cons (.var 2) .nil)) (.cons (.op (.bin .pow) (.cons (.int 10) (.cons (.int 18) .nil))) .nil))) (.cons (.asg (.name 5) (.op (.bin .mod) (.cons (.op (.bi .abs) (.cons (.var 2) .nil)) (.cons (.var 1) .nil)))) (.cons (.seti (.var 0) (.int 2) (.op (.bin .fdivW) (.cons (.op (.bi .abs) (.cons (.var 2) .nil)) (.cons (.var 1) .nil)))) (.cons (.ret (.var 5)) .nil))) .nil) (.cons (.asg (.name 3) (.op (.bin .add) (.cons (.op (.bin .add) (.cons (.op (.bin .mul) (.cons (.op .sub (.cons (.var 0) (.cons (.int 3) .nil))) (.cons (.int 6364136223846793005) .nil))) (.cons (.op (.bin .mul) (.cons (.var 2) (.cons (.int 48271) .nil))) .nil))) (.cons (.int 1442695) .nil)))) (.cons (.asg (.name 3) (.op (.bin .mod) (.cons (.op (.bin .add) (.cons (.var 3) (.cons (.op (.bin .mul) (.cons (.op .sub (.cons (.var 0) (.cons (.int 1) .nil))) (.cons (.int 7919) .nil))) .nil))) (.cons (.int 2305843009213693951) .nil)))) (.cons (.seti (.var 0) (.int 3) (.var 3)) (.cons (.asg (.name 4) (.op (.bin .add) (.cons (.op (.bin .mul) (.cons (.var 3) (.cons (.int 69069) .nil))) (.cons (.op (.bin .mul) (.cons (.op (.bin .fdiv) (.cons (.var 3) (.cons (.int 65536) .nil))) (.cons (.int 40503) .nil))) .nil)))) (.cons (.ife (.op (.cmp .gt) (.cons (.var 1) (.cons (.op (.bin .pow) (.cons (.int 10) (.cons (.int 6) .nil))) .nil))) (.cons (.ret (.op (.bin .mod) (.cons (.op (.bin .mul) (.cons (.var 4) (.cons (.var 3) .nil))) (.cons (.var 1) .nil)))) .nil) .nil) (.cons (.ret (.op (.bin .mod) (.cons (.op (.bin .fdiv) (.cons (.op (.bin .mod) (.cons (.var 4) (.cons (.int 2147483647) .nil))) (.cons (.int 64) .nil))) (.cons (.var 1) .nil)))) .nil))))))))))) }
def n__law_draw : List Str := ["_law_flow_here", "_law_size", "_law_cell", "_law_here", "_law_mixed", "_law_found"]
/- 11 _law_flow: _law_script -/
def f__law_flow : FnDef := { np := 1, ns := 1, iso := false, body :=
  (.cons (.ret (.op .lstM (.cons (.op (.bi .list) (.cons (.op (.slc false true) (.cons (.var 0) (.cons (.int 63) .nil))) .nil)) (.cons (.int 0) (.cons (.int 0) (.cons (.int 11) .nil)))))) .nil) }
def n__law_flow : List Str := ["_law_script"]
/- 12 _law_table: _law_kinds _law_same_here _law_backs _law_steps -/
def f__law_table : FnDef := { np := 4, ns := 4, iso := true, body :=
  (.cons (.ret (.op (.dK [.inr "kinds", .inr "same", .inr "back", .inr "step"]) (.cons (.op (.bi .list) (.cons (.var 0) .nil)) (.cons (.var 1) (.cons (.op .dz (.cons (.var 0) (.cons (.var 2) .nil))) (.cons (.var 3) .nil)))))) .nil) }
def n__law_table : List Str := ["_law_kinds", "_law_same_here", "_law_backs", "_law_steps"]
/- 13 _law_kinds_of: _law_word _law_first -/
def f__law_kinds_of : FnDef := { np := 1, ns := 2, iso := true, body :=
  (.cons (.ife (.op (.cmp .eq) (.cons (.var 0) (.cons (.str "moments") .nil))) (.cons (.ret (.op .lst (.cons (.str "ahead") (.cons (.str "same") (.cons (.str "behind") .nil))))) .nil) .nil) (.cons (.ife (.op (.cmp .eq) (.cons (.var 0) (.cons (.str "courses") .nil))) (.cons (.ret (.op .lst (.cons (.str "nw") (.cons (.str "n") (.cons (.str "ne") (.cons (.str "w") (.cons (.str "same") (.cons (.str "e") (.cons (.str "sw") (.cons (.str "s") (.cons (.str "se") .nil))))))))))) .nil) .nil) (.cons (.ife (.op (.cmp .eq) (.cons (.var 0) (.cons (.str "branches") .nil))) (.cons (.ret (.op .lst (.cons (.str "up") (.cons (.str "same") (.cons (.str "down") (.cons (.str "apart") .nil)))))) .nil) .nil) (.cons (.ife (.op (.cmp .eq) (.cons (.var 0) (.cons (.str "parts") .nil))) (.cons (.ret (.op .lst (.cons (.str "within") (.cons (.str "around") (.cons (.str "same") (.cons (.str "across") (.cons (.str "apart") .nil))))))) .nil) .nil) (.cons (.asg (.name 1) (.op .lst (.cons (.str "before") (.cons (.str "meets") (.cons (.str "overlaps") (.cons (.str "begins") (.cons (.str "within") (.cons (.str "ends") (.cons (.str "same") .nil))))))))) (.cons (.ret (.op (.bin .add) (.cons (.var 1) (.cons (.op .lst (.cons (.str "ended") (.cons (.str "around") (.cons (.str "begun") (.cons (.str "overlaid") (.cons (.str "met") (.cons (.str "after") .nil))))))) .nil)))) .nil)))))) }
def n__law_kinds_of : List Str := ["_law_word", "_law_first"]
/- 14 _law_sign: _law_one _law_other -/
def f__law_sign : FnDef := { np := 2, ns := 2, iso := true, body :=
  (.cons (.ret (.ife (.op (.cmp .lt) (.cons (.var 0) (.cons (.var 1) .nil))) (.int 0) (.ife (.op (.cmp .eq) (.cons (.var 0) (.cons (.var 1) .nil))) (.int 1) (.int 2)))) .nil) }
def n__law_sign : List Str := ["_law_one", "_law_other"]
/- 15 _law_kind_of_parts: _law_one _law_other -/
def f__law_kind_of_parts : FnDef := { np := 2, ns := 2, iso := true, body :=
  (.cons (.ife (.op .sEq (.cons (.op .sOf (.cons (.var 0) .nil)) (.cons (.op .sOf (.cons (.var 1) .nil)) .nil))) (.cons (.ret (.str "same")) .nil) .nil) (.cons (.ife (.op (.cmp .eq) (.cons (.op .sLen (.cons (.op .sSub (.cons (.op .sOf (.cons (.var 0) .nil)) (.cons (.op .sOf (.cons (.var 1) .nil)) .nil))) .nil)) (.cons (.int 0) .nil))) (.cons (.ret (.str "within")) .nil) .nil) (.cons (.ife (.op (.cmp .eq) (.cons (.op .sLen (.cons (.op .sSub (.cons (.op .sOf (.cons (.var 1) .nil)) (.cons (.op .sOf (.cons (.var 0) .nil)) .nil))) .nil)) (.cons (.int 0) .nil))) (.cons (.ret (.str "around")) .nil) .nil) (.cons (.ret (.ife (.op (.cmp .gt) (.cons (.op .sLen (.cons (.op .sAnd (.cons (.op .sOf (.cons (.var 0) .nil)) (.cons (.op .sOf (.cons (.var 1) .nil)) .nil))) .nil)) (.cons (.int 0) .nil))) (.str "across") (.str "apart"))) .nil)))) }
def n__law_kind_of_parts : List Str := ["_law_one", "_law_other"]
/- 16 _law_kind_of_stretches: _law_one _law_other _law_a _law_b _law_c _law_d -/
def f__law_kind_of_stretches : FnDef := { np := 2, ns := 6, iso := true, body :=
  (.cons (.asg (.tup (.cons (.name 2) (.cons (.name 3) .nil))) (.var 0)) (.cons (.asg (.tup (.cons (.name 4) (.cons (.name 5) .nil))) (.var 1)) (.cons (.ife (.op (.cmp .lt) (.cons (.var 3) (.cons (.var 4) .nil))) (.cons (.ret (.str "before")) .nil) .nil) (.cons (.ife (.op (.cmp .eq) (.cons (.var 3) (.cons (.var 4) .nil))) (.cons (.ret (.str "meets")) .nil) .nil) (.cons (.ife (.op (.cmp .lt) (.cons (.var 5) (.cons (.var 2) .nil))) (.cons (.ret (.str "after")) .nil) .nil) (.cons (.ife (.op (.cmp .eq) (.cons (.var 5) (.cons (.var 2) .nil))) (.cons (.ret (.str "met")) .nil) .nil) (.cons (.ife (.op (.cmp .eq) (.cons (.var 2) (.cons (.var 4) .nil))) (.cons (.ret (.op .sub (.cons (.op .lst (.cons (.str "begins") (.cons (.str "same") (.cons (.str "begun") .nil)))) (.cons (.call i__law_sign (.cons (.var 3) (.cons (.var 5) .nil))) .nil)))) .nil) .nil) (.cons (.ife (.op (.cmp .eq) (.cons (.var 3) (.cons (.var 5) .nil))) (.cons (.ret (.ife (.op (.cmp .gt) (.cons (.var 2) (.cons (.var 4) .nil))) (.str "ends") (.str "ended"))) .nil) .nil) (.cons (.ife (.op (.cmp .lt) (.cons (.var 2) (.cons (.var 4) .nil))) (.cons (.ret (.ife (.op (.cmp .lt) (.cons (.var 3) (.cons (.var 5) .nil))) (.str "overlaps") (.str "around"))) .nil) .nil) (.cons (.ret (.ife (.op (.cmp .lt) (.cons (.var 3) (.cons (.var 5) .nil))) (.str "within") (.str "overlaid"))) .nil)))))))))) }
def n__law_kind_of_stretches : List Str := ["_law_one", "_law_other", "_law_a", "_law_b", "_law_c", "_law_d"]
/- 17 _law_kind_of: _law_word _law_one _law_other _law_across _law_up -/
def f__law_kind_of : FnDef := { np := 3, ns := 5, iso := true, body :=
  (.cons (.ife (.op (.cmp .eq) (.cons (.var 0) (.cons (.str "moments") .nil))) (.cons (.ret (.op .sub (.cons (.op .lst (.cons (.str "ahead") (.cons (.str "same") (.cons (.str "behind") .nil)))) (.cons (.call i__law_sign (.cons (.var 1) (.cons (.var 2) .nil))) .nil)))) .nil) .nil) (.cons (.ife (.op (.cmp .eq) (.cons (.var 0) (.cons (.str "courses") .nil))) (.cons (.asg (.name 3) (.op .sub (.cons (.op .lst (.cons (.str "w") (.cons (.str "") (.cons (.str "e") .nil)))) (.cons (.call i__law_sign (.cons (.op .sub (.cons (.var 1) (.cons (.int 0) .nil))) (.cons (.op .sub (.cons (.var 2) (.cons (.int 0) .nil))) .nil))) .nil)))) (.cons (.asg (.name 4) (.op .sub (.cons (.op .lst (.cons (.str "n") (.cons (.str "") (.cons (.str "s") .nil)))) (.cons (.call i__law_sign (.cons (.op .sub (.cons (.var 1) (.cons (.int 1) .nil))) (.cons (.op .sub (.cons (.var 2) (.cons (.int 1) .nil))) .nil))) .nil)))) (.cons (.ret (.ife (.op (.cmp .ne) (.cons (.op (.bin .add) (.cons (.var 4) (.cons (.var 3) .nil))) (.cons (.str "") .nil))) (.op (.bin .add) (.cons (.var 4) (.cons (.var 3) .nil))) (.str "same"))) .nil))) .nil) (.cons (.ife (.op (.cmp .eq) (.cons (.var 0) (.cons (.str "branches") .nil))) (.cons (.ife (.op (.cmp .eq) (.cons (.var 1) (.cons (.var 2) .nil))) (.cons (.ret (.str "same")) .nil) .nil) (.cons (.ife (.op (.cmp .eq) (.cons (.op (.slc false true) (.cons (.var 2) (.cons (.op (.bi .len) (.cons (.var 1) .nil)) .nil))) (.cons (.var 1) .nil))) (.cons (.ret (.str "up")) .nil) .nil) (.cons (.ret (.ife (.op (.cmp .eq) (.cons (.op (.slc false true) (.cons (.var 1) (.cons (.op (.bi .len) (.cons (.var 2) .nil)) .nil))) (.cons (.var 2) .nil))) (.str "down") (.str "apart"))) .nil))) .nil) (.cons (.ife (.op (.cmp .eq) (.cons (.var 0) (.cons (.str "parts") .nil))) (.cons (.ret (.call i__law_kind_of_parts (.cons (.var 1) (.cons (.var 2) .nil)))) .nil) .nil) (.cons (.ret (.call i__law_kind_of_stretches (.cons (.var 1) (.cons (.var 2) .nil)))) .nil))))) }
def n__law_kind_of : List Str := ["_law_word", "_law_one", "_law_other", "_law_across", "_law_up"]
def c__law_same_0 : E :=
  (.call i__law_same (.cons (.op .sub (.cons (.var 0) (.cons (.var 2) .nil))) (.cons (.op .sub (.cons (.var 1) (.cons (.var 2) .nil))) .nil)))
/- 18 _law_same: _law_found _law_due _law_k -/
def f__law_same : FnDef := { np := 2, ns := 3, iso := false, body :=
  (.cons (.ife (.or (.op (.bi .isinst) (.cons (.var 1) (.cons (.gty .list) .nil))) (.op (.bi .isinst) (.cons (.var 1) (.cons (.gty .tuple) .nil)))) (.cons (.ife (.or (.op (.cmp .ne) (.cons (.op (.bi .isinst) (.cons (.var 0) (.cons (.gty .list) .nil))) (.cons (.op (.bi .isinst) (.cons (.var 1) (.cons (.gty .list) .nil))) .nil))) (.op (.cmp .ne) (.cons (.op (.bi .isinst) (.cons (.var 0) (.cons (.gty .tuple) .nil))) (.cons (.op (.bi .isinst) (.cons (.var 1) (.cons (.gty .tuple) .nil))) .nil)))) (.cons (.ret (.bl false)) .nil) .nil) (.cons (.ret (.and (.op (.cmp .eq) (.cons (.op (.bi .len) (.cons (.var 0) .nil)) (.cons (.op (.bi .len) (.cons (.var 1) .nil)) .nil))) (.op (.bi .all) (.cons (.lc [2] (.name 2) (.range1 (.op (.bi .len) (.cons (.var 1) .nil))) .nil c__law_same_0) .nil)))) .nil)) .nil) (.cons (.ife (.or (.op (.cmp .iss) (.cons (.var 1) (.cons .non .nil))) (.op (.cmp .iss) (.cons (.var 0) (.cons .non .nil)))) (.cons (.ret (.and (.op (.cmp .iss) (.cons (.var 0) (.cons .non .nil))) (.op (.cmp .iss) (.cons (.var 1) (.cons .non .nil))))) .nil) .nil) (.cons (.ife (.or (.op (.cmp .ne) (.cons (.op (.bi .isinst) (.cons (.var 0) (.cons (.gty .bool) .nil))) (.cons (.op (.bi .isinst) (.cons (.var 1) (.cons (.gty .bool) .nil))) .nil))) (.op (.cmp .ne) (.cons (.op (.bi .isinst) (.cons (.var 0) (.cons (.gty .int) .nil))) (.cons (.op (.bi .isinst) (.cons (.var 1) (.cons (.gty .int) .nil))) .nil)))) (.cons (.ret (.bl false)) .nil) .nil) (.cons (.ret (.and (.op (.cmp .eq) (.cons (.op (.bi .isinst) (.cons (.var 0) (.cons (.gty .str) .nil))) (.cons (.op (.bi .isinst) (.cons (.var 1) (.cons (.gty .str) .nil))) .nil))) (.op (.cmp .eq) (.cons (.var 0) (.cons (.var 1) .nil))))) .nil)))) }
def n__law_same : List Str := ["_law_found", "_law_due", "_law_k"]
/- 19 _law_number: _law_flow_here _law_few -/
def f__law_number : FnDef := { np := 2, ns := 2, iso := false, body :=
  (.cons (.ife (.op (.cmp .gt) (.cons (.call i__law_draw (.cons (.var 0) (.cons (.int 3) .nil))) (.cons (.int 0) .nil))) (.cons (.ret (.op .sub (.cons (.var 1) (.cons (.call i__law_draw (.cons (.var 0) (.cons (.op (.bi .len) (.cons (.var 1) .nil)) .nil))) .nil)))) .nil) .nil) (.cons (.ret (.op (.bin .sub) (.cons (.call i__law_draw (.cons (.var 0) (.cons (.op (.bin .mul) (.cons (.int 2) (.cons (.op (.bin .pow) (.cons (.int 10) (.cons (.int 29) .nil))) .nil))) .nil))) (.cons (.op (.bin .pow) (.cons (.int 10) (.cons (.int 29) .nil))) .nil)))) .nil)) }
def n__law_number : List Str := ["_law_flow_here", "_law_few"]
def c__law_thing_0 : E :=
  (.call i__law_draw (.cons (.var 0) (.cons (.int 2) .nil)))
def q__law_thing_0 : Es :=
  (.cons (.op (.bin .band) (.cons (.op (.bin .shr) (.cons (.var 3) (.cons (.var 6) .nil))) (.cons (.int 1) .nil))) .nil)
def c__law_thing_1 : E :=
  (.var 6)
/- 20 _law_thing: _law_flow_here _law_word _law_few _law_bits _law_low _law_high _law_mark _law_k -/
def f__law_thing : FnDef := { np := 3, ns := 8, iso := false, body :=
  (.cons (.ife (.op (.cmp .eq) (.cons (.var 1) (.cons (.str "moments") .nil))) (.cons (.ret (.call i__law_number (.cons (.var 0) (.cons (.var 2) .nil)))) .nil) .nil) (.cons (.ife (.op (.cmp .eq) (.cons (.var 1) (.cons (.str "courses") .nil))) (.cons (.ret (.op .tup (.cons (.call i__law_number (.cons (.var 0) (.cons (.var 2) .nil))) (.cons (.call i__law_number (.cons (.var 0) (.cons (.var 2) .nil))) .nil)))) .nil) .nil) (.cons (.ife (.op (.cmp .eq) (.cons (.var 1) (.cons (.str "stretches") .nil))) (.cons (.asg (.tup (.cons (.name 4) (.cons (.name 5) .nil))) (.op (.bi .sorted) (.cons (.op .lst (.cons (.call i__law_number (.cons (.var 0) (.cons (.var 2) .nil))) (.cons (.call i__law_number (.cons (.var 0) (.cons (.var 2) .nil))) .nil))) .nil))) (.cons (.ret (.op .tup (.cons (.var 4) (.cons (.op (.bin .add) (.cons (.var 5) (.cons (.op (.bi .int) (.cons (.op (.cmp .eq) (.cons (.var 5) (.cons (.var 4) .nil))) .nil)) .nil))) .nil)))) .nil)) .nil) (.cons (.ife (.op (.cmp .eq) (.cons (.var 1) (.cons (.str "branches") .nil))) (.cons (.ret (.op (.bi .tuple) (.cons (.lc [7] (.name 7) (.range1 (.op (.bin .add) (.cons (.int 1) (.cons (.call i__law_draw (.cons (.var 0) (.cons (.int 4) .nil))) .nil)))) .nil c__law_thing_0) .nil))) .nil) .nil) (.cons (.asg (.name 3) (.op (.bin .add) (.cons (.int 1) (.cons (.call i__law_draw (.cons (.var 0) (.cons (.int 31) .nil))) .nil)))) (.cons (.ret (.lc [6] (.name 6) (.range1 (.int 5)) q__law_thing_0 c__law_thing_1)) .nil)))))) }
def n__law_thing : List Str := ["_law_flow_here", "_law_word", "_law_few", "_law_bits", "_law_low", "_law_high", "_law_mark", "_law_k"]
def b_law_0 : Ss :=
  (.cons (.par 10 11 (.call i__law_thing (.cons (.var 1) (.cons (.var 3) (.cons (.var 6) .nil)))) (.call i__law_thing (.cons (.var 1) (.cons (.var 3) (.cons (.var 6) .nil))))) (.cons (.asg (.name 9) (.op .lst (.cons (.call i__law_kind_of (.cons (.var 3) (.cons (.var 10) (.cons (.var 11) .nil)))) (.cons (.call i__law_kind_of (.cons (.var 3) (.cons (.var 11) (.cons (.var 10) .nil)))) (.cons (.str "same") .nil))))) (.cons (.ife (.op (.cmp .notin) (.cons (.op .sub (.cons (.var 9) (.cons (.int 0) .nil))) (.cons (.op .sub (.cons (.var 7) (.cons (.str "kinds") .nil))) .nil))) (.cons (.ret (.bl false)) .nil) .nil) (.cons (.ife (.not (.call i__law_same (.cons (.op .lst (.cons (.call i_read_off (.cons (.var 3) (.cons (.var 10) (.cons (.var 11) .nil)))) (.cons (.call i_read_off (.cons (.var 3) (.cons (.var 11) (.cons (.var 10) .nil)))) (.cons (.call i_read_off (.cons (.var 3) (.cons (.var 10) (.cons (.var 10) .nil)))) .nil)))) (.cons (.var 9) .nil)))) (.cons (.ret (.bl false)) .nil) .nil) .nil))))
def b_law_1 : Ss :=
  (.cons (.asg (.name 6) (.op .lst (.cons (.op (.bin .sub) (.cons (.call i__law_draw (.cons (.var 1) (.cons (.int 9) .nil))) (.cons (.int 4) .nil))) (.cons (.op (.bin .sub) (.cons (.call i__law_draw (.cons (.var 1) (.cons (.int 9) .nil))) (.cons (.int 4) .nil))) (.cons (.op (.bin .sub) (.cons (.call i__law_draw (.cons (.var 1) (.cons (.op (.bin .mul) (.cons (.int 2) (.cons (.op (.bin .pow) (.cons (.int 10) (.cons (.int 29) .nil))) .nil))) .nil))) (.cons (.op (.bin .pow) (.cons (.int 10) (.cons (.int 29) .nil))) .nil))) .nil))))) (.cons (.asg (.name 7) (.call i__law_table (.cons (.call i__law_kinds_of (.cons (.var 3) .nil)) (.cons (.str "same") (.cons (.op .lst .nil) (.cons (.op (.dK []) .nil) .nil)))))) (.cons (.forr (.name 8) (.range1 (.int 4)) b_law_0) .nil)))
/- 21 law: _law_script _law_flow_here _law_words _law_word _law_right e _law_few _law_t _law_turn _law_due _law_one _law_other -/
def f_law : FnDef := { np := 1, ns := 12, iso := false, body :=
  (.cons (.asg (.name 1) (.call i__law_flow (.cons (.var 0) .nil))) (.cons (.asg (.name 2) (.op .lst (.cons (.str "moments") (.cons (.str "stretches") (.cons (.str "courses") (.cons (.str "branches") (.cons (.str "parts") .nil))))))) (.cons (.forr (.name 3) (.val (.var 2)) b_law_1) (.cons (.asg (.name 4) (.bl false)) (.cons (.trye (.cons (.expr (.call i_read_off (.cons (.str "part") (.cons (.op .lst (.cons (.int 1) .nil)) (.cons (.op .lst (.cons (.int 2) .nil)) .nil))))) .nil) [x_i_NoTable] 5 (.cons (.asg (.name 4) (.op (.cmp .eq) (.cons (.efld 5 "name") (.cons (.str "part") .nil)))) .nil)) (.cons (.ret (.var 4)) .nil)))))) }
def n_law : List Str := ["_law_script", "_law_flow_here", "_law_words", "_law_word", "_law_right", "e", "_law_few", "_law_t", "_law_turn", "_law_due", "_law_one", "_law_other"]
def fns : List FnDef := [f_sign, f_of_moments, f_beginning, f_earlier, f_of_stretches, f_of_courses, f_of_branches, f_of_parts, f_need_word, f_read_off, f__law_draw, f__law_flow, f__law_table, f__law_kinds_of, f__law_sign, f__law_kind_of_parts, f__law_kind_of_stretches, f__law_kind_of, f__law_same, f__law_number, f__law_thing, f_law]
def clss : List ClsDef := []
def e_Missing : ExcDef := { up := [0], base := .lookup, args := 1, own := none, asg := [("word", .arg 0)], flds := [("word", .arg 0)] }
def e_NoTable : ExcDef := { up := [1, 0], base := .lookup, args := 1, own := some (0, [.txt "NoTable"]), asg := [("name", .arg 0)], flds := [("name", .arg 0), ("word", .txt "NoTable")] }
def excs : List ExcDef := [e_Missing,
  e_NoTable]
def cons : List (Str × D) := [("STRETCH_KINDS", .kt [.str "before", .str "meets", .str "overlaps", .str "begins", .str "within", .str "ends", .str "same", .str "ended", .str "around", .str "begun", .str "overlaid", .str "met", .str "after"]),
  ("COURSE_KINDS", .kt [.str "nw", .str "n", .str "ne", .str "w", .str "same", .str "e", .str "sw", .str "s", .str "se"]),
  ("KIND_OF", .kd [.inr "moments", .inr "stretches", .inr "courses", .inr "branches", .inr "parts"] [.fn i_of_moments, .fn i_of_stretches, .fn i_of_courses, .fn i_of_branches, .fn i_of_parts]),
  ("WORDS", .kt [.str "moments", .str "stretches", .str "courses", .str "branches", .str "parts"])]
def prg : Prog := { fns := fns, cls := clss, exc := excs, con := cons }
def top (i : Nat) : Stmt := PySem.Challenge.pw_kindweft_k10_kinds_read_off.main.body.getD i (.Pass ⟨0, 0, 0, 0⟩)
def gam : Gam := { fn := ["sign", "of_moments", "beginning", "earlier", "of_stretches", "of_courses", "of_branches", "of_parts", "need_word", "read_off", "_law_draw", "_law_flow", "_law_table", "_law_kinds_of", "_law_sign", "_law_kind_of_parts", "_law_kind_of_stretches", "_law_kind_of", "_law_same", "_law_number", "_law_thing", "law"], cl := [], ex := ["Missing", "NoTable"], bi := ["LookupError", "abs", "all", "bool", "dict", "int", "isinstance", "len", "list", "range", "set", "sorted", "str", "tuple", "zip"] }
abbrev s_sign : Stmt := top 6
def d_sign : He.DefD := ⟨("sign", none), "sign", "sign", defArgs s_sign, defBody s_sign, defScope s_sign, [], []⟩
abbrev s_of_moments : Stmt := top 7
def d_of_moments : He.DefD := ⟨("of_moments", none), "of_moments", "of_moments", defArgs s_of_moments, defBody s_of_moments, defScope s_of_moments, [], []⟩
abbrev s_beginning : Stmt := top 8
def d_beginning : He.DefD := ⟨("beginning", none), "beginning", "beginning", defArgs s_beginning, defBody s_beginning, defScope s_beginning, [], []⟩
abbrev s_earlier : Stmt := top 9
def d_earlier : He.DefD := ⟨("earlier", none), "earlier", "earlier", defArgs s_earlier, defBody s_earlier, defScope s_earlier, [], []⟩
abbrev s_of_stretches : Stmt := top 10
def d_of_stretches : He.DefD := ⟨("of_stretches", none), "of_stretches", "of_stretches", defArgs s_of_stretches, defBody s_of_stretches, defScope s_of_stretches, [], []⟩
abbrev s_of_courses : Stmt := top 11
def d_of_courses : He.DefD := ⟨("of_courses", none), "of_courses", "of_courses", defArgs s_of_courses, defBody s_of_courses, defScope s_of_courses, [], []⟩
abbrev s_of_branches : Stmt := top 12
def d_of_branches : He.DefD := ⟨("of_branches", none), "of_branches", "of_branches", defArgs s_of_branches, defBody s_of_branches, defScope s_of_branches, [], []⟩
abbrev s_of_parts : Stmt := top 13
def d_of_parts : He.DefD := ⟨("of_parts", none), "of_parts", "of_parts", defArgs s_of_parts, defBody s_of_parts, defScope s_of_parts, [], []⟩
abbrev s_need_word : Stmt := top 17
def d_need_word : He.DefD := ⟨("need_word", none), "need_word", "need_word", defArgs s_need_word, defBody s_need_word, defScope s_need_word, [], []⟩
abbrev s_read_off : Stmt := top 18
def d_read_off : He.DefD := ⟨("read_off", none), "read_off", "read_off", defArgs s_read_off, defBody s_read_off, defScope s_read_off, [], []⟩
abbrev s__law_draw : Stmt := top 20
def d__law_draw : He.DefD := ⟨("_law_draw", none), "_law_draw", "_law_draw", defArgs s__law_draw, defBody s__law_draw, defScope s__law_draw, [], []⟩
abbrev s__law_flow : Stmt := top 21
def d__law_flow : He.DefD := ⟨("_law_flow", none), "_law_flow", "_law_flow", defArgs s__law_flow, defBody s__law_flow, defScope s__law_flow, [], []⟩
abbrev s__law_table : Stmt := top 22
def d__law_table : He.DefD := ⟨("_law_table", none), "_law_table", "_law_table", defArgs s__law_table, defBody s__law_table, defScope s__law_table, [], []⟩
abbrev s__law_kinds_of : Stmt := top 23
def d__law_kinds_of : He.DefD := ⟨("_law_kinds_of", none), "_law_kinds_of", "_law_kinds_of", defArgs s__law_kinds_of, defBody s__law_kinds_of, defScope s__law_kinds_of, [], []⟩
abbrev s__law_sign : Stmt := top 24
def d__law_sign : He.DefD := ⟨("_law_sign", none), "_law_sign", "_law_sign", defArgs s__law_sign, defBody s__law_sign, defScope s__law_sign, [], []⟩
abbrev s__law_kind_of_parts : Stmt := top 25
def d__law_kind_of_parts : He.DefD := ⟨("_law_kind_of_parts", none), "_law_kind_of_parts", "_law_kind_of_parts", defArgs s__law_kind_of_parts, defBody s__law_kind_of_parts, defScope s__law_kind_of_parts, [], []⟩
abbrev s__law_kind_of_stretches : Stmt := top 26
def d__law_kind_of_stretches : He.DefD := ⟨("_law_kind_of_stretches", none), "_law_kind_of_stretches", "_law_kind_of_stretches", defArgs s__law_kind_of_stretches, defBody s__law_kind_of_stretches, defScope s__law_kind_of_stretches, [], []⟩
abbrev s__law_kind_of : Stmt := top 27
def d__law_kind_of : He.DefD := ⟨("_law_kind_of", none), "_law_kind_of", "_law_kind_of", defArgs s__law_kind_of, defBody s__law_kind_of, defScope s__law_kind_of, [], []⟩
abbrev s__law_same : Stmt := top 28
def d__law_same : He.DefD := ⟨("_law_same", none), "_law_same", "_law_same", defArgs s__law_same, defBody s__law_same, defScope s__law_same, [], []⟩
abbrev s__law_number : Stmt := top 29
def d__law_number : He.DefD := ⟨("_law_number", none), "_law_number", "_law_number", defArgs s__law_number, defBody s__law_number, defScope s__law_number, [], []⟩
abbrev s__law_thing : Stmt := top 30
def d__law_thing : He.DefD := ⟨("_law_thing", none), "_law_thing", "_law_thing", defArgs s__law_thing, defBody s__law_thing, defScope s__law_thing, [], []⟩
abbrev s_law : Stmt := top 31
def d_law : He.DefD := ⟨("law", none), "law", "law", defArgs s_law, defBody s_law, defScope s_law, [], []⟩
def dl : List He.DefD := [d_sign, d_of_moments, d_beginning, d_earlier, d_of_stretches, d_of_courses, d_of_branches, d_of_parts, d_need_word, d_read_off, d__law_draw, d__law_flow, d__law_table, d__law_kinds_of, d__law_sign, d__law_kind_of_parts, d__law_kind_of_stretches, d__law_kind_of, d__law_same, d__law_number, d__law_thing, d_law]
abbrev sx_Missing : Stmt := inClass (top 1) 0
def x_Missing : He.DefD := ⟨("Missing", some "__init__"), "__init__", "Missing.__init__", defArgs sx_Missing, defBody sx_Missing, defScope sx_Missing, [], []⟩
abbrev sx_NoTable : Stmt := inClass (top 2) 0
def x_NoTable : He.DefD := ⟨("NoTable", some "__init__"), "__init__", "NoTable.__init__", defArgs sx_NoTable, defBody sx_NoTable, defScope sx_NoTable, [], []⟩
def xl : List He.DefD := [x_Missing, x_NoTable]
def tbs : List HTab := [("KIND_OF", ["moments", "stretches", "courses", "branches", "parts"])]
theorem sc_sign : FnScope n_sign ["one", "other"] d_sign.scope := ⟨rfl, rfl, rfl, by decide +kernel, rfl, by decide +kernel, by decide +kernel⟩
theorem chk_sign : chkSs gam prg n_sign f_sign.body false d_sign.scope (fun _ => true) d_sign.body = true := by decide +kernel
theorem bd_sign (kV doc pm : Value) (an : Option Addr) (cdv ct : Value) (us : List Value) (hl : us.length = [("one" : Str), ("other" : Str)].length) : bindArgs (PySem.W.fnOf d_sign.name d_sign.qual d_sign.params d_sign.body d_sign.scope .none kV doc pm an cdv ct) ⟨us, []⟩ = pure ((["one", "other"] : List Str).zip us) := match us, hl with | [_, _], _ => rfl
theorem st_sign : FnSt gam prg f_sign d_sign := ⟨⟨n_sign, ["one", "other"], sc_sign, rfl, rfl, by decide, chk_sign, bd_sign⟩, rfl, rfl⟩
theorem sc_of_moments : FnScope n_of_moments ["one", "other"] d_of_moments.scope := ⟨rfl, rfl, rfl, by decide +kernel, rfl, by decide +kernel, by decide +kernel⟩
theorem chk_of_moments : chkSs gam prg n_of_moments f_of_moments.body false d_of_moments.scope (fun _ => true) d_of_moments.body = true := by decide +kernel
theorem bd_of_moments (kV doc pm : Value) (an : Option Addr) (cdv ct : Value) (us : List Value) (hl : us.length = [("one" : Str), ("other" : Str)].length) : bindArgs (PySem.W.fnOf d_of_moments.name d_of_moments.qual d_of_moments.params d_of_moments.body d_of_moments.scope .none kV doc pm an cdv ct) ⟨us, []⟩ = pure ((["one", "other"] : List Str).zip us) := match us, hl with | [_, _], _ => rfl
theorem st_of_moments : FnSt gam prg f_of_moments d_of_moments := ⟨⟨n_of_moments, ["one", "other"], sc_of_moments, rfl, rfl, by decide, chk_of_moments, bd_of_moments⟩, rfl, rfl⟩
theorem sc_beginning : FnScope n_beginning ["one", "other"] d_beginning.scope := ⟨rfl, rfl, rfl, by decide +kernel, rfl, by decide +kernel, by decide +kernel⟩
theorem chk_beginning : chkSs gam prg n_beginning f_beginning.body false d_beginning.scope (fun _ => true) d_beginning.body = true := by decide +kernel
theorem bd_beginning (kV doc pm : Value) (an : Option Addr) (cdv ct : Value) (us : List Value) (hl : us.length = [("one" : Str), ("other" : Str)].length) : bindArgs (PySem.W.fnOf d_beginning.name d_beginning.qual d_beginning.params d_beginning.body d_beginning.scope .none kV doc pm an cdv ct) ⟨us, []⟩ = pure ((["one", "other"] : List Str).zip us) := match us, hl with | [_, _], _ => rfl
theorem st_beginning : FnSt gam prg f_beginning d_beginning := ⟨⟨n_beginning, ["one", "other"], sc_beginning, rfl, rfl, by decide, chk_beginning, bd_beginning⟩, rfl, rfl⟩
theorem sc_earlier : FnScope n_earlier ["one", "other"] d_earlier.scope := ⟨rfl, rfl, rfl, by decide +kernel, rfl, by decide +kernel, by decide +kernel⟩
theorem chk_earlier : chkSs gam prg n_earlier f_earlier.body false d_earlier.scope (fun _ => true) d_earlier.body = true := by decide +kernel
theorem bd_earlier (kV doc pm : Value) (an : Option Addr) (cdv ct : Value) (us : List Value) (hl : us.length = [("one" : Str), ("other" : Str)].length) : bindArgs (PySem.W.fnOf d_earlier.name d_earlier.qual d_earlier.params d_earlier.body d_earlier.scope .none kV doc pm an cdv ct) ⟨us, []⟩ = pure ((["one", "other"] : List Str).zip us) := match us, hl with | [_, _], _ => rfl
theorem st_earlier : FnSt gam prg f_earlier d_earlier := ⟨⟨n_earlier, ["one", "other"], sc_earlier, rfl, rfl, by decide, chk_earlier, bd_earlier⟩, rfl, rfl⟩
theorem sc_of_stretches : FnScope n_of_stretches ["one", "other"] d_of_stretches.scope := ⟨rfl, rfl, rfl, by decide +kernel, rfl, by decide +kernel, by decide +kernel⟩
theorem chk_of_stretches : chkSs gam prg n_of_stretches f_of_stretches.body false d_of_stretches.scope (fun _ => true) d_of_stretches.body = true := by decide +kernel
theorem bd_of_stretches (kV doc pm : Value) (an : Option Addr) (cdv ct : Value) (us : List Value) (hl : us.length = [("one" : Str), ("other" : Str)].length) : bindArgs (PySem.W.fnOf d_of_stretches.name d_of_stretches.qual d_of_stretches.params d_of_stretches.body d_of_stretches.scope .none kV doc pm an cdv ct) ⟨us, []⟩ = pure ((["one", "other"] : List Str).zip us) := match us, hl with | [_, _], _ => rfl
theorem st_of_stretches : FnSt gam prg f_of_stretches d_of_stretches := ⟨⟨n_of_stretches, ["one", "other"], sc_of_stretches, rfl, rfl, by decide, chk_of_stretches, bd_of_stretches⟩, rfl, rfl⟩
theorem sc_of_courses : FnScope n_of_courses ["one", "other"] d_of_courses.scope := ⟨rfl, rfl, rfl, by decide +kernel, rfl, by decide +kernel, by decide +kernel⟩
theorem chk_of_courses : chkSs gam prg n_of_courses f_of_courses.body false d_of_courses.scope (fun _ => true) d_of_courses.body = true := by decide +kernel
theorem bd_of_courses (kV doc pm : Value) (an : Option Addr) (cdv ct : Value) (us : List Value) (hl : us.length = [("one" : Str), ("other" : Str)].length) : bindArgs (PySem.W.fnOf d_of_courses.name d_of_courses.qual d_of_courses.params d_of_courses.body d_of_courses.scope .none kV doc pm an cdv ct) ⟨us, []⟩ = pure ((["one", "other"] : List Str).zip us) := match us, hl with | [_, _], _ => rfl
theorem st_of_courses : FnSt gam prg f_of_courses d_of_courses := ⟨⟨n_of_courses, ["one", "other"], sc_of_courses, rfl, rfl, by decide, chk_of_courses, bd_of_courses⟩, rfl, rfl⟩
theorem sc_of_branches : FnScope n_of_branches ["one", "other"] d_of_branches.scope := ⟨rfl, rfl, rfl, by decide +kernel, rfl, by decide +kernel, by decide +kernel⟩
theorem chk_of_branches : chkSs gam prg n_of_branches f_of_branches.body false d_of_branches.scope (fun _ => true) d_of_branches.body = true := by decide +kernel
theorem bd_of_branches (kV doc pm : Value) (an : Option Addr) (cdv ct : Value) (us : List Value) (hl : us.length = [("one" : Str), ("other" : Str)].length) : bindArgs (PySem.W.fnOf d_of_branches.name d_of_branches.qual d_of_branches.params d_of_branches.body d_of_branches.scope .none kV doc pm an cdv ct) ⟨us, []⟩ = pure ((["one", "other"] : List Str).zip us) := match us, hl with | [_, _], _ => rfl
theorem st_of_branches : FnSt gam prg f_of_branches d_of_branches := ⟨⟨n_of_branches, ["one", "other"], sc_of_branches, rfl, rfl, by decide, chk_of_branches, bd_of_branches⟩, rfl, rfl⟩
theorem sc_of_parts : FnScope n_of_parts ["one", "other"] d_of_parts.scope := ⟨rfl, rfl, rfl, by decide +kernel, rfl, by decide +kernel, by decide +kernel⟩
theorem chk_of_parts : chkSs gam prg n_of_parts f_of_parts.body false d_of_parts.scope (fun _ => true) d_of_parts.body = true := by decide +kernel
theorem bd_of_parts (kV doc pm : Value) (an : Option Addr) (cdv ct : Value) (us : List Value) (hl : us.length = [("one" : Str), ("other" : Str)].length) : bindArgs (PySem.W.fnOf d_of_parts.name d_of_parts.qual d_of_parts.params d_of_parts.body d_of_parts.scope .none kV doc pm an cdv ct) ⟨us, []⟩ = pure ((["one", "other"] : List Str).zip us) := match us, hl with | [_, _], _ => rfl
theorem st_of_parts : FnSt gam prg f_of_parts d_of_parts := ⟨⟨n_of_parts, ["one", "other"], sc_of_parts, rfl, rfl, by decide, chk_of_parts, bd_of_parts⟩, rfl, rfl⟩
theorem sc_need_word : FnScope n_need_word ["word"] d_need_word.scope := ⟨rfl, rfl, rfl, by decide +kernel, rfl, by decide +kernel, by decide +kernel⟩
theorem chk_need_word : chkSs gam prg n_need_word f_need_word.body false d_need_word.scope (fun _ => true) d_need_word.body = true := by decide +kernel
theorem bd_need_word (kV doc pm : Value) (an : Option Addr) (cdv ct : Value) (us : List Value) (hl : us.length = [("word" : Str)].length) : bindArgs (PySem.W.fnOf d_need_word.name d_need_word.qual d_need_word.params d_need_word.body d_need_word.scope .none kV doc pm an cdv ct) ⟨us, []⟩ = pure ((["word"] : List Str).zip us) := match us, hl with | [_], _ => rfl
theorem st_need_word : FnSt gam prg f_need_word d_need_word := ⟨⟨n_need_word, ["word"], sc_need_word, rfl, rfl, by decide, chk_need_word, bd_need_word⟩, rfl, rfl⟩
theorem sc_read_off : FnScope n_read_off ["word", "one", "other"] d_read_off.scope := ⟨rfl, rfl, rfl, by decide +kernel, rfl, by decide +kernel, by decide +kernel⟩
theorem chk_read_off : chkSs gam prg n_read_off f_read_off.body false d_read_off.scope (fun _ => true) d_read_off.body = true := by decide +kernel
theorem bd_read_off (kV doc pm : Value) (an : Option Addr) (cdv ct : Value) (us : List Value) (hl : us.length = [("word" : Str), ("one" : Str), ("other" : Str)].length) : bindArgs (PySem.W.fnOf d_read_off.name d_read_off.qual d_read_off.params d_read_off.body d_read_off.scope .none kV doc pm an cdv ct) ⟨us, []⟩ = pure ((["word", "one", "other"] : List Str).zip us) := match us, hl with | [_, _, _], _ => rfl
theorem st_read_off : FnSt gam prg f_read_off d_read_off := ⟨⟨n_read_off, ["word", "one", "other"], sc_read_off, rfl, rfl, by decide, chk_read_off, bd_read_off⟩, rfl, rfl⟩
theorem sc__law_draw : FnScope n__law_draw ["_law_flow_here", "_law_size"] d__law_draw.scope := ⟨rfl, rfl, rfl, by decide +kernel, rfl, by decide +kernel, by decide +kernel⟩
theorem chk__law_draw : chkSs gam prg n__law_draw f__law_draw.body false d__law_draw.scope (fun _ => true) d__law_draw.body = true := by decide +kernel
theorem bd__law_draw (kV doc pm : Value) (an : Option Addr) (cdv ct : Value) (us : List Value) (hl : us.length = [("_law_flow_here" : Str), ("_law_size" : Str)].length) : bindArgs (PySem.W.fnOf d__law_draw.name d__law_draw.qual d__law_draw.params d__law_draw.body d__law_draw.scope .none kV doc pm an cdv ct) ⟨us, []⟩ = pure ((["_law_flow_here", "_law_size"] : List Str).zip us) := match us, hl with | [_, _], _ => rfl
theorem st__law_draw : FnSt gam prg f__law_draw d__law_draw := ⟨⟨n__law_draw, ["_law_flow_here", "_law_size"], sc__law_draw, rfl, rfl, by decide, chk__law_draw, bd__law_draw⟩, rfl, rfl⟩
theorem sc__law_flow : FnScope n__law_flow ["_law_script"] d__law_flow.scope := ⟨rfl, rfl, rfl, by decide +kernel, rfl, by decide +kernel, by decide +kernel⟩
theorem chk__law_flow : chkSs gam prg n__law_flow f__law_flow.body false d__law_flow.scope (fun _ => true) d__law_flow.body = true := by decide +kernel
theorem bd__law_flow (kV doc pm : Value) (an : Option Addr) (cdv ct : Value) (us : List Value) (hl : us.length = [("_law_script" : Str)].length) : bindArgs (PySem.W.fnOf d__law_flow.name d__law_flow.qual d__law_flow.params d__law_flow.body d__law_flow.scope .none kV doc pm an cdv ct) ⟨us, []⟩ = pure ((["_law_script"] : List Str).zip us) := match us, hl with | [_], _ => rfl
theorem st__law_flow : FnSt gam prg f__law_flow d__law_flow := ⟨⟨n__law_flow, ["_law_script"], sc__law_flow, rfl, rfl, by decide, chk__law_flow, bd__law_flow⟩, rfl, rfl⟩
theorem sc__law_table : FnScope n__law_table ["_law_kinds", "_law_same_here", "_law_backs", "_law_steps"] d__law_table.scope := ⟨rfl, rfl, rfl, by decide +kernel, rfl, by decide +kernel, by decide +kernel⟩
theorem chk__law_table : chkSs gam prg n__law_table f__law_table.body false d__law_table.scope (fun _ => true) d__law_table.body = true := by decide +kernel
theorem bd__law_table (kV doc pm : Value) (an : Option Addr) (cdv ct : Value) (us : List Value) (hl : us.length = [("_law_kinds" : Str), ("_law_same_here" : Str), ("_law_backs" : Str), ("_law_steps" : Str)].length) : bindArgs (PySem.W.fnOf d__law_table.name d__law_table.qual d__law_table.params d__law_table.body d__law_table.scope .none kV doc pm an cdv ct) ⟨us, []⟩ = pure ((["_law_kinds", "_law_same_here", "_law_backs", "_law_steps"] : List Str).zip us) := match us, hl with | [_, _, _, _], _ => rfl
theorem st__law_table : FnSt gam prg f__law_table d__law_table := ⟨⟨n__law_table, ["_law_kinds", "_law_same_here", "_law_backs", "_law_steps"], sc__law_table, rfl, rfl, by decide, chk__law_table, bd__law_table⟩, rfl, rfl⟩
theorem sc__law_kinds_of : FnScope n__law_kinds_of ["_law_word"] d__law_kinds_of.scope := ⟨rfl, rfl, rfl, by decide +kernel, rfl, by decide +kernel, by decide +kernel⟩
theorem chk__law_kinds_of : chkSs gam prg n__law_kinds_of f__law_kinds_of.body false d__law_kinds_of.scope (fun _ => true) d__law_kinds_of.body = true := by decide +kernel
theorem bd__law_kinds_of (kV doc pm : Value) (an : Option Addr) (cdv ct : Value) (us : List Value) (hl : us.length = [("_law_word" : Str)].length) : bindArgs (PySem.W.fnOf d__law_kinds_of.name d__law_kinds_of.qual d__law_kinds_of.params d__law_kinds_of.body d__law_kinds_of.scope .none kV doc pm an cdv ct) ⟨us, []⟩ = pure ((["_law_word"] : List Str).zip us) := match us, hl with | [_], _ => rfl
theorem st__law_kinds_of : FnSt gam prg f__law_kinds_of d__law_kinds_of := ⟨⟨n__law_kinds_of, ["_law_word"], sc__law_kinds_of, rfl, rfl, by decide, chk__law_kinds_of, bd__law_kinds_of⟩, rfl, rfl⟩
theorem sc__law_sign : FnScope n__law_sign ["_law_one", "_law_other"] d__law_sign.scope := ⟨rfl, rfl, rfl, by decide +kernel, rfl, by decide +kernel, by decide +kernel⟩
theorem chk__law_sign : chkSs gam prg n__law_sign f__law_sign.body false d__law_sign.scope (fun _ => true) d__law_sign.body = true := by decide +kernel
theorem bd__law_sign (kV doc pm : Value) (an : Option Addr) (cdv ct : Value) (us : List Value) (hl : us.length = [("_law_one" : Str), ("_law_other" : Str)].length) : bindArgs (PySem.W.fnOf d__law_sign.name d__law_sign.qual d__law_sign.params d__law_sign.body d__law_sign.scope .none kV doc pm an cdv ct) ⟨us, []⟩ = pure ((["_law_one", "_law_other"] : List Str).zip us) := match us, hl with | [_, _], _ => rfl
theorem st__law_sign : FnSt gam prg f__law_sign d__law_sign := ⟨⟨n__law_sign, ["_law_one", "_law_other"], sc__law_sign, rfl, rfl, by decide, chk__law_sign, bd__law_sign⟩, rfl, rfl⟩
theorem sc__law_kind_of_parts : FnScope n__law_kind_of_parts ["_law_one", "_law_other"] d__law_kind_of_parts.scope := ⟨rfl, rfl, rfl, by decide +kernel, rfl, by decide +kernel, by decide +kernel⟩
theorem chk__law_kind_of_parts : chkSs gam prg n__law_kind_of_parts f__law_kind_of_parts.body false d__law_kind_of_parts.scope (fun _ => true) d__law_kind_of_parts.body = true := by decide +kernel
theorem bd__law_kind_of_parts (kV doc pm : Value) (an : Option Addr) (cdv ct : Value) (us : List Value) (hl : us.length = [("_law_one" : Str), ("_law_other" : Str)].length) : bindArgs (PySem.W.fnOf d__law_kind_of_parts.name d__law_kind_of_parts.qual d__law_kind_of_parts.params d__law_kind_of_parts.body d__law_kind_of_parts.scope .none kV doc pm an cdv ct) ⟨us, []⟩ = pure ((["_law_one", "_law_other"] : List Str).zip us) := match us, hl with | [_, _], _ => rfl
theorem st__law_kind_of_parts : FnSt gam prg f__law_kind_of_parts d__law_kind_of_parts := ⟨⟨n__law_kind_of_parts, ["_law_one", "_law_other"], sc__law_kind_of_parts, rfl, rfl, by decide, chk__law_kind_of_parts, bd__law_kind_of_parts⟩, rfl, rfl⟩
theorem sc__law_kind_of_stretches : FnScope n__law_kind_of_stretches ["_law_one", "_law_other"] d__law_kind_of_stretches.scope := ⟨rfl, rfl, rfl, by decide +kernel, rfl, by decide +kernel, by decide +kernel⟩
theorem chk__law_kind_of_stretches : chkSs gam prg n__law_kind_of_stretches f__law_kind_of_stretches.body false d__law_kind_of_stretches.scope (fun _ => true) d__law_kind_of_stretches.body = true := by decide +kernel
theorem bd__law_kind_of_stretches (kV doc pm : Value) (an : Option Addr) (cdv ct : Value) (us : List Value) (hl : us.length = [("_law_one" : Str), ("_law_other" : Str)].length) : bindArgs (PySem.W.fnOf d__law_kind_of_stretches.name d__law_kind_of_stretches.qual d__law_kind_of_stretches.params d__law_kind_of_stretches.body d__law_kind_of_stretches.scope .none kV doc pm an cdv ct) ⟨us, []⟩ = pure ((["_law_one", "_law_other"] : List Str).zip us) := match us, hl with | [_, _], _ => rfl
theorem st__law_kind_of_stretches : FnSt gam prg f__law_kind_of_stretches d__law_kind_of_stretches := ⟨⟨n__law_kind_of_stretches, ["_law_one", "_law_other"], sc__law_kind_of_stretches, rfl, rfl, by decide, chk__law_kind_of_stretches, bd__law_kind_of_stretches⟩, rfl, rfl⟩
theorem sc__law_kind_of : FnScope n__law_kind_of ["_law_word", "_law_one", "_law_other"] d__law_kind_of.scope := ⟨rfl, rfl, rfl, by decide +kernel, rfl, by decide +kernel, by decide +kernel⟩
theorem chk__law_kind_of : chkSs gam prg n__law_kind_of f__law_kind_of.body false d__law_kind_of.scope (fun _ => true) d__law_kind_of.body = true := by decide +kernel
theorem bd__law_kind_of (kV doc pm : Value) (an : Option Addr) (cdv ct : Value) (us : List Value) (hl : us.length = [("_law_word" : Str), ("_law_one" : Str), ("_law_other" : Str)].length) : bindArgs (PySem.W.fnOf d__law_kind_of.name d__law_kind_of.qual d__law_kind_of.params d__law_kind_of.body d__law_kind_of.scope .none kV doc pm an cdv ct) ⟨us, []⟩ = pure ((["_law_word", "_law_one", "_law_other"] : List Str).zip us) := match us, hl with | [_, _, _], _ => rfl
theorem st__law_kind_of : FnSt gam prg f__law_kind_of d__law_kind_of := ⟨⟨n__law_kind_of, ["_law_word", "_law_one", "_law_other"], sc__law_kind_of, rfl, rfl, by decide, chk__law_kind_of, bd__law_kind_of⟩, rfl, rfl⟩
theorem sc__law_same : FnScope n__law_same ["_law_found", "_law_due"] d__law_same.scope := ⟨rfl, rfl, rfl, by decide +kernel, rfl, by decide +kernel, by decide +kernel⟩
theorem chk__law_same : chkSs gam prg n__law_same f__law_same.body false d__law_same.scope (fun _ => true) d__law_same.body = true := by decide +kernel
theorem bd__law_same (kV doc pm : Value) (an : Option Addr) (cdv ct : Value) (us : List Value) (hl : us.length = [("_law_found" : Str), ("_law_due" : Str)].length) : bindArgs (PySem.W.fnOf d__law_same.name d__law_same.qual d__law_same.params d__law_same.body d__law_same.scope .none kV doc pm an cdv ct) ⟨us, []⟩ = pure ((["_law_found", "_law_due"] : List Str).zip us) := match us, hl with | [_, _], _ => rfl
theorem st__law_same : FnSt gam prg f__law_same d__law_same := ⟨⟨n__law_same, ["_law_found", "_law_due"], sc__law_same, rfl, rfl, by decide, chk__law_same, bd__law_same⟩, rfl, rfl⟩
theorem sc__law_number : FnScope n__law_number ["_law_flow_here", "_law_few"] d__law_number.scope := ⟨rfl, rfl, rfl, by decide +kernel, rfl, by decide +kernel, by decide +kernel⟩
theorem chk__law_number : chkSs gam prg n__law_number f__law_number.body false d__law_number.scope (fun _ => true) d__law_number.body = true := by decide +kernel
theorem bd__law_number (kV doc pm : Value) (an : Option Addr) (cdv ct : Value) (us : List Value) (hl : us.length = [("_law_flow_here" : Str), ("_law_few" : Str)].length) : bindArgs (PySem.W.fnOf d__law_number.name d__law_number.qual d__law_number.params d__law_number.body d__law_number.scope .none kV doc pm an cdv ct) ⟨us, []⟩ = pure ((["_law_flow_here", "_law_few"] : List Str).zip us) := match us, hl with | [_, _], _ => rfl
theorem st__law_number : FnSt gam prg f__law_number d__law_number := ⟨⟨n__law_number, ["_law_flow_here", "_law_few"], sc__law_number, rfl, rfl, by decide, chk__law_number, bd__law_number⟩, rfl, rfl⟩
theorem sc__law_thing : FnScope n__law_thing ["_law_flow_here", "_law_word", "_law_few"] d__law_thing.scope := ⟨rfl, rfl, rfl, by decide +kernel, rfl, by decide +kernel, by decide +kernel⟩
theorem chk__law_thing : chkSs gam prg n__law_thing f__law_thing.body false d__law_thing.scope (fun _ => true) d__law_thing.body = true := by decide +kernel
theorem bd__law_thing (kV doc pm : Value) (an : Option Addr) (cdv ct : Value) (us : List Value) (hl : us.length = [("_law_flow_here" : Str), ("_law_word" : Str), ("_law_few" : Str)].length) : bindArgs (PySem.W.fnOf d__law_thing.name d__law_thing.qual d__law_thing.params d__law_thing.body d__law_thing.scope .none kV doc pm an cdv ct) ⟨us, []⟩ = pure ((["_law_flow_here", "_law_word", "_law_few"] : List Str).zip us) := match us, hl with | [_, _, _], _ => rfl
theorem st__law_thing : FnSt gam prg f__law_thing d__law_thing := ⟨⟨n__law_thing, ["_law_flow_here", "_law_word", "_law_few"], sc__law_thing, rfl, rfl, by decide, chk__law_thing, bd__law_thing⟩, rfl, rfl⟩
theorem sc_law : FnScope n_law ["_law_script"] d_law.scope := ⟨rfl, rfl, rfl, by decide +kernel, rfl, by decide +kernel, by decide +kernel⟩
theorem chk_law : chkSs gam prg n_law f_law.body false d_law.scope (fun _ => true) d_law.body = true := by decide +kernel
theorem bd_law (kV doc pm : Value) (an : Option Addr) (cdv ct : Value) (us : List Value) (hl : us.length = [("_law_script" : Str)].length) : bindArgs (PySem.W.fnOf d_law.name d_law.qual d_law.params d_law.body d_law.scope .none kV doc pm an cdv ct) ⟨us, []⟩ = pure ((["_law_script"] : List Str).zip us) := match us, hl with | [_], _ => rfl
theorem st_law : FnSt gam prg f_law d_law := ⟨⟨n_law, ["_law_script"], sc_law, rfl, rfl, by decide, chk_law, bd_law⟩, rfl, rfl⟩
def nx_Missing : List Str := ["self", "word"]
theorem xs_Missing : ExSt gam prg e_Missing x_Missing := ⟨⟨nx_Missing, ⟨rfl, rfl, rfl, by decide +kernel, rfl, by decide +kernel, by decide +kernel⟩, rfl, by decide +kernel, fun _ _ _ _ _ _ us hl => match us, hl with | [_, _], _ => rfl⟩, rfl, rfl, by decide⟩
def nx_NoTable : List Str := ["self", "name"]
theorem xs_NoTable : ExSt gam prg e_NoTable x_NoTable := ⟨⟨nx_NoTable, ⟨rfl, rfl, rfl, by decide +kernel, rfl, by decide +kernel, by decide +kernel⟩, rfl, by decide +kernel, fun _ _ _ _ _ _ us hl => match us, hl with | [_, _], _ => rfl⟩, rfl, rfl, by decide⟩
theorem fn_all : ∀ (f : Nat) (F : FnDef), prg.fns[f]? = some F → ∃ d, dl[f]? = some d ∧ FnSt gam prg F d
  | 0, _, e => by cases e; exact ⟨d_sign, rfl, st_sign⟩
  | 1, _, e => by cases e; exact ⟨d_of_moments, rfl, st_of_moments⟩
  | 2, _, e => by cases e; exact ⟨d_beginning, rfl, st_beginning⟩
  | 3, _, e => by cases e; exact ⟨d_earlier, rfl, st_earlier⟩
  | 4, _, e => by cases e; exact ⟨d_of_stretches, rfl, st_of_stretches⟩
  | 5, _, e => by cases e; exact ⟨d_of_courses, rfl, st_of_courses⟩
  | 6, _, e => by cases e; exact ⟨d_of_branches, rfl, st_of_branches⟩
  | 7, _, e => by cases e; exact ⟨d_of_parts, rfl, st_of_parts⟩
  | 8, _, e => by cases e; exact ⟨d_need_word, rfl, st_need_word⟩
  | 9, _, e => by cases e; exact ⟨d_read_off, rfl, st_read_off⟩
  | 10, _, e => by cases e; exact ⟨d__law_draw, rfl, st__law_draw⟩
  | 11, _, e => by cases e; exact ⟨d__law_flow, rfl, st__law_flow⟩
  | 12, _, e => by cases e; exact ⟨d__law_table, rfl, st__law_table⟩
  | 13, _, e => by cases e; exact ⟨d__law_kinds_of, rfl, st__law_kinds_of⟩
  | 14, _, e => by cases e; exact ⟨d__law_sign, rfl, st__law_sign⟩
  | 15, _, e => by cases e; exact ⟨d__law_kind_of_parts, rfl, st__law_kind_of_parts⟩
  | 16, _, e => by cases e; exact ⟨d__law_kind_of_stretches, rfl, st__law_kind_of_stretches⟩
  | 17, _, e => by cases e; exact ⟨d__law_kind_of, rfl, st__law_kind_of⟩
  | 18, _, e => by cases e; exact ⟨d__law_same, rfl, st__law_same⟩
  | 19, _, e => by cases e; exact ⟨d__law_number, rfl, st__law_number⟩
  | 20, _, e => by cases e; exact ⟨d__law_thing, rfl, st__law_thing⟩
  | 21, _, e => by cases e; exact ⟨d_law, rfl, st_law⟩
  | n + 22, F, e => by
    have e : (none : Option FnDef) = some F := e
    cases e
theorem ex_all : ∀ (c : Nat) (C : ExcDef), prg.exc[c]? = some C → ∃ d, xl[c]? = some d ∧ ExSt gam prg C d
  | 0, _, e => by cases e; exact ⟨x_Missing, rfl, xs_Missing⟩
  | 1, _, e => by cases e; exact ⟨x_NoTable, rfl, xs_NoTable⟩
  | n + 2, F, e => by
    have e : (none : Option ExcDef) = some F := e
    cases e
def loose0 : List PySem.Str := ["Missing", "NoTable", "STRETCH_KINDS", "COURSE_KINDS", "sign", "of_moments", "beginning", "earlier", "of_stretches", "of_courses", "of_branches", "of_parts", "KIND_OF", "WORDS", "need_word", "read_off", "_law_draw", "_law_flow", "_law_table", "_law_kinds_of", "_law_sign", "_law_kind_of_parts", "_law_kind_of_stretches", "_law_kind_of", "_law_same", "_law_number", "_law_thing"]
def loose : List PySem.Str := loose0
abbrev fb : PySem.W.Frag → Bool := factB gam prg dl tbs
abbrev hk : PySem.W.Hook := hookH 4 fb (dl ++ xl) tbs
def ob (s : PySem.W.SharedT) : AlH := obsHG 4 fb (dl ++ xl) tbs (HandSHeadRun.getT s)
theorem ob_eq (s : PySem.W.SharedT) : ob s = hk.obs s.abs := obsHG_eq (HandSHeadRun.getT_eq s)

end HI
set_option Elab.async false
set_option linter.all false
set_option maxRecDepth 100000
namespace HI
open PySem PySem.Spec PyProof.Rows L2
abbrev RunP (w : World) : Prop := HandSHeadRun.RunEq (PySem.W.OpenLaw.row PySem.Challenge.rw_kindweft_k10_kinds_read_off) (PySem.W.view (PySem.W.OpenLaw.row PySem.Challenge.rw_kindweft_k10_kinds_read_off).prog [31]) hk ob 4000 loose w
set_option maxHeartbeats 0 in
theorem run_no (w : World) : RunP (w.withFollow "special-get-raises" false) := by
  intro os
  kernel_rfl
set_option maxHeartbeats 0 in
theorem run_yes (w : World) : RunP (w.withFollow "special-get-raises" true) := by
  intro os
  kernel_rfl
theorem run_top (w : World) : RunP w := PySem.W.byRow2 "special-get-raises" (P := RunP) run_no run_yes w

end HI
set_option Elab.async false
set_option linter.all false
set_option maxRecDepth 100000
/-! HiEv: the evaluator's answers, as rules for simp: each frame is a constant, nothing is done under a binder. (written by genev.py) -/
namespace HI
open PySem L2

@[simp] theorem optR_some {α : Type} (a : α) (f : α → R D) : optR (some a) f = f a := rfl
@[simp] theorem optR_none {α : Type} (f : α → R D) : optR none f = .bad := rfl
@[simp] theorem bind_ok {α β : Type} (a : α) (S : Store) (f : α → Store → R β) : (R.ok a S).bind f = f a S := rfl
@[simp] theorem tz_false (r : R D) : tz false r = r := rfl
def tzv (x : D) (S : Store) : R D := match truthD S x with
  | some b => .ok (.bl b) S
  | none => .bad
@[simp] theorem tz_ok (x : D) (S : Store) : tz true (.ok x S) = tzv x S := rfl
@[simp] theorem tz_er (x : Exc) (S : Store) : tz true (.er x S) = .er x S := rfl
@[simp] theorem tz_bad : tz true .bad = .bad := rfl
@[simp] theorem tz_ite (c : Prop) [Decidable c] (t : Bool) (a b : R D) : tz t (if c then a else b) = if c then tz t a else tz t b := by split <;> rfl
theorem tz_er' (t : Bool) (x : Exc) (S : Store) : tz t (.er x S) = .er x S := by cases t <;> rfl
theorem tz_bad' (t : Bool) : tz t .bad = .bad := by cases t <;> rfl
@[simp] theorem tzv_bl (b : Bool) (S : Store) : tzv (.bl b) S = .ok (.bl b) S := rfl
@[simp] theorem tzv_int (i : Int) (S : Store) : tzv (.int i) S = .ok (.bl (i != 0)) S := rfl
@[simp] theorem tzv_non (S : Store) : tzv .non S = .ok (.bl false) S := rfl
@[simp] theorem tzv_lst (xs : List D) (S : Store) : tzv (.lst xs) S = .ok (.bl (!xs.isEmpty)) S := rfl
@[simp] theorem tzv_tup (xs : List D) (S : Store) : tzv (.tup xs) S = .ok (.bl (!xs.isEmpty)) S := rfl
@[simp] theorem okI_eq (S : Store) (i : Int) : okI S i = .ok (.int i) S := rfl
@[simp] theorem okB_eq (S : Store) (b : Bool) : okB S b = .ok (.bl b) S := rfl
def iteR (x : D) (a b : R D) : R D := match x with
  | .bl true => a
  | .bl false => b
  | _ => .bad
@[simp] theorem iteR_bl (b : Bool) (x y : R D) : iteR (.bl b) x y = if b = true then x else y := by cases b <;> rfl
def iteS (x : D) (a b : RS) : RS := match x with
  | .bl true => a
  | .bl false => b
  | _ => .bad
@[simp] theorem iteS_bl (b : Bool) (x y : RS) : iteS (.bl b) x y = if b = true then x else y := by cases b <;> rfl
def notR (x : D) (S : Store) : R D := match truthD S x with
  | some b => .ok (.bl (!b)) S
  | none => .bad
@[simp] theorem notR_bl (b : Bool) (S : Store) : notR (.bl b) S = .ok (.bl (!b)) S := rfl
@[simp] theorem notR_int (i : Int) (S : Store) : notR (.int i) S = .ok (.bl (!(i != 0))) S := rfl
@[simp] theorem notR_lst (xs : List D) (S : Store) : notR (.lst xs) S = .ok (.bl (!!xs.isEmpty)) S := rfl
def varE (o : Option (Option D)) (t : Bool) (S : Store) : R D := match o with
  | some (some (.xc _ _ _)) => .bad
  | some (some d) => tz t (.ok d S)
  | _ => .bad
def notXc : D → Bool
  | .xc _ _ _ => false
  | _ => true
theorem varE_d {d : D} (h : notXc d = true) (t : Bool) (S : Store) : varE (some (some d)) t S = tz t (.ok d S) := by
  cases d <;> first | rfl | cases h
@[simp] theorem noXc_nil : noXc [] = [] := rfl
@[simp] theorem noXc_none (e : Env) : noXc (none :: e) = none :: noXc e := rfl
theorem noXc_d {d : D} (h : notXc d = true) (e : Env) : noXc (some d :: e) = some d :: noXc e := by cases d <;> first | rfl | cases h
@[simp] theorem noXc_xc (c : Nat) (ns : List Str) (fs : List D) (e : Env) : noXc (some (.xc c ns fs) :: e) = none :: noXc e := rfl
@[simp] theorem wipe_nil (e : Env) : wipe e [] = e := rfl
@[simp] theorem wipe_cons (e : Env) (v : Nat) (vs : List Nat) : wipe e (v :: vs) = (wipe e vs).set v none := rfl
@[simp] theorem varE_int (i : Int) (t : Bool) (S : Store) : varE (some (some (.int i))) t S = tz t (.ok (.int i) S) := rfl
@[simp] theorem noXc_int (i : Int) (e : Env) : noXc (some (.int i) :: e) = some (.int i) :: noXc e := rfl
@[simp] theorem iss_int (i : Int) (S : Store) : evCmp S .iss (.int i) .non = .ok (.bl false) S := rfl
@[simp] theorem isnot_int (i : Int) (S : Store) : evCmp S .isnot (.int i) .non = .ok (.bl true) S := rfl
@[simp] theorem varE_str (i : Str) (t : Bool) (S : Store) : varE (some (some (.str i))) t S = tz t (.ok (.str i) S) := rfl
@[simp] theorem noXc_str (i : Str) (e : Env) : noXc (some (.str i) :: e) = some (.str i) :: noXc e := rfl
@[simp] theorem iss_str (i : Str) (S : Store) : evCmp S .iss (.str i) .non = .ok (.bl false) S := rfl
@[simp] theorem isnot_str (i : Str) (S : Store) : evCmp S .isnot (.str i) .non = .ok (.bl true) S := rfl
@[simp] theorem varE_bl (i : Bool) (t : Bool) (S : Store) : varE (some (some (.bl i))) t S = tz t (.ok (.bl i) S) := rfl
@[simp] theorem noXc_bl (i : Bool) (e : Env) : noXc (some (.bl i) :: e) = some (.bl i) :: noXc e := rfl
@[simp] theorem iss_bl (i : Bool) (S : Store) : evCmp S .iss (.bl i) .non = .ok (.bl false) S := rfl
@[simp] theorem isnot_bl (i : Bool) (S : Store) : evCmp S .isnot (.bl i) .non = .ok (.bl true) S := rfl
@[simp] theorem varE_non  (t : Bool) (S : Store) : varE (some (some .non)) t S = tz t (.ok .non S) := rfl
@[simp] theorem noXc_non  (e : Env) : noXc (some .non :: e) = some .non :: noXc e := rfl
@[simp] theorem varE_lst (i : List D) (t : Bool) (S : Store) : varE (some (some (.lst i))) t S = tz t (.ok (.lst i) S) := rfl
@[simp] theorem noXc_lst (i : List D) (e : Env) : noXc (some (.lst i) :: e) = some (.lst i) :: noXc e := rfl
@[simp] theorem iss_lst (i : List D) (S : Store) : evCmp S .iss (.lst i) .non = .ok (.bl false) S := rfl
@[simp] theorem isnot_lst (i : List D) (S : Store) : evCmp S .isnot (.lst i) .non = .ok (.bl true) S := rfl
@[simp] theorem varE_tup (i : List D) (t : Bool) (S : Store) : varE (some (some (.tup i))) t S = tz t (.ok (.tup i) S) := rfl
@[simp] theorem noXc_tup (i : List D) (e : Env) : noXc (some (.tup i) :: e) = some (.tup i) :: noXc e := rfl
@[simp] theorem iss_tup (i : List D) (S : Store) : evCmp S .iss (.tup i) .non = .ok (.bl false) S := rfl
@[simp] theorem isnot_tup (i : List D) (S : Store) : evCmp S .isnot (.tup i) .non = .ok (.bl true) S := rfl
@[simp] theorem varE_ntup (i : List D) (t : Bool) (S : Store) : varE (some (some (.ntup i))) t S = tz t (.ok (.ntup i) S) := rfl
@[simp] theorem noXc_ntup (i : List D) (e : Env) : noXc (some (.ntup i) :: e) = some (.ntup i) :: noXc e := rfl
@[simp] theorem iss_ntup (i : List D) (S : Store) : evCmp S .iss (.ntup i) .non = .ok (.bl false) S := rfl
@[simp] theorem isnot_ntup (i : List D) (S : Store) : evCmp S .isnot (.ntup i) .non = .ok (.bl true) S := rfl
@[simp] theorem varE_kt (i : List D) (t : Bool) (S : Store) : varE (some (some (.kt i))) t S = tz t (.ok (.kt i) S) := rfl
@[simp] theorem noXc_kt (i : List D) (e : Env) : noXc (some (.kt i) :: e) = some (.kt i) :: noXc e := rfl
@[simp] theorem iss_kt (i : List D) (S : Store) : evCmp S .iss (.kt i) .non = .ok (.bl false) S := rfl
@[simp] theorem isnot_kt (i : List D) (S : Store) : evCmp S .isnot (.kt i) .non = .ok (.bl true) S := rfl
@[simp] theorem varE_scr (i : List Int) (t : Bool) (S : Store) : varE (some (some (.scr i))) t S = tz t (.ok (.scr i) S) := rfl
@[simp] theorem noXc_scr (i : List Int) (e : Env) : noXc (some (.scr i) :: e) = some (.scr i) :: noXc e := rfl
@[simp] theorem iss_scr (i : List Int) (S : Store) : evCmp S .iss (.scr i) .non = .ok (.bl false) S := rfl
@[simp] theorem isnot_scr (i : List Int) (S : Store) : evCmp S .isnot (.scr i) .non = .ok (.bl true) S := rfl
@[simp] theorem varE_dK (i : List Key) (v : List D) (t : Bool) (S : Store) : varE (some (some (.dK i v))) t S = tz t (.ok (.dK i v) S) := rfl
@[simp] theorem noXc_dK (i : List Key) (v : List D) (e : Env) : noXc (some (.dK i v) :: e) = some (.dK i v) :: noXc e := rfl
@[simp] theorem iss_dK (i : List Key) (v : List D) (S : Store) : evCmp S .iss (.dK i v) .non = .ok (.bl false) S := rfl
@[simp] theorem isnot_dK (i : List Key) (v : List D) (S : Store) : evCmp S .isnot (.dK i v) .non = .ok (.bl true) S := rfl
@[simp] theorem varE_dT (i : List (List Key)) (v : List D) (t : Bool) (S : Store) : varE (some (some (.dT i v))) t S = tz t (.ok (.dT i v) S) := rfl
@[simp] theorem noXc_dT (i : List (List Key)) (v : List D) (e : Env) : noXc (some (.dT i v) :: e) = some (.dT i v) :: noXc e := rfl
@[simp] theorem iss_dT (i : List (List Key)) (v : List D) (S : Store) : evCmp S .iss (.dT i v) .non = .ok (.bl false) S := rfl
@[simp] theorem isnot_dT (i : List (List Key)) (v : List D) (S : Store) : evCmp S .isnot (.dT i v) .non = .ok (.bl true) S := rfl
@[simp] theorem varE_kd (i : List Key) (v : List D) (t : Bool) (S : Store) : varE (some (some (.kd i v))) t S = tz t (.ok (.kd i v) S) := rfl
@[simp] theorem noXc_kd (i : List Key) (v : List D) (e : Env) : noXc (some (.kd i v) :: e) = some (.kd i v) :: noXc e := rfl
@[simp] theorem iss_kd (i : List Key) (v : List D) (S : Store) : evCmp S .iss (.kd i v) .non = .ok (.bl false) S := rfl
@[simp] theorem isnot_kd (i : List Key) (v : List D) (S : Store) : evCmp S .isnot (.kd i v) .non = .ok (.bl true) S := rfl
@[simp] theorem varE_ref (i : Nat) (t : Bool) (S : Store) : varE (some (some (.ref i))) t S = tz t (.ok (.ref i) S) := rfl
@[simp] theorem noXc_ref (i : Nat) (e : Env) : noXc (some (.ref i) :: e) = some (.ref i) :: noXc e := rfl
@[simp] theorem iss_ref (i : Nat) (S : Store) : evCmp S .iss (.ref i) .non = .ok (.bl false) S := rfl
@[simp] theorem isnot_ref (i : Nat) (S : Store) : evCmp S .isnot (.ref i) .non = .ok (.bl true) S := rfl
@[simp] theorem varE_fn (i : Nat) (t : Bool) (S : Store) : varE (some (some (.fn i))) t S = tz t (.ok (.fn i) S) := rfl
@[simp] theorem noXc_fn (i : Nat) (e : Env) : noXc (some (.fn i) :: e) = some (.fn i) :: noXc e := rfl
@[simp] theorem iss_fn (i : Nat) (S : Store) : evCmp S .iss (.fn i) .non = .ok (.bl false) S := rfl
@[simp] theorem isnot_fn (i : Nat) (S : Store) : evCmp S .isnot (.fn i) .non = .ok (.bl true) S := rfl
@[simp] theorem varE_cls (i : Nat) (t : Bool) (S : Store) : varE (some (some (.cls i))) t S = tz t (.ok (.cls i) S) := rfl
@[simp] theorem noXc_cls (i : Nat) (e : Env) : noXc (some (.cls i) :: e) = some (.cls i) :: noXc e := rfl
@[simp] theorem iss_cls (i : Nat) (S : Store) : evCmp S .iss (.cls i) .non = .ok (.bl false) S := rfl
@[simp] theorem isnot_cls (i : Nat) (S : Store) : evCmp S .isnot (.cls i) .non = .ok (.bl true) S := rfl
@[simp] theorem varE_ty (i : Bt) (t : Bool) (S : Store) : varE (some (some (.ty i))) t S = tz t (.ok (.ty i) S) := rfl
@[simp] theorem noXc_ty (i : Bt) (e : Env) : noXc (some (.ty i) :: e) = some (.ty i) :: noXc e := rfl
@[simp] theorem iss_ty (i : Bt) (S : Store) : evCmp S .iss (.ty i) .non = .ok (.bl false) S := rfl
@[simp] theorem isnot_ty (i : Bt) (S : Store) : evCmp S .isnot (.ty i) .non = .ok (.bl true) S := rfl
@[simp] theorem varE_ins (c : Nat) (ns : List Str) (fs : List D) (t : Bool) (S : Store) : varE (some (some (.ins c ns fs))) t S = tz t (.ok (.ins c ns fs) S) := rfl
@[simp] theorem noXc_ins (c : Nat) (ns : List Str) (fs : List D) (e : Env) : noXc (some (.ins c ns fs) :: e) = some (.ins c ns fs) :: noXc e := rfl
@[simp] theorem iss_ins (c : Nat) (ns : List Str) (fs : List D) (S : Store) : evCmp S .iss (.ins c ns fs) .non = .ok (.bl false) S := rfl
@[simp] theorem isnot_ins (c : Nat) (ns : List Str) (fs : List D) (S : Store) : evCmp S .isnot (.ins c ns fs) .non = .ok (.bl true) S := rfl
@[simp] theorem varE_set (i : List Int) (t : Bool) (S : Store) : varE (some (some (.set i))) t S = tz t (.ok (.set i) S) := rfl
@[simp] theorem noXc_set (i : List Int) (e : Env) : noXc (some (.set i) :: e) = some (.set i) :: noXc e := rfl
@[simp] theorem iss_set (i : List Int) (S : Store) : evCmp S .iss (.set i) .non = .ok (.bl false) S := rfl
@[simp] theorem isnot_set (i : List Int) (S : Store) : evCmp S .isnot (.set i) .non = .ok (.bl true) S := rfl
@[simp] theorem iss_non (S : Store) : evCmp S .iss .non .non = .ok (.bl true) S := rfl
@[simp] theorem isnot_non (S : Store) : evCmp S .isnot .non .non = .ok (.bl false) S := rfl
def conE (o : Option D) (t : Bool) (S : Store) : R D := match o with
  | some d => tz t (.ok d S)
  | none => .bad
@[simp] theorem conE_some (d : D) (t : Bool) (S : Store) : conE (some d) t S = tz t (.ok d S) := rfl
def efldE (o : Option (Option D)) (f : Str) (t : Bool) (S : Store) : R D := match o with
  | some (some (.xc _ ns fs)) => match lookF f ns fs with
    | some d => tz t (.ok d S)
    | none => .bad
  | _ => .bad
@[simp] theorem efldE_xc (c : Nat) (ns : List Str) (fs : List D) (f : Str) (t : Bool) (S : Store) : efldE (some (some (.xc c ns fs))) f t S = conE (lookF f ns fs) t S := rfl
def bmE (m : BM) (x : D) (S : Store) (o : Option Bt) (k : Bt → R D) : R D := match o with
  | some T => match bmId m T with
    | some _ => k T
    | none => .bad
  | none => .bad
def walkR (o : Option (List D)) (S : Store) : R (List D) := match o with
  | some xs => .ok xs S
  | none => .bad
@[simp] theorem walkR_some (xs : List D) (S : Store) : walkR (some xs) S = .ok xs S := rfl
def range1R (x : D) (S : Store) : R (List D) := match x with
  | .int j => if -(2 ^ 62) ≤ j ∧ j < 2 ^ 62 then .ok (rangeD 0 j.toNat) S else .bad
  | _ => .bad
@[simp] theorem range1R_int (j : Int) (S : Store) : range1R (.int j) S = if -(2 ^ 62) ≤ j ∧ j < 2 ^ 62 then .ok (rangeD 0 j.toNat) S else .bad := rfl
def range2R (x y : D) (S : Store) : R (List D) := match x, y with
  | .int i, .int j => if -(2 ^ 62) ≤ i ∧ i < 2 ^ 62 ∧ -(2 ^ 62) ≤ j ∧ j < 2 ^ 62 then .ok (rangeD i (j - i).toNat) S else .bad
  | _, _ => .bad
@[simp] theorem range2R_int (i j : Int) (S : Store) : range2R (.int i) (.int j) S = if -(2 ^ 62) ≤ i ∧ i < 2 ^ 62 ∧ -(2 ^ 62) ≤ j ∧ j < 2 ^ 62 then .ok (rangeD i (j - i).toNat) S else .bad := rfl
@[simp] theorem calmR_ok {α : Type} (a : α) (S : Store) : calmR (R.ok a S) = .ok a S := rfl
@[simp] theorem calmR_bad {α : Type} : calmR (R.bad : R α) = .bad := rfl
@[simp] theorem calmR_er {α : Type} (x : Exc) (S : Store) : calmR (R.er x S : R α) = .bad := rfl
section
variable (P : Prog) (cf : CallF)
def opK (t : Bool) (o : Op) (r : R (List D)) : R D := match r with
  | .ok v S => tz t (evOp o v S)
  | .er x S => .er x S
  | .bad => .bad
@[simp] theorem opK_ok (t : Bool) (o : Op) (v : (List D)) (S : Store) : opK t o (.ok v S) = tz t (evOp o v S) := rfl
@[simp] theorem opK_er (t : Bool) (o : Op) (x : Exc) (S : Store) : opK t o (.er x S) = .er x S := rfl
@[simp] theorem opK_bad (t : Bool) (o : Op) : opK t o .bad = .bad := rfl
@[simp] theorem opK_ite (t : Bool) (o : Op) (pp : Prop) [Decidable pp] (r1 r2 : R (List D)) : opK t o (if pp then r1 else r2) = if pp then opK t o r1 else opK t o r2 := by split <;> rfl
def esK2 (a : D) (r : R (List D)) : R (List D) := match r with
  | .ok v S => .ok (a :: v) S
  | .er x S => .er x S
  | .bad => .bad
@[simp] theorem esK2_ok (a : D) (v : (List D)) (S : Store) : esK2 a (.ok v S) = .ok (a :: v) S := rfl
@[simp] theorem esK2_er (a : D) (x : Exc) (S : Store) : esK2 a (.er x S) = .er x S := rfl
@[simp] theorem esK2_bad (a : D) : esK2 a .bad = .bad := rfl
@[simp] theorem esK2_ite (a : D) (pp : Prop) [Decidable pp] (r1 r2 : R (List D)) : esK2 a (if pp then r1 else r2) = if pp then esK2 a r1 else esK2 a r2 := by split <;> rfl
def esK1 (P : Prog) (cf : CallF) (es : Es) (env : Env) (r : R D) : R (List D) := match r with
  | .ok v S => esK2 v (evEs P cf es env S)
  | .er x S => .er x S
  | .bad => .bad
@[simp] theorem esK1_ok (P : Prog) (cf : CallF) (es : Es) (env : Env) (v : D) (S : Store) : esK1 P cf es env (.ok v S) = esK2 v (evEs P cf es env S) := rfl
@[simp] theorem esK1_er (P : Prog) (cf : CallF) (es : Es) (env : Env) (x : Exc) (S : Store) : esK1 P cf es env (.er x S) = .er x S := rfl
@[simp] theorem esK1_bad (P : Prog) (cf : CallF) (es : Es) (env : Env) : esK1 P cf es env .bad = .bad := rfl
@[simp] theorem esK1_ite (P : Prog) (cf : CallF) (es : Es) (env : Env) (pp : Prop) [Decidable pp] (r1 r2 : R D) : esK1 P cf es env (if pp then r1 else r2) = if pp then esK1 P cf es env r1 else esK1 P cf es env r2 := by split <;> rfl
def notK  (r : R D) : R D := match r with
  | .ok v S => notR v S
  | .er x S => .er x S
  | .bad => .bad
@[simp] theorem notK_ok  (v : D) (S : Store) : notK  (.ok v S) = notR v S := rfl
@[simp] theorem notK_er  (x : Exc) (S : Store) : notK  (.er x S) = .er x S := rfl
@[simp] theorem notK_bad  : notK  .bad = .bad := rfl
@[simp] theorem notK_ite  (pp : Prop) [Decidable pp] (r1 r2 : R D) : notK  (if pp then r1 else r2) = if pp then notK  r1 else notK  r2 := by split <;> rfl
def bmK2 (t : Bool) (m : BM) (T : Bt) (a : D) (r : R (List D)) : R D := match r with
  | .ok v S => tz t (evBM S m T a v)
  | .er x S => .er x S
  | .bad => .bad
@[simp] theorem bmK2_ok (t : Bool) (m : BM) (T : Bt) (a : D) (v : (List D)) (S : Store) : bmK2 t m T a (.ok v S) = tz t (evBM S m T a v) := rfl
@[simp] theorem bmK2_er (t : Bool) (m : BM) (T : Bt) (a : D) (x : Exc) (S : Store) : bmK2 t m T a (.er x S) = .er x S := rfl
@[simp] theorem bmK2_bad (t : Bool) (m : BM) (T : Bt) (a : D) : bmK2 t m T a .bad = .bad := rfl
@[simp] theorem bmK2_ite (t : Bool) (m : BM) (T : Bt) (a : D) (pp : Prop) [Decidable pp] (r1 r2 : R (List D)) : bmK2 t m T a (if pp then r1 else r2) = if pp then bmK2 t m T a r1 else bmK2 t m T a r2 := by split <;> rfl
def bmK1' (P : Prog) (cf : CallF) (t : Bool) (m : BM) (es : Es) (env : Env) (v : D) (S : Store) (o : Option Bt) : R D := match o with
  | some T => match bmId m T with
    | some _ => bmK2 t m T v (evEs P cf es env S)
    | none => .bad
  | none => .bad
@[simp] theorem bmK1'_append_list (P : Prog) (cf : CallF) (t : Bool) (es : Es) (env : Env) (v : D) (S : Store) : bmK1' P cf t .append es env v S (some .list) = bmK2 t .append .list v (evEs P cf es env S) := rfl
@[simp] theorem bmK1'_clear_list (P : Prog) (cf : CallF) (t : Bool) (es : Es) (env : Env) (v : D) (S : Store) : bmK1' P cf t .clear es env v S (some .list) = bmK2 t .clear .list v (evEs P cf es env S) := rfl
@[simp] theorem bmK1'_pop_list (P : Prog) (cf : CallF) (t : Bool) (es : Es) (env : Env) (v : D) (S : Store) : bmK1' P cf t .pop es env v S (some .list) = bmK2 t .pop .list v (evEs P cf es env S) := rfl
@[simp] theorem bmK1'_index_list (P : Prog) (cf : CallF) (t : Bool) (es : Es) (env : Env) (v : D) (S : Store) : bmK1' P cf t .index es env v S (some .list) = bmK2 t .index .list v (evEs P cf es env S) := rfl
@[simp] theorem bmK1'_index_tuple (P : Prog) (cf : CallF) (t : Bool) (es : Es) (env : Env) (v : D) (S : Store) : bmK1' P cf t .index es env v S (some .tuple) = bmK2 t .index .tuple v (evEs P cf es env S) := rfl
@[simp] theorem bmK1'_bitlen_int (P : Prog) (cf : CallF) (t : Bool) (es : Es) (env : Env) (v : D) (S : Store) : bmK1' P cf t .bitlen es env v S (some .int) = bmK2 t .bitlen .int v (evEs P cf es env S) := rfl
def bmK1 (P : Prog) (cf : CallF) (t : Bool) (m : BM) (es : Es) (env : Env) (r : R D) : R D := match r with
  | .ok v S => bmK1' P cf t m es env v S (mtOf S v)
  | .er x S => .er x S
  | .bad => .bad
@[simp] theorem bmK1_ok (P : Prog) (cf : CallF) (t : Bool) (m : BM) (es : Es) (env : Env) (v : D) (S : Store) : bmK1 P cf t m es env (.ok v S) = bmK1' P cf t m es env v S (mtOf S v) := rfl
@[simp] theorem bmK1_er (P : Prog) (cf : CallF) (t : Bool) (m : BM) (es : Es) (env : Env) (x : Exc) (S : Store) : bmK1 P cf t m es env (.er x S) = .er x S := rfl
@[simp] theorem bmK1_bad (P : Prog) (cf : CallF) (t : Bool) (m : BM) (es : Es) (env : Env) : bmK1 P cf t m es env .bad = .bad := rfl
@[simp] theorem bmK1_ite (P : Prog) (cf : CallF) (t : Bool) (m : BM) (es : Es) (env : Env) (pp : Prop) [Decidable pp] (r1 r2 : R D) : bmK1 P cf t m es env (if pp then r1 else r2) = if pp then bmK1 P cf t m es env r1 else bmK1 P cf t m es env r2 := by split <;> rfl
def andK (P : Prog) (cf : CallF) (b : E) (t : Bool) (env : Env) (r : R D) : R D := match r with
  | .ok v S => iteR v (evE P cf b t env S) (.ok (.bl false) S)
  | .er x S => .er x S
  | .bad => .bad
@[simp] theorem andK_ok (P : Prog) (cf : CallF) (b : E) (t : Bool) (env : Env) (v : D) (S : Store) : andK P cf b t env (.ok v S) = iteR v (evE P cf b t env S) (.ok (.bl false) S) := rfl
@[simp] theorem andK_er (P : Prog) (cf : CallF) (b : E) (t : Bool) (env : Env) (x : Exc) (S : Store) : andK P cf b t env (.er x S) = .er x S := rfl
@[simp] theorem andK_bad (P : Prog) (cf : CallF) (b : E) (t : Bool) (env : Env) : andK P cf b t env .bad = .bad := rfl
@[simp] theorem andK_ite (P : Prog) (cf : CallF) (b : E) (t : Bool) (env : Env) (pp : Prop) [Decidable pp] (r1 r2 : R D) : andK P cf b t env (if pp then r1 else r2) = if pp then andK P cf b t env r1 else andK P cf b t env r2 := by split <;> rfl
def orK (P : Prog) (cf : CallF) (b : E) (t : Bool) (env : Env) (r : R D) : R D := match r with
  | .ok v S => iteR v (.ok (.bl true) S) (evE P cf b t env S)
  | .er x S => .er x S
  | .bad => .bad
@[simp] theorem orK_ok (P : Prog) (cf : CallF) (b : E) (t : Bool) (env : Env) (v : D) (S : Store) : orK P cf b t env (.ok v S) = iteR v (.ok (.bl true) S) (evE P cf b t env S) := rfl
@[simp] theorem orK_er (P : Prog) (cf : CallF) (b : E) (t : Bool) (env : Env) (x : Exc) (S : Store) : orK P cf b t env (.er x S) = .er x S := rfl
@[simp] theorem orK_bad (P : Prog) (cf : CallF) (b : E) (t : Bool) (env : Env) : orK P cf b t env .bad = .bad := rfl
@[simp] theorem orK_ite (P : Prog) (cf : CallF) (b : E) (t : Bool) (env : Env) (pp : Prop) [Decidable pp] (r1 r2 : R D) : orK P cf b t env (if pp then r1 else r2) = if pp then orK P cf b t env r1 else orK P cf b t env r2 := by split <;> rfl
def ifeK (P : Prog) (cf : CallF) (a b : E) (t : Bool) (env : Env) (r : R D) : R D := match r with
  | .ok v S => iteR v (evE P cf a t env S) (evE P cf b t env S)
  | .er x S => .er x S
  | .bad => .bad
@[simp] theorem ifeK_ok (P : Prog) (cf : CallF) (a b : E) (t : Bool) (env : Env) (v : D) (S : Store) : ifeK P cf a b t env (.ok v S) = iteR v (evE P cf a t env S) (evE P cf b t env S) := rfl
@[simp] theorem ifeK_er (P : Prog) (cf : CallF) (a b : E) (t : Bool) (env : Env) (x : Exc) (S : Store) : ifeK P cf a b t env (.er x S) = .er x S := rfl
@[simp] theorem ifeK_bad (P : Prog) (cf : CallF) (a b : E) (t : Bool) (env : Env) : ifeK P cf a b t env .bad = .bad := rfl
@[simp] theorem ifeK_ite (P : Prog) (cf : CallF) (a b : E) (t : Bool) (env : Env) (pp : Prop) [Decidable pp] (r1 r2 : R D) : ifeK P cf a b t env (if pp then r1 else r2) = if pp then ifeK P cf a b t env r1 else ifeK P cf a b t env r2 := by split <;> rfl
def chK4 (t : Bool) (o2 : COp) (a : D) (r : R D) : R D := match r with
  | .ok v S => tz t (evCmp S o2 a v)
  | .er x S => .er x S
  | .bad => .bad
@[simp] theorem chK4_ok (t : Bool) (o2 : COp) (a : D) (v : D) (S : Store) : chK4 t o2 a (.ok v S) = tz t (evCmp S o2 a v) := rfl
@[simp] theorem chK4_er (t : Bool) (o2 : COp) (a : D) (x : Exc) (S : Store) : chK4 t o2 a (.er x S) = .er x S := rfl
@[simp] theorem chK4_bad (t : Bool) (o2 : COp) (a : D) : chK4 t o2 a .bad = .bad := rfl
@[simp] theorem chK4_ite (t : Bool) (o2 : COp) (a : D) (pp : Prop) [Decidable pp] (r1 r2 : R D) : chK4 t o2 a (if pp then r1 else r2) = if pp then chK4 t o2 a r1 else chK4 t o2 a r2 := by split <;> rfl
def chK3 (P : Prog) (cf : CallF) (t : Bool) (o2 : COp) (c : E) (env : Env) (a : D) (r : R D) : R D := match r with
  | .ok v S => iteR v (chK4 t o2 a (evE P cf c false env S)) (.ok (.bl false) S)
  | .er x S => .er x S
  | .bad => .bad
@[simp] theorem chK3_ok (P : Prog) (cf : CallF) (t : Bool) (o2 : COp) (c : E) (env : Env) (a : D) (v : D) (S : Store) : chK3 P cf t o2 c env a (.ok v S) = iteR v (chK4 t o2 a (evE P cf c false env S)) (.ok (.bl false) S) := rfl
@[simp] theorem chK3_er (P : Prog) (cf : CallF) (t : Bool) (o2 : COp) (c : E) (env : Env) (a : D) (x : Exc) (S : Store) : chK3 P cf t o2 c env a (.er x S) = .er x S := rfl
@[simp] theorem chK3_bad (P : Prog) (cf : CallF) (t : Bool) (o2 : COp) (c : E) (env : Env) (a : D) : chK3 P cf t o2 c env a .bad = .bad := rfl
@[simp] theorem chK3_ite (P : Prog) (cf : CallF) (t : Bool) (o2 : COp) (c : E) (env : Env) (a : D) (pp : Prop) [Decidable pp] (r1 r2 : R D) : chK3 P cf t o2 c env a (if pp then r1 else r2) = if pp then chK3 P cf t o2 c env a r1 else chK3 P cf t o2 c env a r2 := by split <;> rfl
def chK2 (P : Prog) (cf : CallF) (t : Bool) (o1 o2 : COp) (c : E) (env : Env) (a : D) (r : R D) : R D := match r with
  | .ok v S => chK3 P cf t o2 c env v (evCmp S o1 a v)
  | .er x S => .er x S
  | .bad => .bad
@[simp] theorem chK2_ok (P : Prog) (cf : CallF) (t : Bool) (o1 o2 : COp) (c : E) (env : Env) (a : D) (v : D) (S : Store) : chK2 P cf t o1 o2 c env a (.ok v S) = chK3 P cf t o2 c env v (evCmp S o1 a v) := rfl
@[simp] theorem chK2_er (P : Prog) (cf : CallF) (t : Bool) (o1 o2 : COp) (c : E) (env : Env) (a : D) (x : Exc) (S : Store) : chK2 P cf t o1 o2 c env a (.er x S) = .er x S := rfl
@[simp] theorem chK2_bad (P : Prog) (cf : CallF) (t : Bool) (o1 o2 : COp) (c : E) (env : Env) (a : D) : chK2 P cf t o1 o2 c env a .bad = .bad := rfl
@[simp] theorem chK2_ite (P : Prog) (cf : CallF) (t : Bool) (o1 o2 : COp) (c : E) (env : Env) (a : D) (pp : Prop) [Decidable pp] (r1 r2 : R D) : chK2 P cf t o1 o2 c env a (if pp then r1 else r2) = if pp then chK2 P cf t o1 o2 c env a r1 else chK2 P cf t o1 o2 c env a r2 := by split <;> rfl
def chK1 (P : Prog) (cf : CallF) (t : Bool) (o1 o2 : COp) (b c : E) (env : Env) (r : R D) : R D := match r with
  | .ok v S => chK2 P cf t o1 o2 c env v (evE P cf b false env S)
  | .er x S => .er x S
  | .bad => .bad
@[simp] theorem chK1_ok (P : Prog) (cf : CallF) (t : Bool) (o1 o2 : COp) (b c : E) (env : Env) (v : D) (S : Store) : chK1 P cf t o1 o2 b c env (.ok v S) = chK2 P cf t o1 o2 c env v (evE P cf b false env S) := rfl
@[simp] theorem chK1_er (P : Prog) (cf : CallF) (t : Bool) (o1 o2 : COp) (b c : E) (env : Env) (x : Exc) (S : Store) : chK1 P cf t o1 o2 b c env (.er x S) = .er x S := rfl
@[simp] theorem chK1_bad (P : Prog) (cf : CallF) (t : Bool) (o1 o2 : COp) (b c : E) (env : Env) : chK1 P cf t o1 o2 b c env .bad = .bad := rfl
@[simp] theorem chK1_ite (P : Prog) (cf : CallF) (t : Bool) (o1 o2 : COp) (b c : E) (env : Env) (pp : Prop) [Decidable pp] (r1 r2 : R D) : chK1 P cf t o1 o2 b c env (if pp then r1 else r2) = if pp then chK1 P cf t o1 o2 b c env r1 else chK1 P cf t o1 o2 b c env r2 := by split <;> rfl
def callK (cf : CallF) (t : Bool) (f : Nat) (r : R (List D)) : R D := match r with
  | .ok v S => tz t (cf f v S)
  | .er x S => .er x S
  | .bad => .bad
@[simp] theorem callK_ok (cf : CallF) (t : Bool) (f : Nat) (v : (List D)) (S : Store) : callK cf t f (.ok v S) = tz t (cf f v S) := rfl
@[simp] theorem callK_er (cf : CallF) (t : Bool) (f : Nat) (x : Exc) (S : Store) : callK cf t f (.er x S) = .er x S := rfl
@[simp] theorem callK_bad (cf : CallF) (t : Bool) (f : Nat) : callK cf t f .bad = .bad := rfl
@[simp] theorem callK_ite (cf : CallF) (t : Bool) (f : Nat) (pp : Prop) [Decidable pp] (r1 r2 : R (List D)) : callK cf t f (if pp then r1 else r2) = if pp then callK cf t f r1 else callK cf t f r2 := by split <;> rfl
def calldK' (P : Prog) (cf : CallF) (t : Bool) (es : Es) (env : Env) (v : D) (S : Store) : R D := match v with
  | .fn f => callK cf t f (evEs P cf es env S)
  | _ => .bad
@[simp] theorem calldK'_fn (P : Prog) (cf : CallF) (t : Bool) (es : Es) (env : Env) (f : Nat) (S : Store) : calldK' P cf t es env (.fn f) S = callK cf t f (evEs P cf es env S) := rfl
def calldK (P : Prog) (cf : CallF) (t : Bool) (es : Es) (env : Env) (r : R D) : R D := match r with
  | .ok v S => calldK' P cf t es env v S
  | .er x S => .er x S
  | .bad => .bad
@[simp] theorem calldK_ok (P : Prog) (cf : CallF) (t : Bool) (es : Es) (env : Env) (v : D) (S : Store) : calldK P cf t es env (.ok v S) = calldK' P cf t es env v S := rfl
@[simp] theorem calldK_er (P : Prog) (cf : CallF) (t : Bool) (es : Es) (env : Env) (x : Exc) (S : Store) : calldK P cf t es env (.er x S) = .er x S := rfl
@[simp] theorem calldK_bad (P : Prog) (cf : CallF) (t : Bool) (es : Es) (env : Env) : calldK P cf t es env .bad = .bad := rfl
@[simp] theorem calldK_ite (P : Prog) (cf : CallF) (t : Bool) (es : Es) (env : Env) (pp : Prop) [Decidable pp] (r1 r2 : R D) : calldK P cf t es env (if pp then r1 else r2) = if pp then calldK P cf t es env r1 else calldK P cf t es env r2 := by split <;> rfl
/-- a comprehension's turn -/
def keepK2 (r : R D) : R (Option D) := match r with
  | .ok y S => .ok (some y) S
  | .er x S => .er x S
  | .bad => .bad
@[simp] theorem keepK2_ok (y : D) (S : Store) : keepK2 (.ok y S) = .ok (some y) S := rfl
@[simp] theorem keepK2_ite (c : Prop) [Decidable c] (y z : R D) : keepK2 (if c then y else z) = if c then keepK2 y else keepK2 z := by split <;> rfl
def keepK1' (P : Prog) (cf : CallF) (elt : E) (env : Env) (b : Bool) (S : Store) : R (Option D) := if b then keepK2 (evE P cf elt false env S) else .ok none S
@[simp] theorem keepK1'_t (P : Prog) (cf : CallF) (elt : E) (env : Env) (S : Store) : keepK1' P cf elt env true S = keepK2 (evE P cf elt false env S) := rfl
@[simp] theorem keepK1'_f (P : Prog) (cf : CallF) (elt : E) (env : Env) (S : Store) : keepK1' P cf elt env false S = .ok none S := rfl
theorem keepK1'_b (P : Prog) (cf : CallF) (elt : E) (env : Env) (b : Bool) (S : Store) : keepK1' P cf elt env b S = if b = true then keepK2 (evE P cf elt false env S) else .ok none S := rfl
def keepK1 (P : Prog) (cf : CallF) (elt : E) (env : Env) (r : R Bool) : R (Option D) := match r with
  | .ok v S => keepK1' P cf elt env v S
  | .er x S => .er x S
  | .bad => .bad
@[simp] theorem keepK1_ok (P : Prog) (cf : CallF) (elt : E) (env : Env) (v : Bool) (S : Store) : keepK1 P cf elt env (.ok v S) = keepK1' P cf elt env v S := rfl
@[simp] theorem keepK1_er (P : Prog) (cf : CallF) (elt : E) (env : Env) (x : Exc) (S : Store) : keepK1 P cf elt env (.er x S) = .er x S := rfl
@[simp] theorem keepK1_bad (P : Prog) (cf : CallF) (elt : E) (env : Env) : keepK1 P cf elt env .bad = .bad := rfl
@[simp] theorem keepK1_ite (P : Prog) (cf : CallF) (elt : E) (env : Env) (pp : Prop) [Decidable pp] (r1 r2 : R Bool) : keepK1 P cf elt env (if pp then r1 else r2) = if pp then keepK1 P cf elt env r1 else keepK1 P cf elt env r2 := by split <;> rfl
def lcB1 (P : Prog) (cf : CallF) (ifs : Es) (elt : E) (o : Option (Env × Store)) : R (Option D) := match o with
  | some p => keepK1 P cf elt p.1 (evTests P cf ifs p.1 p.2)
  | none => .bad
@[simp] theorem lcB1_some (P : Prog) (cf : CallF) (ifs : Es) (elt : E) (env : Env) (S : Store) : lcB1 P cf ifs elt (some (env, S)) = keepK1 P cf elt env (evTests P cf ifs env S) := rfl
def lcB (P : Prog) (cf : CallF) (tg : Tg) (ifs : Es) (elt : E) (env : Env) (x : D) (S : Store) : R (Option D) := lcB1 P cf ifs elt (bindT P tg x env S)
@[simp] theorem lcB_at (P : Prog) (cf : CallF) (tg : Tg) (ifs : Es) (elt : E) (env : Env) (x : D) (S : Store) : lcB P cf tg ifs elt env x S = lcB1 P cf ifs elt (bindT P tg x env S) := rfl
def lcK2 (t : Bool) (r : R (List D)) : R D := match r with
  | .ok v S => tz t (.ok (.lst v) S)
  | .er x S => .bad
  | .bad => .bad
@[simp] theorem lcK2_ok (t : Bool) (v : (List D)) (S : Store) : lcK2 t (.ok v S) = tz t (.ok (.lst v) S) := rfl
@[simp] theorem lcK2_er (t : Bool) (x : Exc) (S : Store) : lcK2 t (.er x S) = .bad := rfl
@[simp] theorem lcK2_bad (t : Bool) : lcK2 t .bad = .bad := rfl
@[simp] theorem lcK2_ite (t : Bool) (pp : Prop) [Decidable pp] (r1 r2 : R (List D)) : lcK2 t (if pp then r1 else r2) = if pp then lcK2 t r1 else lcK2 t r2 := by split <;> rfl
def lcK (P : Prog) (cf : CallF) (t : Bool) (tg : Tg) (ifs : Es) (elt : E) (env : Env) (r : R (List D)) : R D := match r with
  | .ok v S => lcK2 t (walkC (lcB P cf tg ifs elt env) v [] S)
  | .er x S => .er x S
  | .bad => .bad
@[simp] theorem lcK_ok (P : Prog) (cf : CallF) (t : Bool) (tg : Tg) (ifs : Es) (elt : E) (env : Env) (v : (List D)) (S : Store) : lcK P cf t tg ifs elt env (.ok v S) = lcK2 t (walkC (lcB P cf tg ifs elt env) v [] S) := rfl
@[simp] theorem lcK_er (P : Prog) (cf : CallF) (t : Bool) (tg : Tg) (ifs : Es) (elt : E) (env : Env) (x : Exc) (S : Store) : lcK P cf t tg ifs elt env (.er x S) = .er x S := rfl
@[simp] theorem lcK_bad (P : Prog) (cf : CallF) (t : Bool) (tg : Tg) (ifs : Es) (elt : E) (env : Env) : lcK P cf t tg ifs elt env .bad = .bad := rfl
@[simp] theorem lcK_ite (P : Prog) (cf : CallF) (t : Bool) (tg : Tg) (ifs : Es) (elt : E) (env : Env) (pp : Prop) [Decidable pp] (r1 r2 : R (List D)) : lcK P cf t tg ifs elt env (if pp then r1 else r2) = if pp then lcK P cf t tg ifs elt env r1 else lcK P cf t tg ifs elt env r2 := by split <;> rfl
@[simp] theorem evE_var (i : Nat) (t : Bool) (env : Env) (S : Store) : evE P cf (.var i) t env S = varE env[i]? t S := by rw [evE]; rfl
@[simp] theorem evE_efld (i : Nat) (f : Str) (t : Bool) (env : Env) (S : Store) : evE P cf (.efld i f) t env S = efldE env[i]? f t S := by rw [evE]; rfl
@[simp] theorem evE_con (x : Str) (t : Bool) (env : Env) (S : Store) : evE P cf (.con x) t env S = conE (P.con.lookup x) t S := by rw [evE]; rfl
@[simp] theorem evE_gfn (f : Nat) (t : Bool) (env : Env) (S : Store) : evE P cf (.gfn f) t env S = tz t (.ok (.fn f) S) := by rw [evE]
@[simp] theorem evE_gcl (f : Nat) (t : Bool) (env : Env) (S : Store) : evE P cf (.gcl f) t env S = tz t (.ok (.cls f) S) := by rw [evE]
@[simp] theorem evE_gty (f : Bt) (t : Bool) (env : Env) (S : Store) : evE P cf (.gty f) t env S = tz t (.ok (.ty f) S) := by rw [evE]
@[simp] theorem evE_int (f : Int) (t : Bool) (env : Env) (S : Store) : evE P cf (.int f) t env S = tz t (.ok (.int f) S) := by rw [evE]
@[simp] theorem evE_str (f : Str) (t : Bool) (env : Env) (S : Store) : evE P cf (.str f) t env S = tz t (.ok (.str f) S) := by rw [evE]
@[simp] theorem evE_bl (f : Bool) (t : Bool) (env : Env) (S : Store) : evE P cf (.bl f) t env S = tz t (.ok (.bl f) S) := by rw [evE]
@[simp] theorem evE_non (t : Bool) (env : Env) (S : Store) : evE P cf .non t env S = tz t (.ok .non S) := by rw [evE]
@[simp] theorem evE_op (o : Op) (es : Es) (t : Bool) (env : Env) (S : Store) : evE P cf (.op o es) t env S = opK t o (evEs P cf es env S) := by rw [evE]; cases evEs P cf es env S <;> cases t <;> rfl
@[simp] theorem evE_not (a : E) (t : Bool) (env : Env) (S : Store) : evE P cf (.not a) t env S = notK (evE P cf a t env S) := by rw [evE]; cases evE P cf a t env S <;> rfl
@[simp] theorem evE_bm (m : BM) (o : E) (es : Es) (t : Bool) (env : Env) (S : Store) : evE P cf (.bm m o es) t env S = bmK1 P cf t m es env (evE P cf o false env S) := by
  rw [evE]
  cases evE P cf o false env S with
  | ok v S1 =>
    show tz t (match mtOf S1 v with
      | some T => match bmId m T with
        | some _ => (evEs P cf es env S1).bind fun xs S2 => evBM S2 m T v xs
        | none => .bad
      | none => .bad) = bmK1' P cf t m es env v S1 (mtOf S1 v)
    cases mtOf S1 v with
    | none => cases t <;> rfl
    | some T =>
      unfold bmK1'
      dsimp only
      cases bmId m T with
      | none => cases t <;> rfl
      | some _ => dsimp only; cases evEs P cf es env S1 <;> cases t <;> rfl
  | er x S1 => cases t <;> rfl
  | bad => cases t <;> rfl
@[simp] theorem evE_and (a b : E) (t : Bool) (env : Env) (S : Store) : evE P cf (.and a b) t env S = andK P cf b t env (evE P cf a t env S) := by rw [evE]; cases evE P cf a t env S <;> rfl
@[simp] theorem evE_or (a b : E) (t : Bool) (env : Env) (S : Store) : evE P cf (.or a b) t env S = orK P cf b t env (evE P cf a t env S) := by rw [evE]; cases evE P cf a t env S <;> rfl
@[simp] theorem evE_ife (c a b : E) (t : Bool) (env : Env) (S : Store) : evE P cf (.ife c a b) t env S = ifeK P cf a b t env (evE P cf c true env S) := by rw [evE]; cases evE P cf c true env S <;> rfl
@[simp] theorem evE_chain (o1 o2 : COp) (a b c : E) (t : Bool) (env : Env) (S : Store) : evE P cf (.chain o1 o2 a b c) t env S = chK1 P cf t o1 o2 b c env (evE P cf a false env S) := by
  rw [evE]
  cases evE P cf a false env S with
  | ok v S1 =>
    show ((evE P cf b false env S1).bind _) = chK2 P cf t o1 o2 c env v (evE P cf b false env S1)
    cases evE P cf b false env S1 with
    | ok u S2 =>
      show ((evCmp S2 o1 v u).bind _) = chK3 P cf t o2 c env u (evCmp S2 o1 v u)
      cases evCmp S2 o1 v u with
      | ok z S3 =>
        show (match z with
          | .bl true => tz t ((evE P cf c false env S3).bind fun w S4 => evCmp S4 o2 u w)
          | .bl false => .ok (.bl false) S3
          | _ => .bad) = iteR z (chK4 t o2 u (evE P cf c false env S3)) (.ok (.bl false) S3)
        have e : tz t ((evE P cf c false env S3).bind fun w S4 => evCmp S4 o2 u w) = chK4 t o2 u (evE P cf c false env S3) := by cases evE P cf c false env S3 <;> cases t <;> rfl
        rw [e]; rfl
      | er _ _ => rfl
      | bad => rfl
    | er _ _ => rfl
    | bad => rfl
  | er _ _ => rfl
  | bad => rfl
@[simp] theorem evE_call (f : Nat) (es : Es) (t : Bool) (env : Env) (S : Store) : evE P cf (.call f es) t env S = callK cf t f (evEs P cf es env S) := by rw [evE]; cases evEs P cf es env S <;> cases t <;> rfl
@[simp] theorem evE_calld (e : E) (es : Es) (t : Bool) (env : Env) (S : Store) : evE P cf (.calld e es) t env S = calldK P cf t es env (evE P cf e false env S) := by
  rw [evE]
  cases evE P cf e false env S with
  | ok v S1 =>
    cases v <;> first
      | (rename_i f; show tz t ((evEs P cf es env S1).bind fun xs S2 => cf f xs S2) = callK cf t f (evEs P cf es env S1); cases evEs P cf es env S1 <;> cases t <;> rfl)
      | (cases t <;> rfl)
  | er _ _ => cases t <;> rfl
  | bad => cases t <;> rfl
@[simp] theorem evE_lc (own : List Nat) (tg : Tg) (it : It) (ifs : Es) (elt : E) (t : Bool) (env : Env) (S : Store) : evE P cf (.lc own tg it ifs elt) t env S = lcK P cf t tg ifs elt (wipe (noXc env) own) (evIt P cf it env S) := by
  rw [evE]
  cases evIt P cf it env S with
  | ok v S1 =>
    have e : ∀ f, f = lcB P cf tg ifs elt (wipe (noXc env) own) → tz t (calmR ((walkC f v [] S1).bind fun ys S5 => .ok (.lst ys) S5)) = lcK2 t (walkC (lcB P cf tg ifs elt (wipe (noXc env) own)) v [] S1) := by
      rintro _ rfl
      cases walkC (lcB P cf tg ifs elt (wipe (noXc env) own)) v [] S1 <;> cases t <;> rfl
    refine e _ ?_
    funext x S2
    unfold lcB
    cases bindT P tg x (wipe (noXc env) own) S2 with
    | none => rfl
    | some p =>
      show (evTests P cf ifs p.1 p.2).bind _ = keepK1 P cf elt p.1 (evTests P cf ifs p.1 p.2)
      cases evTests P cf ifs p.1 p.2 with
      | ok b S3 =>
        cases b with
        | false => rfl
        | true =>
          show (evE P cf elt false p.1 S3).bind _ = keepK2 (evE P cf elt false p.1 S3)
          cases evE P cf elt false p.1 S3 <;> rfl
      | er _ _ => rfl
      | bad => rfl
  | er _ _ => cases t <;> rfl
  | bad => cases t <;> rfl
@[simp] theorem evEs_nil (env : Env) (S : Store) : evEs P cf .nil env S = .ok [] S := by rw [evEs]
@[simp] theorem evEs_cons (e : E) (es : Es) (env : Env) (S : Store) : evEs P cf (.cons e es) env S = esK1 P cf es env (evE P cf e false env S) := by
  rw [evEs]
  cases evE P cf e false env S with
  | ok v S1 => show (evEs P cf es env S1).bind _ = esK2 v (evEs P cf es env S1); cases evEs P cf es env S1 <;> rfl
  | er _ _ => rfl
  | bad => rfl
def testK' (P : Prog) (cf : CallF) (es : Es) (env : Env) (x : D) (S : Store) : R Bool := match x with
  | .bl true => evTests P cf es env S
  | .bl false => .ok false S
  | _ => .bad
@[simp] theorem testK'_bl (es : Es) (env : Env) (b : Bool) (S : Store) : testK' P cf es env (.bl b) S = if b = true then evTests P cf es env S else .ok false S := by cases b <;> rfl
def testK (P : Prog) (cf : CallF) (es : Es) (env : Env) (r : R D) : R Bool := match r with
  | .ok v S => testK' P cf es env v S
  | .er x S => .er x S
  | .bad => .bad
@[simp] theorem testK_ok (P : Prog) (cf : CallF) (es : Es) (env : Env) (v : D) (S : Store) : testK P cf es env (.ok v S) = testK' P cf es env v S := rfl
@[simp] theorem testK_er (P : Prog) (cf : CallF) (es : Es) (env : Env) (x : Exc) (S : Store) : testK P cf es env (.er x S) = .er x S := rfl
@[simp] theorem testK_bad (P : Prog) (cf : CallF) (es : Es) (env : Env) : testK P cf es env .bad = .bad := rfl
@[simp] theorem testK_ite (P : Prog) (cf : CallF) (es : Es) (env : Env) (pp : Prop) [Decidable pp] (r1 r2 : R D) : testK P cf es env (if pp then r1 else r2) = if pp then testK P cf es env r1 else testK P cf es env r2 := by split <;> rfl
@[simp] theorem evTests_nil (env : Env) (S : Store) : evTests P cf .nil env S = .ok true S := by rw [evTests]
@[simp] theorem evTests_cons (e : E) (es : Es) (env : Env) (S : Store) : evTests P cf (.cons e es) env S = testK P cf es env (evE P cf e true env S) := by rw [evTests]; cases evE P cf e true env S <;> rfl
def itV  (r : R D) : R (List D) := match r with
  | .ok v S => walkR (walkOf v) S
  | .er x S => .er x S
  | .bad => .bad
@[simp] theorem itV_ok  (v : D) (S : Store) : itV  (.ok v S) = walkR (walkOf v) S := rfl
@[simp] theorem itV_er  (x : Exc) (S : Store) : itV  (.er x S) = .er x S := rfl
@[simp] theorem itV_bad  : itV  .bad = .bad := rfl
@[simp] theorem itV_ite  (pp : Prop) [Decidable pp] (r1 r2 : R D) : itV  (if pp then r1 else r2) = if pp then itV  r1 else itV  r2 := by split <;> rfl
def itR1  (r : R D) : R (List D) := match r with
  | .ok v S => range1R v S
  | .er x S => .er x S
  | .bad => .bad
@[simp] theorem itR1_ok  (v : D) (S : Store) : itR1  (.ok v S) = range1R v S := rfl
@[simp] theorem itR1_er  (x : Exc) (S : Store) : itR1  (.er x S) = .er x S := rfl
@[simp] theorem itR1_bad  : itR1  .bad = .bad := rfl
@[simp] theorem itR1_ite  (pp : Prop) [Decidable pp] (r1 r2 : R D) : itR1  (if pp then r1 else r2) = if pp then itR1  r1 else itR1  r2 := by split <;> rfl
def itR2b (a : D) (r : R D) : R (List D) := match r with
  | .ok v S => range2R a v S
  | .er x S => .er x S
  | .bad => .bad
@[simp] theorem itR2b_ok (a : D) (v : D) (S : Store) : itR2b a (.ok v S) = range2R a v S := rfl
@[simp] theorem itR2b_er (a : D) (x : Exc) (S : Store) : itR2b a (.er x S) = .er x S := rfl
@[simp] theorem itR2b_bad (a : D) : itR2b a .bad = .bad := rfl
@[simp] theorem itR2b_ite (a : D) (pp : Prop) [Decidable pp] (r1 r2 : R D) : itR2b a (if pp then r1 else r2) = if pp then itR2b a r1 else itR2b a r2 := by split <;> rfl
def itR2 (P : Prog) (cf : CallF) (b : E) (env : Env) (r : R D) : R (List D) := match r with
  | .ok v S => itR2b v (evE P cf b false env S)
  | .er x S => .er x S
  | .bad => .bad
@[simp] theorem itR2_ok (P : Prog) (cf : CallF) (b : E) (env : Env) (v : D) (S : Store) : itR2 P cf b env (.ok v S) = itR2b v (evE P cf b false env S) := rfl
@[simp] theorem itR2_er (P : Prog) (cf : CallF) (b : E) (env : Env) (x : Exc) (S : Store) : itR2 P cf b env (.er x S) = .er x S := rfl
@[simp] theorem itR2_bad (P : Prog) (cf : CallF) (b : E) (env : Env) : itR2 P cf b env .bad = .bad := rfl
@[simp] theorem itR2_ite (P : Prog) (cf : CallF) (b : E) (env : Env) (pp : Prop) [Decidable pp] (r1 r2 : R D) : itR2 P cf b env (if pp then r1 else r2) = if pp then itR2 P cf b env r1 else itR2 P cf b env r2 := by split <;> rfl
def enumR (o : Option (List D)) (S : Store) : R (List D) := match o with
  | some xs => .ok (enumD 0 xs) S
  | none => .bad
@[simp] theorem enumR_some (xs : List D) (S : Store) : enumR (some xs) S = .ok (enumD 0 xs) S := rfl
def zipR (o p : Option (List D)) (S : Store) : R (List D) := match o, p with
  | some xs, some ys => .ok (zipD xs ys) S
  | _, _ => .bad
@[simp] theorem zipR_some (xs ys : List D) (S : Store) : zipR (some xs) (some ys) S = .ok (zipD xs ys) S := rfl
@[simp] theorem frzL_lst (xs : List D) : frzL (.lst xs) = some xs := rfl
def itE  (r : R D) : R (List D) := match r with
  | .ok v S => enumR (frzL v) S
  | .er x S => .er x S
  | .bad => .bad
@[simp] theorem itE_ok  (v : D) (S : Store) : itE  (.ok v S) = enumR (frzL v) S := rfl
@[simp] theorem itE_er  (x : Exc) (S : Store) : itE  (.er x S) = .er x S := rfl
@[simp] theorem itE_bad  : itE  .bad = .bad := rfl
@[simp] theorem itE_ite  (pp : Prop) [Decidable pp] (r1 r2 : R D) : itE  (if pp then r1 else r2) = if pp then itE  r1 else itE  r2 := by split <;> rfl
def itZb (a : D) (r : R D) : R (List D) := match r with
  | .ok v S => zipR (frzL a) (frzL v) S
  | .er x S => .er x S
  | .bad => .bad
@[simp] theorem itZb_ok (a : D) (v : D) (S : Store) : itZb a (.ok v S) = zipR (frzL a) (frzL v) S := rfl
@[simp] theorem itZb_er (a : D) (x : Exc) (S : Store) : itZb a (.er x S) = .er x S := rfl
@[simp] theorem itZb_bad (a : D) : itZb a .bad = .bad := rfl
@[simp] theorem itZb_ite (a : D) (pp : Prop) [Decidable pp] (r1 r2 : R D) : itZb a (if pp then r1 else r2) = if pp then itZb a r1 else itZb a r2 := by split <;> rfl
def itZ (P : Prog) (cf : CallF) (b : E) (env : Env) (r : R D) : R (List D) := match r with
  | .ok v S => itZb v (evE P cf b false env S)
  | .er x S => .er x S
  | .bad => .bad
@[simp] theorem itZ_ok (P : Prog) (cf : CallF) (b : E) (env : Env) (v : D) (S : Store) : itZ P cf b env (.ok v S) = itZb v (evE P cf b false env S) := rfl
@[simp] theorem itZ_er (P : Prog) (cf : CallF) (b : E) (env : Env) (x : Exc) (S : Store) : itZ P cf b env (.er x S) = .er x S := rfl
@[simp] theorem itZ_bad (P : Prog) (cf : CallF) (b : E) (env : Env) : itZ P cf b env .bad = .bad := rfl
@[simp] theorem itZ_ite (P : Prog) (cf : CallF) (b : E) (env : Env) (pp : Prop) [Decidable pp] (r1 r2 : R D) : itZ P cf b env (if pp then r1 else r2) = if pp then itZ P cf b env r1 else itZ P cf b env r2 := by split <;> rfl
@[simp] theorem evIt_val (e : E) (env : Env) (S : Store) : evIt P cf (.val e) env S = itV (evE P cf e false env S) := by rw [evIt]; cases evE P cf e false env S <;> rfl
@[simp] theorem evIt_range1 (e : E) (env : Env) (S : Store) : evIt P cf (.range1 e) env S = itR1 (evE P cf e false env S) := by rw [evIt]; cases evE P cf e false env S <;> rfl
@[simp] theorem evIt_range2 (a b : E) (env : Env) (S : Store) : evIt P cf (.range2 a b) env S = itR2 P cf b env (evE P cf a false env S) := by
  rw [evIt]
  cases evE P cf a false env S with
  | ok v S1 => show (evE P cf b false env S1).bind _ = itR2b v (evE P cf b false env S1); cases evE P cf b false env S1 <;> rfl
  | er _ _ => rfl
  | bad => rfl
@[simp] theorem evIt_enum (e : E) (env : Env) (S : Store) : evIt P cf (.enum e) env S = itE (evE P cf e false env S) := by rw [evIt]; cases evE P cf e false env S <;> rfl
@[simp] theorem evIt_zip (a b : E) (env : Env) (S : Store) : evIt P cf (.zip a b) env S = itZ P cf b env (evE P cf a false env S) := by
  rw [evIt]
  cases evE P cf a false env S with
  | ok v S1 => show (evE P cf b false env S1).bind _ = itZb v (evE P cf b false env S1); cases evE P cf b false env S1 <;> rfl
  | er _ _ => rfl
  | bad => rfl

/-! ### statements -/
def seqS (P : Prog) (cf : CallF) (ss : Ss) (r : RS) : RS := match r with
  | .nx env S => evSs P cf ss env S
  | r => r
@[simp] theorem seqS_nx (ss : Ss) (e : Env) (S : Store) : seqS P cf ss (.nx e S) = evSs P cf ss e S := rfl
@[simp] theorem seqS_rt (ss : Ss) (d : D) (S : Store) : seqS P cf ss (.rt d S) = .rt d S := rfl
@[simp] theorem seqS_bk (ss : Ss) (e : Env) (S : Store) : seqS P cf ss (.bk e S) = .bk e S := rfl
@[simp] theorem seqS_ct (ss : Ss) (e : Env) (S : Store) : seqS P cf ss (.ct e S) = .ct e S := rfl
@[simp] theorem seqS_er (ss : Ss) (x : Exc) (e : Env) (S : Store) : seqS P cf ss (.er x e S) = .er x e S := rfl
@[simp] theorem seqS_bad (ss : Ss) : seqS P cf ss .bad = .bad := rfl
@[simp] theorem seqS_ite (ss : Ss) (c : Prop) [Decidable c] (a b : RS) : seqS P cf ss (if c then a else b) = if c then seqS P cf ss a else seqS P cf ss b := by split <;> rfl
def bindK (o : Option (Env × Store)) : RS := match o with
  | some p => .nx p.1 p.2
  | none => .bad
@[simp] theorem bindK_some (e : Env) (S : Store) : bindK (some (e, S)) = .nx e S := rfl
def setK (env : Env) (o : Option Store) : RS := match o with
  | some S => .nx env S
  | none => .bad
@[simp] theorem setK_some (env : Env) (S : Store) : setK env (some S) = .nx env S := rfl
def forB1 (P : Prog) (cf : CallF) (b : Ss) (o : Option (Env × Store)) : RS := match o with
  | some p => evSs P cf b p.1 p.2
  | none => .bad
@[simp] theorem forB1_some (b : Ss) (e : Env) (S : Store) : forB1 P cf b (some (e, S)) = evSs P cf b e S := rfl
/-- a loop's turn -/
def forB (P : Prog) (cf : CallF) (t : Tg) (b : Ss) (x : D) (env : Env) (S : Store) : RS := forB1 P cf b (bindT P t x env S)
@[simp] theorem forB_at (t : Tg) (b : Ss) (x : D) (env : Env) (S : Store) : forB P cf t b x env S = forB1 P cf b (bindT P t x env S) := rfl
def raiseK' (c : Nat) (xs : List D) (env : Env) (S : Store) (o : Option ExcDef) : RS := match o with
  | some C => if xs.length = C.args then .er ⟨c, C.ns, C.fill xs⟩ env S else .bad
  | none => .bad
@[simp] theorem raiseK'_some (c : Nat) (xs : List D) (env : Env) (S : Store) (C : ExcDef) : raiseK' c xs env S (some C) = if xs.length = C.args then .er ⟨c, C.ns, C.fill xs⟩ env S else .bad := rfl
def exprK (env : Env) (r : R D) : RS := match r with
  | .ok v S => .nx env S
  | .er x S => .er x env S
  | .bad => .bad
@[simp] theorem exprK_ok (env : Env) (v : D) (S : Store) : exprK env (.ok v S) = .nx env S := rfl
@[simp] theorem exprK_er (env : Env) (x : Exc) (S : Store) : exprK env (.er x S) = .er x env S := rfl
@[simp] theorem exprK_bad (env : Env) : exprK env .bad = .bad := rfl
@[simp] theorem exprK_ite (env : Env) (pp : Prop) [Decidable pp] (r1 r2 : R D) : exprK env (if pp then r1 else r2) = if pp then exprK env r1 else exprK env r2 := by split <;> rfl
def asgK (P : Prog) (t : Tg) (env : Env) (r : R D) : RS := match r with
  | .ok v S => bindK (bindT P t v env S)
  | .er x S => .er x env S
  | .bad => .bad
@[simp] theorem asgK_ok (P : Prog) (t : Tg) (env : Env) (v : D) (S : Store) : asgK P t env (.ok v S) = bindK (bindT P t v env S) := rfl
@[simp] theorem asgK_er (P : Prog) (t : Tg) (env : Env) (x : Exc) (S : Store) : asgK P t env (.er x S) = .er x env S := rfl
@[simp] theorem asgK_bad (P : Prog) (t : Tg) (env : Env) : asgK P t env .bad = .bad := rfl
@[simp] theorem asgK_ite (P : Prog) (t : Tg) (env : Env) (pp : Prop) [Decidable pp] (r1 r2 : R D) : asgK P t env (if pp then r1 else r2) = if pp then asgK P t env r1 else asgK P t env r2 := by split <;> rfl
def parK2 (i j : Nat) (env : Env) (a : D) (r : R D) : RS := match r with
  | .ok v S => .nx ((env.set i (some a)).set j (some v)) S
  | .er x S => .er x env S
  | .bad => .bad
@[simp] theorem parK2_ok (i j : Nat) (env : Env) (a : D) (v : D) (S : Store) : parK2 i j env a (.ok v S) = .nx ((env.set i (some a)).set j (some v)) S := rfl
@[simp] theorem parK2_er (i j : Nat) (env : Env) (a : D) (x : Exc) (S : Store) : parK2 i j env a (.er x S) = .er x env S := rfl
@[simp] theorem parK2_bad (i j : Nat) (env : Env) (a : D) : parK2 i j env a .bad = .bad := rfl
@[simp] theorem parK2_ite (i j : Nat) (env : Env) (a : D) (pp : Prop) [Decidable pp] (r1 r2 : R D) : parK2 i j env a (if pp then r1 else r2) = if pp then parK2 i j env a r1 else parK2 i j env a r2 := by split <;> rfl
def parK (P : Prog) (cf : CallF) (i j : Nat) (b : E) (env : Env) (r : R D) : RS := match r with
  | .ok v S => parK2 i j env v (evE P cf b false env S)
  | .er x S => .er x env S
  | .bad => .bad
@[simp] theorem parK_ok (P : Prog) (cf : CallF) (i j : Nat) (b : E) (env : Env) (v : D) (S : Store) : parK P cf i j b env (.ok v S) = parK2 i j env v (evE P cf b false env S) := rfl
@[simp] theorem parK_er (P : Prog) (cf : CallF) (i j : Nat) (b : E) (env : Env) (x : Exc) (S : Store) : parK P cf i j b env (.er x S) = .er x env S := rfl
@[simp] theorem parK_bad (P : Prog) (cf : CallF) (i j : Nat) (b : E) (env : Env) : parK P cf i j b env .bad = .bad := rfl
@[simp] theorem parK_ite (P : Prog) (cf : CallF) (i j : Nat) (b : E) (env : Env) (pp : Prop) [Decidable pp] (r1 r2 : R D) : parK P cf i j b env (if pp then r1 else r2) = if pp then parK P cf i j b env r1 else parK P cf i j b env r2 := by split <;> rfl
def setiK3 (env : Env) (y o : D) (r : R D) : RS := match r with
  | .ok v S => setK env (setItem S o v y)
  | .er x S => .er x env S
  | .bad => .bad
@[simp] theorem setiK3_ok (env : Env) (y o : D) (v : D) (S : Store) : setiK3 env y o (.ok v S) = setK env (setItem S o v y) := rfl
@[simp] theorem setiK3_er (env : Env) (y o : D) (x : Exc) (S : Store) : setiK3 env y o (.er x S) = .er x env S := rfl
@[simp] theorem setiK3_bad (env : Env) (y o : D) : setiK3 env y o .bad = .bad := rfl
@[simp] theorem setiK3_ite (env : Env) (y o : D) (pp : Prop) [Decidable pp] (r1 r2 : R D) : setiK3 env y o (if pp then r1 else r2) = if pp then setiK3 env y o r1 else setiK3 env y o r2 := by split <;> rfl
def setiK2 (P : Prog) (cf : CallF) (i : E) (env : Env) (y : D) (r : R D) : RS := match r with
  | .ok v S => setiK3 env y v (evE P cf i false env S)
  | .er x S => .er x env S
  | .bad => .bad
@[simp] theorem setiK2_ok (P : Prog) (cf : CallF) (i : E) (env : Env) (y : D) (v : D) (S : Store) : setiK2 P cf i env y (.ok v S) = setiK3 env y v (evE P cf i false env S) := rfl
@[simp] theorem setiK2_er (P : Prog) (cf : CallF) (i : E) (env : Env) (y : D) (x : Exc) (S : Store) : setiK2 P cf i env y (.er x S) = .er x env S := rfl
@[simp] theorem setiK2_bad (P : Prog) (cf : CallF) (i : E) (env : Env) (y : D) : setiK2 P cf i env y .bad = .bad := rfl
@[simp] theorem setiK2_ite (P : Prog) (cf : CallF) (i : E) (env : Env) (y : D) (pp : Prop) [Decidable pp] (r1 r2 : R D) : setiK2 P cf i env y (if pp then r1 else r2) = if pp then setiK2 P cf i env y r1 else setiK2 P cf i env y r2 := by split <;> rfl
def setiK (P : Prog) (cf : CallF) (o i : E) (env : Env) (r : R D) : RS := match r with
  | .ok v S => setiK2 P cf i env v (evE P cf o false env S)
  | .er x S => .er x env S
  | .bad => .bad
@[simp] theorem setiK_ok (P : Prog) (cf : CallF) (o i : E) (env : Env) (v : D) (S : Store) : setiK P cf o i env (.ok v S) = setiK2 P cf i env v (evE P cf o false env S) := rfl
@[simp] theorem setiK_er (P : Prog) (cf : CallF) (o i : E) (env : Env) (x : Exc) (S : Store) : setiK P cf o i env (.er x S) = .er x env S := rfl
@[simp] theorem setiK_bad (P : Prog) (cf : CallF) (o i : E) (env : Env) : setiK P cf o i env .bad = .bad := rfl
@[simp] theorem setiK_ite (P : Prog) (cf : CallF) (o i : E) (env : Env) (pp : Prop) [Decidable pp] (r1 r2 : R D) : setiK P cf o i env (if pp then r1 else r2) = if pp then setiK P cf o i env r1 else setiK P cf o i env r2 := by split <;> rfl
def ifK (P : Prog) (cf : CallF) (a b : Ss) (env : Env) (r : R D) : RS := match r with
  | .ok v S => iteS v (evSs P cf a env S) (evSs P cf b env S)
  | .er x S => .er x env S
  | .bad => .bad
@[simp] theorem ifK_ok (P : Prog) (cf : CallF) (a b : Ss) (env : Env) (v : D) (S : Store) : ifK P cf a b env (.ok v S) = iteS v (evSs P cf a env S) (evSs P cf b env S) := rfl
@[simp] theorem ifK_er (P : Prog) (cf : CallF) (a b : Ss) (env : Env) (x : Exc) (S : Store) : ifK P cf a b env (.er x S) = .er x env S := rfl
@[simp] theorem ifK_bad (P : Prog) (cf : CallF) (a b : Ss) (env : Env) : ifK P cf a b env .bad = .bad := rfl
@[simp] theorem ifK_ite (P : Prog) (cf : CallF) (a b : Ss) (env : Env) (pp : Prop) [Decidable pp] (r1 r2 : R D) : ifK P cf a b env (if pp then r1 else r2) = if pp then ifK P cf a b env r1 else ifK P cf a b env r2 := by split <;> rfl
def retK (env : Env) (r : R D) : RS := match r with
  | .ok v S => .rt v S
  | .er x S => .er x env S
  | .bad => .bad
@[simp] theorem retK_ok (env : Env) (v : D) (S : Store) : retK env (.ok v S) = .rt v S := rfl
@[simp] theorem retK_er (env : Env) (x : Exc) (S : Store) : retK env (.er x S) = .er x env S := rfl
@[simp] theorem retK_bad (env : Env) : retK env .bad = .bad := rfl
@[simp] theorem retK_ite (env : Env) (pp : Prop) [Decidable pp] (r1 r2 : R D) : retK env (if pp then r1 else r2) = if pp then retK env r1 else retK env r2 := by split <;> rfl
def forK (P : Prog) (cf : CallF) (t : Tg) (b : Ss) (env : Env) (r : R (List D)) : RS := match r with
  | .ok v S => forGo (forB P cf t b) v env S
  | .er x S => .er x env S
  | .bad => .bad
@[simp] theorem forK_ok (P : Prog) (cf : CallF) (t : Tg) (b : Ss) (env : Env) (v : (List D)) (S : Store) : forK P cf t b env (.ok v S) = forGo (forB P cf t b) v env S := rfl
@[simp] theorem forK_er (P : Prog) (cf : CallF) (t : Tg) (b : Ss) (env : Env) (x : Exc) (S : Store) : forK P cf t b env (.er x S) = .er x env S := rfl
@[simp] theorem forK_bad (P : Prog) (cf : CallF) (t : Tg) (b : Ss) (env : Env) : forK P cf t b env .bad = .bad := rfl
@[simp] theorem forK_ite (P : Prog) (cf : CallF) (t : Tg) (b : Ss) (env : Env) (pp : Prop) [Decidable pp] (r1 r2 : R (List D)) : forK P cf t b env (if pp then r1 else r2) = if pp then forK P cf t b env r1 else forK P cf t b env r2 := by split <;> rfl
def raiseK (P : Prog) (c : Nat) (env : Env) (r : R (List D)) : RS := match r with
  | .ok v S => raiseK' c v env S P.exc[c]?
  | .er x S => .er x env S
  | .bad => .bad
@[simp] theorem raiseK_ok (P : Prog) (c : Nat) (env : Env) (v : (List D)) (S : Store) : raiseK P c env (.ok v S) = raiseK' c v env S P.exc[c]? := rfl
@[simp] theorem raiseK_er (P : Prog) (c : Nat) (env : Env) (x : Exc) (S : Store) : raiseK P c env (.er x S) = .er x env S := rfl
@[simp] theorem raiseK_bad (P : Prog) (c : Nat) (env : Env) : raiseK P c env .bad = .bad := rfl
@[simp] theorem raiseK_ite (P : Prog) (c : Nat) (env : Env) (pp : Prop) [Decidable pp] (r1 r2 : R (List D)) : raiseK P c env (if pp then r1 else r2) = if pp then raiseK P c env r1 else raiseK P c env r2 := by split <;> rfl
def stillK2 (i : Nat) (env : Env) (r : R D) : RS := match r with
  | .ok v S => .nx (env.set i (some v)) S
  | .er x S => .er x env S
  | .bad => .bad
@[simp] theorem stillK2_ok (i : Nat) (env : Env) (v : D) (S : Store) : stillK2 i env (.ok v S) = .nx (env.set i (some v)) S := rfl
@[simp] theorem stillK2_er (i : Nat) (env : Env) (x : Exc) (S : Store) : stillK2 i env (.er x S) = .er x env S := rfl
@[simp] theorem stillK2_bad (i : Nat) (env : Env) : stillK2 i env .bad = .bad := rfl
@[simp] theorem stillK2_ite (i : Nat) (env : Env) (pp : Prop) [Decidable pp] (r1 r2 : R D) : stillK2 i env (if pp then r1 else r2) = if pp then stillK2 i env r1 else stillK2 i env r2 := by split <;> rfl
def stillK (i : Nat) (env : Env) (S : Store) (o : Option (Option D)) : RS := match o with
  | some (some d) => stillK2 i env (frzCell S d)
  | _ => .bad
@[simp] theorem stillK_some (i : Nat) (env : Env) (S : Store) (d : D) : stillK i env S (some (some d)) = stillK2 i env (frzCell S d) := rfl
@[simp] theorem evS_expr (e : E) (env : Env) (S : Store) : evS P cf (.expr e) env S = exprK env (evE P cf e false env S) := by rw [evS]; cases evE P cf e false env S <;> rfl
@[simp] theorem evS_asg (t : Tg) (e : E) (env : Env) (S : Store) : evS P cf (.asg t e) env S = asgK P t env (evE P cf e false env S) := by rw [evS]; cases evE P cf e false env S <;> rfl
@[simp] theorem evS_par (i j : Nat) (a b : E) (env : Env) (S : Store) : evS P cf (.par i j a b) env S = parK P cf i j b env (evE P cf a false env S) := by
  rw [evS]
  cases evE P cf a false env S with
  | ok v S1 => show (evE P cf b false env S1).thn env _ = parK2 i j env v (evE P cf b false env S1); cases evE P cf b false env S1 <;> rfl
  | er _ _ => rfl
  | bad => rfl
@[simp] theorem evS_seti (o i e : E) (env : Env) (S : Store) : evS P cf (.seti o i e) env S = setiK P cf o i env (evE P cf e false env S) := by
  rw [evS]
  cases evE P cf e false env S with
  | ok v S1 =>
    show (evE P cf o false env S1).thn env _ = setiK2 P cf i env v (evE P cf o false env S1)
    cases evE P cf o false env S1 with
    | ok u S2 =>
      show (evE P cf i false env S2).thn env _ = setiK3 env v u (evE P cf i false env S2)
      cases evE P cf i false env S2 <;> rfl
    | er _ _ => rfl
    | bad => rfl
  | er _ _ => rfl
  | bad => rfl
@[simp] theorem evS_ife (t : E) (a b : Ss) (env : Env) (S : Store) : evS P cf (.ife t a b) env S = ifK P cf a b env (evE P cf t true env S) := by rw [evS]; cases evE P cf t true env S <;> rfl
@[simp] theorem evS_ret (e : E) (env : Env) (S : Store) : evS P cf (.ret e) env S = retK env (evE P cf e false env S) := by rw [evS]; cases evE P cf e false env S <;> rfl
@[simp] theorem evS_retN (env : Env) (S : Store) : evS P cf .retN env S = .rt .non S := by rw [evS]
@[simp] theorem evS_forr (t : Tg) (it : It) (b : Ss) (env : Env) (S : Store) : evS P cf (.forr t it b) env S = forK P cf t b env (evIt P cf it env S) := by rw [evS]; cases evIt P cf it env S <;> rfl
@[simp] theorem evS_raise (c : Nat) (es : Es) (env : Env) (S : Store) : evS P cf (.raise c es) env S = raiseK P c env (evEs P cf es env S) := by rw [evS]; cases evEs P cf es env S <;> rfl
def tryH (i : Nat) (r : RS) : RS := match r with
  | .nx env2 S2 => .nx ((noXc env2).set i none) S2
  | .bk env2 S2 => .bk ((noXc env2).set i none) S2
  | .ct env2 S2 => .ct ((noXc env2).set i none) S2
  | .er _ _ _ => .bad
  | r => r
@[simp] theorem tryH_nx (i : Nat) (e : Env) (S : Store) : tryH i (.nx e S) = .nx ((noXc e).set i none) S := rfl
@[simp] theorem tryH_rt (i : Nat) (e : D) (S : Store) : tryH i (.rt e S) = .rt e S := rfl
@[simp] theorem tryH_ite (i : Nat) (c : Prop) [Decidable c] (a b : RS) : tryH i (if c then a else b) = if c then tryH i a else tryH i b := by split <;> rfl
def tryK (P : Prog) (cf : CallF) (cs : List Nat) (i : Nat) (h : Ss) (r : RS) : RS := match r with
  | .er x env' S' => if P.exc.length ≤ x.c then .bad else if isSub P x.c cs then
        tryH i (evSs P cf h ((noXc env').set i (some (.xc x.c x.ns x.fs))) S')
      else .er x (noXc env') S'
  | .nx env' S' => .nx (noXc env') S'
  | .bk env' S' => .bk (noXc env') S'
  | .ct env' S' => .ct (noXc env') S'
  | r => r
@[simp] theorem tryK_er (cs : List Nat) (i : Nat) (h : Ss) (x : Exc) (env' : Env) (S' : Store) : tryK P cf cs i h (.er x env' S') = if P.exc.length ≤ x.c then .bad else if isSub P x.c cs then
        tryH i (evSs P cf h ((noXc env').set i (some (.xc x.c x.ns x.fs))) S')
      else .er x (noXc env') S' := rfl
@[simp] theorem tryK_nx (cs : List Nat) (i : Nat) (h : Ss) (env' : Env) (S' : Store) : tryK P cf cs i h (.nx env' S') = .nx (noXc env') S' := rfl
@[simp] theorem tryK_rt (cs : List Nat) (i : Nat) (h : Ss) (d : D) (S' : Store) : tryK P cf cs i h (.rt d S') = .rt d S' := rfl
@[simp] theorem tryK_ite (cs : List Nat) (i : Nat) (h : Ss) (c : Prop) [Decidable c] (a b : RS) : tryK P cf cs i h (if c then a else b) = if c then tryK P cf cs i h a else tryK P cf cs i h b := by split <;> rfl
@[simp] theorem evS_trye (b : Ss) (cs : List Nat) (i : Nat) (h : Ss) (env : Env) (S : Store) : evS P cf (.trye b cs i h) env S = tryK P cf cs i h (evSs P cf b (noXc env) S) := by
  rw [evS]
  cases evSs P cf b (noXc env) S <;> rfl
@[simp] theorem evS_brk (env : Env) (S : Store) : evS P cf .brk env S = .bk env S := by rw [evS]
@[simp] theorem evS_cont (env : Env) (S : Store) : evS P cf .cont env S = .ct env S := by rw [evS]
@[simp] theorem evS_pass (env : Env) (S : Store) : evS P cf .pass env S = .nx env S := by rw [evS]
@[simp] theorem evS_still (i : Nat) (env : Env) (S : Store) : evS P cf (.still i) env S = stillK i env S env[i]? := by
  rw [evS]
  cases env[i]? with
  | none => rfl
  | some o =>
    cases o with
    | none => rfl
    | some d => show (frzCell S d).thn env _ = stillK2 i env (frzCell S d); cases frzCell S d <;> rfl
@[simp] theorem evSs_nil (env : Env) (S : Store) : evSs P cf .nil env S = .nx env S := by rw [evSs]
@[simp] theorem evSs_cons (s : S) (ss : Ss) (env : Env) (S : Store) : evSs P cf (.cons s ss) env S = seqS P cf ss (evS P cf s env S) := by
  rw [evSs]
  cases evS P cf s env S <;> rfl
/-- a loop, turn by turn -/
def forN (f : D → Env → Store → RS) (xs : List D) (r : RS) : RS := match r with
  | .nx env' S' => forGo f xs env' S'
  | .ct env' S' => forGo f xs env' S'
  | .bk env' S' => .nx env' S'
  | r => r
@[simp] theorem forN_nx (f : D → Env → Store → RS) (xs : List D) (e : Env) (S : Store) : forN f xs (.nx e S) = forGo f xs e S := rfl
@[simp] theorem forN_ct (f : D → Env → Store → RS) (xs : List D) (e : Env) (S : Store) : forN f xs (.ct e S) = forGo f xs e S := rfl
@[simp] theorem forN_bk (f : D → Env → Store → RS) (xs : List D) (e : Env) (S : Store) : forN f xs (.bk e S) = .nx e S := rfl
@[simp] theorem forN_rt (f : D → Env → Store → RS) (xs : List D) (d : D) (S : Store) : forN f xs (.rt d S) = .rt d S := rfl
@[simp] theorem forN_er (f : D → Env → Store → RS) (xs : List D) (x : Exc) (e : Env) (S : Store) : forN f xs (.er x e S) = .er x e S := rfl
@[simp] theorem forN_ite (f : D → Env → Store → RS) (xs : List D) (c : Prop) [Decidable c] (a b : RS) : forN f xs (if c then a else b) = if c then forN f xs a else forN f xs b := by split <;> rfl
theorem forGo_nil (f : D → Env → Store → RS) (e : Env) (S : Store) : forGo f [] e S = .nx e S := rfl
theorem forGo_cons (f : D → Env → Store → RS) (x : D) (xs : List D) (e : Env) (S : Store) : forGo f (x :: xs) e S = forN f xs (f x e S) := by
  show (match f x e S with
    | .nx env' S' => forGo f xs env' S'
    | .ct env' S' => forGo f xs env' S'
    | .bk env' S' => .nx env' S'
    | r => r) = _
  cases f x e S <;> rfl
end
section
variable (P : Prog)
@[simp] theorem bindT_name (i : Nat) (d : D) (env : Env) (S : Store) : bindT P (.name i) d env S = some (env.set i (some d), S) := by rw [bindT]
@[simp] theorem bindT_tup (ts : Tgs) (xs : List D) (env : Env) (S : Store) : bindT P (.tup ts) (.tup xs) env S = bindTs P ts xs env S := by rw [bindT]; rfl
@[simp] theorem bindT_ntup (ts : Tgs) (xs : List D) (env : Env) (S : Store) : bindT P (.tup ts) (.ntup xs) env S = bindTs P ts xs env S := by rw [bindT]; rfl
@[simp] theorem bindT_lst (ts : Tgs) (xs : List D) (env : Env) (S : Store) : bindT P (.tup ts) (.lst xs) env S = bindTs P ts xs env S := by rw [bindT]; rfl
@[simp] theorem bindT_kt (ts : Tgs) (xs : List D) (env : Env) (S : Store) : bindT P (.tup ts) (.kt xs) env S = bindTs P ts xs env S := by rw [bindT]; rfl
def bindC (P : Prog) (ts : Tgs) (xs : List D) (o : Option (Env × Store)) : Option (Env × Store) := match o with
  | some p => bindTs P ts xs p.1 p.2
  | none => none
@[simp] theorem bindC_some (ts : Tgs) (xs : List D) (e : Env) (S : Store) : bindC P ts xs (some (e, S)) = bindTs P ts xs e S := rfl
@[simp] theorem bindTs_nil (env : Env) (S : Store) : bindTs P .nil [] env S = some (env, S) := by rw [bindTs]
@[simp] theorem bindTs_cons (t : Tg) (ts : Tgs) (x : D) (xs : List D) (env : Env) (S : Store) : bindTs P (.cons t ts) (x :: xs) env S = bindC P ts xs (bindT P t x env S) := by rw [bindTs]; cases bindT P t x env S <;> rfl
end
section
variable (S : Store)
@[simp] theorem evOp_bin (o : BOp) (x y : D) : evOp (.bin o) [x, y] S = evBin S o x y := rfl
@[simp] theorem evOp_neg (i : Int) : evOp .neg [.int i] S = .ok (.int (-i)) S := rfl
@[simp] theorem evOp_cmp (o : COp) (x y : D) : evOp (.cmp o) [x, y] S = evCmp S o x y := rfl
@[simp] theorem evOp_lst (xs : List D) : evOp .lst xs S = if xs.length ≤ sizeLine then .ok (.lst xs) S else .bad := by cases xs <;> rfl
@[simp] theorem evOp_lstM (xs : List D) : evOp .lstM xs S = if xs.length ≤ sizeLine then .ok (.ref S.top) (S.new (.lst xs)) else .bad := by cases xs <;> rfl
@[simp] theorem evOp_tup (xs : List D) : evOp .tup xs S = if xs.length ≤ sizeLine then .ok (.tup xs) S else .bad := by cases xs <;> rfl
@[simp] theorem evOp_dK (ks : List Key) (xs : List D) : evOp (.dK ks) xs S = if ks.length = xs.length ∧ ks.Nodup ∧ ks.length ≤ 15 then .ok (.dK ks xs) S else .bad := by cases xs <;> rfl
@[simp] theorem evOp_sub (x i : D) : evOp .sub [x, i] S = evSub S x i := rfl
@[simp] theorem evOp_slc (lo hi : Bool) (x : D) (r : List D) : evOp (.slc lo hi) (x :: r) S = optR (partI lo r) fun p => optR (partI hi p.2) fun q => evSlc S x p.1 q.1 := rfl
@[simp] theorem evOp_bi (b : BI) (xs : List D) : evOp (.bi b) xs S = evBI S b xs := by cases xs <;> rfl
@[simp] theorem partI_f (xs : List D) : partI false xs = some (none, xs) := rfl
@[simp] theorem partI_t (i : Int) (xs : List D) : partI true (.int i :: xs) = some (some i, xs) := rfl
@[simp] theorem evBin_int (o : BOp) (i j : Int) : evBin S o (.int i) (.int j) = evI S o i j := rfl
@[simp] theorem evI_add (i j : Int) : evI S .add i j = .ok (.int (i + j)) S := rfl
@[simp] theorem evI_sub (i j : Int) : evI S .sub i j = .ok (.int (i - j)) S := rfl
@[simp] theorem evI_mul (i j : Int) : evI S .mul i j = if (-(2 ^ 64) < i ∧ i < 2 ^ 64) ∨ (-(2 ^ 64) < j ∧ j < 2 ^ 64) then .ok (.int (i * j)) S else .bad := rfl
@[simp] theorem evI_fdiv (i j : Int) : evI S .fdiv i j = if 0 < j ∧ j < 1073741824 then .ok (.int (i / j)) S else .bad := rfl
@[simp] theorem evI_fdivW (i j : Int) : evI S .fdivW i j = if 0 < j ∧ j.natAbs.log2 < 9000 then .ok (.int (i / j)) S else .bad := rfl
@[simp] theorem evI_mod (i j : Int) : evI S .mod i j = if 0 < j then .ok (.int (i % j)) S else .bad := rfl
@[simp] theorem evI_pow (i j : Int) : evI S .pow i j = if 0 ≤ j ∧ j ≤ 1000000 ∧ i.natAbs < 2 ^ 64 then .ok (.int (i ^ j.toNat)) S else .bad := rfl
@[simp] theorem evI_shl (i j : Int) : evI S .shl i j = if 0 ≤ j ∧ j ≤ 1000000 ∧ i.natAbs < 2 ^ 64 then .ok (.int (i * 2 ^ j.toNat)) S else .bad := rfl
@[simp] theorem evI_shr (i j : Int) : evI S .shr i j = if 0 ≤ j then .ok (.int (i / 2 ^ j.toNat)) S else .bad := rfl
@[simp] theorem evI_band (i j : Int) : evI S .band i j = .ok (.int (Builtin.bitAnd i j)) S := rfl
@[simp] theorem evI_bor (i j : Int) : evI S .bor i j = .ok (.int (Builtin.bitOr i j)) S := rfl
@[simp] theorem evCmp_lt (i j : Int) : evCmp S .lt (.int i) (.int j) = .ok (.bl (decide (i < j))) S := rfl
@[simp] theorem evCmp_le (i j : Int) : evCmp S .le (.int i) (.int j) = .ok (.bl (decide (i ≤ j))) S := rfl
@[simp] theorem evCmp_gt (i j : Int) : evCmp S .gt (.int i) (.int j) = .ok (.bl (decide (j < i))) S := rfl
@[simp] theorem evCmp_ge (i j : Int) : evCmp S .ge (.int i) (.int j) = .ok (.bl (decide (j ≤ i))) S := rfl
@[simp] theorem evCmp_eqI (i j : Int) : evCmp S .eq (.int i) (.int j) = .ok (.bl (i == j)) S := rfl
@[simp] theorem evCmp_neI (i j : Int) : evCmp S .ne (.int i) (.int j) = .ok (.bl (!(i == j))) S := rfl
@[simp] theorem evCmp_eqS (i j : Str) : evCmp S .eq (.str i) (.str j) = .ok (.bl (i == j)) S := rfl
@[simp] theorem evCmp_neS (i j : Str) : evCmp S .ne (.str i) (.str j) = .ok (.bl (!(i == j))) S := rfl
@[simp] theorem evCmp_eqB (i j : Bool) : evCmp S .eq (.bl i) (.bl j) = .ok (.bl (i == j)) S := rfl
@[simp] theorem evCmp_neB (i j : Bool) : evCmp S .ne (.bl i) (.bl j) = .ok (.bl (!(i == j))) S := rfl
theorem evCmp_eq (x y : D) : evCmp S .eq x y = if flat x && flat y then .ok (.bl (flatEq x y)) S else optR (eqD S x y) fun b => .ok (.bl b) S := rfl
theorem evCmp_ne (x y : D) : evCmp S .ne x y = if flat x && flat y then .ok (.bl (!flatEq x y)) S else optR (eqD S x y) fun b => .ok (.bl (!b)) S := rfl
@[simp] theorem evCmp_isin (x y : D) : evCmp S .isin x y = optR (inD S x y) fun b => .ok (.bl b) S := rfl
@[simp] theorem evCmp_notin (x y : D) : evCmp S .notin x y = optR (inD S x y) fun b => .ok (.bl (!b)) S := rfl
@[simp] theorem evSub_lst (xs : List D) (i : Int) : evSub S (.lst xs) (.int i) = optR (atI xs i) fun v => .ok v S := rfl
@[simp] theorem evSub_tup (xs : List D) (i : Int) : evSub S (.tup xs) (.int i) = optR (atI xs i) fun v => .ok v S := rfl
@[simp] theorem evSub_ntup (xs : List D) (i : Int) : evSub S (.ntup xs) (.int i) = optR (atI xs i) fun v => .ok v S := rfl
@[simp] theorem evSub_kt (xs : List D) (i : Int) : evSub S (.kt xs) (.int i) = optR (atI xs i) fun v => .ok v S := rfl
@[simp] theorem evSub_ref (r : Nat) (i : Int) : evSub S (.ref r) (.int i) = optR (seqOf S (.ref r)) fun xs => optR (atI xs i) fun v => .ok v S := rfl
@[simp] theorem evSub_dK (ks : List Key) (vs : List D) (k : D) : evSub S (.dK ks vs) k = optR (keyOf k) fun k => optR (lookK k ks vs) fun v => .ok v S := rfl
@[simp] theorem evSub_dT (ks : List (List Key)) (vs : List D) (k : List D) : evSub S (.dT ks vs) (.tup k) = optR (keysOf k) fun k => optR (lookK k ks vs) fun v => .ok v S := rfl
@[simp] theorem evSub_kd (ks : List Key) (vs : List D) (k : Str) : evSub S (.kd ks vs) (.str k) = optR (lookK (Sum.inr k) ks vs) fun v => .ok v S := rfl
@[simp] theorem seqOf_lst (xs : List D) : seqOf S (.lst xs) = some xs := rfl
@[simp] theorem seqOf_tup (xs : List D) : seqOf S (.tup xs) = some xs := rfl
@[simp] theorem seqOf_ntup (xs : List D) : seqOf S (.ntup xs) = some xs := rfl
@[simp] theorem seqOf_kt (xs : List D) : seqOf S (.kt xs) = some xs := rfl
@[simp] theorem lstOf_lst (xs : List D) : lstOf S (.lst xs) = some xs := rfl
@[simp] theorem walkOf_lst (xs : List D) : walkOf (.lst xs) = some xs := rfl
@[simp] theorem walkOf_tup (xs : List D) : walkOf (.tup xs) = some xs := rfl
@[simp] theorem walkOf_ntup (xs : List D) : walkOf (.ntup xs) = some xs := rfl
@[simp] theorem walkOf_kt (xs : List D) : walkOf (.kt xs) = some xs := rfl
@[simp] theorem keyOf_int (i : Int) : keyOf (.int i) = some (.inl i) := rfl
@[simp] theorem keyOf_str (i : Str) : keyOf (.str i) = some (.inr i) := rfl
@[simp] theorem evBI_len_lst (xs : List D) : evBI S .len [.lst xs] = .ok (.int xs.length) S := rfl
@[simp] theorem evBI_len_tup (xs : List D) : evBI S .len [.tup xs] = .ok (.int xs.length) S := rfl
@[simp] theorem evBI_len_ntup (xs : List D) : evBI S .len [.ntup xs] = .ok (.int xs.length) S := rfl
@[simp] theorem evBI_len_kt (xs : List D) : evBI S .len [.kt xs] = .ok (.int xs.length) S := rfl
@[simp] theorem evBI_len_ref (r : Nat) : evBI S .len [.ref r] = optR (seqOf S (.ref r)) fun ys => .ok (.int ys.length) S := rfl
@[simp] theorem evBI_len_str (z : Str) : evBI S .len [.str z] = if z.length ≤ sizeLine then .ok (.int z.length) S else .bad := rfl
@[simp] theorem evBI_abs (i : Int) : evBI S .abs [.int i] = .ok (.int (if i < 0 then -i else i)) S := rfl
@[simp] theorem evBI_list (x : D) : evBI S .list [x] = optR (seqOf S x) fun ys => .ok (.lst ys) S := rfl
@[simp] theorem evBI_tuple_lst (xs : List D) : evBI S .tuple [.lst xs] = .ok (.ntup xs) S := rfl
@[simp] theorem evBI_all (x : D) : evBI S .all [x] = optR (lstOf S x) fun ys => optR (boolsD ys) fun bs => .ok (.bl (bs.all id)) S := rfl
@[simp] theorem evBI_any (x : D) : evBI S .any [x] = optR (lstOf S x) fun ys => optR (boolsD ys) fun bs => .ok (.bl (bs.any id)) S := rfl
@[simp] theorem evBI_sorted (x : D) : evBI S .sorted [x] = optR (lstOf S x) fun ys => optR (intsD ys) fun is => if is.length < 64 then .ok (.lst ((sortI is).map .int)) S else .bad := rfl
@[simp] theorem evBI_isinst (x : D) (n : Bt) : evBI S .isinst [x, .ty n] = optR (btOf S x) fun b => .ok (.bl (b.sub n)) S := rfl
@[simp] theorem evBI_int_bl (k : Bool) : evBI S .int [.bl k] = .ok (.int (if k = true then 1 else 0)) S := by cases k <;> rfl
@[simp] theorem btOf_int (i : Int) : btOf S (.int i) = some .int := rfl
@[simp] theorem btOf_str (i : Str) : btOf S (.str i) = some .str := rfl
@[simp] theorem btOf_bl (i : Bool) : btOf S (.bl i) = some .bool := rfl
@[simp] theorem btOf_non : btOf S .non = some .non := rfl
@[simp] theorem btOf_lst (i : List D) : btOf S (.lst i) = some .list := rfl
@[simp] theorem btOf_tup (i : List D) : btOf S (.tup i) = some .tuple := rfl
@[simp] theorem btOf_ntup (i : List D) : btOf S (.ntup i) = some .tuple := rfl
@[simp] theorem btOf_kt (i : List D) : btOf S (.kt i) = some .tuple := rfl
end
@[simp] theorem sizeLine_eq : sizeLine = 16777216 := rfl
/-! ### calls -/
def outF (r : RS) : R D := match r with
  | .rt d S' => .ok d S'
  | .nx _ S' => .ok .non S'
  | .er x _ S' => .er x S'
  | _ => .bad
@[simp] theorem outF_rt (d : D) (S : Store) : outF (.rt d S) = .ok d S := rfl
@[simp] theorem outF_nx (e : Env) (S : Store) : outF (.nx e S) = .ok .non S := rfl
@[simp] theorem outF_er (x : Exc) (e : Env) (S : Store) : outF (.er x e S) = .er x S := rfl
@[simp] theorem outF_ite (c : Prop) [Decidable c] (a b : RS) : outF (if c then a else b) = if c then outF a else outF b := by split <;> rfl
def outI (S : Store) (r : RS) : R D := match r with
  | .rt d _ => if below S.top d then .ok d S else .bad
  | .nx _ _ => .ok .non S
  | .er x _ _ => if belowAll S.top x.fs then .er x S else .bad
  | _ => .bad
@[simp] theorem outI_rt (S : Store) (d : D) (S' : Store) : outI S (.rt d S') = if below S.top d = true then .ok d S else .bad := rfl
@[simp] theorem outI_nx (S : Store) (e : Env) (S' : Store) : outI S (.nx e S') = .ok .non S := rfl
@[simp] theorem outI_er (S : Store) (x : Exc) (e : Env) (S' : Store) : outI S (.er x e S') = if belowAll S.top x.fs = true then .er x S else .bad := rfl
@[simp] theorem outI_ite (S : Store) (c : Prop) [Decidable c] (a b : RS) : outI S (if c then a else b) = if c then outI S a else outI S b := by split <;> rfl
@[simp] theorem below_int (n : Nat) (i : Int) : below n (.int i) = true := rfl
@[simp] theorem below_str (n : Nat) (i : Str) : below n (.str i) = true := rfl
@[simp] theorem below_bl (n : Nat) (i : Bool) : below n (.bl i) = true := rfl
@[simp] theorem below_non (n : Nat) : below n .non = true := rfl
@[simp] theorem below_fn (n : Nat) (i : Nat) : below n (.fn i) = true := rfl
@[simp] theorem below_set (n : Nat) (i : List Int) : below n (.set i) = true := rfl
@[simp] theorem below_lst (n : Nat) (xs : List D) : below n (.lst xs) = belowAll n xs := by rw [below]
@[simp] theorem below_tup (n : Nat) (xs : List D) : below n (.tup xs) = belowAll n xs := by rw [below]
@[simp] theorem below_ntup (n : Nat) (xs : List D) : below n (.ntup xs) = belowAll n xs := by rw [below]
@[simp] theorem below_kt (n : Nat) (xs : List D) : below n (.kt xs) = belowAll n xs := by rw [below]
@[simp] theorem below_dK (n : Nat) (ks : List Key) (xs : List D) : below n (.dK ks xs) = belowAll n xs := by rw [below]
@[simp] theorem below_dT (n : Nat) (ks : List (List Key)) (xs : List D) : below n (.dT ks xs) = belowAll n xs := by rw [below]
@[simp] theorem belowAll_nil (n : Nat) : belowAll n [] = true := by rw [belowAll]
@[simp] theorem belowAll_cons (n : Nat) (x : D) (xs : List D) : belowAll n (x :: xs) = (below n x && belowAll n xs) := by rw [belowAll]
theorem belowAll_of (n : Nat) : ∀ (xs : List D), (∀ x ∈ xs, below n x = true) → belowAll n xs = true
  | [], _ => belowAll_nil n
  | x :: xs, h => by rw [belowAll_cons, h x (by simp), belowAll_of n xs fun y hy => h y (by simp [hy])]; rfl
@[simp] theorem belowAll_ints (n : Nat) (is : List Int) : belowAll n (is.map .int) = true := belowAll_of n _ fun x hx => by
  obtain ⟨i, _, rfl⟩ := List.mem_map.mp hx; simp
@[simp] theorem belowAll_strs (n : Nat) (is : List Str) : belowAll n (is.map .str) = true := belowAll_of n _ fun x hx => by
  obtain ⟨i, _, rfl⟩ := List.mem_map.mp hx; simp
section
variable {P : Prog}
theorem run_at {i k : Nat} {F : FnDef} (h : P.fns[i]? = some F) (args : List D) (S : Store) (hl : args.length = F.np) (hi : F.iso = false) : run P (k + 1) i args S = outF (evSs P (run P k) F.body (args.map some ++ List.replicate (F.ns - F.np) none) S) := by
  unfold run
  rw [h]
  dsimp only
  rw [if_pos hl, hi]
  rfl
theorem run_iso {i k : Nat} {F : FnDef} (h : P.fns[i]? = some F) (args : List D) (S : Store) (hl : args.length = F.np) (hi : F.iso = true) : run P (k + 1) i args S = outI S (evSs P (run P k) F.body (args.map some ++ List.replicate (F.ns - F.np) none) ⟨S.top, []⟩) := by
  unfold run
  rw [h]
  dsimp only
  rw [if_pos hl, hi]
  rfl
end
/-! ### places -/
theorem atI_nat (xs : List D) (i : Nat) : atI xs (i : Int) = xs[i]? := by
  unfold atI ixN
  rw [if_pos (Int.natCast_nonneg i)]
  by_cases h : i < xs.length
  · rw [if_pos (by exact_mod_cast h)]; rfl
  · rw [if_neg (by intro z; exact h (by exact_mod_cast z)), List.getElem?_eq_none (by omega)]; rfl
@[simp] theorem atI_0 (xs : List D) : atI xs 0 = xs[0]? := atI_nat xs 0
@[simp] theorem atI_1 (xs : List D) : atI xs 1 = xs[1]? := atI_nat xs 1
@[simp] theorem atI_2 (xs : List D) : atI xs 2 = xs[2]? := atI_nat xs 2
@[simp] theorem atI_3 (xs : List D) : atI xs 3 = xs[3]? := atI_nat xs 3
@[simp] theorem atI_4 (xs : List D) : atI xs 4 = xs[4]? := atI_nat xs 4
@[simp] theorem atI_5 (xs : List D) : atI xs 5 = xs[5]? := atI_nat xs 5
@[simp] theorem atI_6 (xs : List D) : atI xs 6 = xs[6]? := atI_nat xs 6
@[simp] theorem atI_7 (xs : List D) : atI xs 7 = xs[7]? := atI_nat xs 7
@[simp] theorem atI_8 (xs : List D) : atI xs 8 = xs[8]? := atI_nat xs 8
@[simp] theorem atI_9 (xs : List D) : atI xs 9 = xs[9]? := atI_nat xs 9
@[simp] theorem atI_10 (xs : List D) : atI xs 10 = xs[10]? := atI_nat xs 10
@[simp] theorem atI_11 (xs : List D) : atI xs 11 = xs[11]? := atI_nat xs 11
@[simp] theorem atI_12 (xs : List D) : atI xs 12 = xs[12]? := atI_nat xs 12
@[simp] theorem atI_13 (xs : List D) : atI xs 13 = xs[13]? := atI_nat xs 13
@[simp] theorem atI_14 (xs : List D) : atI xs 14 = xs[14]? := atI_nat xs 14
@[simp] theorem atI_15 (xs : List D) : atI xs 15 = xs[15]? := atI_nat xs 15
@[simp] theorem atI_neg1 (xs : List D) : atI xs (-1) = xs[xs.length - 1]? := by
  unfold atI ixN
  rw [if_neg (by decide)]
  by_cases h : xs.length = 0
  · rw [List.length_eq_zero_iff.mp h]; rfl
  · rw [if_pos (by omega)]
    show xs[(-1 + (xs.length : Int)).toNat]? = _
    congr 1; omega
theorem atI_of {xs : List D} {i : Int} (h : 0 ≤ i) : atI xs i = xs[i.toNat]? := by
  have := atI_nat xs i.toNat
  rwa [Int.toNat_of_nonneg h] at this
end HI
set_option Elab.async false
set_option linter.all false
set_option maxRecDepth 100000
set_option maxHeartbeats 4000000
/-! HiDraw: the law's draws. -/
namespace HI
open PySem L2

def drawF : FnDef := { np := 2, ns := 6, iso := false, body :=
  (.cons (.ife (.op (.cmp .gt) (.cons (.op .sub (.cons (.var 0) (.cons (.int 2) .nil))) (.cons (.int 0) .nil))) (.cons (.asg (.name 5) (.op (.bin .mod) (.cons (.op .sub (.cons (.var 0) (.cons (.int 2) .nil))) (.cons (.var 1) .nil)))) (.cons (.seti (.var 0) (.int 2) (.op (.bin .fdivW) (.cons (.op .sub (.cons (.var 0) (.cons (.int 2) .nil))) (.cons (.var 1) .nil)))) (.cons (.ret (.var 5)) .nil))) .nil) (.cons (.asg (.name 2) (.int 0)) (.cons (.ife (.op (.cmp .lt) (.cons (.op .sub (.cons (.var 0) (.cons (.int 1) .nil))) (.cons (.op (.bi .len) (.cons (.op .sub (.cons (.var 0) (.cons (.int 0) .nil))) .nil)) .nil))) (.cons (.asg (.name 2) (.op .sub (.cons (.op .sub (.cons (.var 0) (.cons (.int 0) .nil))) (.cons (.op .sub (.cons (.var 0) (.cons (.int 1) .nil))) .nil)))) .nil) .nil) (.cons (.seti (.var 0) (.int 1) (.op (.bin .add) (.cons (.op .sub (.cons (.var 0) (.cons (.int 1) .nil))) (.cons (.int 1) .nil)))) (.cons (.ife (.op (.cmp .ge) (.cons (.op (.bi .abs) (.cons (.var 2) .nil)) (.cons (.op (.bin .pow) (.cons (.int 10) (.cons (.int 18) .nil))) .nil))) (.cons (.asg (.name 5) (.op (.bin .mod) (.cons (.op (.bi .abs) (.cons (.var 2) .nil)) (.cons (.var 1) .nil)))) (.cons (.seti (.var 0) (.int 2) (.op (.bin .fdivW) (.cons (.op (.bi .abs) (.cons (.var 2) .nil)) (.cons (.var 1) .nil)))) (.cons (.ret (.var 5)) .nil))) .nil) (.cons (.asg (.name 3) (.op (.bin .add) (.cons (.op (.bin .add) (.cons (.op (.bin .mul) (.cons (.op .sub (.cons (.var 0) (.cons (.int 3) .nil))) (.cons (.int 6364136223846793005) .nil))) (.cons (.op (.bin .mul) (.cons (.var 2) (.cons (.int 48271) .nil))) .nil))) (.cons (.int 1442695) .nil)))) (.cons (.asg (.name 3) (.op (.bin .mod) (.cons (.op (.bin .add) (.cons (.var 3) (.cons (.op (.bin .mul) (.cons (.op .sub (.cons (.var 0) (.cons (.int 1) .nil))) (.cons (.int 7919) .nil))) .nil))) (.cons (.int 2305843009213693951) .nil)))) (.cons (.seti (.var 0) (.int 3) (.var 3)) (.cons (.asg (.name 4) (.op (.bin .add) (.cons (.op (.bin .mul) (.cons (.var 3) (.cons (.int 69069) .nil))) (.cons (.op (.bin .mul) (.cons (.op (.bin .fdiv) (.cons (.var 3) (.cons (.int 65536) .nil))) (.cons (.int 40503) .nil))) .nil)))) (.cons (.ife (.op (.cmp .gt) (.cons (.var 1) (.cons (.op (.bin .pow) (.cons (.int 10) (.cons (.int 6) .nil))) .nil))) (.cons (.ret (.op (.bin .mod) (.cons (.op (.bin .mul) (.cons (.var 4) (.cons (.var 3) .nil))) (.cons (.var 1) .nil)))) .nil) .nil) (.cons (.ret (.op (.bin .mod) (.cons (.op (.bin .fdiv) (.cons (.op (.bin .mod) (.cons (.var 4) (.cons (.int 2147483647) .nil))) (.cons (.int 64) .nil))) (.cons (.var 1) .nil)))) .nil))))))))))) }
def flowF : FnDef := { np := 1, ns := 1, iso := false, body :=
  (.cons (.ret (.op .lstM (.cons (.op (.bi .list) (.cons (.op (.slc false true) (.cons (.var 0) (.cons (.int 63) .nil))) .nil)) (.cons (.int 0) (.cons (.int 0) (.cons (.int 11) .nil)))))) .nil) }
structure Flow where
  is : List Int
  n : Int
  k : Int
  h : Int
def Flow.cell (f : Flow) : Cell := .lst [.lst (f.is.map .int), .int f.n, .int f.k, .int f.h]
structure Flow.Ok (f : Flow) : Prop where
  n0 : 0 ≤ f.n
  k0 : 0 ≤ f.k
  h0 : 0 ≤ f.h
  h1 : f.h < 2305843009213693951
def St1 (f : Flow) (cs : List Cell) : Store := ⟨0, f.cell :: cs⟩
def iabs (i : Int) : Int := if i < 0 then -i else i
/-- what is drawn, and the flow behind it -/
def Flow.cellAt (f : Flow) : Int := if f.n < f.is.length then f.is.getD f.n.toNat 0 else 0
def Flow.here (f : Flow) : Int := (f.h * 6364136223846793005 + f.cellAt * 48271 + 1442695 + (f.n + 1) * 7919) % 2305843009213693951
def Flow.mixed (f : Flow) : Int := f.here * 69069 + f.here / 65536 * 40503
def Flow.draw (f : Flow) (s : Int) : Int × Flow :=
  if 0 < f.k then (f.k % s, { f with k := f.k / s })
  else if 10 ^ 18 ≤ iabs f.cellAt then (iabs f.cellAt % s, { f with n := f.n + 1, k := iabs f.cellAt / s })
  else (if 10 ^ 6 < s then f.mixed * f.here % s else f.mixed % 2147483647 / 64 % s, { f with n := f.n + 1, h := f.here })

theorem seqOf_st (xs : List D) (cs : List Cell) : seqOf ⟨0, .lst xs :: cs⟩ (.ref 0) = some xs := rfl
theorem setI_1 (a b c d v : D) (cs : List Cell) : setItem ⟨0, .lst [a, b, c, d] :: cs⟩ (.ref 0) (.int 1) v = some ⟨0, .lst [a, v, c, d] :: cs⟩ := rfl
theorem setI_2 (a b c d v : D) (cs : List Cell) : setItem ⟨0, .lst [a, b, c, d] :: cs⟩ (.ref 0) (.int 2) v = some ⟨0, .lst [a, b, v, d] :: cs⟩ := rfl
theorem setI_3 (a b c d v : D) (cs : List Cell) : setItem ⟨0, .lst [a, b, c, d] :: cs⟩ (.ref 0) (.int 3) v = some ⟨0, .lst [a, b, c, v] :: cs⟩ := rfl
theorem getD_ints (is : List Int) (n : Nat) (h : n < is.length) : (is.map D.int)[n]? = some (.int (is.getD n 0)) := by
  rw [List.getElem?_map, List.getElem?_eq_getElem h]; simp [List.getD, h]
theorem Flow.Ok.draw {f : Flow} (hf : f.Ok) {s : Int} (h0 : 0 < s) : (f.draw s).2.Ok ∧ 0 ≤ (f.draw s).1 ∧ (f.draw s).1 < s := by
  obtain ⟨a, b, c, d⟩ := hf
  unfold Flow.draw
  split
  · exact ⟨⟨a, Int.ediv_nonneg b (by omega), c, d⟩, Int.emod_nonneg _ (by omega), Int.emod_lt_of_pos _ h0⟩
  · split
    · have : 0 ≤ iabs f.cellAt := by unfold iabs; split <;> omega
      exact ⟨⟨by show 0 ≤ f.n + 1; omega, Int.ediv_nonneg this (by omega), c, d⟩, Int.emod_nonneg _ (by omega), Int.emod_lt_of_pos _ h0⟩
    · refine ⟨⟨by show 0 ≤ f.n + 1; omega, b, Int.emod_nonneg _ (by decide), Int.emod_lt_of_pos _ (by decide)⟩, ?_, ?_⟩
      · dsimp only; split <;> exact Int.emod_nonneg _ (by omega)
      · dsimp only; split <;> exact Int.emod_lt_of_pos _ h0
theorem evSlc_scr (S : Store) (is : List Int) (lo hi : Option Int) : evSlc S (.scr is) lo hi = .ok (.lst (cutD (is.map .int) lo hi)) S := rfl
section
variable {P : Prog}
theorem draw_run {i k : Nat} (hi : P.fns[i]? = some drawF) {f : Flow} (hf : f.Ok) {s : Int} (h0 : 0 < s) (h1 : s.natAbs.log2 < 9000) (cs : List Cell) :
    run P (k + 1) i [.ref 0, .int s] (St1 f cs) = .ok (.int (f.draw s).1) (St1 (f.draw s).2 cs) := by
  rw [run_at hi _ _ rfl rfl]
  unfold Flow.draw
  by_cases hk : 0 < f.k
  · simp [drawF, St1, Flow.cell, seqOf_st, setI_2, hk, h0, h1]
  · rw [if_neg hk]
    have hh : f.here < 2305843009213693951 := Int.emod_lt_of_pos _ (by decide)
    have hh0 : 0 ≤ f.here := Int.emod_nonneg _ (by decide)
    have he : (f.h * 6364136223846793005 + f.cellAt * 48271 + 1442695 + (f.n + 1) * 7919) % 2305843009213693951 = f.here := rfl
    have hm : f.here * 69069 + f.here / 65536 * 40503 = f.mixed := rfl
    have m1 : f.here / 65536 < 18446744073709551616 := by omega
    have m2 : -(18446744073709551616) < f.here / 65536 := by omega
    have m3 : f.here < 18446744073709551616 := by omega
    have m4 : -(18446744073709551616) < f.here := by omega
    have m5 : f.h < 18446744073709551616 := by have := hf.h1; omega
    have m6 : -(18446744073709551616) < f.h := by have := hf.h0; omega
    have h10 : ((10 : Int) ^ 18) = 1000000000000000000 := by decide
    rw [h10]
    by_cases hn : f.n < f.is.length
    · have hc : f.is.getD f.n.toNat 0 = f.cellAt := by unfold Flow.cellAt; rw [if_pos hn]
      have hcell : L2.atI (f.is.map D.int) f.n = some (.int f.cellAt) := by
        rw [atI_of hf.n0, getD_ints _ _ (by have := hf.n0; omega), hc]
      generalize f.cellAt = c at *
      by_cases hb : 1000000000000000000 ≤ iabs c
      · rw [if_pos hb]
        simp [drawF, St1, Flow.cell, seqOf_st, setI_1, setI_2, hk, hn, h0, h1, hcell, ← iabs.eq_1, hb]
      · rw [if_neg hb]
        simp [drawF, St1, Flow.cell, seqOf_st, setI_1, setI_2, setI_3, hk, hn, h0, h1, hcell, ← iabs.eq_1, hb, he, hm, m1, m2, m3, m4, m5, m6]
        split <;> rfl
    · have hc : f.cellAt = 0 := by unfold Flow.cellAt; rw [if_neg hn]
      rw [hc] at he ⊢
      rw [if_neg (by decide)]
      have he : (f.h * 6364136223846793005 + 1442695 + (f.n + 1) * 7919) % 2305843009213693951 = f.here := by rw [← he]; congr 1; omega
      simp [drawF, St1, Flow.cell, seqOf_st, setI_1, setI_2, setI_3, hk, hn, h0, h1, he, hm, m1, m2, m3, m4, m5, m6]
      split <;> rfl
theorem flow_run {i k : Nat} (hi : P.fns[i]? = some flowF) (is : List Int) (hl : is.length ≤ 63) :
    run P (k + 1) i [.scr is] ⟨0, []⟩ = .ok (.ref 0) (St1 ⟨is, 0, 0, 11⟩ []) := by
  rw [run_at hi _ _ rfl rfl]
  have h : cutD (is.map D.int) none (some 63) = is.map D.int := by
    unfold cutD
    rw [List.length_map, HT.sIx_none]
    have e : HT.sIx is.length is.length (some 63) = is.length := by
      rw [show (63 : Int) = ((63 : Nat) : Int) from rfl, HT.sIx_nat]; omega
    rw [e, List.drop_zero, Nat.sub_zero, List.take_of_length_le (by simp)]
  simp [flowF, St1, Flow.cell, evSlc_scr, h, Store.top, Store.new]
theorem flow0_ok (is : List Int) : Flow.Ok ⟨is, 0, 0, 11⟩ := ⟨Int.le_refl 0, Int.le_refl 0, by show (0 : Int) ≤ 11; decide, by show (11 : Int) < _; decide⟩
end
end HI
set_option Elab.async false
set_option linter.all false
set_option maxRecDepth 100000
set_option maxHeartbeats 4000000
/-! HiSame: the law's own comparing. -/
namespace HI
open PySem L2

/-! ### comprehensions that raise nothing -/
theorem walkC_map {f : D → Store → R (Option D)} {g : D → D} {S : Store} : ∀ (xs acc : List D), (∀ x ∈ xs, f x S = .ok (some (g x)) S) → acc.length + xs.length ≤ sizeLine → walkC f xs acc S = .ok (acc ++ xs.map g) S
  | [], acc, _, _ => by rw [List.map_nil, List.append_nil]; rfl
  | x :: xs, acc, h, hl => by
    have hl' : acc.length + (xs.length + 1) ≤ sizeLine := hl
    show (f x S).bind _ = _
    rw [h x (by simp)]
    show (if acc.length < sizeLine then walkC f xs (acc ++ [g x]) S else .bad) = _
    rw [if_pos (by omega), walkC_map xs (acc ++ [g x]) (fun y hy => h y (by simp [hy])) (by simp only [List.length_append, List.length_singleton]; omega)]
    rw [List.append_assoc]; rfl
theorem walkC_fm {f : D → Store → R (Option D)} {g : D → Option D} {S : Store} : ∀ (xs acc : List D), (∀ x ∈ xs, f x S = .ok (g x) S) → acc.length + xs.length ≤ sizeLine → walkC f xs acc S = .ok (acc ++ xs.filterMap g) S
  | [], acc, _, _ => by rw [List.filterMap_nil, List.append_nil]; rfl
  | x :: xs, acc, h, hl => by
    have hl' : acc.length + (xs.length + 1) ≤ sizeLine := hl
    show (f x S).bind _ = _
    rw [h x (by simp)]
    cases q : g x with
    | none =>
      show walkC f xs acc S = _
      rw [walkC_fm xs acc (fun y hy => h y (by simp [hy])) (by omega), List.filterMap_cons_none q]
    | some y =>
      show (if acc.length < sizeLine then walkC f xs (acc ++ [y]) S else .bad) = _
      rw [if_pos (by omega), walkC_fm xs (acc ++ [y]) (fun y hy => h y (by simp [hy])) (by simp only [List.length_append, List.length_singleton]; omega)]
      rw [List.append_assoc, List.filterMap_cons_some q]; rfl
theorem walkC_st {f : D → Store → R (Option D)} (I : Store → Prop) (Q : D → Prop) : ∀ (xs acc : List D) (S : Store), (∀ x ∈ xs, ∀ S, I S → ∃ y S', f x S = .ok (some y) S' ∧ I S' ∧ Q y) → I S → acc.length + xs.length ≤ sizeLine → ∃ ys S', walkC f xs acc S = .ok (acc ++ ys) S' ∧ I S' ∧ ys.length = xs.length ∧ ∀ y ∈ ys, Q y
  | [], acc, S, _, i, _ => ⟨[], S, by rw [List.append_nil]; rfl, i, rfl, fun _ h => by simp at h⟩
  | x :: xs, acc, S, h, i, hl => by
    have hl' : acc.length + (xs.length + 1) ≤ sizeLine := hl
    obtain ⟨y, S1, e, i1, q⟩ := h x (by simp) S i
    obtain ⟨ys, S2, e2, i2, l2, q2⟩ := walkC_st I Q xs (acc ++ [y]) S1 (fun z hz => h z (by simp [hz])) i1 (by simp only [List.length_append, List.length_singleton]; omega)
    refine ⟨y :: ys, S2, ?_, i2, by simp [l2], fun z hz => ?_⟩
    · show (f x S).bind _ = _
      rw [e]
      show (if acc.length < sizeLine then walkC f xs (acc ++ [y]) S1 else .bad) = _
      rw [if_pos (by omega), e2, List.append_assoc]; rfl
    · rcases List.mem_cons.mp hz with rfl | hz
      · exact q
      · exact q2 z hz
theorem fm_filter {g : D → Option D} {p : Nat → Bool} : ∀ (l : List Nat), (∀ j ∈ l, g (.int j) = if p j = true then some (.int j) else none) → (l.map fun j : Nat => D.int j).filterMap g = (l.filter p).map fun j : Nat => D.int j
  | [], _ => rfl
  | j :: l, h => by
    rw [List.map_cons, List.filterMap_cons, h j (by simp), List.filter_cons, fm_filter l fun i hi => h i (by simp [hi])]
    cases p j <;> rfl
/-- a loop that keeps something -/
theorem forGo_inv {f : D → Env → Store → RS} (I : Env → Store → Prop) : ∀ (xs : List D) (e : Env) (S : Store), (∀ x ∈ xs, ∀ e S, I e S → ∃ e' S', f x e S = .nx e' S' ∧ I e' S') → I e S → ∃ e' S', forGo f xs e S = .nx e' S' ∧ I e' S'
  | [], e, S, _, i => ⟨e, S, rfl, i⟩
  | x :: xs, e, S, h, i => by
    obtain ⟨e1, S1, q, i1⟩ := h x (by simp) e S i
    obtain ⟨e2, S2, q2, i2⟩ := forGo_inv I xs e1 S1 (fun y hy => h y (by simp [hy])) i1
    exact ⟨e2, S2, by rw [forGo_cons, q, forN_nx, q2], i2⟩
theorem boolsD_map (bs : List Bool) : boolsD (bs.map .bl) = some bs := by
  induction bs with
  | nil => rfl
  | cons b bs ih => show (boolsD (bs.map .bl)).map (b :: ·) = _; rw [ih]; rfl
theorem boolsD_rep (n : Nat) (b : Bool) : boolsD (List.replicate n (.bl b)) = some (List.replicate n b) := by
  rw [← boolsD_map, List.map_replicate]
theorem rangeD_zero (n : Nat) : rangeD 0 n = (List.range n).map fun k => .int (k : Nat) := by
  unfold rangeD
  congr 1; funext k
  rw [Int.zero_add]

/-! ### lists and tuples -/
structure SqV (S : Store) (x : D) (b : Bt) (xs : List D) : Prop where
  nx : notXc x = true
  bt : btOf S x = some b
  ln : evBI S .len [x] = .ok (.int xs.length) S
  sb : ∀ i : Int, evSub S x (.int i) = optR (atI xs i) fun v => .ok v S
section
variable (S : Store) (xs : List D)
theorem SqV.lst : SqV S (.lst xs) .list xs := ⟨rfl, rfl, rfl, fun _ => rfl⟩
theorem SqV.tup : SqV S (.tup xs) .tuple xs := ⟨rfl, rfl, rfl, fun _ => rfl⟩
theorem SqV.ntup : SqV S (.ntup xs) .tuple xs := ⟨rfl, rfl, rfl, fun _ => rfl⟩
theorem SqV.kt : SqV S (.kt xs) .tuple xs := ⟨rfl, rfl, rfl, fun _ => rfl⟩
theorem SqV.ref {r : Nat} (h : S.get r = some (.lst xs)) : SqV S (.ref r) .list xs := by
  refine ⟨rfl, ?_, ?_, fun i => ?_⟩
  · show (match S.get r with
      | some (.lst _) => some Bt.list
      | some (.dK _ _) => some .dict
      | some (.dT _ _) => some .dict
      | _ => none) = _
    rw [h]
  · show optR (match S.get r with
      | some (.lst xs) => some xs
      | _ => none) _ = _
    rw [h]; rfl
  · show optR (match S.get r with
      | some (.lst xs) => some xs
      | _ => none) _ = _
    rw [h]; rfl
end
mutual
/-- alike to the law, within n turns -/
inductive Sim (S : Store) : Nat → D → D → Prop
  | int (n : Nat) (i : Int) : Sim S n (.int i) (.int i)
  | str (n : Nat) (i : Str) : Sim S n (.str i) (.str i)
  | bl (n : Nat) (i : Bool) : Sim S n (.bl i) (.bl i)
  | non (n : Nat) : Sim S n .non .non
  | seq (n : Nat) (x y : D) (b : Bt) (xs ys : List D) : b = .list ∨ b = .tuple → SqV S x b xs → SqV S y b ys → xs.length ≤ 1000 → Sims S n xs ys → Sim S (n + 1) x y
inductive Sims (S : Store) : Nat → List D → List D → Prop
  | nil (n : Nat) : Sims S n [] []
  | cons (n : Nat) (x y : D) (xs ys : List D) : Sim S n x y → Sims S n xs ys → Sims S n (x :: xs) (y :: ys)
end
theorem Sims.length {S : Store} {n : Nat} : ∀ {xs ys : List D}, Sims S n xs ys → xs.length = ys.length
  | _, _, .nil _ => rfl
  | _, _, .cons _ _ _ _ _ _ t => by simp [Sims.length t]
theorem Sims.get {S : Store} {n : Nat} : ∀ {xs ys : List D} {i : Nat}, Sims S n xs ys → i < xs.length → ∃ x y, xs[i]? = some x ∧ ys[i]? = some y ∧ Sim S n x y
  | _, _, _, .nil _, h => by simp at h
  | _, _, 0, .cons _ x y _ _ h t, hi => ⟨x, y, rfl, rfl, h⟩
  | _, _, i + 1, .cons _ x y _ _ h t, hi => by
    obtain ⟨u, v, a, b, c⟩ := Sims.get (i := i) t (by simpa using hi)
    exact ⟨u, v, by simpa using a, by simpa using b, c⟩
theorem Sims.strs {S : Store} (n : Nat) : ∀ (xs : List Str), Sims S n (xs.map .str) (xs.map .str)
  | [] => .nil n
  | x :: xs => .cons n _ _ _ _ (.str n x) (Sims.strs n xs)
theorem Sims.ints {S : Store} (n : Nat) : ∀ (xs : List Int), Sims S n (xs.map .int) (xs.map .int)
  | [] => .nil n
  | x :: xs => .cons n _ _ _ _ (.int n x) (Sims.ints n xs)
def sameElt (i : Nat) : E := (.call i (.cons (.op .sub (.cons (.var 0) (.cons (.var 2) .nil))) (.cons (.op .sub (.cons (.var 1) (.cons (.var 2) .nil))) .nil)))
def sameF (i : Nat) : FnDef := { np := 2, ns := 3, iso := false, body :=
  (.cons (.ife (.or (.op (.bi .isinst) (.cons (.var 1) (.cons (.gty .list) .nil))) (.op (.bi .isinst) (.cons (.var 1) (.cons (.gty .tuple) .nil)))) (.cons (.ife (.or (.op (.cmp .ne) (.cons (.op (.bi .isinst) (.cons (.var 0) (.cons (.gty .list) .nil))) (.cons (.op (.bi .isinst) (.cons (.var 1) (.cons (.gty .list) .nil))) .nil))) (.op (.cmp .ne) (.cons (.op (.bi .isinst) (.cons (.var 0) (.cons (.gty .tuple) .nil))) (.cons (.op (.bi .isinst) (.cons (.var 1) (.cons (.gty .tuple) .nil))) .nil)))) (.cons (.ret (.bl false)) .nil) .nil) (.cons (.ret (.and (.op (.cmp .eq) (.cons (.op (.bi .len) (.cons (.var 0) .nil)) (.cons (.op (.bi .len) (.cons (.var 1) .nil)) .nil))) (.op (.bi .all) (.cons (.lc [2] (.name 2) (.range1 (.op (.bi .len) (.cons (.var 1) .nil))) .nil (sameElt i)) .nil)))) .nil)) .nil) (.cons (.ife (.or (.op (.cmp .iss) (.cons (.var 1) (.cons .non .nil))) (.op (.cmp .iss) (.cons (.var 0) (.cons .non .nil)))) (.cons (.ret (.and (.op (.cmp .iss) (.cons (.var 0) (.cons .non .nil))) (.op (.cmp .iss) (.cons (.var 1) (.cons .non .nil))))) .nil) .nil) (.cons (.ife (.or (.op (.cmp .ne) (.cons (.op (.bi .isinst) (.cons (.var 0) (.cons (.gty .bool) .nil))) (.cons (.op (.bi .isinst) (.cons (.var 1) (.cons (.gty .bool) .nil))) .nil))) (.op (.cmp .ne) (.cons (.op (.bi .isinst) (.cons (.var 0) (.cons (.gty .int) .nil))) (.cons (.op (.bi .isinst) (.cons (.var 1) (.cons (.gty .int) .nil))) .nil)))) (.cons (.ret (.bl false)) .nil) .nil) (.cons (.ret (.and (.op (.cmp .eq) (.cons (.op (.bi .isinst) (.cons (.var 0) (.cons (.gty .str) .nil))) (.cons (.op (.bi .isinst) (.cons (.var 1) (.cons (.gty .str) .nil))) .nil))) (.op (.cmp .eq) (.cons (.var 0) (.cons (.var 1) .nil))))) .nil)))) }
section
variable {P : Prog}
theorem same_run {i : Nat} (hi : P.fns[i]? = some (sameF i)) {S : Store} : ∀ {n k : Nat} {x y : D}, Sim S n x y → n ≤ k → run P (k + 1) i [x, y] S = .ok (.bl true) S := by
  intro n
  induction n with
  | zero =>
    intro k x y h hk
    rw [run_at hi _ _ rfl rfl]
    cases h
    · simp [sameF, Bt.sub]
    · simp [sameF, Bt.sub]
    · simp [sameF, Bt.sub]
    · simp [sameF, Bt.sub]
  | succ n ih =>
    intro k x y h hk
    rw [run_at hi _ _ rfl rfl]
    cases h with
    | int => simp [sameF, Bt.sub]
    | str => simp [sameF, Bt.sub]
    | bl => simp [sameF, Bt.sub]
    | non => simp [sameF, Bt.sub]
    | seq _ _ _ b xs ys hb hx hy hl hs =>
      obtain ⟨k, rfl⟩ : ∃ j, k = j + 1 := ⟨k - 1, by omega⟩
      have hlen := hs.length
      have hsz : (ys.length : Int) < 4611686018427387904 := by omega
      have hw : walkC (lcB P (run P (k + 1)) (.name 2) .nil (sameElt i) [some x, some y, none]) (rangeD 0 ys.length) [] S = .ok (List.replicate ys.length (.bl true)) S := by
        rw [walkC_map (g := fun _ => .bl true) _ _ ?_ (by rw [rangeD_zero]; simp; omega)]
        · rw [rangeD_zero, List.map_map, List.nil_append]
          have : ∀ (l : List Nat), l.map ((fun _ => D.bl true) ∘ fun k : Nat => D.int (k : Int)) = List.replicate l.length (.bl true) := fun l => by
            induction l with
            | nil => rfl
            | cons _ _ ih => rw [List.map_cons, ih]; rfl
          rw [this, List.length_range]
        · intro z hz
          rw [rangeD_zero] at hz
          obtain ⟨j, hj, rfl⟩ := List.mem_map.mp hz
          obtain ⟨u, v, e1, e2, e3⟩ := hs.get (i := j) (by rw [hlen]; exact List.mem_range.mp hj)
          simp [sameElt, varE_d hx.nx, varE_d hy.nx, hx.sb, hy.sb, atI_nat, e1, e2, ih e3 (by omega : n ≤ k)]
      rcases hb with rfl | rfl
      · simp [sameF, Bt.sub, varE_d hx.nx, varE_d hy.nx, noXc_d hx.nx, noXc_d hy.nx, hx.bt, hy.bt, hx.ln, hy.ln, hlen, hsz, hw, boolsD_rep]
      · simp [sameF, Bt.sub, varE_d hx.nx, varE_d hy.nx, noXc_d hx.nx, noXc_d hy.nx, hx.bt, hy.bt, hx.ln, hy.ln, hlen, hsz, hw, boolsD_rep]
end
end HI
set_option Elab.async false
set_option linter.all false
set_option maxRecDepth 100000
set_option maxHeartbeats 4000000
/-! L_k10: the law, plainly. -/
namespace HI
open PySem L2

@[simp] theorem evOp_dz (S : Store) (x y : D) : evOp .dz [x, y] S = optR (lstOf S x) fun xs => optR (lstOf S y) fun ys => optR (keysOf (xs.take (min xs.length ys.length))) fun ks => if ks.Nodup ∧ ks.length ≤ sizeLine then .ok (.dK ks (ys.take (min xs.length ys.length))) S else .bad := rfl
def sgn (a b : Int) : Int := if a < b then 0 else if a = b then 1 else 2
def nth3 (x y z : Str) (a b : Int) : Str := if a < b then x else if a = b then y else z
section
variable (k : Nat) (S : Store)
@[simp] theorem r_sign (a b : Int) : run prg (k + 1) i_sign [.int a, .int b] S = .ok (.int (sgn a b)) S := by
  rw [run_iso (F := f_sign) rfl _ _ rfl rfl]
  unfold sgn
  by_cases h1 : a < b
  · simp [f_sign, h1]
  · by_cases h2 : a = b <;> simp [f_sign, h1, h2]
@[simp] theorem r_lsign (a b : Int) : run prg (k + 1) i__law_sign [.int a, .int b] S = .ok (.int (sgn a b)) S := by
  rw [run_iso (F := f__law_sign) rfl _ _ rfl rfl]
  unfold sgn
  by_cases h1 : a < b
  · simp [f__law_sign, h1]
  · by_cases h2 : a = b <;> simp [f__law_sign, h1, h2]
theorem at3 (x y z : D) (a b : Int) (f : D → R D) : optR (atI [x, y, z] (sgn a b)) f = if a < b then f x else if a = b then f y else f z := by
  unfold sgn
  by_cases h1 : a < b
  · simp [h1]
  · by_cases h2 : a = b <;> simp [h1, h2]
theorem at3S (x y z : Str) (a b : Int) : (optR (atI [.str x, .str y, .str z] (sgn a b)) fun v => R.ok v S) = .ok (.str (nth3 x y z a b)) S := by
  rw [at3]; unfold nth3
  split
  · rfl
  · split <;> rfl
@[simp] theorem r_moments (a b : Int) : run prg (k + 2) i_of_moments [.int a, .int b] S = .ok (.str (nth3 "ahead" "same" "behind" a b)) S := by
  rw [run_iso (F := f_of_moments) rfl _ _ rfl rfl]
  simp [f_of_moments, at3S]
def iv (a b : Int) : D := .tup [.int a, .int b]
@[simp] theorem r_beginning (a b c d : Int) : run prg (k + 2) i_beginning [iv a b, iv c d] S = .ok (.str (nth3 "begins" "same" "begun" b d)) S := by
  rw [run_iso (F := f_beginning) rfl _ _ rfl rfl]
  simp [f_beginning, iv, at3S]
def earl (b c d : Int) : Str := if b < c then "before" else if b = c then "meets" else nth3 "overlaps" "ended" "around" b d
@[simp] theorem r_earlier (a b c d : Int) : run prg (k + 2) i_earlier [iv a b, iv c d] S = .ok (.str (earl b c d)) S := by
  rw [run_iso (F := f_earlier) rfl _ _ rfl rfl]
  unfold earl
  by_cases h1 : b < c
  · simp [f_earlier, iv, at3S, h1]
  · by_cases h2 : b = c <;> simp [f_earlier, iv, at3S, h1, h2]
def stKinds : D := .kt [.str "before", .str "meets", .str "overlaps", .str "begins", .str "within", .str "ends", .str "same", .str "ended", .str "around", .str "begun", .str "overlaid", .str "met", .str "after"]
@[simp] theorem con_st : prg.con.lookup ("STRETCH_KINDS" : Str) = some stKinds := by rfl
@[simp] theorem ix_before : evBM S .index .tuple stKinds [.str "before"] = .ok (.int 0) S := by rfl
@[simp] theorem ix_meets : evBM S .index .tuple stKinds [.str "meets"] = .ok (.int 1) S := by rfl
@[simp] theorem ix_overlaps : evBM S .index .tuple stKinds [.str "overlaps"] = .ok (.int 2) S := by rfl
@[simp] theorem ix_ended : evBM S .index .tuple stKinds [.str "ended"] = .ok (.int 7) S := by rfl
@[simp] theorem ix_around : evBM S .index .tuple stKinds [.str "around"] = .ok (.int 8) S := by rfl
@[simp] theorem mt_st : mtOf S stKinds = some .tuple := rfl
@[simp] theorem sub_st (i : Int) : evSub S stKinds (.int i) = optR (atI [.str "before", .str "meets", .str "overlaps", .str "begins", .str "within", .str "ends", .str "same", .str "ended", .str "around", .str "begun", .str "overlaid", .str "met", .str "after"] i) fun v => .ok v S := rfl
/-- the kind of two stretches, by the law -/
def kStr (a b c d : Int) : Str := if b < c then "before" else if b = c then "meets" else if d < a then "after" else if d = a then "met" else
  if a = c then nth3 "begins" "same" "begun" b d else if b = d then (if c < a then "ends" else "ended") else if a < c then (if b < d then "overlaps" else "around") else (if b < d then "within" else "overlaid")
@[simp] theorem iv_sub (a b : Int) (i : Int) : evSub S (iv a b) (.int i) = optR (atI [.int a, .int b] i) fun v => .ok v S := rfl
@[simp] theorem iv_var (a b : Int) (t : Bool) : varE (some (some (iv a b))) t S = tz t (.ok (iv a b) S) := rfl
@[simp] theorem iv_bind (a b : Int) (ts : Tgs) (env : Env) : bindT prg (.tup ts) (iv a b) env S = bindTs prg ts [.int a, .int b] env S := by unfold iv; simp
theorem r_stretches {a b c d : Int} (h1 : a < b) (h2 : c < d) : run prg (k + 3) i_of_stretches [iv a b, iv c d] S = .ok (.str (kStr a b c d)) S := by
  rw [run_iso (F := f_of_stretches) rfl _ _ rfl rfl]
  by_cases e1 : a = c
  · have : kStr a b c d = nth3 "begins" "same" "begun" b d := by
      unfold kStr; rw [if_neg (by omega), if_neg (by omega), if_neg (by omega), if_neg (by omega), if_pos e1]
    rw [this]
    simp [f_of_stretches, e1]
  · by_cases e2 : a < c
    · have : kStr a b c d = earl b c d := by
        unfold kStr earl nth3
        by_cases x1 : b < c
        · rw [if_pos x1, if_pos x1]
        · by_cases x2 : b = c
          · rw [if_neg x1, if_neg x1, if_pos x2, if_pos x2]
          · rw [if_neg x1, if_neg x1, if_neg x2, if_neg x2, if_neg (by omega), if_neg (by omega), if_neg e1]
            by_cases x3 : b = d
            · rw [if_pos x3, if_neg (by omega), if_neg (by omega), if_pos x3]
            · by_cases x4 : b < d
              · rw [if_neg x3, if_pos e2, if_pos x4, if_pos x4]
              · rw [if_neg x3, if_pos e2, if_neg x4, if_neg x4, if_neg x3]
      rw [this]
      simp [f_of_stretches, e1, e2]
    · by_cases x1 : d < a
      · have : kStr a b c d = "after" := by
          unfold kStr; rw [if_neg (by omega), if_neg (by omega), if_pos x1]
        have e : earl d a b = "before" := by unfold earl; rw [if_pos x1]
        simp [f_of_stretches, e1, e2, this, e]
      · by_cases x2 : d = a
        · have : kStr a b c d = "met" := by
            unfold kStr; rw [if_neg (by omega), if_neg (by omega), if_neg (by omega), if_pos x2]
          have e : earl d a b = "meets" := by unfold earl; rw [if_neg x1, if_pos x2]
          simp [f_of_stretches, e1, e2, this, e]
        · have : kStr a b c d = (if b = d then ("ends" : Str) else if b < d then ("within" : Str) else ("overlaid" : Str)) := by
            unfold kStr; rw [if_neg (by omega), if_neg (by omega), if_neg x1, if_neg x2, if_neg e1, if_pos (by omega : c < a), if_neg e2]
          by_cases x3 : b = d
          · have e : earl d a b = "ended" := by unfold earl nth3; rw [if_neg x1, if_neg x2, if_neg (by omega), if_pos x3.symm]
            rw [this, if_pos x3]
            simp [f_of_stretches, e1, e2, e]
          · by_cases x4 : b < d
            · have e : earl d a b = "around" := by unfold earl nth3; rw [if_neg x1, if_neg x2, if_neg (by omega), if_neg (by omega)]
              rw [this, if_neg x3, if_pos x4]
              simp [f_of_stretches, e1, e2, e]
            · have e : earl d a b = "overlaps" := by unfold earl nth3; rw [if_neg x1, if_neg x2, if_pos (by omega)]
              rw [this, if_neg x3, if_neg x4]
              simp [f_of_stretches, e1, e2, e]
theorem r_lstretches (a b c d : Int) : run prg (k + 3) i__law_kind_of_stretches [iv a b, iv c d] S = .ok (.str (kStr a b c d)) S := by
  rw [run_iso (F := f__law_kind_of_stretches) rfl _ _ rfl rfl]
  unfold kStr
  by_cases x1 : b < c
  · simp [f__law_kind_of_stretches, x1]
  by_cases x2 : b = c
  · simp [f__law_kind_of_stretches, x2]
  by_cases x3 : d < a
  · simp [f__law_kind_of_stretches, x1, x2, x3]
  by_cases x4 : d = a
  · simp [f__law_kind_of_stretches, x1, x2, x4]
  by_cases x5 : a = c
  · simp [f__law_kind_of_stretches, x1, x2, x3, x4, x5, at3S]
    (repeat' split) <;> rfl
  by_cases x6 : b = d
  · simp [f__law_kind_of_stretches, x1, x2, x3, x4, x5, x6]
    (repeat' split) <;> rfl
  simp [f__law_kind_of_stretches, x1, x2, x3, x4, x5, x6]
  (repeat' split) <;> rfl
/-! ### courses -/
def cat3 (u w : Str) : Str := if u ++ w = "" then "same" else u ++ w
def kCo (a b c d : Int) : Str := if b < d then nth3 "nw" "n" "ne" a c else if b = d then nth3 "w" "same" "e" a c else nth3 "sw" "s" "se" a c
def coKinds : D := .kt [.str "nw", .str "n", .str "ne", .str "w", .str "same", .str "e", .str "sw", .str "s", .str "se"]
@[simp] theorem con_co : prg.con.lookup ("COURSE_KINDS" : Str) = some coKinds := by rfl
@[simp] theorem sub_co (i : Int) : evSub S coKinds (.int i) = optR (atI [.str "nw", .str "n", .str "ne", .str "w", .str "same", .str "e", .str "sw", .str "s", .str "se"] i) fun v => .ok v S := rfl
theorem r_courses (a b c d : Int) : run prg (k + 2) i_of_courses [iv a b, iv c d] S = .ok (.str (kCo a b c d)) S := by
  rw [run_iso (F := f_of_courses) rfl _ _ rfl rfl]
  have hs : ∀ a b, -18446744073709551616 < sgn a b ∧ sgn a b < 18446744073709551616 := fun a b => by unfold sgn; split; decide; split <;> decide
  unfold kCo nth3
  by_cases x1 : b < d
  · by_cases x3 : a < c
    · simp [f_of_courses, sgn, x1, x3]
    · by_cases x4 : a = c <;> simp [f_of_courses, sgn, x1, x3, x4]
  · by_cases x2 : b = d
    · by_cases x3 : a < c
      · simp [f_of_courses, sgn, x1, x2, x3]
      · by_cases x4 : a = c <;> simp [f_of_courses, sgn, x1, x2, x3, x4]
    · by_cases x3 : a < c
      · simp [f_of_courses, sgn, x1, x2, x3]
      · by_cases x4 : a = c <;> simp [f_of_courses, sgn, x1, x2, x3, x4]
theorem ne_me_st : ¬ ("moments" : Str) = "stretches" := by decide +kernel
theorem ne_me_co : ¬ ("moments" : Str) = "courses" := by decide +kernel
theorem ne_me_br : ¬ ("moments" : Str) = "branches" := by decide +kernel
theorem ne_me_pa : ¬ ("moments" : Str) = "parts" := by decide +kernel
theorem ne_st_me : ¬ ("stretches" : Str) = "moments" := by decide +kernel
theorem ne_st_co : ¬ ("stretches" : Str) = "courses" := by decide +kernel
theorem ne_st_br : ¬ ("stretches" : Str) = "branches" := by decide +kernel
theorem ne_st_pa : ¬ ("stretches" : Str) = "parts" := by decide +kernel
theorem ne_co_me : ¬ ("courses" : Str) = "moments" := by decide +kernel
theorem ne_co_st : ¬ ("courses" : Str) = "stretches" := by decide +kernel
theorem ne_br_me : ¬ ("branches" : Str) = "moments" := by decide +kernel
theorem ne_br_st : ¬ ("branches" : Str) = "stretches" := by decide +kernel
theorem ne_br_co : ¬ ("branches" : Str) = "courses" := by decide +kernel
theorem ne_pa_me : ¬ ("parts" : Str) = "moments" := by decide +kernel
theorem ne_pa_st : ¬ ("parts" : Str) = "stretches" := by decide +kernel
theorem ne_pa_co : ¬ ("parts" : Str) = "courses" := by decide +kernel
theorem ne_pa_br : ¬ ("parts" : Str) = "branches" := by decide +kernel
theorem addS (x y : Str) : evBin S .add (.str x) (.str y) = if x.length + y.length ≤ sizeLine then .ok (.str (x ++ y)) S else .bad := by
  show (if BOp.add = .add ∧ x.length + y.length ≤ sizeLine then (R.ok (D.str (x ++ y)) S : R D) else .bad) = _
  by_cases h : x.length + y.length ≤ sizeLine
  · rw [if_pos ⟨rfl, h⟩, if_pos h]
  · rw [if_neg (fun z => h z.2), if_neg h]
@[simp] theorem add_nw : evBin S .add (.str "n") (.str "w") = .ok (.str "nw") S := by rfl
@[simp] theorem add_n : evBin S .add (.str "n") (.str "") = .ok (.str "n") S := by rfl
@[simp] theorem add_ne : evBin S .add (.str "n") (.str "e") = .ok (.str "ne") S := by rfl
@[simp] theorem add_w : evBin S .add (.str "") (.str "w") = .ok (.str "w") S := by rfl
@[simp] theorem add_0 : evBin S .add (.str "") (.str "") = .ok (.str "") S := by rfl
@[simp] theorem add_e : evBin S .add (.str "") (.str "e") = .ok (.str "e") S := by rfl
@[simp] theorem add_sw : evBin S .add (.str "s") (.str "w") = .ok (.str "sw") S := by rfl
@[simp] theorem add_s : evBin S .add (.str "s") (.str "") = .ok (.str "s") S := by rfl
@[simp] theorem add_se : evBin S .add (.str "s") (.str "e") = .ok (.str "se") S := by rfl
theorem ne_nw : ¬ ("nw" : Str) = "" := by decide +kernel
theorem ne_n : ¬ ("n" : Str) = "" := by decide +kernel
theorem ne_ne : ¬ ("ne" : Str) = "" := by decide +kernel
theorem ne_w : ¬ ("w" : Str) = "" := by decide +kernel
theorem ne_e : ¬ ("e" : Str) = "" := by decide +kernel
theorem ne_sw : ¬ ("sw" : Str) = "" := by decide +kernel
theorem ne_s : ¬ ("s" : Str) = "" := by decide +kernel
theorem ne_se : ¬ ("se" : Str) = "" := by decide +kernel
theorem r_k_co (a b c d : Int) : run prg (k + 4) i__law_kind_of [D.str "courses", iv a b, iv c d] S = .ok (.str (kCo a b c d)) S := by
  rw [run_iso (F := f__law_kind_of) rfl _ _ rfl rfl]
  unfold kCo nth3
  by_cases x1 : b < d
  · by_cases x3 : a < c
    · simp [f__law_kind_of, sgn, x1, x3, ne_co_me, ne_nw]
    · by_cases x4 : a = c <;> simp [f__law_kind_of, sgn, x1, x3, x4, ne_co_me, ne_n, ne_ne]
  · by_cases x2 : b = d
    · by_cases x3 : a < c
      · simp [f__law_kind_of, sgn, x1, x2, x3, ne_co_me, ne_w]
      · by_cases x4 : a = c <;> simp [f__law_kind_of, sgn, x1, x2, x3, x4, ne_co_me, ne_e]
    · by_cases x3 : a < c
      · simp [f__law_kind_of, sgn, x1, x2, x3, ne_co_me, ne_sw]
      · by_cases x4 : a = c <;> simp [f__law_kind_of, sgn, x1, x2, x3, x4, ne_co_me, ne_s, ne_se]
theorem r_k_me (a b : Int) : run prg (k + 4) i__law_kind_of [D.str "moments", .int a, .int b] S = .ok (.str (nth3 "ahead" "same" "behind" a b)) S := by
  rw [run_iso (F := f__law_kind_of) rfl _ _ rfl rfl]
  simp [f__law_kind_of, at3S]
theorem r_k_st (a b c d : Int) : run prg (k + 4) i__law_kind_of [D.str "stretches", iv a b, iv c d] S = .ok (.str (kStr a b c d)) S := by
  rw [run_iso (F := f__law_kind_of) rfl _ _ rfl rfl]
  simp [f__law_kind_of, ne_st_me, ne_st_co, ne_st_br, ne_st_pa, r_lstretches]
/-! ### branches, parts: each by itself -/
def brs : List (List Int) := [[0], [1], [0, 0], [0, 1], [1, 0], [1, 1]] ++ [[0, 0], [0, 1], [1, 0], [1, 1]].flatMap (fun p => [p ++ [0], p ++ [1]]) ++ ([[0, 0], [0, 1], [1, 0], [1, 1]].flatMap fun p => [[0, 0], [0, 1], [1, 0], [1, 1]].map fun q => p ++ q)
def br (xs : List Int) : D := .ntup (xs.map .int)
def pa (xs : List Int) : D := .lst (xs.map .int)
def pas : List (List Int) := (List.range 31).map fun b => ((List.range 5).filter fun j => (b + 1) / 2 ^ j % 2 = 1).map fun (j : Nat) => (j : Int)
def outS (r : RS) : Option Str := match r with
  | .rt (.str s) _ => some s
  | _ => none
theorem outS_ok {r : RS} {s : Str} (h : outS r = some s) : outI S r = .ok (.str s) S := by
  cases r with
  | rt d S' => cases d <;> first | (cases h; rfl) | cases h
  | _ => cases h
def kBr (x y : List Int) : Str := if x = y then "same" else if y.take x.length = x then "up" else if x.take y.length = y then "down" else "apart"
def sub1 (x y : List Int) : Bool := x.all fun i => y.contains i
def kPa (x y : List Int) : Str := if sub1 x y && sub1 y x then "same" else if sub1 x y then "within" else if sub1 y x then "around" else if x.any fun i => y.contains i then "across" else "apart"
def chkBr (x y : List Int) : Bool :=
  (outS (evSs prg (run prg 38) f_of_branches.body [some (br x), some (br y)] ⟨1, []⟩) == some (kBr x y)) &&
  (outS (evSs prg (run prg 39) f__law_kind_of.body [some (.str "branches"), some (br x), some (br y), none, none] ⟨1, []⟩) == some (kBr x y))
def chkPa (x y : List Int) : Bool :=
  (outS (evSs prg (run prg 38) f_of_parts.body [some (pa x), some (pa y), none, none, none] ⟨1, []⟩) == some (kPa x y)) &&
  (outS (evSs prg (run prg 39) f__law_kind_of.body [some (.str "parts"), some (pa x), some (pa y), none, none] ⟨1, []⟩) == some (kPa x y))
theorem chkBr_all : (brs.all fun x => brs.all fun y => chkBr x y) = true := by decide +kernel
theorem chkPa_all : (pas.all fun x => pas.all fun y => chkPa x y) = true := by decide +kernel
end
end HI
set_option Elab.async false
set_option linter.all false
set_option maxRecDepth 100000
set_option maxHeartbeats 4000000
/-! L2_k10: the law's turns. -/
namespace HI
open PySem L2

/-- a word of the law -/
inductive Wd where
  | me | st | co | br | pa
def Wd.s : Wd → Str
  | .me => "moments" | .st => "stretches" | .co => "courses" | .br => "branches" | .pa => "parts"
def Wd.kinds : Wd → List Str
  | .me => ["ahead", "same", "behind"]
  | .co => ["nw", "n", "ne", "w", "same", "e", "sw", "s", "se"]
  | .br => ["up", "same", "down", "apart"]
  | .pa => ["within", "around", "same", "across", "apart"]
  | .st => ["before", "meets", "overlaps", "begins", "within", "ends", "same", "ended", "around", "begun", "overlaid", "met", "after"]
def Wd.way : Wd → Nat
  | .me => i_of_moments | .st => i_of_stretches | .co => i_of_courses | .br => i_of_branches | .pa => i_of_parts
/-- a thing of a word -/
def Wd.Th : Wd → D → Prop
  | .me, d => ∃ a, d = .int a
  | .st, d => ∃ a b, a < b ∧ d = iv a b
  | .co, d => ∃ a b, d = iv a b
  | .br, d => ∃ x, x ∈ brs ∧ d = HI.br x
  | .pa, d => ∃ x, x ∈ pas ∧ d = HI.pa x
def kwD : D := .kd [.inr "moments", .inr "stretches", .inr "courses", .inr "branches", .inr "parts"] [.fn i_of_moments, .fn i_of_stretches, .fn i_of_courses, .fn i_of_branches, .fn i_of_parts]
def wordsD : D := .kt [.str "moments", .str "stretches", .str "courses", .str "branches", .str "parts"]
theorem con_kw : prg.con.lookup ("KIND_OF" : Str) = some kwD := by rfl
theorem con_words : prg.con.lookup ("WORDS" : Str) = some wordsD := by rfl
section
variable (k : Nat) (S : Store)
theorem word_in (w : Wd) : inD S (.str w.s) wordsD = some true := by cases w <;> rfl
theorem word_sub (w : Wd) : evSub S kwD (.str w.s) = .ok (.fn w.way) S := by cases w <;> rfl
theorem r_need (w : Wd) : run prg (k + 1) i_need_word [.str w.s] S = .ok .non S := by
  rw [run_iso (F := f_need_word) rfl _ _ rfl rfl]
  have hv : ∀ t, varE (some (some wordsD)) t ⟨S.top, []⟩ = tz t (.ok wordsD ⟨S.top, []⟩) := fun _ => rfl
  simp [f_need_word, con_words, word_in]
theorem notXc_th {w : Wd} {d : D} (h : w.Th d) : notXc d = true := by
  cases w <;> (first | (obtain ⟨_, _, _, rfl⟩ := h; rfl) | (obtain ⟨_, _, rfl⟩ := h; rfl) | (obtain ⟨_, rfl⟩ := h; rfl))
theorem r_read {w : Wd} {d e : D} {s : Str} (hd : notXc d = true) (he : notXc e = true) (h : ∀ S', S'.top = S.top → run prg (k + 1) w.way [d, e] S' = .ok (.str s) S') : run prg (k + 2) i_read_off [.str w.s, d, e] S = .ok (.str s) S := by
  rw [run_iso (F := f_read_off) rfl _ _ rfl rfl]
  simp [f_read_off, varE_d hd, varE_d he, r_need, con_kw, word_sub, h ⟨S.top, []⟩ rfl]
theorem off {w : Wd} {d e : D} (hd : w.Th d) (he : w.Th e) : ∃ s, s ∈ w.kinds ∧ (d = e → s = "same") ∧ (∀ S : Store, S.top = 1 → run prg 40 i_read_off [.str w.s, d, e] S = .ok (.str s) S) ∧ (∀ S : Store, S.top = 1 → run prg 40 i__law_kind_of [.str w.s, d, e] S = .ok (.str s) S) := by
  have nd := notXc_th hd
  have ne := notXc_th he
  cases w with
  | me =>
    obtain ⟨a, rfl⟩ := hd
    obtain ⟨b, rfl⟩ := he
    refine ⟨nth3 "ahead" "same" "behind" a b, ?_, ?_, fun S h1 => r_read 38 S (w := .me) nd ne fun S' h' => r_moments 37 S' a b, fun S h1 => r_k_me 36 S a b⟩
    · unfold nth3; split; simp [Wd.kinds]; split <;> simp [Wd.kinds]
    · intro e; cases e; unfold nth3; simp
  | st =>
    obtain ⟨a, b, h, rfl⟩ := hd
    obtain ⟨c, d, h', rfl⟩ := he
    refine ⟨kStr a b c d, ?_, ?_, fun S h1 => r_read 38 S (w := .st) nd ne fun S' _ => r_stretches 36 S' h h', fun S h1 => r_k_st 36 S a b c d⟩
    · unfold kStr nth3; (repeat' split) <;> simp [Wd.kinds]
    · intro e; cases e; unfold kStr nth3
      rw [if_neg (by omega), if_neg (by omega), if_neg (by omega), if_neg (by omega), if_pos rfl, if_neg (by omega), if_pos rfl]
  | co =>
    obtain ⟨a, b, rfl⟩ := hd
    obtain ⟨c, d, rfl⟩ := he
    refine ⟨kCo a b c d, ?_, ?_, fun S h1 => r_read 38 S (w := .co) nd ne fun S' _ => r_courses 37 S' a b c d, fun S h1 => r_k_co 36 S a b c d⟩
    · unfold kCo nth3; (repeat' split) <;> simp [Wd.kinds]
    · intro e; cases e; unfold kCo nth3; simp
  | br =>
    obtain ⟨x, h, rfl⟩ := hd
    obtain ⟨y, h', rfl⟩ := he
    have q := List.all_eq_true.mp (List.all_eq_true.mp chkBr_all x h) y h'
    unfold chkBr at q
    rw [Bool.and_eq_true, beq_iff_eq, beq_iff_eq] at q
    refine ⟨kBr x y, ?_, ?_, fun S h1 => r_read 38 S (w := .br) nd ne fun S' h' => ?_, fun S h1 => ?_⟩
    · unfold kBr; (repeat' split) <;> simp [Wd.kinds]
    · intro e
      have : x = y := by
        have e : x.map D.int = y.map D.int := by unfold HI.br at e; injection e
        exact List.map_inj_right (fun a b z => by injection z) |>.mp e
      unfold kBr; rw [if_pos this]
    · rw [show Wd.br.way = i_of_branches from rfl, run_iso (F := f_of_branches) rfl _ _ rfl rfl, h', h1]
      exact outS_ok S' q.1
    · rw [run_iso (F := f__law_kind_of) rfl _ _ rfl rfl, h1]
      exact outS_ok S q.2
  | pa =>
    obtain ⟨x, h, rfl⟩ := hd
    obtain ⟨y, h', rfl⟩ := he
    have q := List.all_eq_true.mp (List.all_eq_true.mp chkPa_all x h) y h'
    unfold chkPa at q
    rw [Bool.and_eq_true, beq_iff_eq, beq_iff_eq] at q
    refine ⟨kPa x y, ?_, ?_, fun S h1 => r_read 38 S (w := .pa) nd ne fun S' h' => ?_, fun S h1 => ?_⟩
    · unfold kPa; (repeat' split) <;> simp [Wd.kinds]
    · intro e
      have : x = y := by
        have e : x.map D.int = y.map D.int := by unfold HI.pa at e; injection e
        exact List.map_inj_right (fun a b z => by injection z) |>.mp e
      subst this
      unfold kPa
      have : sub1 x x = true := by unfold sub1; simp
      rw [this]; rfl
    · rw [show Wd.pa.way = i_of_parts from rfl, run_iso (F := f_of_parts) rfl _ _ rfl rfl, h', h1]
      exact outS_ok S' q.1
    · rw [run_iso (F := f__law_kind_of) rfl _ _ rfl rfl, h1]
      exact outS_ok S q.2
theorem r_draw {f : Flow} (hf : f.Ok) {s : Int} (h0 : 0 < s) (h1 : s.natAbs.log2 < 9000) (cs : List Cell) : run prg (k + 1) i__law_draw [.ref 0, .int s] (St1 f cs) = .ok (.int (f.draw s).1) (St1 (f.draw s).2 cs) := draw_run rfl hf h0 h1 cs
theorem at3r {x y z : D} {v : Int} (h0 : 0 ≤ v) (h1 : v < 3) : atI [x, y, z] v = some x ∨ atI [x, y, z] v = some y ∨ atI [x, y, z] v = some z := by
  have : v = 0 ∨ v = 1 ∨ v = 2 := by omega
  rcases this with rfl | rfl | rfl
  · exact .inl rfl
  · exact .inr (.inl rfl)
  · exact .inr (.inr rfl)
theorem r_number {f : Flow} (hf : f.Ok) (a b c : Int) (cs : List Cell) : ∃ v f', f'.Ok ∧ run prg (k + 2) i__law_number [.ref 0, .lst [.int a, .int b, .int c]] (St1 f cs) = .ok (.int v) (St1 f' cs) := by
  rw [run_at (F := f__law_number) rfl _ _ rfl rfl]
  have d3 := r_draw k hf (s := 3) (by decide) (by decide) cs
  obtain ⟨hf1, q0, q1⟩ := hf.draw (s := 3) (by decide)
  have dl := r_draw k hf1 (s := 3) (by decide) (by decide) cs
  obtain ⟨hf2, p0, p1⟩ := hf1.draw (s := 3) (by decide)
  have db := r_draw k hf1 (s := 200000000000000000000000000000) (by decide) (by decide) cs
  obtain ⟨hf3, _, _⟩ := hf1.draw (s := 200000000000000000000000000000) (by decide)
  generalize f.draw 3 = g1 at *
  generalize g1.2.draw 3 = g2 at *
  generalize g1.2.draw 200000000000000000000000000000 = g3 at *
  by_cases h : 0 < g1.1
  · rcases at3r (x := .int a) (y := .int b) (z := .int c) p0 p1 with e | e | e
    · exact ⟨a, g2.2, hf2, by simp [f__law_number, d3, h, dl, e]⟩
    · exact ⟨b, g2.2, hf2, by simp [f__law_number, d3, h, dl, e]⟩
    · exact ⟨c, g2.2, hf2, by simp [f__law_number, d3, h, dl, e]⟩
  · exact ⟨_, g3.2, hf3, by simp [f__law_number, d3, h, db]; rfl⟩
theorem Wd.s_me (w : Wd) : (w.s = "moments") = (w = .me) := by cases w <;> simp [Wd.s, ne_st_me, ne_co_me, ne_br_me, ne_pa_me]
theorem br_mem {ys : List D} (h0 : ys.length = 1 ∨ ys.length = 2 ∨ ys.length = 3 ∨ ys.length = 4) (h : ∀ y ∈ ys, y = .int 0 ∨ y = .int 1) : ∃ x, x ∈ brs ∧ D.ntup ys = HI.br x := by
  have key : ∀ (ys : List D), (∀ y ∈ ys, y = .int 0 ∨ y = .int 1) → ∃ x : List Int, ys = x.map .int ∧ x.length = ys.length ∧ ∀ i ∈ x, i = 0 ∨ i = 1 := fun ys => by
    induction ys with
    | nil => exact fun _ => ⟨[], rfl, rfl, fun i hi => by simp at hi⟩
    | cons y ys ih =>
      intro h
      obtain ⟨x, e, l, q⟩ := ih fun z hz => h z (by simp [hz])
      rcases h y (by simp) with rfl | rfl
      · exact ⟨0 :: x, by rw [e]; rfl, by simp [l], fun i hi => by rcases List.mem_cons.mp hi with rfl | hi; exact .inl rfl; exact q i hi⟩
      · exact ⟨1 :: x, by rw [e]; rfl, by simp [l], fun i hi => by rcases List.mem_cons.mp hi with rfl | hi; exact .inr rfl; exact q i hi⟩
  obtain ⟨x, rfl, l, q⟩ := key ys h
  refine ⟨x, ?_, rfl⟩
  rw [← l] at h0
  match x, h0, q with
  | [], h0, _ => simp at h0
  | [a], _, q => rcases q a (by simp) with rfl | rfl <;> decide
  | [a, b], _, q => rcases q a (by simp) with rfl | rfl <;> rcases q b (by simp) with rfl | rfl <;> decide
  | [a, b, c], _, q => rcases q a (by simp) with rfl | rfl <;> rcases q b (by simp) with rfl | rfl <;> rcases q c (by simp) with rfl | rfl <;> decide
  | [a, b, c, d], _, q => rcases q a (by simp) with rfl | rfl <;> rcases q b (by simp) with rfl | rfl <;> rcases q c (by simp) with rfl | rfl <;> rcases q d (by simp) with rfl | rfl <;> decide
  | _ :: _ :: _ :: _ :: _ :: _, h0, _ => simp at h0
theorem bits_ok : ∀ n < 31, ∀ j < 5, (decide (Builtin.bitAnd (((n : Nat) + 1 : Int) / 2 ^ j) 1 ≠ 0)) = decide ((n + 1) / 2 ^ j % 2 = 1) := by decide +kernel
theorem r_thing (w : Wd) {f : Flow} (hf : f.Ok) (a b c : Int) (cs : List Cell) : ∃ d f', w.Th d ∧ f'.Ok ∧ run prg (k + 3) i__law_thing [.ref 0, .str w.s, .lst [.int a, .int b, .int c]] (St1 f cs) = .ok d (St1 f' cs) := by
  cases w with
  | me =>
    obtain ⟨v, f1, h1, e1⟩ := r_number k hf a b c cs
    refine ⟨.int v, f1, ⟨v, rfl⟩, h1, ?_⟩
    rw [run_at (F := f__law_thing) rfl _ _ rfl rfl]
    simp [f__law_thing, Wd.s, e1]
  | co =>
    obtain ⟨v, f1, h1, e1⟩ := r_number k hf a b c cs
    obtain ⟨u, f2, h2, e2⟩ := r_number k h1 a b c cs
    refine ⟨iv v u, f2, ⟨v, u, rfl⟩, h2, ?_⟩
    rw [run_at (F := f__law_thing) rfl _ _ rfl rfl]
    simp [f__law_thing, Wd.s, e1, e2, ne_co_me, iv]
  | st =>
    obtain ⟨v, f1, h1, e1⟩ := r_number k hf a b c cs
    obtain ⟨u, f2, h2, e2⟩ := r_number k h1 a b c cs
    by_cases q : v ≤ u
    · by_cases q2 : u = v
      · refine ⟨iv v (u + 1), f2, ⟨v, u + 1, by omega, rfl⟩, h2, ?_⟩
        rw [run_at (F := f__law_thing) rfl _ _ rfl rfl]
        simp [f__law_thing, Wd.s, e1, e2, ne_st_me, ne_st_co, iv, intsD, sortI, insI, q, q2]
      · refine ⟨iv v u, f2, ⟨v, u, by omega, rfl⟩, h2, ?_⟩
        rw [run_at (F := f__law_thing) rfl _ _ rfl rfl]
        simp [f__law_thing, Wd.s, e1, e2, ne_st_me, ne_st_co, iv, intsD, sortI, insI, q, q2]
    · refine ⟨iv u v, f2, ⟨u, v, by omega, rfl⟩, h2, ?_⟩
      rw [run_at (F := f__law_thing) rfl _ _ rfl rfl]
      simp [f__law_thing, Wd.s, e1, e2, ne_st_me, ne_st_co, iv, intsD, sortI, insI, q]
      split <;> omega
  | br =>
    have d4 := r_draw (k + 1) hf (s := 4) (by decide) (by decide) cs
    obtain ⟨hf1, q0, q1⟩ := hf.draw (s := 4) (by decide)
    generalize f.draw 4 = g at *
    obtain ⟨ys, S', e, ⟨f2, rfl, h2⟩, hl, hy⟩ := walkC_st (f := lcB prg (run prg (k + 2)) (.name 7) .nil c__law_thing_0 [some (.ref 0), some (.str Wd.br.s), some (.lst [.int a, .int b, .int c]), none, none, none, none, none]) (fun S => ∃ f', S = St1 f' cs ∧ f'.Ok) (fun y => y = .int 0 ∨ y = .int 1) (rangeD 0 (1 + g.1).toNat) [] (St1 g.2 cs) (fun x _ S ⟨f', hS, h'⟩ => by
      subst hS
      have d2 := r_draw (k + 1) h' (s := 2) (by decide) (by decide) cs
      obtain ⟨h3, p0, p1⟩ := h'.draw (s := 2) (by decide)
      refine ⟨.int (f'.draw 2).1, St1 (f'.draw 2).2 cs, by simp [c__law_thing_0, d2], ⟨_, rfl, h3⟩, ?_⟩
      have : (f'.draw 2).1 = 0 ∨ (f'.draw 2).1 = 1 := by omega
      rcases this with e | e
      · exact .inl (by rw [e])
      · exact .inr (by rw [e])) ⟨_, rfl, hf1⟩ (by rw [rangeD_zero]; simp; omega)
    rw [rangeD_zero] at hl
    simp at hl
    obtain ⟨x, hx, ex⟩ := br_mem (ys := ys) (by omega) hy
    refine ⟨.ntup ys, f2, ⟨x, hx, ex⟩, h2, ?_⟩
    rw [run_at (F := f__law_thing) rfl _ _ rfl rfl]
    have b1 : -4611686018427387904 ≤ 1 + g.1 := by omega
    have b2 : 1 + g.1 < 4611686018427387904 := by omega
    rw [show Wd.br.s = ("branches" : Str) from rfl] at e ⊢
    simp at e
    simp [f__law_thing, ne_br_me, ne_br_co, ne_br_st, d4, b1, b2, e]
  | pa =>
    have d4 := r_draw (k + 1) hf (s := 31) (by decide) (by decide) cs
    obtain ⟨hf1, q0, q1⟩ := hf.draw (s := 31) (by decide)
    generalize f.draw 31 = g at *
    obtain ⟨n, hn⟩ : ∃ n : Nat, g.1 = n := ⟨g.1.toNat, by omega⟩
    have hn31 : n < 31 := by omega
    let p : Nat → Bool := fun j => decide ((n + 1) / 2 ^ j % 2 = 1)
    have e : walkC (lcB prg (run prg (k + 2)) (.name 6) q__law_thing_0 c__law_thing_1 [some (.ref 0), some (.str "parts"), some (.lst [.int a, .int b, .int c]), some (.int (1 + g.1)), none, none, none, none]) (rangeD 0 5) [] (St1 g.2 cs) = .ok (((List.range 5).filter p).map fun j : Nat => .int j) (St1 g.2 cs) := by
      rw [walkC_fm (g := fun d => match d with
        | .int m => if decide (Builtin.bitAnd ((1 + g.1) / 2 ^ m.toNat) 1 ≠ 0) = true then some d else none
        | _ => none) _ _ (fun x hx => ?_) (by rw [rangeD_zero]; decide)]
      · rw [List.nil_append, rangeD_zero]
        rw [fm_filter (p := p)]
        intro j hj
        have hj : j < 5 := List.mem_range.mp hj
        show (if decide (Builtin.bitAnd ((1 + g.1) / 2 ^ ((j : Int)).toNat) 1 ≠ 0) = true then some (D.int j) else none) = _
        rw [Int.toNat_natCast, hn, Int.add_comm, bits_ok n hn31 j hj]
      · rw [rangeD_zero] at hx
        obtain ⟨j, hj, rfl⟩ := List.mem_map.mp hx
        simp [q__law_thing_0, c__law_thing_1]
        split <;> simp_all
    refine ⟨_, g.2, ⟨((List.range 5).filter p).map fun j : Nat => (j : Int), ?_, rfl⟩, hf1, ?_⟩
    · unfold pas
      exact List.mem_map.mpr ⟨n, List.mem_range.mpr hn31, rfl⟩
    · rw [run_at (F := f__law_thing) rfl _ _ rfl rfl]
      simp [f__law_thing, Wd.s, ne_pa_me, ne_pa_co, ne_pa_st, ne_pa_br, d4, e, HI.pa]
      trace_state
end
end HI
set_option Elab.async false
set_option linter.all false
set_option maxRecDepth 100000
set_option maxHeartbeats 4000000
/-! L3_k10: the law. -/
namespace HI
open PySem L2
theorem inD_strs (S : Store) (s : Str) (l : List Str) : inD S (.str s) (.lst (l.map .str)) = some (l.any fun y => y == s) := by
  have h1 : (l.map D.str).all flat = true := by rw [List.all_map]; exact List.all_eq_true.mpr fun _ _ => rfl
  have h2 : ((l.map D.str).any fun y => flatEq y (.str s)) = l.any fun y => y == s := by rw [List.any_map]; rfl
  show (if flat (.str s) && (l.map D.str).all flat then some ((l.map D.str).any fun y => flatEq y (.str s)) else _) = _
  rw [h1, h2]; rfl
theorem inD_mem (S : Store) {s : Str} {l : List Str} (h : s ∈ l) : inD S (.str s) (.lst (l.map .str)) = some true := by
  rw [inD_strs, List.any_eq_true.mpr ⟨s, h, by simp⟩]
def tD (w : Wd) : D := .dK [.inr "kinds", .inr "same", .inr "back", .inr "step"] [.lst (w.kinds.map .str), .str "same", .dK [] [], .dK [] []]
theorem tD_sub (w : Wd) (S : Store) : evSub S (tD w) (.str "kinds") = .ok (.lst (w.kinds.map .str)) S := by simp [tD, lookK]
theorem tD_var (w : Wd) (t : Bool) (S : Store) : varE (some (some (tD w))) t S = tz t (.ok (tD w) S) := rfl
theorem same3 (S : Store) (k : Nat) (a b c : Str) : run prg (k + 2) i__law_same [.lst [.str a, .str b, .str c], .lst [.str a, .str b, .str c]] S = .ok (.bl true) S :=
  same_run (P := prg) (i := i__law_same) rfl (.seq 0 _ _ .list _ _ (.inl rfl) (SqV.lst _ _) (SqV.lst _ _) (by simp) (Sims.strs (S := S) 0 [a, b, c])) (by omega)
def OkO (o : Option D) : Prop := ∀ e, noXc (o :: e) = o :: noXc e
theorem OkO.of {d : D} (h : notXc d = true) : OkO (some d) := fun e => noXc_d h e
theorem OkO.none : OkO none := fun e => rfl
theorem turn (w : Wd) (is : List Int) (words : D) (a b c j : Int) (o8 o9 o10 o11 : Option D) {f : Flow} (hf : f.Ok) : ∃ o9' o10' o11' f', f'.Ok ∧ OkO o9' ∧ OkO o10' ∧ OkO o11' ∧
    forB prg (run prg 40) (.name 8) b_law_0 (.int j) [some (.scr is), some (.ref 0), some words, some (.str w.s), none, none, some (.lst [.int a, .int b, .int c]), some (tD w), o8, o9, o10, o11] (St1 f []) =
      .nx [some (.scr is), some (.ref 0), some words, some (.str w.s), none, none, some (.lst [.int a, .int b, .int c]), some (tD w), some (.int j), o9', o10', o11'] (St1 f' []) := by
  obtain ⟨d, f1, hd, h1, e1⟩ := r_thing 37 w hf a b c []
  obtain ⟨e, f2, he, h2, e2⟩ := r_thing 37 w h1 a b c []
  obtain ⟨s1, m1, _, p1, q1⟩ := off hd he
  obtain ⟨s2, m2, _, p2, q2⟩ := off he hd
  obtain ⟨s3, m3, e3, p3, q3⟩ := off hd hd
  have e3 := e3 rfl
  subst e3
  have nd := notXc_th hd
  have ne := notXc_th he
  have p1 := p1 (St1 f2 []) rfl
  have p2 := p2 (St1 f2 []) rfl
  have p3 := p3 (St1 f2 []) rfl
  have q1 := q1 (St1 f2 []) rfl
  have q2 := q2 (St1 f2 []) rfl
  have sm := same3 (St1 f2 []) 38 s1 s2 "same"
  refine ⟨some (.lst [.str s1, .str s2, .str "same"]), some d, some e, f2, h2, .of rfl, .of nd, .of ne, ?_⟩
  simp [b_law_0, e1, e2, q1, q2, varE_d nd, varE_d ne, tD_var, tD_sub, inD_mem _ m1, p1, p2, p3, sm]
theorem addL (S : Store) (xs ys : List D) : evBin S .add (.lst xs) (.lst ys) = if xs.length + ys.length ≤ sizeLine then .ok (.lst (xs ++ ys)) S else .bad := rfl
theorem r_kinds (w : Wd) (S : Store) : run prg 40 i__law_kinds_of [.str w.s] S = .ok (.lst (w.kinds.map .str)) S := by
  rw [run_iso (F := f__law_kinds_of) rfl _ _ rfl rfl]
  cases w <;> simp [f__law_kinds_of, Wd.s, Wd.kinds, ne_st_me, ne_st_co, ne_st_br, ne_st_pa, ne_co_me, ne_br_me, ne_br_co, ne_pa_me, ne_pa_co, ne_pa_br, addL]
theorem r_table (w : Wd) (S : Store) : run prg 40 i__law_table [.lst (w.kinds.map .str), .str "same", .lst [], .dK [] []] S = .ok (tD w) S := by
  cases w <;> kernel_rfl
theorem word_turn (w : Wd) (is : List Int) (words : D) (o3 o6 o7 o8 o9 o10 o11 : Option D) (ho : OkO o8 ∧ OkO o9 ∧ OkO o10 ∧ OkO o11) {f : Flow} (hf : f.Ok) : ∃ o6' o7' o8' o9' o10' o11' f', f'.Ok ∧ (OkO o6' ∧ OkO o7' ∧ OkO o8' ∧ OkO o9' ∧ OkO o10' ∧ OkO o11') ∧
    forB prg (run prg 40) (.name 3) b_law_1 (.str w.s) [some (.scr is), some (.ref 0), some words, o3, none, none, o6, o7, o8, o9, o10, o11] (St1 f []) =
      .nx [some (.scr is), some (.ref 0), some words, some (.str w.s), none, none, o6', o7', o8', o9', o10', o11'] (St1 f' []) := by
  have d1 : run prg 40 _ _ _ = _ := r_draw 39 hf (s := 9) (by decide) (by decide) []
  obtain ⟨hf1, _, _⟩ := hf.draw (s := 9) (by decide)
  have d2 : run prg 40 _ _ _ = _ := r_draw 39 hf1 (s := 9) (by decide) (by decide) []
  obtain ⟨hf2, _, _⟩ := hf1.draw (s := 9) (by decide)
  have d3 : run prg 40 _ _ _ = _ := r_draw 39 hf2 (s := 200000000000000000000000000000) (by decide) (by decide) []
  obtain ⟨hf3, _, _⟩ := hf2.draw (s := 200000000000000000000000000000) (by decide)
  generalize f.draw 9 = g1 at *
  generalize g1.2.draw 9 = g2 at *
  generalize g2.2.draw 200000000000000000000000000000 = g3 at *
  obtain ⟨e', S', q, o8', o9', o10', o11', f', rfl, rfl, hf', ho'⟩ := forGo_inv (f := forB prg (run prg 40) (.name 8) b_law_0)
    (fun e S => ∃ o8 o9 o10 o11 f', e = [some (.scr is), some (.ref 0), some words, some (.str w.s), none, none, some (.lst [.int (g1.1 - 4), .int (g2.1 - 4), .int (g3.1 - 100000000000000000000000000000)]), some (tD w), o8, o9, o10, o11] ∧ S = St1 f' [] ∧ f'.Ok ∧ OkO o8 ∧ OkO o9 ∧ OkO o10 ∧ OkO o11)
    (rangeD 0 4) _ _ (fun x hx e S ⟨o8, o9, o10, o11, f', e1, e2, e3, _⟩ => by
      subst e1 e2
      rw [rangeD_zero] at hx
      obtain ⟨j, _, rfl⟩ := List.mem_map.mp hx
      obtain ⟨o9', o10', o11', f'', h', x1, x2, x3, e'⟩ := turn w is words (g1.1 - 4) (g2.1 - 4) (g3.1 - 100000000000000000000000000000) j o8 o9 o10 o11 e3
      exact ⟨_, _, e', _, _, _, _, f'', rfl, rfl, h', .of rfl, x1, x2, x3⟩) ⟨o8, o9, o10, o11, g3.2, rfl, rfl, hf3, ho⟩
  refine ⟨some (.lst [.int (g1.1 - 4), .int (g2.1 - 4), .int (g3.1 - 100000000000000000000000000000)]), some (tD w), o8', o9', o10', o11', f', hf', ⟨.of rfl, .of rfl, ho'⟩, ?_⟩
  simp [b_law_1, d1, d2, d3, r_kinds, r_table, q]
theorem law_true (ns : List Int) (h : ns.length ≤ 63) (hb : ∀ z ∈ ns, Builtin.Int.intBits z ≤ 1048576) : ∃ S, run prg (40 + 1) i_law [.scr ns] ⟨0, []⟩ = .ok (.bl true) S := by
  have fl : run prg 40 i__law_flow [.scr ns] ⟨0, []⟩ = .ok (.ref 0) (St1 ⟨ns, 0, 0, 11⟩ []) := flow_run (k := 39) rfl ns h
  obtain ⟨e', S', q, o3, o6, o7, o8, o9, o10, o11, f', rfl, rfl, hf', n3, n6, n7, n8, n9, n10, n11⟩ := forGo_inv (f := forB prg (run prg 40) (.name 3) b_law_1)
    (fun e S => ∃ o3 o6 o7 o8 o9 o10 o11 f', e = [some (.scr ns), some (.ref 0), some (.lst [.str "moments", .str "stretches", .str "courses", .str "branches", .str "parts"]), o3, none, none, o6, o7, o8, o9, o10, o11] ∧ S = St1 f' [] ∧ f'.Ok ∧ OkO o3 ∧ OkO o6 ∧ OkO o7 ∧ OkO o8 ∧ OkO o9 ∧ OkO o10 ∧ OkO o11)
    [.str "moments", .str "stretches", .str "courses", .str "branches", .str "parts"] _ _ (fun x hx e S ⟨o3, o6, o7, o8, o9, o10, o11, f', e1, e2, e3, _, _, _, ho⟩ => by
      subst e1 e2
      have : ∃ w : Wd, x = .str w.s := by
        simp only [List.mem_cons, List.not_mem_nil, or_false] at hx
        rcases hx with rfl | rfl | rfl | rfl | rfl
        · exact ⟨.me, rfl⟩
        · exact ⟨.st, rfl⟩
        · exact ⟨.co, rfl⟩
        · exact ⟨.br, rfl⟩
        · exact ⟨.pa, rfl⟩
      obtain ⟨w, rfl⟩ := this
      obtain ⟨o6', o7', o8', o9', o10', o11', f'', h', ho', e'⟩ := word_turn w ns _ o3 o6 o7 o8 o9 o10 o11 ho e3
      exact ⟨_, _, e', _, _, _, _, _, _, _, f'', rfl, rfl, h', .of rfl, ho'⟩) ⟨none, none, none, none, none, none, none, ⟨ns, 0, 0, 11⟩, rfl, rfl, flow0_ok ns, .none, .none, .none, .none, .none, .none, .none⟩
  have rd : ∀ S, run prg 40 i_read_off [.str "part", .lst [.int 1], .lst [.int 2]] S = .er ⟨1, ["name", "word"], [.str "part", .str "NoTable"]⟩ S := fun S => by kernel_rfl
  have sb : isSub prg 1 [x_i_NoTable] = true := by kernel_rfl
  have ln : prg.exc.length = 2 := by kernel_rfl
  refine ⟨St1 f' [], ?_⟩
  rw [run_at (F := f_law) rfl _ _ rfl rfl]
  simp [f_law, fl, q, rd, n3 _, n6 _, n7 _, n8 _, n9 _, n10 _, n11 _, sb, ln, lookF]
end HI
set_option Elab.async false
set_option linter.all false
set_option maxRecDepth 100000
namespace HI
def fuelL : Nat := 40
end HI
open PySem PySem.W PySem.Calls PyProof.Rows in
set_option maxRecDepth 100000 in
set_option maxHeartbeats 0 in
theorem PySem.Challenge.cw_kindweft_k10_kinds_read_off_holds : PySem.Challenge.rw_kindweft_k10_kinds_read_off.Holds := by
  w_on; o_law
  refine HandSHeadRun.head_any (r := OpenLaw.row PySem.Challenge.rw_kindweft_k10_kinds_read_off) (q := view (OpenLaw.row PySem.Challenge.rw_kindweft_k10_kinds_read_off).prog [31]) (H := HI.hk) (ob := HI.ob) (M := 4000) (loose := HI.loose) (d := HandSHeadRun.topDef (OpenLaw.row PySem.Challenge.rw_kindweft_k10_kinds_read_off).prog 31) (kwd := []) HI.ob_eq
    (by kernel_rfl) (fun s => by kernel_rfl) HI.run_top (by kernel_rfl) (by kernel_rfl) (by kernel_rfl) (by rfl) (by first | assumption | decide +kernel) (by decide +kernel) ⟨rfl, rfl, rfl, rfl, rfl, by decide +kernel⟩ ?hw ?hc
  case hw => w_witness2
  case hc =>
    refine HI.walkEB (l := PySem.Challenge.rw_kindweft_k10_kinds_read_off) (n := 63) (k := HI.lv HI.prg (HI.fuelL + 1)) (x := "_law_script") rfl (by decide) (by kernel_rfl) ⟨rfl, by decide +kernel, by decide +kernel⟩ ?F
    intro w mg fa h Y G hmg0
    obtain ⟨K, KX, c⟩ := Y
    have hmg : mg ("law" : PySem.Str) = some (.ref fa) := by
      have e : (HandSHeadRun.topDef (OpenLaw.row PySem.Challenge.rw_kindweft_k10_kinds_read_off).prog 31).name = ("law" : PySem.Str) := by kernel_rfl
      rw [← e]
      exact hmg0
    obtain ⟨fd, sp, hb, hsp, hF⟩ := HI.hi_law (l := PySem.Challenge.rw_kindweft_k10_kinds_read_off) (w := w) (G := HI.gam) (P := HI.prg) (dl := HI.dl) (xl := HI.xl) (ts := HI.tbs) (n := 63) (i := 21) (fuel := HI.fuelL) (x := "_law_script") (x0 := "law") (d := HI.d_law) (fa := fa) (FL := HI.f_law) (NL := HI.n_law)
      KX G c HI.fn_all rfl (by decide) HI.ex_all rfl rfl (by decide +kernel) (by decide +kernel) rfl rfl HI.sc_law rfl rfl (by decide) HI.chk_law HI.bd_law rfl rfl hmg HI.law_true
    exact ⟨K, fd, sp, KX, hb, hsp, hF⟩
