import PyProof.Rows.All
import Wide.All
import OpenK.AllK
import Wide.FinOn
import HandS.ForMost
import HandS.Walk
import HandS.Zip
import HandS.Flow
import HandS.IsInst
import HandS.TupAny
import HandS.Star
import HandS.Style
import HandS.Wide
import HandS.DictComp
import HandS.ForExc
import KE.DataCmp
import KE.DataEq
import KE.DataAny
import KE.DataIsa
import KE.KDictKeyed
import KE.KeyNested
import KE.GoesMore
import KE.GoesEnum
import KE.KDictZip
import KE.KDictPairs
import HandS.Codes
import PySem.Challenge.RW_prefixkeys_k13_whole_known_plans
set_option Elab.async false
set_option linter.all false
set_option maxRecDepth 100000
set_option maxHeartbeats 4000000
/-! En: the values, the small language, its evaluator -/
namespace En
open PySem

/-- the world -/
class Wd where
  w : World
inductive D where
  | d (x : PyData)
  | ty (n : String)
  | scr (ns : List Int)
  | cel (n : Nat)
  | dic (kvs : List (PyData × PyData))
  | dit (kvs : List (PyData × PyData))
  | mix (ds : List D)

inductive Cell where
  | lst (xs : List PyData)
  | dead

abbrev Hs := List Cell
abbrev Env := List (Option D)
structure Xn where
  cls : Str
  fs : List (Str × PyData)

inductive R (α : Type) where
  | ok (a : α) (h : Hs)
  | ex (x : Xn) (h : Hs)
  | no

@[reducible, inline] def R.bind {α β : Type} (r : R α) (f : α → Hs → R β) : R β :=
  match r with
  | .ok a h => f a h
  | .ex x h => .ex x h
  | .no => .no

inductive Ty where
  | bool | int | str | list | tuple | dict
inductive Bi where
  | abs | int | len | tuple | list | all | any
inductive Mt where
  | append | extend | join | startswith
inductive Tg where
  | nm (i : Nat)
  | tp (is : List Nat)

inductive E where
  | nil
  | cons (a r : E)
  | star (a r : E)
  | fz (a : E)
  | var (i : Nat)
  | glo (x : Str) (v : PyData)
  | cst (v : PyData)
  | bin (o : Operator) (m : Bool) (a b : E)
  | neg (a : E)
  | cmp (o : CmpOp) (a b : E)
  | chn (o p : CmpOp) (a b c : E)
  | bop (o : BoolOp) (es : E)
  | not (a : E)
  | ife (c a b : E)
  | tup (es : E)
  | lst (m : Bool) (es : E)
  | ix (a i : E)
  | sl (a lo hi : E)
  | call (f : Str) (es : E)
  | bi (b : Bi) (m : Bool) (es : E)
  | isi (a : E) (ts : List Ty) (t : Bool)
  | mth (m : Mt) (o : E) (es : E)
  | dz (a b : E)
  | lc (m : Bool) (own : List Nat) (tg : Tg) (it ifs elt : E)
  | lc2 (own vs1 : List Nat) (tg : Tg) (it ifs : E) (tg1 : Tg) (it1 ifs1 elt : E)
  | dc (own : List Nat) (tg : Tg) (it ifs k v : E)
  | enu (a : E)
  | zip (a b : E)
  | rng (a : E)

inductive S where
  | nil
  | seq (s r : S)
  | asg (i : Nat) (e : E)
  | unp (is : List Nat) (e : E)
  | par (i j : Nat) (a b : E)
  | sto (o i e : E)
  | exp (e : E)
  | ret (e : E)
  | retN
  | ite (c : E) (a b : S)
  | for_ (tg : Tg) (it : E) (b : S)
  | whl (c : E) (b : S)
  | rai
  | pass
  | brk
  | cnt

inductive Fl where
  | nx | bk | ct
  | rt (d : D)

/-! ### data -/
def plainL : List D → Option (List PyData)
  | [] => some []
  | .d x :: r => (plainL r).map (x :: ·)
  | _ :: _ => none
/-- a sequence of plain things: is it a tuple, its items -/
def vw (v : D) (h : Hs) : Option (Bool × List PyData) :=
  match v with
  | .d (.list xs) => some (false, xs)
  | .d (.tuple xs) => some (true, xs)
  | .scr ns => some (false, ns.map .int)
  | .cel n => match h[n]? with
    | some (.lst xs) => some (false, xs)
    | _ => none
  | _ => none
def tupD (ds : List D) (h : Hs) : R D :=
  if ds.length ≤ sizeLine then
    match plainL ds with
    | some xs => .ok (.d (.tuple xs)) h
    | none => .ok (.mix ds) h
  else .no
/-- a new list: a cell of its own, or never changed -/
def mkL (m : Bool) (xs : List PyData) (h : Hs) : R D :=
  if xs.length ≤ sizeLine then
    if m then .ok (.cel h.length) (h ++ [.lst xs]) else .ok (.d (.list xs)) h
  else .no
def lstD (m : Bool) (ds : List D) (h : Hs) : R D :=
  match plainL ds with
  | some xs => mkL m xs h
  | none => .no

def cmul (i j : Int) : Bool := decide ((-(2 ^ 64) < i ∧ i < 2 ^ 64) ∨ (-(2 ^ 64) < j ∧ j < 2 ^ 64))

/-- a list that is tracked -/
def vwL (v : D) (h : Hs) : Option (List PyData) :=
  match v with
  | .d (.list xs) => some xs
  | .cel n => match h[n]? with
    | some (.lst xs) => some xs
    | _ => none
  | _ => none
def arI (o : Operator) (i j : Int) (h : Hs) : R D :=
  match o with
  | .Add => .ok (.d (.int (i + j))) h
  | .Sub => .ok (.d (.int (i - j))) h
  | .Mult => if cmul i j then .ok (.d (.int (i * j))) h else .no
  | .FloorDiv => if decide (0 < j ∧ j < 1073741824) then .ok (.d (.int (i / j))) h else .no
  | .Mod => if decide (0 < j) then .ok (.d (.int (i % j))) h else .no
  | .Pow => if decide (0 ≤ j ∧ j ≤ 1000 ∧ i.natAbs < 2 ^ 64) then .ok (.d (.int (i ^ j.toNat))) h else .no
  | _ => .no
def catD (m : Bool) (x y : D) (h : Hs) : R D :=
  match vwL x h, vwL y h with
  | some a, some b => mkL m (a ++ b) h
  | _, _ => .no
def mulD (m : Bool) (x : D) (j : Int) (h : Hs) : R D :=
  match vwL x h with
  | some a => if decide (-(2 ^ 63) ≤ j ∧ j < 2 ^ 63 ∧ a.length * j.toNat ≤ sizeLine) then mkL m (List.replicate j.toNat a).flatten h else .no
  | none => .no
def binD (o : Operator) (m : Bool) (x y : D) (h : Hs) : R D :=
  match x, y with
  | .d (.int i), .d (.int j) => arI o i j h
  | .d (.str a), .d (.str b) => (match o with
    | .Add => if a.length + b.length ≤ sizeLine then .ok (.d (.str (a ++ b))) h else .no
    | _ => .no)
  | .d (.tuple a), .d (.tuple b) => (match o with
    | .Add => if a.length + b.length ≤ sizeLine then .ok (.d (.tuple (a ++ b))) h else .no
    | _ => .no)
  | .d (.str a), .d (.int j) => (match o with
    | .Mult => if decide (0 ≤ j ∧ j < 2 ^ 63 ∧ a.length * j.toNat ≤ 100000) then .ok (.d (.str (Txt.mul a j))) h else .no
    | _ => .no)
  | x, .d (.int j) => (match o with
    | .Mult => mulD m x j h
    | _ => .no)
  | x, y => (match o with
    | .Add => catD m x y h
    | _ => .no)

def shal (x y : PyData) : Bool := x.plain && y.plain && decide (min x.depth y.depth ≤ 64)
def ordOk (x y : PyData) : Bool := PySem.W.alike x y && (match x with | .none => false | _ => true) && decide (min x.depth y.depth ≤ 64)

mutual
/-- what may be a key: None, ints, texts, tuples of such -/
def nk : PyData → Option NestedKey
  | .none => some .none
  | .int i => some (.num i)
  | .str x => some (.text x)
  | .tuple xs => (nks xs).map .tup
  | .bool _ => none
  | .list _ => none
  | .dict _ => none
def nks : List PyData → Option (List NestedKey)
  | [] => some []
  | x :: xs => match nk x, nks xs with
    | some a, some b => some (a :: b)
    | _, _ => none
end
def keyEq (a b : PyData) : Bool := match nk a, nk b with
  | some x, some y => NestedKey.beq x y
  | _, _ => false
def tupKey (a : PyData) : Bool := match nk a with
  | some (.tup ks) => decide ((NestedKey.tup ks).depth ≤ 8)
  | _ => false
def dicGet (kvs : List (PyData × PyData)) (k : PyData) : Option PyData := (kvs.find? fun p => keyEq p.1 k).map (·.2)
def dicPut (kvs : List (PyData × PyData)) (k v : PyData) : List (PyData × PyData) :=
  if (kvs.any fun p => keyEq p.1 k) then kvs.map (fun p => if keyEq p.1 k then (p.1, v) else p) else kvs ++ [(k, v)]

def isNoneP : PyData → Bool
  | .none => true
  | _ => false
def cmpD (o : CmpOp) (x y : D) (h : Hs) : R D :=
  match o, x, y with
  | .Eq, .d a, .d b => if shal a b then .ok (.d (.bool (PyData.eqv a b))) h else .no
  | .NotEq, .d a, .d b => if shal a b then .ok (.d (.bool (!PyData.eqv a b))) h else .no
  | .Lt, .d a, .d b => if ordOk a b then .ok (.d (.bool (PySem.W.dataLt a b))) h else .no
  | .Gt, .d a, .d b => if ordOk a b then .ok (.d (.bool (PySem.W.dataLt b a))) h else .no
  | .LtE, .d a, .d b => if ordOk a b then .ok (.d (.bool (!PySem.W.dataLt b a))) h else .no
  | .GtE, .d a, .d b => if ordOk a b then .ok (.d (.bool (!PySem.W.dataLt a b))) h else .no
  | .In, .d (.str a), .d (.str b) => .ok (.d (.bool (!(Builtin.Str.occurrences b a 0 b.length 1).isEmpty))) h
  | .NotIn, .d (.str a), .d (.str b) => .ok (.d (.bool (!(!(Builtin.Str.occurrences b a 0 b.length 1).isEmpty)))) h
  | .In, .d a, .d (.list b) => if shal a (.list b) then .ok (.d (.bool (b.any fun z => PyData.eqv z a))) h else .no
  | .NotIn, .d a, .d (.list b) => if shal a (.list b) then .ok (.d (.bool (!b.any fun z => PyData.eqv z a))) h else .no
  | .In, .d a, .d (.tuple b) => if shal a (.tuple b) then .ok (.d (.bool (b.any fun z => PyData.eqv z a))) h else .no
  | .NotIn, .d a, .d (.tuple b) => if shal a (.tuple b) then .ok (.d (.bool (!b.any fun z => PyData.eqv z a))) h else .no
  | .In, .d (.str a), .dic kvs => .ok (.d (.bool (dicGet kvs (.str a)).isSome)) h
  | .NotIn, .d (.str a), .dic kvs => .ok (.d (.bool (!(dicGet kvs (.str a)).isSome))) h
  | .Is, .d a, .d .none => .ok (.d (.bool (isNoneP a))) h
  | .IsNot, .d a, .d .none => .ok (.d (.bool (!isNoneP a))) h
  | _, _, _ => .no

def truD (x : D) (h : Hs) : R Bool :=
  match x with
  | .d .none => .ok false h
  | .d (.bool b) => .ok b h
  | .d (.int i) => .ok (i != 0) h
  | .d (.str s) => if s.length ≤ sizeLine then .ok ((s.length : Int) != 0) h else .no
  | .d (.list xs) => .ok (!xs.isEmpty) h
  | .d (.tuple xs) => .ok (!xs.isEmpty) h
  | .cel n => match h[n]? with
    | some (.lst xs) => .ok (!xs.isEmpty) h
    | _ => .no
  | _ => .no

def dicIx (kvs : List (PyData × PyData)) (i : D) (h : Hs) : R D :=
  match i with
  | .d (.str a) => (match dicGet kvs (.str a) with | some v => .ok (.d v) h | none => .no)
  | _ => .no
def ditIx (kvs : List (PyData × PyData)) (i : D) (h : Hs) : R D :=
  match i with
  | .d a => if tupKey a then (match dicGet kvs a with | some v => .ok (.d v) h | none => .no) else .no
  | _ => .no
def seqIx (x i : D) (h : Hs) : R D :=
  match x, i with
  | .d (.str s), .d (.int j) => if s.length ≤ sizeLine then (match L2.atI s.cps.toList j with | some c => .ok (.d (.str ⟨#[c]⟩)) h | none => .no) else .no
  | x, .d (.int j) => match vw x h with
    | some (_, xs) => (match L2.atI xs j with | some v => .ok (.d v) h | none => .no)
    | none => (match x with
      | .mix ds => (match L2.atI ds j with | some v => .ok v h | none => .no)
      | _ => .no)
  | _, _ => .no
def ixD (x i : D) (h : Hs) : R D := match x with
  | .dic kvs => dicIx kvs i h
  | .dit kvs => ditIx kvs i h
  | x => seqIx x i h

def cutP {α : Type} (xs : List α) (lo hi : Option Int) : List α :=
  (xs.drop (HT.sIx xs.length 0 lo)).take (HT.sIx xs.length xs.length hi - HT.sIx xs.length 0 lo)
def bnd : Option D → Option (Option Int)
  | none => some none
  | some (.d (.int i)) => some (some i)
  | _ => none
def slD (x : D) (lo hi : Option D) (h : Hs) : R D :=
  match bnd lo, bnd hi with
  | some a, some b =>
    (match x with
    | .d (.str s) => if s.length ≤ sizeLine then .ok (.d (.str (L2.cutS s a b))) h else .no
    | x => match vw x h with
      | some (true, xs) => .ok (.d (.tuple (cutP xs a b))) h
      | some (false, xs) => .ok (.d (.list (cutP xs a b))) h
      | none => .no)
  | _, _ => .no

def lenD (x : D) (h : Hs) : Option Nat :=
  match x with
  | .d (.str s) => if s.length ≤ sizeLine then some s.length else none
  | .dic kvs => some kvs.length
  | .mix ds => some ds.length
  | x => (vw x h).map (·.2.length)
def boolsOf : List PyData → Option (List Bool)
  | [] => some []
  | .bool b :: r => (boolsOf r).map (b :: ·)
  | _ :: _ => none
def strsOf : List PyData → Option (List Str)
  | [] => some []
  | .str b :: r => (strsOf r).map (b :: ·)
  | _ :: _ => none

def biD (b : Bi) (m : Bool) (ds : List D) (h : Hs) : R D :=
  match b, ds with
  | .abs, [.d (.int i)] => .ok (.d (.int (if i < 0 then -i else i))) h
  | .int, [.d (.int i)] => .ok (.d (.int i)) h
  | .int, [.d (.bool b)] => .ok (.d (.int (if b then 1 else 0))) h
  | .len, [x] => (match lenD x h with | some n => .ok (.d (.int (n : Int))) h | none => .no)
  | .tuple, [x] => (match vw x h with | some (_, xs) => .ok (.d (.tuple xs)) h | none => .no)
  | .list, [x] => (match vw x h with | some (_, xs) => mkL m xs h | none => .no)
  | .all, [x] => (match vw x h with | some (false, xs) => (match boolsOf xs with | some bs => .ok (.d (.bool (bs.all id))) h | none => .no) | _ => .no)
  | .any, [x] => (match vw x h with | some (false, xs) => (match boolsOf xs with | some bs => .ok (.d (.bool (bs.any id))) h | none => .no) | _ => .no)
  | _, _ => .no

def tyD (x : D) : Option Ty :=
  match x with
  | .d (.bool _) => some .bool
  | .d (.int _) => some .int
  | .d (.str _) => some .str
  | .d (.list _) => some .list
  | .d (.tuple _) => some .tuple
  | .mix _ => some .tuple
  | .scr _ => some .list
  | .cel _ => some .list
  | .dic _ => some .dict
  | _ => none
/-- is a thing of the kind a one of b -/
def subTy : Ty → Ty → Bool
  | .bool, .bool => true
  | .bool, .int => true
  | .int, .int => true
  | .str, .str => true
  | .list, .list => true
  | .tuple, .tuple => true
  | .dict, .dict => true
  | _, _ => false
def isNoneD : D → Bool
  | .d .none => true
  | _ => false
/-- no cell that has gone -/
def liveD (x : D) (h : Hs) : Bool := match x with
  | .cel n => (match h[n]? with
    | some (.lst _) => true
    | _ => false)
  | _ => true
def isiD (x : D) (ts : List Ty) (h : Hs) : Option Bool :=
  if isNoneD x then some false else if liveD x h then (tyD x).map fun t => ts.any (subTy t) else none

def mthD (m : Mt) (o : D) (ds : List D) (h : Hs) : R D :=
  match m, o, ds with
  | .append, .cel n, [.d x] => (match h[n]? with
    | some (.lst xs) => if xs.length < sizeLine then .ok (.d .none) (h.set n (.lst (xs ++ [x]))) else .no
    | _ => .no)
  | .extend, .cel n, [.d (.list ys)] => (match h[n]? with
    | some (.lst xs) => if xs.length + ys.length ≤ sizeLine then .ok (.d .none) (h.set n (.lst (xs ++ ys))) else .no
    | _ => .no)
  | .join, .d (.str s), [x] => (match vw x h with
    | some (_, xs) => (match strsOf xs with
      | some ys => if (ys.map (·.length)).sum + ys.length * s.length ≤ 16777216 then .ok (.d (.str (Txt.join s ys))) h else .no
      | none => .no)
    | none => .no)
  | .startswith, .d (.str a), [.d (.str b)] => .ok (.d (.bool (Txt.startswith a b))) h
  | _, _, _ => .no

/-- the receiver of a method -/
def rcvOk (m : Mt) (x : D) (h : Hs) : Bool := match m with
  | .append => (vwL x h).isSome
  | .extend => (vwL x h).isSome
  | .join => (match x with | .d (.str _) => true | _ => false)
  | .startswith => (match x with | .d (.str _) => true | _ => false)
/-- what is walked -/
def seqD (x : D) : Option (List D) :=
  match x with
  | .d (.list xs) => some (xs.map .d)
  | .d (.tuple xs) => some (xs.map .d)
  | .d (.str s) => some (s.cps.toList.map fun c => .d (.str ⟨#[c]⟩))
  | .scr ns => some (ns.map fun n => .d (.int n))
  | _ => none
def vwF (x : D) : Option (Bool × List PyData) :=
  match x with
  | .d (.list xs) => some (false, xs)
  | .d (.tuple xs) => some (true, xs)
  | .scr ns => some (false, ns.map .int)
  | _ => none
def enumP : Nat → List PyData → List D
  | _, [] => []
  | n, x :: r => .d (.tuple [.int (n : Int), x]) :: enumP (n + 1) r
def rngP : Int → Nat → List D
  | _, 0 => []
  | i, n + 1 => .d (.int i) :: rngP (i + 1) n

def setAll : List Nat → List D → Env → Option Env
  | [], [], σ => some σ
  | i :: is, x :: xs, σ => setAll is xs (σ.set i (some x))
  | _, _, _ => none
def tupItems : D → Option (List D)
  | .d (.tuple xs) => some (xs.map .d)
  | .mix ds => some ds
  | _ => none
def bindTg (t : Tg) (x : D) (σ : Env) : Option Env :=
  match t with
  | .nm i => some (σ.set i (some x))
  | .tp is => match tupItems x with
    | some ds => if ds.length = is.length then setAll is ds σ else none
    | none => none
def wipeE (σ : Env) : List Nat → Env
  | [] => σ
  | v :: vs => (wipeE σ vs).set v none

/-- a comprehension's walk: each turn's own cells go -/
def compL (n : Nat) (f : D → Hs → R (Option PyData)) : List D → Hs → R (List PyData)
  | [], h => .ok [] h
  | x :: r, h => (f x h).bind fun o h1 => (compL n f r (h1.take n)).bind fun ys h2 => .ok (o.toList ++ ys) h2
def plain1 : D → Option PyData
  | .d x => some x
  | _ => none
def some1 (r : R D) : R (Option PyData) := r.bind fun x h => match plain1 x with
  | some y => .ok (some y) h
  | none => .no

/-- what a piece of the language means: as a value, a row of values, a part that may be left out, in a chain of and, or; as a test; as what is walked -/
structure Sm where
  nil : Bool
  v : Env → Hs → R D
  l : Env → Hs → R (List D)
  o : Env → Hs → R (Option D)
  b : BoolOp → Env → Hs → R D
  t : Env → Hs → R Bool
  tb : BoolOp → Env → Hs → R Bool
  ts : Env → Hs → R Bool
  it : Env → Hs → R (List D)

/-- and, or: go on, or stay -/
def sel {α : Type} (op : BoolOp) (t : Bool) (go stay : R α) : R α := match op, t with
  | .And, true => go
  | .And, false => stay
  | .Or, true => stay
  | .Or, false => go
abbrev No {α : Type} : Env → Hs → R α := fun _ _ => .no
def seqR (x : D) (h : Hs) : R (List D) := match seqD x with
  | some ds => .ok ds h
  | none => .no
/-- a value -/
def mkV (v : Env → Hs → R D) : Sm := ⟨false, v, No, No, fun _ => No, fun σ h => (v σ h).bind truD, fun _ => No, No, fun σ h => (v σ h).bind seqR⟩
/-- a value with a test of its own -/
def mkT (v : Env → Hs → R D) (t : Env → Hs → R Bool) : Sm := ⟨false, v, No, No, fun _ => No, t, fun _ => No, No, fun σ h => (v σ h).bind seqR⟩
/-- only walked -/
def mkI (i : Env → Hs → R (List D)) : Sm := ⟨false, No, No, No, fun _ => No, No, fun _ => No, No, i⟩
def smNil : Sm := ⟨true, No, fun _ h => .ok [] h, fun _ h => .ok none h, fun _ => No, No, fun _ => No, fun _ h => .ok true h, No⟩
def smCons (a r : Sm) : Sm where
  nil := false
  v := No
  l := fun σ h => (a.v σ h).bind fun x h1 => (r.l σ h1).bind fun xs h2 => .ok (x :: xs) h2
  o := fun σ h => if r.nil then (a.v σ h).bind fun x h1 => .ok (some x) h1 else .no
  b := fun o σ h => if r.nil then a.v σ h else (a.v σ h).bind fun x h1 => (truD x h1).bind fun t h2 => sel o t (r.b o σ h2) (.ok x h2)
  t := No
  tb := fun o σ h => if r.nil then a.t σ h else (a.t σ h).bind fun t h2 => sel o t (r.tb o σ h2) (.ok t h2)
  ts := fun σ h => if r.nil then a.t σ h else .no
  it := No
def smStar (a r : Sm) : Sm where
  nil := false
  v := No
  l := fun σ h => (a.v σ h).bind fun x h1 => match vwF x with
    | some (_, ys) => (r.l σ h1).bind fun xs h2 => .ok (ys.map .d ++ xs) h2
    | none => .no
  o := No
  b := fun _ => No
  t := No
  tb := fun _ => No
  ts := No
  it := No
def unL : PyData → List PyData
  | .list l => l
  | _ => []
def turn (own : List Nat) (tg : Tg) (ifs : Sm) (k : Env → Hs → R (Option PyData)) (σ : Env) (x : D) (h : Hs) : R (Option PyData) :=
  match bindTg tg x (wipeE σ own) with
  | some σ2 => (ifs.ts σ2 h).bind fun b h3 => if b then k σ2 h3 else .ok none h3
  | none => .no
def in2 (mi1 : Env → Hs → R (List D)) (vs1 : List Nat) (t1 : Tg) (ifs1 : Sm) (me : Env → Hs → R D) : Env → Hs → R (Option PyData) := fun σ2 h3 =>
  (mi1 σ2 h3).bind fun ds1 h4 => (compL h4.length (turn vs1 t1 ifs1 (fun σ3 h6 => some1 (me σ3 h6)) σ2) ds1 h4).bind fun ys h5 => .ok (some (.list ys)) h5
def dcPut (m : List (PyData × PyData)) (p : PyData) : List (PyData × PyData) := match p with
  | .tuple [a, b] => dicPut m a b
  | _ => m
def strP (p : PyData) : Bool := match p with
  | .tuple [.str _, _] => true
  | _ => false
def tupP (p : PyData) : Bool := match p with
  | .tuple [a, _] => tupKey a
  | _ => false
def dcR (ys : List PyData) (h : Hs) : R D :=
  if ys.length ≤ 100000 then (if ys.all strP then .ok (.dic (ys.foldl dcPut [])) h else if ys.all tupP then .ok (.dit (ys.foldl dcPut [])) h else .no) else .no
def pairR (kx vx : D) (h : Hs) : R (Option PyData) := match plain1 kx, plain1 vx with
  | some kk, some vv => .ok (some (.tuple [kk, vv])) h
  | _, _ => .no
def zipD (x y : D) (h : Hs) : R D := match vwF x, vwF y with
  | some (true, xs), some (true, ys) => (match strsOf xs with
    | some ks => if xs.length ≤ 1000 then .ok (.dic ((ks.zip ys).foldl (fun m p => dicPut m (.str p.1) p.2) [])) h else .no
    | none => .no)
  | _, _ => .no
def negD (x : D) (h : Hs) : R D := match x with
  | .d (.int i) => .ok (.d (.int (-i))) h
  | _ => .no
def isiR (x : D) (ts : List Ty) (h : Hs) : R D := match isiD x ts h with
  | some b => .ok (.d (.bool b)) h
  | none => .no
def zipW (x y : D) (h : Hs) : R (List D) := match vwF x, vwF y with
  | some (a, xs), some (b, ys) => if a = b then .ok ((xs.zip ys).map fun p => .d (.tuple [p.1, p.2])) h else .no
  | _, _ => .no
def enuW (x : D) (h : Hs) : R (List D) := match vwF x with
  | some (_, xs) => .ok (enumP 0 xs) h
  | none => .no
def rngW (x : D) (h : Hs) : R (List D) := match x with
  | .d (.int n) => if decide (-(2 ^ 30) < n ∧ n < 2 ^ 30) then .ok (rngP 0 n.toNat) h else .no
  | _ => .no

/-- a list that will not change again -/
def fzD (x : D) (h : Hs) : R D := match x with
  | .cel n => (match h[n]? with
    | some (.lst xs) => .ok (.d (.list xs)) (h.set n .dead)
    | _ => .no)
  | x => .ok x h

def sem (C : Str → List D → Hs → R D) : E → Sm
  | .nil => smNil
  | .cons a r => smCons (sem C a) (sem C r)
  | .star a r => smStar (sem C a) (sem C r)
  | .var i => mkV fun σ h => match σ[i]? with
    | some (some x) => .ok x h
    | _ => .no
  | .fz a => mkV fun σ h => ((sem C a).v σ h).bind fzD
  | .glo _ v => mkV fun _ h => .ok (.d v) h
  | .cst v => mkV fun _ h => .ok (.d v) h
  | .bin o m a b => mkV fun σ h => ((sem C a).v σ h).bind fun x h1 => ((sem C b).v σ h1).bind fun y h2 => binD o m x y h2
  | .neg a => mkV fun σ h => ((sem C a).v σ h).bind negD
  | .cmp o a b => mkV fun σ h => ((sem C a).v σ h).bind fun x h1 => ((sem C b).v σ h1).bind fun y h2 => cmpD o x y h2
  | .chn o p a b c => mkV fun σ h => ((sem C a).v σ h).bind fun x h1 => ((sem C b).v σ h1).bind fun y h2 => (cmpD o x y h2).bind fun t h3 => (truD t h3).bind fun k h4 =>
      if k then ((sem C c).v σ h4).bind fun z h5 => cmpD p y z h5 else .ok (.d (.bool false)) h4
  | .bop o es => mkT (fun σ h => (sem C es).b o σ h) (fun σ h => (sem C es).tb o σ h)
  | .not a => mkT (fun σ h => ((sem C a).v σ h).bind fun x h1 => (truD x h1).bind fun b h2 => .ok (.d (.bool (!b))) h2) (fun σ h => ((sem C a).t σ h).bind fun b h1 => .ok (!b) h1)
  | .ife c a b => mkT (fun σ h => ((sem C c).t σ h).bind fun t h1 => if t then (sem C a).v σ h1 else (sem C b).v σ h1) No
  | .tup es => mkV fun σ h => ((sem C es).l σ h).bind tupD
  | .lst m es => mkV fun σ h => ((sem C es).l σ h).bind (lstD m)
  | .ix a i => mkV fun σ h => ((sem C a).v σ h).bind fun x h1 => ((sem C i).v σ h1).bind fun y h2 => ixD x y h2
  | .sl a lo hi => mkV fun σ h => ((sem C a).v σ h).bind fun x h1 => ((sem C lo).o σ h1).bind fun y h2 => ((sem C hi).o σ h2).bind fun z h3 => slD x y z h3
  | .call f es => mkV fun σ h => ((sem C es).l σ h).bind (C f)
  | .bi b m es => mkV fun σ h => ((sem C es).l σ h).bind (biD b m)
  | .isi a ts _ => mkV fun σ h => ((sem C a).v σ h).bind fun x h1 => isiR x ts h1
  | .mth m o es => mkV fun σ h => ((sem C o).v σ h).bind fun x h1 => if rcvOk m x h1 then ((sem C es).l σ h1).bind (mthD m x) else .no
  | .dz a b => mkV fun σ h => ((sem C a).v σ h).bind fun x h1 => ((sem C b).v σ h1).bind fun y h2 => zipD x y h2
  | .lc m own tg it ifs elt => mkV fun σ h => ((sem C it).it σ h).bind fun ds h1 =>
      (compL h1.length (turn own tg (sem C ifs) (fun σ2 h3 => some1 ((sem C elt).v σ2 h3)) σ) ds h1).bind fun ys h2 => mkL m ys h2
  | .lc2 own vs1 tg it ifs tg1 it1 ifs1 elt => mkV fun σ h => ((sem C it).it σ h).bind fun ds h1 =>
      (compL h1.length (turn own tg (sem C ifs) (in2 (sem C it1).it vs1 tg1 (sem C ifs1) (sem C elt).v) σ) ds h1).bind fun yss h2 => mkL false (yss.flatMap unL) h2
  | .dc own tg it ifs k v => mkV fun σ h => ((sem C it).it σ h).bind fun ds h1 =>
      (compL h1.length (turn own tg (sem C ifs) (fun σ2 h3 => ((sem C k).v σ2 h3).bind fun kx h4 => ((sem C v).v σ2 h4).bind fun vx h5 => pairR kx vx h5) σ) ds h1).bind dcR
  | .enu a => mkI fun σ h => ((sem C a).v σ h).bind enuW
  | .zip a b => mkI fun σ h => ((sem C a).v σ h).bind fun x h1 => ((sem C b).v σ h1).bind fun y h2 => zipW x y h2
  | .rng a => mkI fun σ h => ((sem C a).v σ h).bind rngW

def loopF (f : D → Env → Hs → R (Fl × Env)) : List D → Env → Hs → R (Fl × Env)
  | [], σ, h => .ok (.nx, σ) h
  | x :: r, σ, h => (f x σ h).bind fun p h1 => match p.1 with
    | .nx => loopF f r p.2 h1
    | .ct => loopF f r p.2 h1
    | .bk => .ok (.nx, p.2) h1
    | .rt y => .ok (.rt y, p.2) h1
def whlF (t : Env → Hs → R Bool) (f : Env → Hs → R (Fl × Env)) : Nat → Env → Hs → R (Fl × Env)
  | 0, _, _ => .no
  | n + 1, σ, h => (t σ h).bind fun b h1 => if b then (f σ h1).bind fun p h2 => (match p.1 with
    | .nx => whlF t f n p.2 h2
    | .ct => whlF t f n p.2 h2
    | .bk => .ok (.nx, p.2) h2
    | .rt y => .ok (.rt y, p.2) h2) else .ok (.nx, σ) h1

/-- the most turns of a while -/
def fuel : Nat := 1000000
def stoD (o i x : D) (h : Hs) : Option Hs := match o, i, x with
  | .cel n, .d (.int j), .d y => (match h[n]? with
    | some (.lst xs) => (match L2.ixN xs.length j with
      | some k => some (h.set n (.lst (xs.set k y)))
      | none => none)
    | _ => none)
  | _, _, _ => none

def run (C : Str → List D → Hs → R D) : S → Env → Hs → R (Fl × Env)
  | .nil, σ, h => .ok (.nx, σ) h
  | .seq s r, σ, h => (run C s σ h).bind fun p h1 => match p.1 with
    | .nx => run C r p.2 h1
    | f => .ok (f, p.2) h1
  | .asg i e, σ, h => ((sem C e).v σ h).bind fun x h1 => .ok (.nx, σ.set i (some x)) h1
  | .unp is e, σ, h => ((sem C e).v σ h).bind fun x h1 => match bindTg (.tp is) x σ with
    | some σ1 => .ok (.nx, σ1) h1
    | none => .no
  | .par i j a b, σ, h => ((sem C a).v σ h).bind fun x h1 => ((sem C b).v σ h1).bind fun y h2 => .ok (.nx, (σ.set i (some x)).set j (some y)) h2
  | .sto o i e, σ, h => ((sem C e).v σ h).bind fun x h1 => ((sem C o).v σ h1).bind fun y h2 => ((sem C i).v σ h2).bind fun z h3 => match stoD y z x h3 with
    | some h4 => .ok (.nx, σ) h4
    | none => .no
  | .exp e, σ, h => ((sem C e).v σ h).bind fun _ h1 => .ok (.nx, σ) h1
  | .ret e, σ, h => ((sem C e).v σ h).bind fun x h1 => .ok (.rt x, σ) h1
  | .retN, σ, h => .ok (.rt (.d .none), σ) h
  | .ite c a b, σ, h => ((sem C c).t σ h).bind fun t h1 => if t then run C a σ h1 else run C b σ h1
  | .for_ tg it b, σ, h => ((sem C it).it σ h).bind fun ds h1 => loopF (fun x σ1 h2 => match bindTg tg x σ1 with
    | some σ2 => run C b σ2 h2
    | none => .no) ds σ h1
  | .whl c b, σ, h => whlF (sem C c).t (run C b) fuel σ h
  | .rai, _, _ => .no
  | .pass, σ, h => .ok (.nx, σ) h
  | .brk, σ, h => .ok (.bk, σ) h
  | .cnt, σ, h => .ok (.ct, σ) h

structure Fn where
  np : Nat
  nn : Nat
  frz : Bool
  body : S

/-- behind a def: its own cells go; a new list that it hands back is a cell of the caller's, or never changes again -/
def leave (frz : Bool) (n : Nat) (x : D) (h : Hs) : R D := match x with
  | .cel m => if m < n then .ok x (h.take n) else (match h[m]? with
    | some (.lst xs) => if frz then .ok (.d (.list xs)) (h.take n) else .ok (.cel (h.take n).length) (h.take n ++ [.lst xs])
    | _ => .no)
  | .mix _ => .no
  | x => .ok x (h.take n)
def startE (fn : Fn) (ds : List D) : Env := ds.map some ++ List.replicate (fn.nn - ds.length) none
def runF (C : Str → List D → Hs → R D) (fn : Fn) (ds : List D) (h : Hs) : R D :=
  if ds.length = fn.np then (run C fn.body (startE fn ds) h).bind fun p h1 => match p.1 with
    | .rt x => leave fn.frz h.length x h1
    | .nx => leave fn.frz h.length (.d .none) h1
    | _ => .no
  else .no
abbrev Prog := List (Str × Fn)
def callN (P : Prog) : Nat → Str → List D → Hs → R D
  | 0, _, _, _ => .no
  | k + 1, f, ds, h => match P.lookup f with
    | some fn => runF (callN P k) fn ds h
    | none => .no
end En
/-! En: what stands for what -/
namespace En
open PySem L2
variable [Wd]

mutual
inductive Dq (K : PySem.W.Frag) (F : Hp) : V → PyData → Prop
  | non : Dq K F .non .none
  | bl (b : Bool) : Dq K F (.bl b) (.bool b)
  | int (i : Int) : Dq K F (.int i) (.int i)
  | str (x : Str) : Dq K F (.str x) (.str x)
  | lst {a : Addr} {vs : List V} {xs : List PyData} : F a = some (.lst vs) → DqA K F vs xs → Dq K F (.ref a) (.list xs)
  | tup {a : Addr} {vs : List V} {xs : List PyData} : SqT K F a vs → DqA K F vs xs → Dq K F (.ref a) (.tuple xs)
inductive DqA (K : PySem.W.Frag) (F : Hp) : List V → List PyData → Prop
  | nil : DqA K F [] []
  | cons {v : V} {vs : List V} {x : PyData} {xs : List PyData} : Dq K F v x → DqA K F vs xs → DqA K F (v :: vs) (x :: xs)
end

section
variable {K : PySem.W.Frag} {F F' H : Hp}
theorem sqT_mono (s : Same F F') {a : Addr} {vs : List V} (h : SqT K F a vs) : SqT K F' a vs := by
  rcases h with (h | ⟨o, h⟩) | h
  · exact .inl (.inl (s _ _ h))
  · exact .inl (.inr ⟨o, s _ _ h⟩)
  · exact .inr h
theorem sqL_mono (s : Same F F') {a : Addr} {vs : List V} (h : SqL K F a vs) : SqL K F' a vs := s.seq h
mutual
theorem Dq.mono (s : Same F F') : ∀ (x : PyData) (v : V), Dq K F v x → Dq K F' v x
  | .none, _, h => by cases h; exact .non
  | .bool b, _, h => by cases h; exact .bl b
  | .int b, _, h => by cases h; exact .int b
  | .str b, _, h => by cases h; exact .str b
  | .list xs, _, h => by
    cases h with
    | lst h1 h2 => exact .lst (s _ _ h1) (DqA.mono s xs _ h2)
  | .tuple xs, _, h => by
    cases h with
    | tup h1 h2 => exact .tup (sqT_mono s h1) (DqA.mono s xs _ h2)
  | .dict _, _, h => by cases h
theorem DqA.mono (s : Same F F') : ∀ (xs : List PyData) (vs : List V), DqA K F vs xs → DqA K F' vs xs
  | [], _, h => by cases h; exact .nil
  | x :: xs, _, h => by
    cases h with
    | cons h1 h2 => exact .cons (Dq.mono s x _ h1) (DqA.mono s xs _ h2)
end
mutual
theorem Dq.dp (s : Same F H) : ∀ (x : PyData) (v : V), Dq K F v x → Dp K H v x
  | .none, _, h => by cases h; exact .non
  | .bool b, _, h => by cases h; exact .bl b
  | .int b, _, h => by cases h; exact .int b
  | .str b, _, h => by cases h; exact .str b
  | .list xs, _, h => by
    cases h with
    | lst h1 h2 => exact .lst (.inl (.inl (s _ _ h1))) (DqA.dp s xs _ h2)
  | .tuple xs, _, h => by
    cases h with
    | tup h1 h2 => exact .tup (sqT_mono s h1) (DqA.dp s xs _ h2)
  | .dict _, _, h => by cases h
theorem DqA.dp (s : Same F H) : ∀ (xs : List PyData) (vs : List V), DqA K F vs xs → DpAll K H vs xs
  | [], _, h => by cases h; exact .nil
  | x :: xs, _, h => by
    cases h with
    | cons h1 h2 => exact .cons (Dq.dp s x _ h1) (DqA.dp s xs _ h2)
end
theorem DqA.len : ∀ {xs : List PyData} {vs : List V}, DqA K F vs xs → vs.length = xs.length
  | [], _, h => by cases h; rfl
  | x :: xs, _, h => by
    cases h with
    | cons _ h2 => exact congrArg (· + 1) (DqA.len h2)
theorem DqA.app : ∀ {xs : List PyData} {vs : List V} {ys : List PyData} {ws : List V}, DqA K F vs xs → DqA K F ws ys → DqA K F (vs ++ ws) (xs ++ ys)
  | [], _, _, _, h, g => by cases h; exact g
  | x :: xs, _, _, _, h, g => by
    cases h with
    | cons h1 h2 => exact .cons h1 (DqA.app h2 g)
theorem DqA.drop : ∀ {xs : List PyData} {vs : List V} (n : Nat), DqA K F vs xs → DqA K F (vs.drop n) (xs.drop n)
  | _, _, 0, h => h
  | [], _, n + 1, h => by cases h; exact .nil
  | x :: xs, _, n + 1, h => by
    cases h with
    | cons h1 h2 => exact DqA.drop n h2
theorem DqA.take : ∀ {xs : List PyData} {vs : List V} (n : Nat), DqA K F vs xs → DqA K F (vs.take n) (xs.take n)
  | _, _, 0, _ => by simp only [List.take_zero]; exact .nil
  | [], _, n + 1, h => by cases h; exact .nil
  | x :: xs, _, n + 1, h => by
    cases h with
    | cons h1 h2 => exact .cons h1 (DqA.take n h2)
theorem DqA.get : ∀ {xs : List PyData} {vs : List V} {i : Nat} {x : PyData}, DqA K F vs xs → xs[i]? = some x → ∃ v, vs[i]? = some v ∧ Dq K F v x
  | [], _, _, _, _, e => by simp at e
  | y :: ys, _, 0, x, h, e => by
    cases h with
    | cons h1 h2 =>
      simp only [List.getElem?_cons_zero, Option.some.injEq] at e
      subst e
      exact ⟨_, rfl, h1⟩
  | y :: ys, _, i + 1, x, h, e => by
    cases h with
    | cons h1 h2 =>
      simp only [List.getElem?_cons_succ] at e ⊢
      exact DqA.get h2 e
theorem DqA.put : ∀ {xs : List PyData} {vs : List V} {x : PyData} {v : V} (i : Nat), DqA K F vs xs → Dq K F v x → DqA K F (vs.set i v) (xs.set i x)
  | [], _, _, _, _, h, _ => by cases h; exact .nil
  | y :: ys, _, _, _, 0, h, g => by
    cases h with
    | cons h1 h2 => exact .cons g h2
  | y :: ys, _, _, _, i + 1, h, g => by
    cases h with
    | cons h1 h2 => exact .cons h1 (DqA.put i h2 g)
theorem DqA.rep {xs : List PyData} {vs : List V} (h : DqA K F vs xs) : ∀ n : Nat, DqA K F (List.replicate n vs).flatten (List.replicate n xs).flatten
  | 0 => .nil
  | n + 1 => by
    rw [List.replicate_succ, List.replicate_succ, List.flatten_cons, List.flatten_cons]
    exact h.app (DqA.rep h n)
theorem dq_ints (ns : List Int) : DqA K F (ns.map V.int) (ns.map PyData.int) := by
  induction ns with
  | nil => exact .nil
  | cons n ns ih => exact .cons (.int n) ih
theorem dq_strs : ∀ {xs : List PyData} {vs : List V} {ys : List Str}, DqA K F vs xs → strsOf xs = some ys → vs = ys.map V.str
  | [], _, _, h, e => by cases h; cases e; rfl
  | .str b :: xs, _, ys, h, e => by
    cases h with
    | cons h1 h2 =>
      cases h1
      simp only [strsOf] at e
      obtain ⟨zs, e1, e2⟩ := Option.map_eq_some_iff.mp e
      subst e2
      rw [dq_strs h2 e1]
      rfl
  | .none :: _, _, _, _, e => by cases e
  | .bool _ :: _, _, _, _, e => by cases e
  | .int _ :: _, _, _, _, e => by cases e
  | .list _ :: _, _, _, _, e => by cases e
  | .tuple _ :: _, _, _, _, e => by cases e
  | .dict _ :: _, _, _, _, e => by cases e
theorem dq_bools : ∀ {xs : List PyData} {vs : List V} {ys : List Bool}, DqA K F vs xs → boolsOf xs = some ys → vs = ys.map V.bl
  | [], _, _, h, e => by cases h; cases e; rfl
  | .bool b :: xs, _, ys, h, e => by
    cases h with
    | cons h1 h2 =>
      cases h1
      simp only [boolsOf] at e
      obtain ⟨zs, e1, e2⟩ := Option.map_eq_some_iff.mp e
      subst e2
      rw [dq_bools h2 e1]
      rfl
  | .none :: _, _, _, _, e => by cases e
  | .str _ :: _, _, _, _, e => by cases e
  | .int _ :: _, _, _, _, e => by cases e
  | .list _ :: _, _, _, _, e => by cases e
  | .tuple _ :: _, _, _, _, e => by cases e
  | .dict _ :: _, _, _, _, e => by cases e
end

/-- a dict that never changes: its keys are texts -/
inductive DicA (K : PySem.W.Frag) (F : Hp) : List (Key × V) → List (PyData × PyData) → Prop
  | nil : DicA K F [] []
  | cons {k : Str} {v : V} {x : PyData} {kvs : List (Key × V)} {ps : List (PyData × PyData)} : Dq K F v x → DicA K F kvs ps → DicA K F ((.inr k, v) :: kvs) ((.str k, x) :: ps)
def DicO (K : PySem.W.Frag) (F : Hp) (a : Addr) (ps : List (PyData × PyData)) : Prop := ∃ kvs, F a = some (.dK kvs) ∧ DicA K F kvs ps

/-- the one object of a dict whose keys are tuples -/
def kdx (xs : List (NestedKey × Addr × Value)) (a : Addr) (h : Heap) : Prop :=
  ∃ o es ep, h.get? a = some o ∧ o.ExactDict ∧ o.data = .dict es ep ∧ es.toList = xs.map (fun x => ⟨NestedKey.hash Wd.w x.1, .ref x.2.1, x.2.2⟩) ∧ (xs.map (·.1)).Nodup
inductive DicT (K : PySem.W.Frag) (F : Hp) : List (NestedKey × Addr × Value) → List (PyData × PyData) → Prop
  | nil : DicT K F [] []
  | cons {k : NestedKey} {b : Addr} {u : Value} {v : V} {a x : PyData} {xs : List (NestedKey × Addr × Value)} {ps : List (PyData × PyData)} : nk a = some k → tupKey a = true → Dq K F (.ref b) a → RelV v u → Dq K F v x → DicT K F xs ps → DicT K F ((k, b, u) :: xs) ((a, x) :: ps)

mutual
def Rep (K : PySem.W.Frag) (F : Hp) (ρ : List Addr) : D → V → Prop
  | .d x, v => Dq K F v x
  | .ty n, v => v = .ty n
  | .scr ns, v => ∃ a, v = .ref a ∧ SqL K F a (ns.map V.int)
  | .cel n, v => ∃ a, ρ[n]? = some a ∧ v = .ref a
  | .dic ps, v => ∃ a, v = .ref a ∧ DicO K F a ps
  | .dit ps, v => ∃ a, v = .ref a ∧ ∃ xs, F a = some (.ext (kdx xs a)) ∧ DicT K F xs ps
  | .mix ds, v => ∃ a vs, v = .ref a ∧ SqT K F a vs ∧ RepL K F ρ ds vs
def RepL (K : PySem.W.Frag) (F : Hp) (ρ : List Addr) : List D → List V → Prop
  | [], vs => vs = []
  | x :: xs, vs => ∃ v r, vs = v :: r ∧ Rep K F ρ x v ∧ RepL K F ρ xs r
end

/-- more stands behind: what never changes stays, cells keep their numbers -/
structure Ext (F : Hp) (ρ : List Addr) (F' : Hp) (ρ' : List Addr) : Prop where
  f : Same F F'
  r : ρ <+: ρ'
theorem Ext.refl (F : Hp) (ρ : List Addr) : Ext F ρ F ρ := ⟨Same.refl F, List.prefix_refl ρ⟩
theorem Ext.trans {F F1 F2 : Hp} {ρ ρ1 ρ2 : List Addr} (a : Ext F ρ F1 ρ1) (b : Ext F1 ρ1 F2 ρ2) : Ext F ρ F2 ρ2 := ⟨a.f.trans b.f, a.r.trans b.r⟩
theorem Ext.get {F F' : Hp} {ρ ρ' : List Addr} (e : Ext F ρ F' ρ') {n : Nat} {a : Addr} (h : ρ[n]? = some a) : ρ'[n]? = some a := by
  obtain ⟨t, rfl⟩ := e.r
  have hn : n < ρ.length := (List.getElem?_eq_some_iff.mp h).1
  rw [List.getElem?_append_left hn]
  exact h

/-- .. and all that is tracked stays, but for the cells; new cells stand where nothing stood -/
structure Exh (F : Hp) (ρ : List Addr) (H F' : Hp) (ρ' : List Addr) (H' : Hp) : Prop extends Ext F ρ F' ρ' where
  k : ∀ (b : Addr) (o : HO), H b = some o → b ∉ ρ → H' b = some o
  n : ∀ b ∈ ρ', b ∈ ρ ∨ H b = none
  m : ∀ (b : Addr) (o : HO), H b = some o → b ∉ ρ → F b = none → F' b = none
theorem Exh.refl (F : Hp) (ρ : List Addr) (H : Hp) : Exh F ρ H F ρ H := ⟨Ext.refl F ρ, fun _ _ e _ => e, fun _ e => .inl e, fun _ _ _ _ e => e⟩
theorem Exh.trans {F F1 F2 H H1 H2 : Hp} {ρ ρ1 ρ2 : List Addr} (a : Exh F ρ H F1 ρ1 H1) (b : Exh F1 ρ1 H1 F2 ρ2 H2) : Exh F ρ H F2 ρ2 H2 := by
  have off : ∀ c o, H c = some o → c ∉ ρ → c ∉ ρ1 := fun c o e hc hm => by
    rcases a.n c hm with z | z
    · exact hc z
    · rw [e] at z; cases z
  refine ⟨a.toExt.trans b.toExt, fun c o e hc => b.k c o (a.k c o e hc) (off c o e hc), fun c hc => ?_, fun c o e hc f => b.m c o (a.k c o e hc) (off c o e hc) (a.m c o e hc f)⟩
  · rcases b.n c hc with z | z
    · exact a.n c z
    · by_cases hm : c ∈ ρ
      · exact .inl hm
      · cases q : H c with
        | none => exact .inr rfl
        | some o =>
          have := a.k c o q hm
          rw [z] at this; cases this
theorem exh_new {F H : Hp} {ρ : List Addr} {p : Addr} {o : HO} (hp : H p = none) (sm : Same F (upd F p o)) : Exh F ρ H (upd F p o) ρ (upd H p o) :=
  ⟨⟨sm, List.prefix_refl ρ⟩, fun b u e _ => by rw [upd_ne (ne_of_none e hp)]; exact e, fun _ e => .inl e, fun b u e _ f => by rw [upd_ne (ne_of_none e hp)]; exact f⟩

theorem exh_more {F H : Hp} {ρ : List Addr} {p : Addr} {o : HO} (hp : H p = none) : Exh F ρ H F ρ (upd H p o) :=
  ⟨Ext.refl F ρ, fun b u e _ => by rw [upd_ne (ne_of_none e hp)]; exact e, fun _ e => .inl e, fun _ _ _ _ e => e⟩
theorem exh_put {F H : Hp} {ρ : List Addr} {n : Nat} {a : Addr} {o : HO} (e : ρ[n]? = some a) : Exh F ρ H F ρ (upd H a o) :=
  ⟨Ext.refl F ρ, fun b u e' hb => by rw [upd_ne (fun z => hb (by rw [z]; exact List.mem_of_getElem? e))]; exact e', fun _ e => .inl e, fun _ _ _ _ e => e⟩

section
variable {K : PySem.W.Frag} {F F' : Hp} {ρ ρ' : List Addr}
theorem DicA.mono (s : Same F F') : ∀ {kvs : List (Key × V)} {ps : List (PyData × PyData)}, DicA K F kvs ps → DicA K F' kvs ps
  | _, _, .nil => .nil
  | _, _, .cons h t => .cons (Dq.mono s _ _ h) (DicA.mono s t)
theorem DicT.mono (s : Same F F') : ∀ {xs : List (NestedKey × Addr × Value)} {ps : List (PyData × PyData)}, DicT K F xs ps → DicT K F' xs ps
  | _, _, .nil => .nil
  | _, _, .cons h1 h2 h3 h4 h5 t => .cons h1 h2 (Dq.mono s _ _ h3) h4 (Dq.mono s _ _ h5) (DicT.mono s t)
mutual
theorem Rep.mono (e : Ext F ρ F' ρ') : ∀ (d : D) (v : V), Rep K F ρ d v → Rep K F' ρ' d v
  | .d x, _, h => Dq.mono e.f x _ h
  | .ty _, _, h => h
  | .scr _, _, h => by
    obtain ⟨a, h1, h2⟩ := h
    exact ⟨a, h1, sqL_mono e.f h2⟩
  | .cel _, _, h => by
    obtain ⟨a, h1, h2⟩ := h
    exact ⟨a, e.get h1, h2⟩
  | .dic _, _, h => by
    obtain ⟨a, h1, kvs, h2, h3⟩ := h
    exact ⟨a, h1, kvs, e.f _ _ h2, h3.mono e.f⟩
  | .dit _, _, h => by
    obtain ⟨a, h1, xs, h2, h3⟩ := h
    exact ⟨a, h1, xs, e.f _ _ h2, h3.mono e.f⟩
  | .mix ds, _, h => by
    obtain ⟨a, vs, h1, h2, h3⟩ := h
    exact ⟨a, vs, h1, sqT_mono e.f h2, RepL.mono e ds vs h3⟩
theorem RepL.mono (e : Ext F ρ F' ρ') : ∀ (ds : List D) (vs : List V), RepL K F ρ ds vs → RepL K F' ρ' ds vs
  | [], _, h => h
  | x :: xs, _, h => by
    obtain ⟨v, r, h1, h2, h3⟩ := h
    exact ⟨v, r, h1, Rep.mono e x v h2, RepL.mono e xs r h3⟩
end
theorem RepL.len : ∀ {ds : List D} {vs : List V}, RepL K F ρ ds vs → vs.length = ds.length
  | [], _, h => by
    have h' : _ = [] := h
    rw [h']; rfl
  | x :: xs, _, h => by
    obtain ⟨v, r, rfl, _, h3⟩ := h
    simp [RepL.len h3]
theorem repL_plain : ∀ {ds : List D} {vs : List V} {xs : List PyData}, RepL K F ρ ds vs → plainL ds = some xs → DqA K F vs xs
  | [], _, _, h, e => by
    have h' : _ = [] := h
    cases e; rw [h']; exact .nil
  | .d x :: ds, _, xs, h, e => by
    obtain ⟨v, r, rfl, h2, h3⟩ := h
    simp only [plainL] at e
    obtain ⟨ys, e1, e2⟩ := Option.map_eq_some_iff.mp e
    subst e2
    exact .cons h2 (repL_plain h3 e1)
  | .ty _ :: _, _, _, _, e => by cases e
  | .scr _ :: _, _, _, _, e => by cases e
  | .cel _ :: _, _, _, _, e => by cases e
  | .dic _ :: _, _, _, _, e => by cases e
  | .dit _ :: _, _, _, _, e => by cases e
  | .mix _ :: _, _, _, _, e => by cases e
theorem repL_d : ∀ {xs : List PyData} {vs : List V}, DqA K F vs xs → RepL K F ρ (xs.map .d) vs
  | [], _, h => by cases h; rfl
  | x :: xs, _, h => by
    cases h with
    | cons h1 h2 => exact ⟨_, _, rfl, h1, repL_d h2⟩
theorem RepL.app : ∀ {ds : List D} {vs : List V} {es : List D} {ws : List V}, RepL K F ρ ds vs → RepL K F ρ es ws → RepL K F ρ (ds ++ es) (vs ++ ws)
  | [], _, _, _, h, g => by
    have h' : _ = [] := h
    rw [h']; exact g
  | x :: xs, _, _, _, h, g => by
    obtain ⟨v, r, rfl, h2, h3⟩ := h
    exact ⟨v, _, rfl, h2, RepL.app h3 g⟩
theorem RepL.get : ∀ {ds : List D} {vs : List V} {i : Nat} {x : D}, RepL K F ρ ds vs → ds[i]? = some x → ∃ v, vs[i]? = some v ∧ Rep K F ρ x v
  | [], _, _, _, _, e => by simp at e
  | y :: ys, _, 0, x, h, e => by
    obtain ⟨v, r, rfl, h2, h3⟩ := h
    simp only [List.getElem?_cons_zero, Option.some.injEq] at e
    subst e
    exact ⟨v, rfl, h2⟩
  | y :: ys, _, i + 1, x, h, e => by
    obtain ⟨v, r, rfl, h2, h3⟩ := h
    simp only [List.getElem?_cons_succ] at e ⊢
    exact RepL.get h3 e
end

def CellOk (K : PySem.W.Frag) (F H : Hp) (a : Addr) : Cell → Prop
  | .lst xs => F a = none ∧ ∃ vs, H a = some (.lst vs) ∧ DqA K F vs xs
  | .dead => True
theorem nodup_at {α : Type} : ∀ {l : List α} {i j : Nat} {a : α}, l.Nodup → l[i]? = some a → l[j]? = some a → i = j
  | [], _, _, _, _, h, _ => by simp at h
  | x :: l, 0, 0, _, _, _, _ => rfl
  | x :: l, 0, j + 1, a, nd, h1, h2 => by
    simp only [List.getElem?_cons_zero, Option.some.injEq] at h1
    simp only [List.getElem?_cons_succ] at h2
    subst h1
    exact absurd (List.mem_of_getElem? h2) (List.nodup_cons.mp nd).1
  | x :: l, i + 1, 0, a, nd, h1, h2 => by
    simp only [List.getElem?_cons_zero, Option.some.injEq] at h2
    simp only [List.getElem?_cons_succ] at h1
    subst h2
    exact absurd (List.mem_of_getElem? h1) (List.nodup_cons.mp nd).1
  | x :: l, i + 1, j + 1, a, nd, h1, h2 => by
    simp only [List.getElem?_cons_succ] at h1 h2
    rw [nodup_at (List.nodup_cons.mp nd).2 h1 h2]
/-- the state as it is meant -/
structure Stt (K : PySem.W.Frag) (F : Hp) (ρ : List Addr) (h : Hs) (H : Hp) : Prop where
  same : Same F H
  len : ρ.length = h.length
  nd : ρ.Nodup
  cell : ∀ (n : Nat) (a : Addr) (c : Cell), ρ[n]? = some a → h[n]? = some c → CellOk K F H a c ∧ ∃ o, H a = some o

/-- the names' values -/
structure EnvOk (K : PySem.W.Frag) (F : Hp) (ρ : List Addr) (σ : Env) (τ : St) : Prop where
  len : σ.length = τ.length
  get : ∀ (i : Nat) (x : D), σ[i]? = some (some x) → ∃ v, τ[i]? = some (some v) ∧ Rep K F ρ x v
section
variable {K : PySem.W.Frag} {F F' H : Hp} {ρ ρ' : List Addr} {σ : Env} {τ : St} {h : Hs}
theorem EnvOk.mono (e : Ext F ρ F' ρ') (x : EnvOk K F ρ σ τ) : EnvOk K F' ρ' σ τ := ⟨x.len, fun i d q => by
  obtain ⟨v, h1, h2⟩ := x.get i d q
  exact ⟨v, h1, Rep.mono e _ _ h2⟩⟩
theorem EnvOk.put (x : EnvOk K F ρ σ τ) (i : Nat) {d : D} {v : V} (r : Rep K F ρ d v) : EnvOk K F ρ (σ.set i (some d)) (τ.set i (some v)) := by
  refine ⟨by rw [List.length_set, List.length_set]; exact x.len, fun j d' q => ?_⟩
  by_cases hj : i = j
  · subst hj
    have hi : i < σ.length := by
      have := (List.getElem?_eq_some_iff.mp q).1
      rwa [List.length_set] at this
    rw [List.getElem?_set_self hi] at q
    cases q
    exact ⟨v, List.getElem?_set_self (by rw [← x.len]; exact hi), r⟩
  · rw [List.getElem?_set_ne hj] at q
    obtain ⟨v', h1, h2⟩ := x.get j d' q
    exact ⟨v', by rw [List.getElem?_set_ne hj]; exact h1, h2⟩
theorem EnvOk.wipe (x : EnvOk K F ρ σ τ) : ∀ vs : List Nat, EnvOk K F ρ (wipeE σ vs) (L2.wipe τ vs)
  | [] => x
  | v :: vs => by
    have ih := EnvOk.wipe x vs
    refine ⟨by unfold wipeE L2.wipe; rw [List.length_set, List.length_set]; exact ih.len, fun j d q => ?_⟩
    unfold wipeE at q
    unfold L2.wipe
    by_cases hj : v = j
    · subst hj
      have hi : v < (wipeE σ vs).length := by
        have := (List.getElem?_eq_some_iff.mp q).1
        rwa [List.length_set] at this
      rw [List.getElem?_set_self hi] at q
      cases q
    · rw [List.getElem?_set_ne hj] at q
      obtain ⟨v', h1, h2⟩ := ih.get j d q
      exact ⟨v', by rw [List.getElem?_set_ne hj]; exact h1, h2⟩

/-- the same heap but for what is not tracked by F or the cells -/
theorem Stt.more (s : Stt K F ρ h H) {p : Addr} {o : HO} (hp : H p = none) : Stt K F ρ h (upd H p o) := by
  refine ⟨fun b u q => ?_, s.len, s.nd, fun n a c q1 q2 => ?_⟩
  · have := s.same b u q
    rw [upd_ne (ne_of_none this hp)]
    exact this
  · obtain ⟨q, u, hu⟩ := s.cell n a c q1 q2
    have ne : a ≠ p := ne_of_none hu hp
    refine ⟨?_, u, by rw [upd_ne ne]; exact hu⟩
    cases c with
    | dead => trivial
    | lst xs =>
      obtain ⟨f0, vs, h1, h2⟩ := q
      exact ⟨f0, vs, by rw [upd_ne ne]; exact h1, h2⟩
/-- a new thing that never changes -/
theorem Stt.new (s : Stt K F ρ h H) {p : Addr} {o : HO} (hp : H p = none) : Stt K (upd F p o) ρ h (upd H p o) ∧ Same F (upd F p o) ∧ F p = none := by
  have fp : F p = none := by
    cases q : F p with
    | none => rfl
    | some u =>
      have := s.same p u q
      rw [hp] at this; cases this
  have sm : Same F (upd F p o) := fun b u q => by
    rw [upd_ne (ne_of_none q fp)]
    exact q
  refine ⟨⟨fun b u q => ?_, s.len, s.nd, fun n a c q1 q2 => ?_⟩, sm, fp⟩
  · by_cases hb : b = p
    · subst hb
      rw [upd_same] at q ⊢
      exact q
    · rw [upd_ne hb] at q ⊢
      exact s.same b u q
  · obtain ⟨q, u, hu⟩ := s.cell n a c q1 q2
    have ne : a ≠ p := ne_of_none hu hp
    refine ⟨?_, u, by rw [upd_ne ne]; exact hu⟩
    cases c with
    | dead => trivial
    | lst xs =>
      obtain ⟨f0, vs, h1, h2⟩ := q
      exact ⟨by rw [upd_ne ne]; exact f0, vs, by rw [upd_ne ne]; exact h1, DqA.mono sm _ _ h2⟩
/-- a new cell -/
theorem Stt.cellNew (s : Stt K F ρ h H) {p : Addr} {vs : List V} {xs : List PyData} (hp : H p = none) (q : DqA K F vs xs) : Stt K F (ρ ++ [p]) (h ++ [.lst xs]) (upd H p (.lst vs)) := by
  have fp : F p = none := by
    cases q : F p with
    | none => rfl
    | some u =>
      have := s.same p u q
      rw [hp] at this; cases this
  have t := s.more (o := .lst vs) hp
  have np : p ∉ ρ := fun hm => by
    obtain ⟨n, hn⟩ := List.getElem?_of_mem hm
    have hl : n < h.length := by rw [← s.len]; exact (List.getElem?_eq_some_iff.mp hn).1
    obtain ⟨_, u, hu⟩ := s.cell n p _ hn (List.getElem?_eq_getElem hl)
    rw [hp] at hu; cases hu
  refine ⟨t.same, by simp [s.len], ?_, fun n a c q1 q2 => ?_⟩
  · rw [List.nodup_append]
    refine ⟨s.nd, List.nodup_cons.mpr ⟨by simp, List.nodup_nil⟩, fun x hx y hy => ?_⟩
    rw [List.mem_singleton] at hy
    subst hy
    rintro rfl
    exact np hx
  · by_cases hn : n < ρ.length
    · rw [List.getElem?_append_left hn] at q1
      rw [List.getElem?_append_left (by rw [← s.len]; exact hn)] at q2
      exact t.cell n a c q1 q2
    · have e1 : n = ρ.length := by
        have := (List.getElem?_eq_some_iff.mp q1).1
        rw [List.length_append, List.length_singleton] at this
        omega
      subst e1
      rw [List.getElem?_append_right (Nat.le_refl _), Nat.sub_self] at q1
      rw [s.len, List.getElem?_append_right (Nat.le_refl _), Nat.sub_self] at q2
      cases q1; cases q2
      exact ⟨⟨fp, vs, upd_same, q⟩, _, upd_same⟩
/-- a cell's list is changed -/
theorem Stt.cellPut (s : Stt K F ρ h H) {n : Nat} {a : Addr} {xs ys : List PyData} {ws : List V} (e1 : ρ[n]? = some a) (e2 : h[n]? = some (.lst xs)) (q : DqA K F ws ys) : Stt K F ρ (h.set n (.lst ys)) (upd H a (.lst ws)) := by
  obtain ⟨⟨f0, vs, h1, h2⟩, _⟩ := s.cell n a _ e1 e2
  refine ⟨fun b u r => ?_, by rw [List.length_set]; exact s.len, s.nd, fun m b c r1 r2 => ?_⟩
  · have ne : b ≠ a := fun z => by subst z; rw [f0] at r; cases r
    rw [upd_ne ne]
    exact s.same b u r
  · by_cases hm : n = m
    · subst hm
      rw [e1] at r1; cases r1
      have hl : n < h.length := (List.getElem?_eq_some_iff.mp e2).1
      rw [List.getElem?_set_self hl] at r2
      cases r2
      exact ⟨⟨f0, ws, upd_same, q⟩, _, upd_same⟩
    · rw [List.getElem?_set_ne hm] at r2
      obtain ⟨r, u, hu⟩ := s.cell m b c r1 r2
      have ne : b ≠ a := fun z => by
        subst z
        exact hm (nodup_at s.nd e1 r1)
      refine ⟨?_, u, by rw [upd_ne ne]; exact hu⟩
      cases c with
      | dead => trivial
      | lst zs =>
        obtain ⟨g0, us, g1, g2⟩ := r
        exact ⟨g0, us, by rw [upd_ne ne]; exact g1, g2⟩
/-- a cell that will not change again -/
theorem Stt.freeze (s : Stt K F ρ h H) {n : Nat} {a : Addr} {xs : List PyData} (e1 : ρ[n]? = some a) (e2 : h[n]? = some (.lst xs)) :
    ∃ F', Same F F' ∧ (∀ b, b ≠ a → F b = none → F' b = none) ∧ Stt K F' ρ (h.set n .dead) H ∧ Dq K F' (.ref a) (.list xs) := by
  obtain ⟨⟨f0, vs, h1, h2⟩, _⟩ := s.cell n a _ e1 e2
  have sm : Same F (upd F a (.lst vs)) := fun b u q => by
    rw [upd_ne (ne_of_none q f0)]
    exact q
  refine ⟨upd F a (.lst vs), sm, fun b ne e => by rw [upd_ne ne]; exact e, ⟨fun b u r => ?_, by rw [List.length_set]; exact s.len, s.nd, fun m b c r1 r2 => ?_⟩, .lst upd_same (DqA.mono sm _ _ h2)⟩
  · by_cases hb : b = a
    · subst hb
      rw [upd_same] at r
      cases r
      exact h1
    · rw [upd_ne hb] at r
      exact s.same b u r
  · by_cases hm : n = m
    · subst hm
      rw [e1] at r1; cases r1
      have hl : n < h.length := (List.getElem?_eq_some_iff.mp e2).1
      rw [List.getElem?_set_self hl] at r2
      cases r2
      exact ⟨trivial, _, h1⟩
    · rw [List.getElem?_set_ne hm] at r2
      obtain ⟨r, u, hu⟩ := s.cell m b c r1 r2
      have ne : b ≠ a := fun z => by
        subst z
        exact hm (nodup_at s.nd e1 r1)
      refine ⟨?_, u, hu⟩
      cases c with
      | dead => trivial
      | lst zs =>
        obtain ⟨g0, us, g1, g2⟩ := r
        exact ⟨by rw [upd_ne ne]; exact g0, us, g1, DqA.mono sm _ _ g2⟩
/-- the younger cells go -/
theorem Stt.cut (s : Stt K F ρ h H) (n : Nat) : Stt K F (ρ.take n) (h.take n) H := by
  refine ⟨s.same, by rw [List.length_take, List.length_take, s.len], s.nd.sublist (List.take_sublist _ _), fun m a c r1 r2 => ?_⟩
  have h1 : ρ[m]? = some a := by
    rw [List.getElem?_take] at r1
    split at r1
    · exact r1
    · cases r1
  have h2 : h[m]? = some c := by
    rw [List.getElem?_take] at r2
    split at r2
    · exact r2
    · cases r2
  exact s.cell m a c h1 h2
theorem take_pre {ρ0 : List Addr} (p : ρ0 <+: ρ) : ρ.take ρ0.length = ρ0 := by
  obtain ⟨t, rfl⟩ := p
  simp

/-- what is seen of a sequence -/
theorem vw_ok (s : Stt K F ρ h H) {x : D} {v : V} {t : Bool} {xs : List PyData} (r : Rep K F ρ x v) (e : vw x h = some (t, xs)) :
    ∃ a vs, v = .ref a ∧ DqA K F vs xs ∧ (if t = true then SqT K H a vs else SqL K H a vs) := by
  cases x with
  | d x =>
    cases x with
    | list ys =>
      cases e
      cases r with
      | lst h1 h2 => exact ⟨_, _, rfl, h2, by simpa using (SqL.of (s.same _ _ h1))⟩
    | tuple ys =>
      cases e
      cases r with
      | tup h1 h2 => exact ⟨_, _, rfl, h2, by simpa using sqT_mono s.same h1⟩
    | _ => cases e
  | scr ns =>
    cases e
    obtain ⟨a, rfl, h1⟩ := r
    exact ⟨a, _, rfl, dq_ints ns, by simpa using sqL_mono s.same h1⟩
  | cel n =>
    obtain ⟨a, h1, rfl⟩ := r
    simp only [vw] at e
    split at e
    · rename_i ys hh
      cases e
      obtain ⟨⟨_, vs, q1, q2⟩, _⟩ := s.cell n a _ h1 hh
      exact ⟨a, vs, rfl, q2, by simpa using SqL.of q1⟩
    · cases e
  | _ => cases e
theorem vwL_ok (s : Stt K F ρ h H) {x : D} {v : V} {xs : List PyData} (r : Rep K F ρ x v) (e : vwL x h = some xs) :
    ∃ a vs, v = .ref a ∧ DqA K F vs xs ∧ H a = some (.lst vs) := by
  cases x with
  | d x =>
    cases x with
    | list ys =>
      cases e
      cases r with
      | lst h1 h2 => exact ⟨_, _, rfl, h2, s.same _ _ h1⟩
    | _ => cases e
  | cel n =>
    obtain ⟨a, h1, rfl⟩ := r
    simp only [vwL] at e
    split at e
    · rename_i ys hh
      cases e
      obtain ⟨⟨_, vs, q1, q2⟩, _⟩ := s.cell n a _ h1 hh
      exact ⟨a, vs, rfl, q2, q1⟩
    · cases e
  | _ => cases e
theorem vwF_ok {x : D} {v : V} {t : Bool} {xs : List PyData} (r : Rep K F ρ x v) (e : vwF x = some (t, xs)) :
    ∃ a vs, v = .ref a ∧ DqA K F vs xs ∧ (if t = true then SqT K F a vs else SqL K F a vs) := by
  cases x with
  | d x =>
    cases x with
    | list ys =>
      cases e
      cases r with
      | lst h1 h2 => exact ⟨_, _, rfl, h2, by simpa using (SqL.of h1)⟩
    | tuple ys =>
      cases e
      cases r with
      | tup h1 h2 => exact ⟨_, _, rfl, h2, by simpa using h1⟩
    | _ => cases e
  | scr ns =>
    cases e
    obtain ⟨a, rfl, h1⟩ := r
    exact ⟨a, _, rfl, dq_ints ns, by simpa using h1⟩
  | _ => cases e
end
end En
/-! En: the readings, the operations by values -/
namespace En
open PySem L2
variable [Wd]

/-- a result and what is wanted behind it -/
def Fin (K : PySem.W.Frag) (F : Hp) (ρ : List Addr) (H : Hp) (r : R D) (Q : VK) : Prop := match r with
  | .ok x h' => ∀ (F' : Hp) (ρ' : List Addr) (H' : Hp) (v : V), Exh F ρ H F' ρ' H' → Stt K F' ρ' h' H' → Rep K F' ρ' x v → Q v H'
  | _ => False
def FinL (K : PySem.W.Frag) (F : Hp) (ρ : List Addr) (H : Hp) (r : R (List D)) (Q : List V → Hp → Prop) : Prop := match r with
  | .ok x h' => ∀ (F' : Hp) (ρ' : List Addr) (H' : Hp) (v : List V), Exh F ρ H F' ρ' H' → Stt K F' ρ' h' H' → RepL K F' ρ' x v → Q v H'
  | _ => False
def FinB (K : PySem.W.Frag) (F : Hp) (ρ : List Addr) (H : Hp) (r : R Bool) (Q : Bool → Hp → Prop) : Prop := match r with
  | .ok x h' => ∀ (F' : Hp) (ρ' : List Addr) (H' : Hp), Exh F ρ H F' ρ' H' → Stt K F' ρ' h' H' → Q x H'
  | _ => False
def rV (K : PySem.W.Frag) (m : Env → Hs → R D) : TE := fun τ H Q => ∃ F ρ σ h, Stt K F ρ h H ∧ EnvOk K F ρ σ τ ∧ Fin K F ρ H (m σ h) Q
def rL (K : PySem.W.Frag) (m : Env → Hs → R (List D)) : TA := fun τ H Q => ∃ F ρ σ h, Stt K F ρ h H ∧ EnvOk K F ρ σ τ ∧ FinL K F ρ H (m σ h) Q
def rT (K : PySem.W.Frag) (m : Env → Hs → R Bool) : TT := fun τ H Q => ∃ F ρ σ h, Stt K F ρ h H ∧ EnvOk K F ρ σ τ ∧ FinB K F ρ H (m σ h) Q
/-- operations by values -/
def rD1 (K : PySem.W.Frag) (g : D → Hs → R D) : V → Hp → VK → Prop := fun x H Q => ∃ F ρ h a, Stt K F ρ h H ∧ Rep K F ρ a x ∧ Fin K F ρ H (g a h) Q
def rD2 (K : PySem.W.Frag) (g : D → D → Hs → R D) : R2 := fun x y H Q => ∃ F ρ h a b, Stt K F ρ h H ∧ Rep K F ρ a x ∧ Rep K F ρ b y ∧ Fin K F ρ H (g a b h) Q
def rDL (K : PySem.W.Frag) (g : List D → Hs → R D) : List V → Hp → VK → Prop := fun vs H Q => ∃ F ρ h ds, Stt K F ρ h H ∧ RepL K F ρ ds vs ∧ Fin K F ρ H (g ds h) Q
def rDM (K : PySem.W.Frag) (g : D → List D → Hs → R D) : V → List V → Hp → VK → Prop := fun x vs H Q => ∃ F ρ h a ds, Stt K F ρ h H ∧ Rep K F ρ a x ∧ RepL K F ρ ds vs ∧ Fin K F ρ H (g a ds h) Q

section
variable {K : PySem.W.Frag} {F F' H H' : Hp} {ρ ρ' : List Addr} {h : Hs} {Q : VK}
theorem Fin.mono {r : R D} (e : Exh F ρ H F' ρ' H') (q : Fin K F ρ H r Q) : Fin K F' ρ' H' r Q := by
  cases r with
  | ok x h' => exact fun F2 ρ2 H2 v e2 st rp => q F2 ρ2 H2 v (e.trans e2) st rp
  | ex _ _ => exact q
  | no => exact q
theorem FinL.mono {r : R (List D)} {Q : List V → Hp → Prop} (e : Exh F ρ H F' ρ' H') (q : FinL K F ρ H r Q) : FinL K F' ρ' H' r Q := by
  cases r with
  | ok x h' => exact fun F2 ρ2 H2 v e2 st rp => q F2 ρ2 H2 v (e.trans e2) st rp
  | ex _ _ => exact q
  | no => exact q
theorem FinB.mono {r : R Bool} {Q : Bool → Hp → Prop} (e : Exh F ρ H F' ρ' H') (q : FinB K F ρ H r Q) : FinB K F' ρ' H' r Q := by
  cases r with
  | ok x h' => exact fun F2 ρ2 H2 e2 st => q F2 ρ2 H2 (e.trans e2) st
  | ex _ _ => exact q
  | no => exact q
theorem fin_val {x : D} {v : V} (st : Stt K F ρ h H) (q : Fin K F ρ H (.ok x h) Q) (r : Rep K F ρ x v) : Q v H := q F ρ H v (Exh.refl F ρ H) st r
theorem fin_tup {vs : List V} {xs : List PyData} (st : Stt K F ρ h H) (q : Fin K F ρ H (.ok (.d (.tuple xs)) h) Q) (r : DqA K F vs xs) : ∀ p, H p = none → Q (.ref p) (upd H p (.tup vs)) := fun p hp => by
  obtain ⟨s2, sm, fp⟩ := st.new (o := .tup vs) hp
  exact q _ ρ _ _ (exh_new hp sm) s2 (.tup (.inl (.inl upd_same)) (DqA.mono sm _ _ r))
theorem fin_lst {m : Bool} {vs : List V} {xs : List PyData} (st : Stt K F ρ h H) (q : Fin K F ρ H (mkL m xs h) Q) (r : DqA K F vs xs) : vs.length ≤ sizeLine ∧ ∀ p, H p = none → Q (.ref p) (upd H p (.lst vs)) := by
  unfold mkL at q
  split at q
  · rename_i hz
    refine ⟨by rw [r.len]; exact hz, fun p hp => ?_⟩
    cases m with
    | true =>
      have s2 := st.cellNew hp r
      refine q F (ρ ++ [p]) _ _ ⟨⟨Same.refl F, List.prefix_append ρ [p]⟩, fun b u e _ => by rw [upd_ne (ne_of_none e hp)]; exact e, fun b hb => ?_, fun _ _ _ _ e => e⟩ s2 ⟨p, ?_, rfl⟩
      · rcases List.mem_append.mp hb with z | z
        · exact .inl z
        · rw [List.mem_singleton] at z
          rw [z]
          exact .inr hp
      · rw [← st.len, List.getElem?_append_right (Nat.le_refl _), Nat.sub_self]
        rfl
    | false =>
      obtain ⟨s2, sm, fp⟩ := st.new (o := .lst vs) hp
      exact q _ ρ _ _ (exh_new hp sm) s2 (.lst upd_same (DqA.mono sm _ _ r))
  · exact q.elim
end

/-! ### weaker readings -/
section
variable {X : Cx}
theorem PE.imp {e : Expr} {t t' : TE} (h : PE X e t) (i : ∀ τ H Q, t' τ H Q → t τ H Q) : PE X e t' := ⟨fun pins s τ H Q I q => h.run pins s τ H Q I (i τ H Q q)⟩
theorem PT.imp {e : Expr} {t t' : TT} (h : PT X e t) (i : ∀ τ H Q, t' τ H Q → t τ H Q) : PT X e t' := ⟨fun pins s τ H Q I q => h.run pins s τ H Q I (i τ H Q q)⟩
theorem PW.imp {e : Expr} {t t' : TT} (h : PW X e t) (i : ∀ τ H Q, t' τ H Q → t τ H Q) : PW X e t' := ⟨fun wh pins s τ H Q I q => h.run wh pins s τ H Q I (i τ H Q q)⟩
theorem PA.imp {e : List Expr} {t t' : TA} (h : PA X e t) (i : ∀ τ H Q, t' τ H Q → t τ H Q) : PA X e t' := ⟨fun ps pins s τ H Q I q => h.run ps pins s τ H Q I (i τ H Q q)⟩
theorem PS.imp {e : Stmt} {t t' : TS} (h : PS X e t) (i : ∀ D τ H, t' D τ H → t D τ H) : PS X e t' := ⟨fun pins s τ H D I q => h.run pins s τ H D I (i D τ H q)⟩
theorem PSs.imp {e : List Stmt} {t t' : TS} (h : PSs X e t) (i : ∀ D τ H, t' D τ H → t D τ H) : PSs X e t' := ⟨fun pins s τ H D I q => h.run pins s τ H D I (i D τ H q)⟩
theorem PE.or {e : Expr} {t t' : TE} (h : PE X e t) (h' : PE X e t') : PE X e (fun τ H Q => t τ H Q ∨ t' τ H Q) := ⟨fun pins s τ H Q I q => by
  rcases q with q | q
  · exact h.run pins s τ H Q I q
  · exact h'.run pins s τ H Q I q⟩
theorem OpR.imp {f : Value → Value → Sem Value} {r r' : R2} (h : OpR X f r) (i : ∀ x y H Q, r' x y H Q → r x y H Q) : OpR X f r' := fun pins s τ H x y v u Q I rx ry q => h pins s τ H x y v u Q I rx ry (i x y H Q q)

/-! ### two values -/
variable {K : PySem.W.Frag}
theorem seq2 {ma mb : Env → Hs → R D} {g : D → D → Hs → R D} {τ : St} {H : Hp} {Q : VK} (q : rV K (fun σ h => (ma σ h).bind fun x h1 => (mb σ h1).bind fun y h2 => g x y h2) τ H Q) :
    tOp (rD2 K g) (rV K ma) (rV K mb) τ H Q := by
  obtain ⟨F, ρ, σ, h, st, eo, fin⟩ := q
  dsimp only at fin
  refine ⟨F, ρ, σ, h, st, eo, ?_⟩
  cases ea : ma σ h with
  | ok x h1 =>
    rw [ea] at fin
    intro F1 ρ1 H1 v e1 st1 r1
    refine ⟨F1, ρ1, σ, h1, st1, eo.mono e1.toExt, ?_⟩
    have fin : Fin K F ρ H ((mb σ h1).bind fun y h2 => g x y h2) Q := fin
    cases eb : mb σ h1 with
    | ok y h2 =>
      rw [eb] at fin
      intro F2 ρ2 H2 u e2 st2 r2
      exact ⟨F2, ρ2, h2, x, y, st2, Rep.mono e2.toExt _ _ r1, r2, Fin.mono (e1.trans e2) fin⟩
    | ex _ _ => rw [eb] at fin; exact fin
    | no => rw [eb] at fin; exact fin
  | ex _ _ => rw [ea] at fin; exact fin
  | no => rw [ea] at fin; exact fin
theorem seq1 {ma : Env → Hs → R D} {g : D → Hs → R D} {τ : St} {H : Hp} {Q : VK} (q : rV K (fun σ h => (ma σ h).bind g) τ H Q) : tUn (rD1 K g) (rV K ma) τ H Q := by
  obtain ⟨F, ρ, σ, h, st, eo, fin⟩ := q
  dsimp only at fin
  refine ⟨F, ρ, σ, h, st, eo, ?_⟩
  cases ea : ma σ h with
  | ok x h1 =>
    rw [ea] at fin
    intro F1 ρ1 H1 v e1 st1 r1
    exact ⟨F1, ρ1, h1, x, st1, r1, Fin.mono e1 fin⟩
  | ex _ _ => rw [ea] at fin; exact fin
  | no => rw [ea] at fin; exact fin
theorem seqL {ma : Env → Hs → R (List D)} {g : List D → Hs → R D} {τ : St} {H : Hp} {Q : VK} (q : rV K (fun σ h => (ma σ h).bind g) τ H Q) : rL K ma τ H fun vs H1 => rDL K g vs H1 Q := by
  obtain ⟨F, ρ, σ, h, st, eo, fin⟩ := q
  dsimp only at fin
  refine ⟨F, ρ, σ, h, st, eo, ?_⟩
  cases ea : ma σ h with
  | ok x h1 =>
    rw [ea] at fin
    intro F1 ρ1 H1 v e1 st1 r1
    exact ⟨F1, ρ1, h1, x, st1, r1, Fin.mono e1 fin⟩
  | ex _ _ => rw [ea] at fin; exact fin
  | no => rw [ea] at fin; exact fin
theorem seqM {ma : Env → Hs → R D} {mb : Env → Hs → R (List D)} {g : D → List D → Hs → R D} {c : D → Hs → Bool} {τ : St} {H : Hp} {Q : VK} (q : rV K (fun σ h => (ma σ h).bind fun x h1 => if c x h1 then (mb σ h1).bind (g x) else .no) τ H Q) :
    rV K ma τ H fun v H1 => (∃ F ρ h x, Stt K F ρ h H1 ∧ Rep K F ρ x v ∧ c x h = true) ∧ rL K mb τ H1 fun vs H2 => rDM K g v vs H2 Q := by
  obtain ⟨F, ρ, σ, h, st, eo, fin⟩ := q
  dsimp only at fin
  refine ⟨F, ρ, σ, h, st, eo, ?_⟩
  cases ea : ma σ h with
  | ok x h1 =>
    rw [ea] at fin
    intro F1 ρ1 H1 v e1 st1 r1
    have fin : Fin K F ρ H (if c x h1 then (mb σ h1).bind (g x) else .no) Q := fin
    cases hc : c x h1 with
    | false => rw [hc] at fin; exact fin.elim
    | true =>
    rw [hc] at fin
    have fin : Fin K F ρ H ((mb σ h1).bind (g x)) Q := fin
    refine ⟨⟨F1, ρ1, h1, x, st1, r1, hc⟩, F1, ρ1, σ, h1, st1, eo.mono e1.toExt, ?_⟩
    cases eb : mb σ h1 with
    | ok y h2 =>
      rw [eb] at fin
      intro F2 ρ2 H2 u e2 st2 r2
      exact ⟨F2, ρ2, h2, x, y, st2, Rep.mono e2.toExt _ _ r1, r2, Fin.mono (e1.trans e2) fin⟩
    | ex _ _ => rw [eb] at fin; exact fin
    | no => rw [eb] at fin; exact fin
  | ex _ _ => rw [ea] at fin; exact fin
  | no => rw [ea] at fin; exact fin
end

/-! ### operators -/
section
variable {X : Cx}
theorem ar_ok (o : Operator) : OpR X (binaryOp o) (fun x y H Q => ∃ F ρ h i j, Stt X.K F ρ h H ∧ x = .int i ∧ y = .int j ∧ Fin X.K F ρ H (arI o i j h) Q) := by
  intro pins s τ H x y v u Q I rx ry q
  obtain ⟨F, ρ, h, i, j, st, rfl, rfl, fin⟩ := q
  cases o with
  | Add => exact op_add pins s τ H _ _ v u Q I rx ry ⟨i, j, rfl, rfl, fin_val st fin (.int _)⟩
  | Sub => exact op_sub pins s τ H _ _ v u Q I rx ry ⟨i, j, rfl, rfl, fin_val st fin (.int _)⟩
  | Mult =>
    unfold arI at fin
    dsimp only at fin
    split at fin
    · rename_i hc
      unfold cmul at hc
      have z := of_decide_eq_true hc
      exact op_mul pins s τ H _ _ v u Q I rx ry ⟨i, j, rfl, rfl, z, fin_val st fin (.int _)⟩
    · exact fin.elim
  | FloorDiv =>
    unfold arI at fin
    dsimp only at fin
    split at fin
    · rename_i hc
      have z := of_decide_eq_true hc
      exact op_fdiv pins s τ H _ _ v u Q I rx ry ⟨i, j, rfl, rfl, z, fin_val st fin (.int _)⟩
    · exact fin.elim
  | Mod =>
    unfold arI at fin
    dsimp only at fin
    split at fin
    · rename_i hc
      exact op_mod pins s τ H _ _ v u Q I rx ry ⟨i, j, rfl, rfl, of_decide_eq_true hc, fin_val st fin (.int _)⟩
    · exact fin.elim
  | Pow =>
    unfold arI at fin
    dsimp only at fin
    split at fin
    · rename_i hc
      obtain ⟨c1, c2, c3⟩ := of_decide_eq_true hc
      exact op_pow pins s τ H _ _ v u Q I rx ry ⟨i, j, rfl, rfl, ⟨c1, by omega, c3⟩, fin_val st fin (.int _)⟩
    · exact fin.elim
  | _ => exact fin.elim
theorem mul_ok' {a : Str} {j : Int} (h0 : 0 ≤ j) (h1 : j < 2 ^ 63) (h2 : a.length * j.toNat ≤ 100000) : MulOk a j := by
  refine ⟨by simp; omega, fun hn hx => ?_, fun hn hx => ?_⟩
  · have h3 : (a.length : Int) * j ≤ 100000 := by
      have h4 : ((a.length * j.toNat : Nat) : Int) ≤ 100000 := by omega
      rw [Int.natCast_mul, Int.toNat_of_nonneg h0] at h4
      exact h4
    have h5 : (0 : Int) < j := by omega
    have h6 : (a.length : Int) ≤ (2 ^ 63 - 1) / j := by
      rw [Int.le_ediv_iff_mul_le h5]
      omega
    omega
  · unfold Builtin.Str.tooLong
    have : sizeLine = 16777216 := sizeLine_eq
    simp
    omega
theorem op_mulS : OpR X (binaryOp .Mult) (fun x y H Q => ∃ a j, x = .str a ∧ y = .int j ∧ MulOk a j ∧ Q (.str (Txt.mul a j)) H) := by
  intro pins s τ H x y v u Q I rx ry q
  obtain ⟨a, j, rfl, rfl, ok, q⟩ := q
  obtain ⟨t, rfl⟩ := rx
  obtain ⟨t', rfl⟩ := ry
  exact SB.mul ok fun t2 k => ⟨.str _, H, I.tok k, ⟨t2, rfl⟩, q⟩
theorem cat_ok (m : Bool) : OpR X (binaryOp .Add) (rD2 X.K (catD m)) := by
  refine OpR.imp op_cat fun x y H Q q => ?_
  obtain ⟨F, ρ, h, a, b, st, ra, rb, fin⟩ := q
  unfold catD at fin
  split at fin
  · rename_i xs ys h1 h2
    obtain ⟨l, vs, rfl, q1, e1⟩ := vwL_ok st ra h1
    obtain ⟨l', ws, rfl, q2, e2⟩ := vwL_ok st rb h2
    obtain ⟨z, k⟩ := fin_lst st fin (q1.app q2)
    exact ⟨l, l', vs, ws, rfl, rfl, e1, e2, by rw [← List.length_append]; exact z, k⟩
  · exact fin.elim
theorem rep_ok (m : Bool) : OpR X (binaryOp .Mult) (fun x y H Q => ∃ F ρ h a j, Stt X.K F ρ h H ∧ Rep X.K F ρ a x ∧ y = .int j ∧ Fin X.K F ρ H (mulD m a j h) Q) := by
  refine OpR.imp op_rep fun x y H Q q => ?_
  obtain ⟨F, ρ, h, a, j, st, ra, rfl, fin⟩ := q
  unfold mulD at fin
  split at fin
  · rename_i xs h1
    split at fin
    · rename_i hc
      obtain ⟨c1, c2, c3⟩ := of_decide_eq_true hc
      obtain ⟨l, vs, rfl, q1, e1⟩ := vwL_ok st ra h1
      obtain ⟨z, k⟩ := fin_lst st fin (q1.rep j.toNat)
      exact ⟨l, j, vs, rfl, rfl, e1, c1, c2, by rw [q1.len]; exact c3, k⟩
    · exact fin.elim
  · exact fin.elim
theorem bin_ok (o : Operator) (m : Bool) : OpR X (binaryOp o) (rD2 X.K (binD o m)) := by
  intro pins s τ H x y v u Q I rx ry q
  obtain ⟨F, ρ, h, a, b, st, ra, rb, fin⟩ := q
  have cat : o = .Add → Fin X.K F ρ H (catD m a b h) Q → wpAny (model X.prog X.w) X.A (binaryOp o v u) (EP X pins τ Q) X.xe s := fun e f => by
    subst e
    exact cat_ok m pins s τ H x y v u Q I rx ry ⟨F, ρ, h, a, b, st, ra, rb, f⟩
  have rep : ∀ j, o = .Mult → b = .d (.int j) → Fin X.K F ρ H (mulD m a j h) Q → wpAny (model X.prog X.w) X.A (binaryOp o v u) (EP X pins τ Q) X.xe s := fun j e eb f => by
    subst e eb
    cases rb
    exact rep_ok m pins s τ H x _ v u Q I rx ry ⟨F, ρ, h, a, j, st, ra, rfl, f⟩
  unfold binD at fin
  split at fin
  · cases ra; cases rb
    exact ar_ok o pins s τ H _ _ v u Q I rx ry ⟨F, ρ, h, _, _, st, rfl, rfl, fin⟩
  · rename_i s1 s2
    cases ra; cases rb
    split at fin
    · split at fin
      · rename_i hz
        exact op_add_str pins s τ H _ _ v u Q I rx ry ⟨s1, s2, rfl, rfl, hz, fin_val st fin (.str _)⟩
      · exact fin.elim
    · exact fin.elim
  · rename_i xs ys
    split at fin
    · split at fin
      · rename_i hz
        cases ra with
        | tup a1 a2 =>
          cases rb with
          | tup b1 b2 =>
            have hz' := hz
            rw [← a2.len, ← b2.len] at hz'
            refine op_catA pins s τ H _ _ v u Q I rx ry ⟨_, _, _, _, rfl, rfl, sqT_mono st.same a1, sqT_mono st.same b1, hz', fun e => ?_, fun _ e => ?_, fun _ _ => fin_tup st fin (a2.app b2)⟩
            · subst e
              cases a2
              exact fin_val st fin (.tup b1 b2)
            · subst e
              cases b2
              rw [List.append_nil] at fin
              exact fin_val st fin (.tup a1 a2)
      · exact fin.elim
    · exact fin.elim
  · rename_i s1 j
    cases ra; cases rb
    split at fin
    · split at fin
      · rename_i hc
        obtain ⟨c1, c2, c3⟩ := of_decide_eq_true hc
        exact op_mulS pins s τ H _ _ v u Q I rx ry ⟨s1, j, rfl, rfl, mul_ok' c1 c2 c3, fin_val st fin (.str _)⟩
      · exact fin.elim
    · exact fin.elim
  · split at fin
    · exact rep _ rfl rfl fin
    · exact fin.elim
  · split at fin
    · exact cat rfl fin
    · exact fin.elim
theorem neg_ok : UnR X (unaryOp .USub) (rD1 X.K negD) := by
  intro pins s τ H x v Q I rx q
  obtain ⟨F, ρ, h, a, st, ra, fin⟩ := q
  unfold negD at fin
  split at fin
  · cases ra
    exact un_neg pins s τ H _ v Q I rx ⟨_, rfl, fin_val st fin (.int _)⟩
  · exact fin.elim

/-! ### comparisons -/
theorem dq_reads {pins : List (Addr × Obj)} {τ : St} {H F : Hp} {s : Shared} {ρ : List Addr} {h : Hs} (I : Inv X pins τ H s) (st : Stt X.K F ρ h H) {x : PyData} {v : V} {u : Value} (q : Dq X.K F v x) (r : RelV v u) : ∃ as, Reads s.heap u x as :=
  Dp.reads I x v u (Dq.dp st.same x v q) r
theorem shal_of {x y : PyData} (h : shal x y = true) : x.plain = true ∧ y.plain = true ∧ min x.depth y.depth ≤ 64 := by
  unfold shal at h
  simp only [Bool.and_eq_true, decide_eq_true_eq] at h
  exact ⟨h.1.1, h.1.2, h.2⟩
theorem ord_of {x y : PyData} (h : ordOk x y = true) : PySem.W.alike x y = true ∧ x ≠ .none ∧ min x.depth y.depth ≤ 64 := by
  unfold ordOk at h
  simp only [Bool.and_eq_true, decide_eq_true_eq] at h
  refine ⟨h.1.1, fun e => ?_, h.2⟩
  subst e
  simp at h
theorem isn_of {F : Hp} {K : PySem.W.Frag} {x : V} {a : PyData} (q : Dq K F x a) : isNoneP a = decide (x = V.non) := by
  cases q <;> simp [isNoneP]
theorem valV_dic {K : PySem.W.Frag} {F : Hp} (k : Str) : ∀ {kvs : List (Key × V)} {ps : List (PyData × PyData)}, DicA K F kvs ps →
    (∀ x, dicGet ps (.str k) = some x → ∃ v, valV kvs (.inr k) = some v ∧ Dq K F v x) ∧ (dicGet ps (.str k) = none → valV kvs (.inr k) = none)
  | _, _, .nil => ⟨(fun x e => by simp [dicGet] at e), (fun _ => rfl)⟩
  | _, _, .cons (k := j) (v := v) (x := x) h t => by
    obtain ⟨i1, i2⟩ := valV_dic k t
    by_cases e : j = k
    · subst e
      have e1 : keyEq (.str j) (.str j) = true := by simp [keyEq, nk, NestedKey.beq]
      refine ⟨fun y q => ⟨v, valV_pos rfl, ?_⟩, fun q => ?_⟩
      · simp only [dicGet, List.find?_cons, e1, Option.map_some, Option.some.injEq] at q
        subst q
        exact h
      · simp only [dicGet, List.find?_cons, e1, Option.map_some] at q
        cases q
    · have e1 : keyEq (.str j) (.str k) = false := by simp [keyEq, nk, NestedKey.beq, e]
      have e2 : ¬ ((Sum.inr j : Key) = Sum.inr k) := fun z => e (Sum.inr.inj z)
      refine ⟨fun y q => ?_, fun q => ?_⟩
      · simp only [dicGet, List.find?_cons, e1] at q
        obtain ⟨u, u1, u2⟩ := i1 y q
        exact ⟨u, (valV_neg e2).trans u1, u2⟩
      · simp only [dicGet, List.find?_cons, e1] at q
        exact (valV_neg e2).trans (i2 q)
theorem dget_dic {K : PySem.W.Frag} {F H : Hp} {ρ : List Addr} {h : Hs} (st : Stt K F ρ h H) {a : Addr} {ps : List (PyData × PyData)} (d : DicO K F a ps) (k : Str) :
    ∃ o, DGet H a (.str k) o ∧ o.isSome = (dicGet ps (.str k)).isSome ∧ ∀ x, dicGet ps (.str k) = some x → ∃ v, o = some v ∧ Dq K F v x := by
  obtain ⟨kvs, e, d⟩ := d
  obtain ⟨i1, i2⟩ := valV_dic k d
  refine ⟨valV kvs (.inr k), DGet.k (k := .inr k) (st.same _ _ e), ?_, fun x q => i1 x q⟩
  cases q : dicGet ps (.str k) with
  | none => rw [i2 q]; rfl
  | some x =>
    obtain ⟨v, e1, _⟩ := i1 x q
    rw [e1]; rfl
theorem cmp_ok (hu : X.A.units + 100 < cLine) (o : CmpOp) : OpR X (compareOp o) (rD2 X.K (cmpD o)) := by
  intro pins s τ H x y v u Q I rx ry q
  obtain ⟨F, ρ, h, a, b, st, ra, rb, fin⟩ := q
  unfold cmpD at fin
  split at fin
  · rename_i da db
    split at fin
    · rename_i hs
      obtain ⟨p1, p2, p3⟩ := shal_of hs
      obtain ⟨as, r1⟩ := dq_reads I st ra rx
      obtain ⟨bs, r2⟩ := dq_reads I st rb ry
      exact SeqAt.eq_plain r1 r2 p1 p2 (by omega) ⟨.bl _, H, I, rfl, fin_val st fin (.bl _)⟩
    · exact fin.elim
  · rename_i da db
    split at fin
    · rename_i hs
      obtain ⟨p1, p2, p3⟩ := shal_of hs
      obtain ⟨as, r1⟩ := dq_reads I st ra rx
      obtain ⟨bs, r2⟩ := dq_reads I st rb ry
      exact SeqAt.ne_plain r1 r2 p1 p2 (by omega) ⟨.bl _, H, I, rfl, fin_val st fin (.bl _)⟩
    · exact fin.elim
  · rename_i da db
    split at fin
    · rename_i hs
      obtain ⟨p1, p2, p3⟩ := ord_of hs
      obtain ⟨as, r1⟩ := dq_reads I st ra rx
      obtain ⟨bs, r2⟩ := dq_reads I st rb ry
      exact PySem.W.lt_data r1 r2 p1 p2 (by omega) ⟨.bl _, H, I, rfl, fin_val st fin (.bl _)⟩
    · exact fin.elim
  · rename_i da db
    split at fin
    · rename_i hs
      obtain ⟨p1, p2, p3⟩ := ord_of hs
      obtain ⟨as, r1⟩ := dq_reads I st ra rx
      obtain ⟨bs, r2⟩ := dq_reads I st rb ry
      exact PySem.W.gt_data r1 r2 p1 p2 (by omega) ⟨.bl _, H, I, rfl, fin_val st fin (.bl _)⟩
    · exact fin.elim
  · rename_i da db
    split at fin
    · rename_i hs
      obtain ⟨p1, p2, p3⟩ := ord_of hs
      obtain ⟨as, r1⟩ := dq_reads I st ra rx
      obtain ⟨bs, r2⟩ := dq_reads I st rb ry
      exact PySem.W.le_data r1 r2 p1 p2 (by omega) ⟨.bl _, H, I, rfl, fin_val st fin (.bl _)⟩
    · exact fin.elim
  · rename_i da db
    split at fin
    · rename_i hs
      obtain ⟨p1, p2, p3⟩ := ord_of hs
      obtain ⟨as, r1⟩ := dq_reads I st ra rx
      obtain ⟨bs, r2⟩ := dq_reads I st rb ry
      exact PySem.W.ge_data r1 r2 p1 p2 (by omega) ⟨.bl _, H, I, rfl, fin_val st fin (.bl _)⟩
    · exact fin.elim
  · cases ra; cases rb
    exact op_in_str pins s τ H _ _ v u Q I rx ry ⟨_, _, rfl, rfl, fin_val st fin (.bl _)⟩
  · cases ra; cases rb
    exact op_notin_str pins s τ H _ _ v u Q I rx ry ⟨_, _, rfl, rfl, fin_val st fin (.bl _)⟩
  · rename_i da db
    split at fin
    · rename_i hs
      obtain ⟨p1, p2, p3⟩ := shal_of hs
      obtain ⟨as, r1⟩ := dq_reads I st ra rx
      obtain ⟨bs, r2⟩ := dq_reads I st rb ry
      have p2' : PyData.plainAll db = true := p2
      have p3' : min da.depth (PyData.depthAll db + 1) ≤ 64 := p3
      exact SeqAt.in_list_data r2 r1 p2' p1 (by omega) ⟨.bl _, H, I, rfl, fin_val st fin (.bl _)⟩
    · exact fin.elim
  · rename_i da db
    split at fin
    · rename_i hs
      obtain ⟨p1, p2, p3⟩ := shal_of hs
      obtain ⟨as, r1⟩ := dq_reads I st ra rx
      obtain ⟨bs, r2⟩ := dq_reads I st rb ry
      have p2' : PyData.plainAll db = true := p2
      have p3' : min da.depth (PyData.depthAll db + 1) ≤ 64 := p3
      exact SeqAt.notIn_list_data r2 r1 p2' p1 (by omega) ⟨.bl _, H, I, rfl, fin_val st fin (.bl _)⟩
    · exact fin.elim
  · rename_i da db
    split at fin
    · rename_i hs
      obtain ⟨p1, p2, p3⟩ := shal_of hs
      obtain ⟨as, r1⟩ := dq_reads I st ra rx
      obtain ⟨bs, r2⟩ := dq_reads I st rb ry
      have p2' : PyData.plainAll db = true := p2
      have p3' : min da.depth (PyData.depthAll db + 1) ≤ 64 := p3
      exact SeqAt.in_tuple_data r2 r1 p2' p1 (by omega) ⟨.bl _, H, I, rfl, fin_val st fin (.bl _)⟩
    · exact fin.elim
  · rename_i da db
    split at fin
    · rename_i hs
      obtain ⟨p1, p2, p3⟩ := shal_of hs
      obtain ⟨as, r1⟩ := dq_reads I st ra rx
      obtain ⟨bs, r2⟩ := dq_reads I st rb ry
      have p2' : PyData.plainAll db = true := p2
      have p3' : min da.depth (PyData.depthAll db + 1) ≤ 64 := p3
      exact SeqAt.notIn_tuple_data r2 r1 p2' p1 (by omega) ⟨.bl _, H, I, rfl, fin_val st fin (.bl _)⟩
    · exact fin.elim
  · rename_i k ps
    cases ra
    obtain ⟨a, rfl, d⟩ := rb
    obtain ⟨o, g, e, _⟩ := dget_dic st d k
    cases ry
    exact d_in (by omega) I g rx fun s' I' => ⟨.bl _, H, I', rfl, by rw [e]; exact fin_val st fin (.bl _)⟩
  · rename_i k ps
    cases ra
    obtain ⟨a, rfl, d⟩ := rb
    obtain ⟨o, g, e, _⟩ := dget_dic st d k
    cases ry
    exact d_notIn (by omega) I g rx fun s' I' => ⟨.bl _, H, I', rfl, by rw [e]; exact fin_val st fin (.bl _)⟩
  · cases rb
    exact op_isN pins s τ H _ _ v u Q I rx ry ⟨rfl, by rw [← isn_of ra]; exact fin_val st fin (.bl _)⟩
  · cases rb
    exact op_notN pins s τ H _ _ v u Q I rx ry ⟨rfl, by rw [← isn_of ra]; exact fin_val st fin (.bl _)⟩
  · exact fin.elim

/-! ### truth -/
theorem tru_rep {K : PySem.W.Frag} {F H : Hp} {ρ : List Addr} {h h' : Hs} {x : D} {v : V} {b : Bool} (st : Stt K F ρ h H) (r : Rep K F ρ x v) (e : truD x h = .ok b h') : h' = h ∧ TruV K v H b := by
  unfold truD at e
  split at e
  · cases r; cases e; exact ⟨rfl, rfl⟩
  · cases r; cases e; exact ⟨rfl, rfl⟩
  · cases r; cases e; exact ⟨rfl, rfl⟩
  · cases r
    split at e
    · rename_i hz
      cases e
      exact ⟨rfl, hz, rfl⟩
    · cases e
  · cases e
    cases r with
    | lst h1 h2 =>
      refine ⟨rfl, .inl ⟨_, .inl (.inl (st.same _ _ h1)), ?_⟩⟩
      cases h2 <;> rfl
  · cases e
    cases r with
    | tup h1 h2 =>
      refine ⟨rfl, .inr (.inl ⟨_, sqT_mono st.same h1, ?_⟩)⟩
      cases h2 <;> rfl
  · rename_i n
    split at e
    · rename_i xs hh
      cases e
      obtain ⟨a, h1, rfl⟩ := r
      obtain ⟨⟨_, vs, q1, q2⟩, _⟩ := st.cell n a _ h1 hh
      refine ⟨rfl, .inl ⟨vs, .inl (.inl q1), ?_⟩⟩
      cases q2 <;> rfl
    · cases e
  · cases e
end
end En
/-! En: subscripts, slices, calls of built-ins, methods -/
namespace En
open PySem L2
variable [Wd]
section
variable {X : Cx}
theorem cutP_dq {K : PySem.W.Frag} {F : Hp} {vs : List V} {xs : List PyData} (q : DqA K F vs xs) (lo hi : Option Int) : DqA K F (cutV vs lo hi) (cutP xs lo hi) := by
  unfold cutV cutP
  rw [q.len]
  exact (q.drop _).take _
theorem atI_dq {K : PySem.W.Frag} {F : Hp} {vs : List V} {xs : List PyData} (q : DqA K F vs xs) {i : Int} {x : PyData} (e : atI xs i = some x) : ∃ v, atI vs i = some v ∧ Dq K F v x := by
  unfold atI at e ⊢
  rw [q.len]
  cases h : ixN xs.length i with
  | none => rw [h] at e; cases e
  | some j =>
    rw [h] at e
    exact q.get e
theorem atI_rep {K : PySem.W.Frag} {F : Hp} {ρ : List Addr} {vs : List V} {xs : List D} (q : RepL K F ρ xs vs) {i : Int} {x : D} (e : atI xs i = some x) : ∃ v, atI vs i = some v ∧ Rep K F ρ x v := by
  unfold atI at e ⊢
  rw [q.len]
  cases h : ixN xs.length i with
  | none => rw [h] at e; cases e
  | some j =>
    rw [h] at e
    exact q.get e

/-- a[b]: a sequence, or a dict -/
def isDic : D → Bool
  | .dic _ => true
  | .dit _ => true
  | _ => false
theorem ixS_ok : IxR X (fun x y H Q => ∃ F ρ h a b, Stt X.K F ρ h H ∧ isDic a = false ∧ Rep X.K F ρ a x ∧ Rep X.K F ρ b y ∧ Fin X.K F ρ H (ixD a b h) Q) := by
  intro value slice pins s τ H x y v u Q I rx ry q hs
  obtain ⟨F, ρ, h, a, b, st, nd, ra, rb, fin⟩ := q
  unfold ixD at fin
  split at fin
  · cases nd
  · cases nd
  unfold seqIx at fin
  split at fin
  · rename_i z j _ _
    split at fin
    · rename_i hz
      split at fin
      · rename_i c hc
        cases ra; cases rb
        exact ix_str value slice pins s τ H _ _ v u Q I rx ry ⟨z, j, c, rfl, rfl, hz, hc, fin_val st fin (.str _)⟩ hs
      · exact fin.elim
    · exact fin.elim
  · rename_i j hx1
    cases rb
    split at fin
    · rename_i t xs hw
      split at fin
      · rename_i e he
        obtain ⟨p, vs, rfl, q1, q2⟩ := vw_ok st ra hw
        obtain ⟨w', e1, e2⟩ := atI_dq q1 he
        cases t with
        | true => exact ix_tup value slice pins s τ H _ _ v u Q I rx ry ⟨p, vs, j, w', rfl, rfl, by simpa using q2, e1, fin_val st fin e2⟩ hs
        | false => exact ix_list value slice pins s τ H _ _ v u Q I rx ry ⟨p, vs, j, w', rfl, rfl, by simpa using q2, e1, fin_val st fin e2⟩ hs
      · exact fin.elim
    · split at fin
      · rename_i ds hw
        split at fin
        · rename_i e he
          obtain ⟨p, vs, rfl, q1, q2⟩ := ra
          obtain ⟨w', e1, e2⟩ := atI_rep q2 he
          exact ix_tup value slice pins s τ H _ _ v u Q I rx ry ⟨p, vs, j, w', rfl, rfl, sqT_mono st.same q1, e1, fin_val st fin e2⟩ hs
        · exact fin.elim
      · exact fin.elim
  · exact fin.elim

/-! ### slices -/
theorem sl_ok : SlR X (fun x lo hi H Q => ∃ (F : Hp) (ρ : List Addr) (h : Hs) (a : D) (l u : Option D), Stt X.K F ρ h H ∧ Rep X.K F ρ a x ∧ bnd l = some lo ∧ bnd u = some hi ∧ Fin X.K F ρ H (slD a l u h) Q) := by
  intro pins s τ H x v vl vu lo hi sl Q I rx hs pl pu q
  obtain ⟨F, ρ, h, a, l, u, st, ra, b1, b2, fin⟩ := q
  unfold slD at fin
  rw [b1, b2] at fin
  dsimp only at fin
  split at fin
  · split at fin
    · rename_i z hz
      cases ra
      exact sl_str pins s τ H _ v vl vu lo hi sl Q I rx hs pl pu ⟨z, rfl, hz, fin_val st fin (.str _)⟩
    · exact fin.elim
  · split at fin
    · rename_i xs hw
      obtain ⟨p, vs, rfl, q1, q2⟩ := vw_ok st ra hw
      have q2 : SqT X.K H p vs := by simpa using q2
      refine sl_tupA pins s τ H _ v vl vu lo hi sl Q I rx hs pl pu ⟨p, vs, rfl, q2, fun e => ?_, fun _ => fin_tup st fin (cutP_dq q1 lo hi)⟩
      have e2 : cutP xs lo hi = xs := by
        unfold cutP
        rw [← q1.len, e.1, e.2, List.drop_zero, Nat.sub_zero, q1.len, List.take_length]
      rw [e2] at fin
      cases a with
      | d d =>
        cases d with
        | tuple ys =>
          cases hw
          exact fin_val st fin ra
        | _ => cases hw
      | cel n =>
        simp only [vw] at hw
        split at hw <;> cases hw
      | _ => cases hw
    · rename_i xs hw
      obtain ⟨p, vs, rfl, q1, q2⟩ := vw_ok st ra hw
      have q2 : SqL X.K H p vs := by simpa using q2
      have hl : (cutP xs lo hi).length ≤ sizeLine := by
        obtain ⟨its, _, _, hz⟩ := I.list q2
        rw [← (cutP_dq q1 lo hi).len]
        exact Nat.le_trans (cutV_length vs lo hi) hz
      have fin : Fin X.K F ρ H (mkL false (cutP xs lo hi) h) Q := by
        unfold mkL
        rw [if_pos hl]
        exact fin
      exact sl_list pins s τ H _ v vl vu lo hi sl Q I rx hs pl pu ⟨p, vs, rfl, q2, (fin_lst st fin (cutP_dq q1 lo hi)).2⟩
    · exact fin.elim

/-! ### built-ins -/
theorem repL1 {K : PySem.W.Frag} {F : Hp} {ρ : List Addr} {x : D} {vs : List V} (r : RepL K F ρ [x] vs) : ∃ v, vs = [v] ∧ Rep K F ρ x v := by
  obtain ⟨v, t, rfl, r1, r2⟩ := r
  have r2 : t = [] := r2
  exact ⟨v, by rw [r2], r1⟩
theorem call_absD (m : Bool) : CallR X (.builtin "abs") (rDL X.K (biD .abs m)) := by
  intro pins s τ H xs us Q I r q
  obtain ⟨F, ρ, h, ds, st, rd, fin⟩ := q
  unfold biD at fin
  split at fin <;> first | exact fin.elim | skip
  all_goals first | contradiction | skip
  · obtain ⟨v, rfl, r1⟩ := repL1 rd
    cases r1
    exact call_abs pins s τ H _ us Q I r ⟨_, rfl, fin_val st fin (.int _)⟩
theorem call_intD (m : Bool) : CallR X (.type "int") (rDL X.K (biD .int m)) := by
  intro pins s τ H xs us Q I r q
  obtain ⟨F, ρ, h, ds, st, rd, fin⟩ := q
  unfold biD at fin
  split at fin <;> first | exact fin.elim | skip
  all_goals first | contradiction | skip
  · obtain ⟨v, rfl, r1⟩ := repL1 rd
    cases r1
    exact call_int1 pins s τ H _ us Q I r (.inl ⟨_, rfl, fin_val st fin (.int _)⟩)
  · obtain ⟨v, rfl, r1⟩ := repL1 rd
    cases r1
    exact call_int1 pins s τ H _ us Q I r (.inr ⟨_, rfl, fin_val st fin (.int _)⟩)
theorem call_lenDD (m : Bool) : CallR X (.builtin "len") (rDL X.K (biD .len m)) := by
  intro pins s τ H xs us Q I r q
  obtain ⟨F, ρ, h, ds, st, rd, fin⟩ := q
  unfold biD at fin
  split at fin <;> first | exact fin.elim | skip
  all_goals first | contradiction | skip
  · rename_i x _
    obtain ⟨v, rfl, r1⟩ := repL1 rd
    split at fin
    · rename_i n hn
      unfold lenD at hn
      split at hn
      · rename_i z
        split at hn
        · rename_i hz
          cases hn
          cases r1
          exact call_len pins s τ H _ us Q I r ⟨_, _, rfl, ⟨hz, rfl⟩, fin_val st fin (.int _)⟩
        · cases hn
      · rename_i ps
        cases hn
        obtain ⟨a, rfl, kvs, e1, e2⟩ := r1
        have hl : kvs.length = ps.length := by
          clear fin r e1 rd
          induction e2 with
          | nil => rfl
          | cons _ _ ih => simp [ih]
        refine call_lenD pins s τ H _ us Q I r ⟨a, kvs, rfl, st.same _ _ e1, ?_⟩
        rw [hl]
        exact fin_val st fin (.int _)
      · rename_i ds'
        cases hn
        obtain ⟨a, vs, rfl, e1, e2⟩ := r1
        refine call_len pins s τ H _ us Q I r ⟨_, _, rfl, .inr ⟨vs, sqT_mono st.same e1, rfl⟩, ?_⟩
        rw [e2.len]
        exact fin_val st fin (.int _)
      · obtain ⟨⟨t, ys⟩, hw, e⟩ := Option.map_eq_some_iff.mp hn
        obtain ⟨p, vs, rfl, q1, q2⟩ := vw_ok st r1 hw
        subst e
        refine call_len pins s τ H _ us Q I r ⟨_, vs.length, rfl, ?_, ?_⟩
        · cases t with
          | true => exact .inr ⟨vs, by simpa using q2, rfl⟩
          | false => exact .inl ⟨vs, by simpa using q2, rfl⟩
        · rw [q1.len]
          exact fin_val st fin (.int _)
    · exact fin.elim
theorem call_tupleD (m : Bool) : CallR X (.type "tuple") (rDL X.K (biD .tuple m)) := by
  intro pins s τ H xs us Q I r q
  obtain ⟨F, ρ, h, ds, st, rd, fin⟩ := q
  unfold biD at fin
  split at fin <;> first | exact fin.elim | skip
  all_goals first | contradiction | skip
  · rename_i x _
    obtain ⟨v, rfl, r1⟩ := repL1 rd
    split at fin
    · rename_i t ys hw
      obtain ⟨p, vs, rfl, q1, q2⟩ := vw_ok st r1 hw
      cases t with
      | true =>
        refine call_tuple_of pins s τ H _ us Q I r ⟨p, vs, rfl, .inr ⟨by simpa using q2, ?_⟩⟩
        cases x with
        | d d =>
          cases d with
          | tuple zs => cases hw; exact fin_val st fin r1
          | _ => cases hw
        | cel n =>
          simp only [vw] at hw
          split at hw <;> cases hw
        | _ => cases hw
      | false => exact call_tuple_of pins s τ H _ us Q I r ⟨p, vs, rfl, .inl ⟨by simpa using q2, fin_tup st fin q1⟩⟩
    · exact fin.elim
theorem call_listD (m : Bool) : CallR X (.type "list") (rDL X.K (biD .list m)) := by
  intro pins s τ H xs us Q I r q
  obtain ⟨F, ρ, h, ds, st, rd, fin⟩ := q
  unfold biD at fin
  split at fin <;> first | exact fin.elim | skip
  all_goals first | contradiction | skip
  · rename_i x _
    obtain ⟨v, rfl, r1⟩ := repL1 rd
    split at fin
    · rename_i t ys hw
      obtain ⟨p, vs, rfl, q1, q2⟩ := vw_ok st r1 hw
      refine call_list_of pins s τ H _ us Q I r ⟨p, vs, rfl, ?_, (fin_lst st fin q1).2⟩
      cases t with
      | true => exact .inr (by simpa using q2)
      | false => exact .inl (by simpa using q2)
    · exact fin.elim
theorem call_allD (hc : X.calm = true) (m : Bool) : CallR X (.builtin "all") (rDL X.K (biD .all m)) := by
  intro pins s τ H xs us Q I r q
  obtain ⟨F, ρ, h, ds, st, rd, fin⟩ := q
  unfold biD at fin
  split at fin <;> first | exact fin.elim | skip
  all_goals first | contradiction | skip
  · rename_i x _
    obtain ⟨v, rfl, r1⟩ := repL1 rd
    split at fin
    · rename_i ys hw
      split at fin
      · rename_i bs hb
        obtain ⟨p, vs, rfl, q1, q2⟩ := vw_ok st r1 hw
        have e := dq_bools q1 hb
        subst e
        exact cr_all hc pins s τ H _ us Q I r ⟨p, bs, rfl, by simpa using q2, fin_val st fin (.bl _)⟩
      · exact fin.elim
    · exact fin.elim
theorem call_anyD (hc : X.calm = true) (m : Bool) : CallR X (.builtin "any") (rDL X.K (biD .any m)) := by
  intro pins s τ H xs us Q I r q
  obtain ⟨F, ρ, h, ds, st, rd, fin⟩ := q
  unfold biD at fin
  split at fin <;> first | exact fin.elim | skip
  all_goals first | contradiction | skip
  · rename_i x _
    obtain ⟨v, rfl, r1⟩ := repL1 rd
    split at fin
    · rename_i ys hw
      split at fin
      · rename_i bs hb
        obtain ⟨p, vs, rfl, q1, q2⟩ := vw_ok st r1 hw
        have e := dq_bools q1 hb
        subst e
        exact cr_any hc pins s τ H _ us Q I r ⟨p, bs, rfl, by simpa using q2, fin_val st fin (.bl _)⟩
      · exact fin.elim
    · exact fin.elim

/-! ### isinstance -/
def nmTy : Ty → String
  | .bool => "bool"
  | .int => "int"
  | .str => "str"
  | .list => "list"
  | .tuple => "tuple"
  | .dict => "dict"
theorem kit_ok (a b : Ty) : kitB (nmTy a) (nmTy b) = some (subTy a b) := by
  cases a <;> cases b <;> decide +kernel
theorem kit_none (b : Ty) : kitB "NoneType" (nmTy b) = some false := by
  cases b <;> decide +kernel
theorem sqT_ty {K : PySem.W.Frag} {H : Hp} {a : Addr} {vs : List V} (h : SqT K H a vs) : TyX K H (.ref a) (.type "tuple") := by
  rcases h with (h | ⟨o, h⟩) | ⟨o, its, n, h1, h2, _⟩
  · exact .base (.tup h)
  · exact .fTuple h
  · exact .kTuple h1 h2
theorem sqL_ty {K : PySem.W.Frag} {H : Hp} {a : Addr} {vs : List V} (h : SqL K H a vs) : TyX K H (.ref a) (.type "list") := by
  rcases h with (h | ⟨o, h⟩) | ⟨o, its, n, h1, h2, _⟩
  · exact .base (.lst h)
  · exact .base (.frz h)
  · exact .kList h1 h2
theorem ty_rep {K : PySem.W.Frag} {F H : Hp} {ρ : List Addr} {h : Hs} {x : D} {v : V} {t : Ty} (st : Stt K F ρ h H) (r : Rep K F ρ x v) (e : tyD x = some t) (hl : ∀ n, x = .cel n → ∃ xs, h[n]? = some (.lst xs)) : TyX K H v (.type (nmTy t)) := by
  cases x with
  | d d =>
    cases d with
    | none => cases e
    | bool b => cases e; cases r; exact .base (.bl b)
    | int b => cases e; cases r; exact .base (.int b)
    | str b => cases e; cases r; exact .base (.str b)
    | list xs =>
      cases e
      cases r with
      | lst h1 h2 => exact .base (.lst (st.same _ _ h1))
    | tuple xs =>
      cases e
      cases r with
      | tup h1 h2 => exact sqT_ty (sqT_mono st.same h1)
    | dict _ => cases e
  | ty n => cases e
  | scr ns =>
    cases e
    obtain ⟨a, rfl, h1⟩ := r
    exact sqL_ty (sqL_mono st.same h1)
  | cel n =>
    cases e
    obtain ⟨a, h1, rfl⟩ := r
    obtain ⟨xs, hx⟩ := hl n rfl
    obtain ⟨⟨_, vs, q1, q2⟩, _⟩ := st.cell n a _ h1 hx
    exact .base (.lst q1)
  | dic ps =>
    cases e
    obtain ⟨a, rfl, kvs, e1, e2⟩ := r
    exact .base (.dK (st.same _ _ e1))
  | dit _ => cases e
  | mix ds =>
    cases e
    obtain ⟨a, vs, rfl, e1, e2⟩ := r
    exact sqT_ty (sqT_mono st.same e1)
theorem kitAny_ok {K : PySem.W.Frag} (t : Ty) : ∀ ts : List Ty, PySem.W.kitAny K (.type (nmTy t)) (ts.map fun b => .type (nmTy b)) = some (ts.any (subTy t))
  | [] => rfl
  | b :: ts => by
    refine kitAny_cons (kit_ty (kit_ok t b)) (fun e => ?_) (fun e => ?_)
    · rw [kitAny_ok t ts, List.any_cons, e]; rfl
    · rw [List.any_cons, e]; rfl
theorem kitAnyN_ok {K : PySem.W.Frag} : ∀ ts : List Ty, PySem.W.kitAny K (.type "NoneType") (ts.map fun b => .type (nmTy b)) = some false
  | [] => rfl
  | b :: ts => by
    refine kitAny_cons (kit_ty (kit_none b)) (fun e => ?_) (fun e => ?_)
    · exact kitAnyN_ok ts
    · cases e

/-! ### methods -/
theorem mt_appendD : MtR X "list.append" (rDM X.K (mthD .append)) := by
  intro pins s τ H x xs v us Q I rx rs q
  obtain ⟨F, ρ, h, a, ds, st, ra, rd, fin⟩ := q
  unfold mthD at fin
  split at fin <;> first | exact fin.elim | skip
  all_goals first | contradiction | skip
  · rename_i n y _
    obtain ⟨w', rfl, r1⟩ := repL1 rd
    split at fin
    · rename_i zs hn
      split at fin
      · rename_i hz
        obtain ⟨l, e1, rfl⟩ := ra
        obtain ⟨⟨_, vs, q1, q2⟩, _⟩ := st.cell n l _ e1 hn
        refine mt_append pins s τ H _ _ v us Q I rx rs ⟨l, vs, w', rfl, rfl, q1, by rw [q2.len]; exact hz, ?_⟩
        exact fin F ρ _ _ (exh_put e1) (st.cellPut e1 hn (q2.app (.cons r1 .nil))) .non
      · exact fin.elim
    · exact fin.elim
theorem mt_extendD : MtR X "list.extend" (rDM X.K (mthD .extend)) := by
  intro pins s τ H x xs v us Q I rx rs q
  obtain ⟨F, ρ, h, a, ds, st, ra, rd, fin⟩ := q
  unfold mthD at fin
  split at fin <;> first | exact fin.elim | skip
  all_goals first | contradiction | skip
  · rename_i n ys _
    obtain ⟨w', rfl, r1⟩ := repL1 rd
    split at fin
    · rename_i zs hn
      split at fin
      · rename_i hz
        obtain ⟨l, e1, rfl⟩ := ra
        obtain ⟨⟨_, vs, q1, q2⟩, _⟩ := st.cell n l _ e1 hn
        cases r1 with
        | lst h1 h2 =>
          refine mt_extend pins s τ H _ _ v us Q I rx rs ⟨l, _, vs, _, rfl, rfl, q1, st.same _ _ h1, by rw [q2.len, h2.len]; exact hz, ?_⟩
          exact fin F ρ _ _ (exh_put e1) (st.cellPut e1 hn (q2.app h2)) .non
      · exact fin.elim
    · exact fin.elim
theorem mt_joinD : MtR X "str.join" (rDM X.K (mthD .join)) := by
  intro pins s τ H x xs v us Q I rx rs q
  obtain ⟨F, ρ, h, a, ds, st, ra, rd, fin⟩ := q
  unfold mthD at fin
  split at fin <;> first | exact fin.elim | skip
  all_goals first | contradiction | skip
  · rename_i z y _
    obtain ⟨w', rfl, r1⟩ := repL1 rd
    split at fin
    · rename_i t zs hw
      split at fin
      · rename_i ys hy
        split at fin
        · rename_i hz
          obtain ⟨p, vs, rfl, q1, q2⟩ := vw_ok st r1 hw
          have e := dq_strs q1 hy
          subst e
          cases ra
          refine mt_join pins s τ H _ _ v us Q I rx rs ⟨z, p, ys, rfl, rfl, ?_, hz, fin_val st fin (.str _)⟩
          cases t with
          | true => exact .inr (by simpa using q2)
          | false => exact .inl (by simpa using q2)
        · exact fin.elim
      · exact fin.elim
    · exact fin.elim
theorem mt_startsD : MtR X "str.startswith" (rDM X.K (mthD .startswith)) := by
  intro pins s τ H x xs v us Q I rx rs q
  obtain ⟨F, ρ, h, a, ds, st, ra, rd, fin⟩ := q
  unfold mthD at fin
  split at fin <;> first | exact fin.elim | skip
  all_goals first | contradiction | skip
  · obtain ⟨w', rfl, r1⟩ := repL1 rd
    cases ra; cases r1
    exact mt_startswith pins s τ H _ _ v us Q I rx rs ⟨_, _, rfl, rfl, fin_val st fin (.bl _)⟩
end
end En
/-! En: what is walked, comprehensions, loops -/
namespace En
open PySem L2
variable [Wd]

/-- an iterator gives the things ds, as long as what never changes stands -/
structure WalkD (K : PySem.W.Frag) (F : Hp) (ρ : List Addr) (J : It) (ds : List D) : Prop where
  goes : ∀ (i : Nat) (H : Hp), i < ds.length → Same F H → J.go i H
  stops : ∀ H : Hp, Same F H → J.stop ds.length H
  yields : ∀ (i : Nat) (H : Hp) (x : V) (H' : Hp) (d : D), ds[i]? = some d → Same F H → J.yld i H x H' →
    (H' = H ∧ Rep K F ρ d x) ∨ ∃ T vs xs, H T = none ∧ H' = upd H T (.tup vs) ∧ x = .ref T ∧ d = .d (.tuple xs) ∧ DqA K F vs xs
theorem WalkD.next {K : PySem.W.Frag} {F F1 H H' : Hp} {ρ ρ1 : List Addr} {J : It} {ds : List D} {h : Hs} {i : Nat} {x : V} {d : D} (w : WalkD K F ρ J ds) (e : Ext F ρ F1 ρ1) (st : Stt K F1 ρ1 h H) (hi : ds[i]? = some d) (y : J.yld i H x H') :
    ∃ F2, Exh F1 ρ1 H F2 ρ1 H' ∧ Stt K F2 ρ1 h H' ∧ Rep K F2 ρ1 d x := by
  rcases w.yields i H x H' d hi (e.f.trans st.same) y with ⟨rfl, r⟩ | ⟨T, vs, xs, hT, rfl, rfl, rfl, q⟩
  · exact ⟨F1, Exh.refl F1 ρ1 _, st, Rep.mono e _ _ r⟩
  · obtain ⟨s2, sm, fp⟩ := st.new (o := .tup vs) hT
    exact ⟨_, exh_new hT sm, s2, .tup (.inl (.inl upd_same)) (DqA.mono sm _ _ (DqA.mono e.f _ _ q))⟩
def rI (K : PySem.W.Frag) (m : Env → Hs → R (List D)) : TI := fun τ H Q => ∃ F ρ σ h, Stt K F ρ h H ∧ EnvOk K F ρ σ τ ∧ match m σ h with
  | .ok ds h' => ∀ (F' : Hp) (ρ' : List Addr) (H' : Hp) (J : It), Exh F ρ H F' ρ' H' → Stt K F' ρ' h' H' → WalkD K F' ρ' J ds → Q J H'
  | _ => False

section
variable {K : PySem.W.Frag} {F : Hp} {ρ : List Addr} {a b : Addr} {vs ws : List V} {xs ys : List PyData}
theorem map_get {f : PyData → D} {xs : List PyData} {i : Nat} {d : D} (e : (xs.map f)[i]? = some d) : ∃ x, xs[i]? = some x ∧ f x = d := by
  rw [List.getElem?_map] at e
  obtain ⟨x, h1, h2⟩ := Option.map_eq_some_iff.mp e
  exact ⟨x, h1, h2⟩
theorem wd_list (h : SqL K F a vs) (q : DqA K F vs xs) : WalkD K F ρ (Itl K a) (xs.map .d) := by
  have w := walk_list (K := K) (a := a) (xs := vs)
  have el : (xs.map D.d).length = vs.length := by rw [List.length_map, q.len]
  refine ⟨fun i H hi s => w.goes i H (by rw [← el]; exact hi) (sqL_mono s h), fun H s => by rw [el]; exact w.stops H (sqL_mono s h), fun i H x H' d hd s y => ?_⟩
  obtain ⟨e1, e2⟩ := w.yields i H x H' (by rw [← el]; exact (List.getElem?_eq_some_iff.mp hd).1) (sqL_mono s h) y
  obtain ⟨z, h1, rfl⟩ := map_get hd
  obtain ⟨v, h2, h3⟩ := q.get h1
  rw [h2] at e2
  cases e2
  exact .inl ⟨e1, h3⟩
theorem wd_tup (h : SqT K F a vs) (q : DqA K F vs xs) : WalkD K F ρ (Itt K a) (xs.map .d) := by
  have w := walk_tup (K := K) (a := a) (xs := vs)
  have el : (xs.map D.d).length = vs.length := by rw [List.length_map, q.len]
  refine ⟨fun i H hi s => w.goes i H (by rw [← el]; exact hi) (sqT_mono s h), fun H s => by rw [el]; exact w.stops H (sqT_mono s h), fun i H x H' d hd s y => ?_⟩
  obtain ⟨e1, e2⟩ := w.yields i H x H' (by rw [← el]; exact (List.getElem?_eq_some_iff.mp hd).1) (sqT_mono s h) y
  obtain ⟨z, h1, rfl⟩ := map_get hd
  obtain ⟨v, h2, h3⟩ := q.get h1
  rw [h2] at e2
  cases e2
  exact .inl ⟨e1, h3⟩
theorem wd_str (z : Str) : WalkD K F ρ (Its z) (z.cps.toList.map fun c => .d (.str ⟨#[c]⟩)) := by
  have w := walk_str (z := z)
  have el : (z.cps.toList.map fun c => D.d (.str ⟨#[c]⟩)).length = z.cps.size := by rw [List.length_map, Array.length_toList]
  refine ⟨fun i H hi s => w.goes i H (by rw [← el]; exact hi) trivial, fun H s => by rw [el]; exact w.stops H trivial, fun i H x H' d hd s y => ?_⟩
  obtain ⟨e1, c, e2, rfl⟩ := w.yields i H x H' (by rw [← el]; exact (List.getElem?_eq_some_iff.mp hd).1) trivial y
  rw [List.getElem?_map, Array.getElem?_toList, e2] at hd
  cases hd
  exact .inl ⟨e1, .str _⟩
theorem rngP_get : ∀ (n : Nat) (lo : Int) (i : Nat) (d : D), (rngP lo n)[i]? = some d → d = .d (.int (lo + i))
  | 0, _, _, _, e => by simp [rngP] at e
  | n + 1, lo, 0, d, e => by
    simp only [rngP, List.getElem?_cons_zero, Option.some.injEq] at e
    subst e
    simp
  | n + 1, lo, i + 1, d, e => by
    simp only [rngP, List.getElem?_cons_succ] at e
    rw [rngP_get n (lo + 1) i d e]
    congr 2
    omega
theorem rngP_len : ∀ (n : Nat) (lo : Int), (rngP lo n).length = n
  | 0, _ => rfl
  | n + 1, lo => by simp [rngP, rngP_len n]
theorem wd_rng (n : Nat) : WalkD K F ρ (Itr 0 n) (rngP 0 n) := by
  have w := walk_range (lo := 0) (n := n)
  refine ⟨fun i H hi s => w.goes i H (by rw [rngP_len] at hi; exact hi) trivial, fun H s => by rw [rngP_len]; exact w.stops H trivial, fun i H x H' d hd s y => ?_⟩
  obtain ⟨e1, rfl⟩ := w.yields i H x H' (by have := (List.getElem?_eq_some_iff.mp hd).1; rwa [rngP_len] at this) trivial y
  rw [rngP_get n 0 i d hd]
  exact .inl ⟨e1, .int _⟩
theorem zip_get {xs ys : List PyData} {i : Nat} {d : D} (e : ((xs.zip ys).map fun p => D.d (.tuple [p.1, p.2]))[i]? = some d) : ∃ x y, xs[i]? = some x ∧ ys[i]? = some y ∧ d = .d (.tuple [x, y]) := by
  rw [List.getElem?_map] at e
  obtain ⟨⟨x, y⟩, h1, h2⟩ := Option.map_eq_some_iff.mp e
  obtain ⟨e1, e2⟩ := List.getElem?_zip_eq_some.mp h1
  exact ⟨x, y, e1, e2, h2.symm⟩
theorem wd_zip (h : SqL K F a vs) (g : SqL K F b ws) (q : DqA K F vs xs) (r : DqA K F ws ys) : WalkD K F ρ (Itz K a b) ((xs.zip ys).map fun p => .d (.tuple [p.1, p.2])) := by
  have el : ((xs.zip ys).map fun p => D.d (.tuple [p.1, p.2])).length = min vs.length ws.length := by rw [List.length_map, List.length_zip, q.len, r.len]
  have w := walk_zip (K := K) (a := a) (b := b) (xs := vs) (ys := ws) rfl
  refine ⟨fun i H hi s => w.goes i H (by rw [← el]; exact hi) ⟨sqL_mono s h, sqL_mono s g⟩, fun H s => by rw [el]; exact w.stops H ⟨sqL_mono s h, sqL_mono s g⟩, fun i H x H' d hd s y => ?_⟩
  obtain ⟨T, x1, y1, e1, e2, e3, e4, e5⟩ := w.yields i H x H' (by rw [← el]; exact (List.getElem?_eq_some_iff.mp hd).1) ⟨sqL_mono s h, sqL_mono s g⟩ y
  obtain ⟨z1, z2, h1, h2, rfl⟩ := zip_get hd
  obtain ⟨v1, k1, k2⟩ := q.get h1
  obtain ⟨v2, k3, k4⟩ := r.get h2
  dsimp only at e4 e5
  rw [k1] at e4; cases e4
  rw [k3] at e5; cases e5
  exact .inr ⟨T, _, _, e2, e3, e1, rfl, .cons k2 (.cons k4 .nil)⟩
theorem wd_zipT (h : SqT K F a vs) (g : SqT K F b ws) (q : DqA K F vs xs) (r : DqA K F ws ys) : WalkD K F ρ (RZ.ItzT K a b) ((xs.zip ys).map fun p => .d (.tuple [p.1, p.2])) := by
  have el : ((xs.zip ys).map fun p => D.d (.tuple [p.1, p.2])).length = min vs.length ws.length := by rw [List.length_map, List.length_zip, q.len, r.len]
  refine ⟨fun i H hi s => ?_, fun H s => ⟨vs, ws, sqT_mono s h, sqT_mono s g, by rw [el]; omega⟩, fun i H x H' d hd s y => ?_⟩
  · rw [el] at hi
    have h1 : i < vs.length := by omega
    have h2 : i < ws.length := by omega
    exact ⟨vs, ws, vs[i], ws[i], sqT_mono s h, sqT_mono s g, List.getElem?_eq_getElem h1, List.getElem?_eq_getElem h2⟩
  · obtain ⟨T, x1, y1, e1, e2, e3, e4, e5⟩ := y
    have e4 := e4 _ (sqT_mono s h)
    have e5 := e5 _ (sqT_mono s g)
    obtain ⟨z1, z2, h1, h2, rfl⟩ := zip_get hd
    obtain ⟨v1, k1, k2⟩ := q.get h1
    obtain ⟨v2, k3, k4⟩ := r.get h2
    rw [k1] at e4; cases e4
    rw [k3] at e5; cases e5
    exact .inr ⟨T, _, _, e2, e3, e1, rfl, .cons k2 (.cons k4 .nil)⟩
theorem enumP_get : ∀ (xs : List PyData) (n i : Nat) (d : D), (enumP n xs)[i]? = some d → ∃ x, xs[i]? = some x ∧ d = .d (.tuple [.int ((n + i : Nat) : Int), x])
  | [], _, _, _, e => by simp [enumP] at e
  | x :: xs, n, 0, d, e => by
    simp only [enumP, List.getElem?_cons_zero, Option.some.injEq] at e
    exact ⟨x, rfl, by rw [← e]; rfl⟩
  | x :: xs, n, i + 1, d, e => by
    simp only [enumP, List.getElem?_cons_succ] at e
    obtain ⟨y, h1, h2⟩ := enumP_get xs (n + 1) i d e
    exact ⟨y, by simpa using h1, by rw [h2]; congr 4; omega⟩
theorem enumP_len : ∀ (xs : List PyData) (n : Nat), (enumP n xs).length = xs.length
  | [], _ => rfl
  | x :: xs, n => by simp [enumP, enumP_len xs]
theorem wd_enu (h : SqL K F a vs) (q : DqA K F vs xs) : WalkD K F ρ (Ite K a) (enumP 0 xs) := by
  have el : (enumP 0 xs).length = vs.length := by rw [enumP_len, q.len]
  have w := walk_enum (K := K) (a := a) (xs := vs)
  refine ⟨fun i H hi s => w.goes i H (by rw [← el]; exact hi) (sqL_mono s h), fun H s => by rw [el]; exact w.stops H (sqL_mono s h), fun i H x H' d hd s y => ?_⟩
  obtain ⟨T, x1, y1, e1, e2, e3, e4, e5⟩ := w.yields i H x H' (by rw [← el]; exact (List.getElem?_eq_some_iff.mp hd).1) (sqL_mono s h) y
  obtain ⟨z, h1, rfl⟩ := enumP_get xs 0 i d hd
  obtain ⟨v1, k1, k2⟩ := q.get h1
  dsimp only at e4 e5
  rw [k1] at e5; cases e5
  cases e4
  refine .inr ⟨T, _, _, e2, e3, e1, rfl, .cons ?_ (.cons k2 .nil)⟩
  rw [Nat.zero_add]
  exact .int _
end

section
variable {X : Cx}
theorem PI.imp {tg e : Expr} {t t' : TI} (h : PI X tg e t) (i : ∀ τ H Q, t' τ H Q → t τ H Q) : PI X tg e t' := ⟨fun pins s τ H Q I q => h.run pins s τ H Q I (i τ H Q q)⟩
theorem PI.or {tg e : Expr} {t t' : TI} (h : PI X tg e t) (h' : PI X tg e t') : PI X tg e (fun τ H Q => t τ H Q ∨ t' τ H Q) := ⟨fun pins s τ H Q I q => by
  rcases q with q | q
  · exact h.run pins s τ H Q I q
  · exact h'.run pins s τ H Q I q⟩
/-- a value that is walked -/
theorem pi_val {tg e : Expr} {ma : Env → Hs → R D} (he : PE X e (rV X.K ma)) : PI X tg e (rI X.K fun σ h => (ma σ h).bind seqR) := by
  refine PI.imp (PI.or (pi_list he) (PI.or (pi_tup he) (pi_str he))) fun τ H Q q => ?_
  obtain ⟨F, ρ, σ, h, st, eo, fin⟩ := q
  dsimp only at fin
  cases ea : ma σ h with
  | ok x h1 =>
    rw [ea] at fin
    simp only [R.bind, seqR] at fin
    cases es : seqD x with
    | none => rw [es] at fin; exact fin.elim
    | some ds =>
      rw [es] at fin
      unfold seqD at es
      split at es
      · rename_i xs
        cases es
        refine .inl ⟨F, ρ, σ, h, st, eo, ?_⟩
        rw [ea]
        intro F1 ρ1 H1 v e1 st1 r1
        cases r1 with
        | lst h1 h2 => exact ⟨_, rfl, ⟨_, SqL.of (st1.same _ _ h1)⟩, fin F1 ρ1 H1 _ e1 st1 (wd_list (SqL.of h1) h2)⟩
      · rename_i xs
        cases es
        refine .inr (.inl ⟨F, ρ, σ, h, st, eo, ?_⟩)
        rw [ea]
        intro F1 ρ1 H1 v e1 st1 r1
        cases r1 with
        | tup h1 h2 => exact ⟨_, rfl, ⟨_, sqT_mono st1.same h1⟩, fin F1 ρ1 H1 _ e1 st1 (wd_tup h1 h2)⟩
      · rename_i z
        cases es
        refine .inr (.inr ⟨F, ρ, σ, h, st, eo, ?_⟩)
        rw [ea]
        intro F1 ρ1 H1 v e1 st1 r1
        cases r1
        exact ⟨z, rfl, fin F1 ρ1 H1 _ e1 st1 (wd_str z)⟩
      · rename_i ns
        cases es
        refine .inl ⟨F, ρ, σ, h, st, eo, ?_⟩
        rw [ea]
        intro F1 ρ1 H1 v e1 st1 r1
        obtain ⟨a, rfl, h1⟩ := r1
        refine ⟨_, rfl, ⟨_, sqL_mono st1.same h1⟩, fin F1 ρ1 H1 _ e1 st1 ?_⟩
        have := wd_list (ρ := ρ1) h1 (dq_ints ns)
        rwa [List.map_map] at this
      · cases es
  | ex _ _ => rw [ea] at fin; exact fin.elim
  | no => rw [ea] at fin; exact fin.elim

end
end En
/-! En: targets, comprehensions, loops -/
namespace En
open PySem L2
variable [Wd]

theorem wipe_get (τ : St) (j : Nat) : ∀ vs : List Nat, (L2.wipe τ vs)[j]? = if j ∈ vs then τ[j]?.map (fun _ => none) else τ[j]?
  | [] => by simp [L2.wipe]
  | v :: vs => by
    unfold L2.wipe
    rw [List.getElem?_set, wipe_get τ j vs, L2.wipe_length]
    by_cases h : v = j
    · subst h
      rw [if_pos rfl]
      by_cases hl : v < τ.length
      · rw [if_pos hl, if_pos List.mem_cons_self, List.getElem?_eq_getElem hl]
        rfl
      · rw [if_neg hl, if_pos List.mem_cons_self, List.getElem?_eq_none (by omega)]
        rfl
    · rw [if_neg h]
      by_cases hm : j ∈ vs
      · rw [if_pos hm, if_pos (List.mem_cons_of_mem _ hm)]
      · rw [if_neg hm, if_neg (by rw [List.mem_cons]; exact fun z => z.elim (fun e => h e.symm) hm)]
theorem wipe_set (τ : St) {i : Nat} {v : Option V} {vs : List Nat} (h : i ∈ vs) : L2.wipe (τ.set i v) vs = L2.wipe τ vs := by
  apply List.ext_getElem?
  intro j
  rw [wipe_get, wipe_get]
  by_cases hm : j ∈ vs
  · rw [if_pos hm, if_pos hm, List.getElem?_set]
    by_cases hj : i = j
    · subst hj
      rw [if_pos rfl]
      by_cases hl : i < τ.length
      · rw [if_pos hl, List.getElem?_eq_getElem hl]
        rfl
      · rw [if_neg hl, List.getElem?_eq_none (by omega)]
    · rw [if_neg hj]
  · have hj : i ≠ j := fun e => hm (e ▸ h)
    rw [if_neg hm, if_neg hm, List.getElem?_set_ne hj]
theorem wipe_wipe (τ τ' : St) (vs ws : List Nat) (h : L2.wipe τ vs = L2.wipe τ' vs) (hs : ∀ i ∈ vs, i ∈ ws) : L2.wipe τ ws = L2.wipe τ' ws := by
  apply List.ext_getElem?
  intro j
  have e := congrArg (fun l => l[j]?) h
  simp only [wipe_get] at e ⊢
  by_cases hm : j ∈ vs
  · rw [if_pos hm, if_pos hm] at e
    rw [if_pos (hs j hm), if_pos (hs j hm)]
    exact e
  · rw [if_neg hm, if_neg hm] at e
    rw [e]
theorem wipe_idem (τ : St) (vs : List Nat) : L2.wipe (L2.wipe τ vs) vs = L2.wipe τ vs := by
  apply List.ext_getElem?
  intro j
  rw [wipe_get, wipe_get]
  by_cases hm : j ∈ vs
  · rw [if_pos hm, if_pos hm]
    cases τ[j]? <;> rfl
  · rw [if_neg hm, if_neg hm]

def slots : Tg → List Nat
  | .nm i => [i]
  | .tp is => is
/-- a target is assigned -/
def gT (K : PySem.W.Frag) (t : Tg) : TG := fun v τ H Q => ∃ F ρ σ h x σ', Stt K F ρ h H ∧ EnvOk K F ρ σ τ ∧ Rep K F ρ x v ∧ bindTg t x σ = some σ' ∧
  ∀ τ' : St, EnvOk K F ρ σ' τ' → (∀ vs : List Nat, (∀ i ∈ slots t, i ∈ vs) → L2.wipe τ' vs = L2.wipe τ vs) → Q τ' H
def setV : List Nat → List V → St → St
  | i :: is, v :: vs, τ => setV is vs (τ.set i (some v))
  | _, _, τ => τ
def gNs : List Nat → TGs := fun is vs τ H Q => vs.length = is.length ∧ Q (setV is vs τ) H
theorem setV_wipe (ws : List Nat) : ∀ (is : List Nat) (vs : List V) (τ : St), (∀ i ∈ is, i ∈ ws) → L2.wipe (setV is vs τ) ws = L2.wipe τ ws
  | [], _, _, _ => by unfold setV; rfl
  | i :: is, [], _, _ => by unfold setV; rfl
  | i :: is, v :: vs, τ, h => by
    unfold setV
    rw [setV_wipe ws is vs _ (fun j hj => h j (List.mem_cons_of_mem _ hj)), wipe_set τ (h i List.mem_cons_self)]
theorem setAll_ok {K : PySem.W.Frag} {F : Hp} {ρ : List Addr} : ∀ (is : List Nat) (ds : List D) (vs : List V) (σ σ' : Env) (τ : St), EnvOk K F ρ σ τ → RepL K F ρ ds vs → setAll is ds σ = some σ' → EnvOk K F ρ σ' (setV is vs τ)
  | [], [], _, _, _, _, eo, r, e => by
    have r : _ = [] := r
    cases e
    rw [r]
    exact eo
  | i :: is, x :: xs, _, σ, σ', τ, eo, r, e => by
    obtain ⟨v, t, rfl, r1, r2⟩ := r
    unfold setV
    exact setAll_ok is xs t _ σ' _ (eo.put i r1) r2 e
  | [], _ :: _, _, _, _, _, _, _, e => by cases e
  | _ :: _, [], _, _, _, _, _, _, e => by cases e

/-- a name that the code at hand stores -/
def locB (sc : Scope) (fn : Str → Bool) (x : Str) : Bool := match sc.names.lookup x with
  | some .local => true
  | some .cell => fn x
  | _ => false
def ckNames (N : List Str) (sc : Scope) (fn : Str → Bool) : List Nat → List Expr → Bool
  | [], [] => true
  | i :: is, .Name x _ :: es => decide (N[i]? = some x) && locB sc fn x && ckNames N sc fn is es
  | _, _ => false
def ckTg (N : List Str) (sc : Scope) (fn : Str → Bool) : Tg → Expr → Bool
  | .nm i, .Name x _ => decide (N[i]? = some x) && locB sc fn x
  | .tp is, .Tuple es _ _ => ckNames N sc fn is es
  | _, _ => false
section
variable {X : Cx}
theorem locB_ok {sc : Scope} {fn : Str → Bool} {x : Str} (hs : X.env.scope = sc) (hf : X.fn = fn) (h : locB sc fn x = true) : Loc X.env.scope x ∧ (X.fn x = true ∨ X.env.scope.names.lookup x = some .local) := by
  unfold locB at h
  rw [hs, hf]
  split at h
  · rename_i e
    exact ⟨.inl e, .inr e⟩
  · rename_i e
    exact ⟨.inr e, .inl h⟩
  · cases h
theorem PG.imp {e : Expr} {t t' : TG} (h : PG X e t) (i : ∀ v τ H Q, t' v τ H Q → t v τ H Q) : PG X e t' := ⟨fun pins s τ H v u Q I r q => h.run pins s τ H v u Q I r (i v τ H Q q)⟩
theorem pgs_names {N : List Str} {sc : Scope} {fn : Str → Bool} (hN : X.N = N) (nd : X.N.Nodup) (hs : X.env.scope = sc) (hf : X.fn = fn) : ∀ (is : List Nat) (es : List Expr), ckNames N sc fn is es = true →
    PGs X es (gNs is) ∧ (assignEach es X.env).length = is.length ∧ (assignEach es X.env).findIdx? (·.1) = none
  | [], [], _ => ⟨⟨fun pins s τ H vs us Q I r q => by
      obtain ⟨e, q⟩ := q
      have e' : vs = [] := List.length_eq_zero_iff.mp e
      subst e'
      exact pgs_nil.run pins s τ H [] us Q I r ⟨rfl, q⟩⟩, rfl, rfl⟩
  | i :: is, .Name x p :: es, h => by
    unfold ckNames at h
    simp only [Bool.and_eq_true, decide_eq_true_eq] at h
    obtain ⟨⟨h1, h2⟩, h3⟩ := h
    obtain ⟨l1, l2⟩ := locB_ok hs hf h2
    obtain ⟨ih, e1, e2⟩ := pgs_names hN nd hs hf is es h3
    refine ⟨⟨fun pins s τ H vs us Q I r q => ?_⟩, congrArg (· + 1) e1, ?_⟩
    · obtain ⟨e, q⟩ := q
      cases vs with
      | nil => cases e
      | cons v vs =>
        refine (pgs_cons (pg_name (i := i) nd (by rw [hN]; exact h1) l1 l2) ih rfl).run pins s τ H (v :: vs) us Q I r ⟨v, vs, rfl, ?_⟩
        exact ⟨Nat.succ.inj e, q⟩
    · show ((false, assign (.Name x p) X.env) :: assignEach es X.env).findIdx? (·.1) = none
      rw [List.findIdx?_cons, e2]
      rfl
  | [], _ :: _, h => by cases h
  | _ :: _, [], h => by cases h
  | _ :: _, .BoolOp .. :: _, h => by cases h
  | _ :: _, .NamedExpr .. :: _, h => by cases h
  | _ :: _, .BinOp .. :: _, h => by cases h
  | _ :: _, .UnaryOp .. :: _, h => by cases h
  | _ :: _, .Lambda .. :: _, h => by cases h
  | _ :: _, .IfExp .. :: _, h => by cases h
  | _ :: _, .Dict .. :: _, h => by cases h
  | _ :: _, .Set .. :: _, h => by cases h
  | _ :: _, .ListComp .. :: _, h => by cases h
  | _ :: _, .SetComp .. :: _, h => by cases h
  | _ :: _, .DictComp .. :: _, h => by cases h
  | _ :: _, .GeneratorExp .. :: _, h => by cases h
  | _ :: _, .Await .. :: _, h => by cases h
  | _ :: _, .Yield .. :: _, h => by cases h
  | _ :: _, .YieldFrom .. :: _, h => by cases h
  | _ :: _, .Compare .. :: _, h => by cases h
  | _ :: _, .Call .. :: _, h => by cases h
  | _ :: _, .FormattedValue .. :: _, h => by cases h
  | _ :: _, .JoinedStr .. :: _, h => by cases h
  | _ :: _, .Constant .. :: _, h => by cases h
  | _ :: _, .Attribute .. :: _, h => by cases h
  | _ :: _, .Subscript .. :: _, h => by cases h
  | _ :: _, .Starred .. :: _, h => by cases h
  | _ :: _, .List .. :: _, h => by cases h
  | _ :: _, .Tuple .. :: _, h => by cases h
  | _ :: _, .Slice .. :: _, h => by cases h
theorem tupItems_ok {K : PySem.W.Frag} {F : Hp} {ρ : List Addr} {x : D} {v : V} {ds : List D} (r : Rep K F ρ x v) (e : tupItems x = some ds) : ∃ a vs, v = .ref a ∧ SqT K F a vs ∧ RepL K F ρ ds vs := by
  unfold tupItems at e
  split at e
  · cases e
    cases r with
    | tup h1 h2 => exact ⟨_, _, rfl, h1, repL_d h2⟩
  · cases e
    exact r
  · cases e
theorem pg_ok {N : List Str} {sc : Scope} {fn : Str → Bool} {t : Tg} {e : Expr} (hc : X.calm = true) (hN : X.N = N) (nd : X.N.Nodup) (hs : X.env.scope = sc) (hf : X.fn = fn) (h : ckTg N sc fn t e = true) : PG X e (gT X.K t) := by
  unfold ckTg at h
  split at h
  · rename_i i x p
    simp only [Bool.and_eq_true, decide_eq_true_eq] at h
    obtain ⟨l1, l2⟩ := locB_ok hs hf h.2
    refine PG.imp (pg_name (i := i) nd (by rw [hN]; exact h.1) l1 l2) fun v τ H Q q => ?_
    obtain ⟨F, ρ, σ, hh, x, σ', st, eo, r, e, k⟩ := q
    cases e
    exact k _ (eo.put i r) fun vs hv => wipe_set τ (hv i List.mem_cons_self)
  · rename_i is es k2 p
    obtain ⟨g, e1, e2⟩ := pgs_names hN nd hs hf is es h
    refine PG.imp (pg_tup hc g e1 e2) fun v τ H Q q => ?_
    obtain ⟨F, ρ, σ, hh, x, σ', st, eo, r, e, k⟩ := q
    unfold bindTg at e
    dsimp only at e
    split at e
    · rename_i ds hd
      split at e
      · rename_i hl
        obtain ⟨a, vs, rfl, q1, q2⟩ := tupItems_ok r hd
        have hv : vs.length = is.length := by rw [q2.len]; exact hl
        exact ⟨a, vs, rfl, sqT_mono st.same q1, hv, hv, k _ (setAll_ok is ds vs σ σ' τ eo q2 e) fun ws hw => setV_wipe ws is vs τ hw⟩
      · cases e
    · cases e
  · cases h
end
end En
/-! En: list comprehensions -/
namespace En
open PySem L2
variable [Wd]

/-- as Exh, but for the thing at p -/
structure Exd (p : Addr) (F : Hp) (ρ : List Addr) (H F' : Hp) (ρ' : List Addr) (H' : Hp) : Prop extends Ext F ρ F' ρ' where
  k : ∀ (b : Addr) (o : HO), b ≠ p → H b = some o → b ∉ ρ → H' b = some o
  n : ∀ b ∈ ρ', b ∈ ρ ∨ H b = none
  m : ∀ (b : Addr) (o : HO), b ≠ p → H b = some o → b ∉ ρ → F b = none → F' b = none
section
variable {p : Addr} {K : PySem.W.Frag} {F F1 F2 H H1 H2 : Hp} {ρ ρ1 ρ2 : List Addr} {h : Hs}
theorem Exd.refl (F : Hp) (ρ : List Addr) (H : Hp) : Exd p F ρ H F ρ H := ⟨Ext.refl F ρ, fun _ _ _ e _ => e, fun _ e => .inl e, fun _ _ _ _ _ e => e⟩
theorem Exh.exd (a : Exh F ρ H F1 ρ1 H1) : Exd p F ρ H F1 ρ1 H1 := ⟨a.toExt, fun b o _ e hb => a.k b o e hb, a.n, fun b o _ e hb f => a.m b o e hb f⟩
theorem Exd.trans {o : HO} (hp : H1 p = some o) (a : Exd p F ρ H F1 ρ1 H1) (b : Exd p F1 ρ1 H1 F2 ρ2 H2) (hp0 : ∃ u, H p = some u) : Exd p F ρ H F2 ρ2 H2 := by
  have off : ∀ c u, H c = some u → c ∉ ρ → c ∉ ρ1 := fun c u e hc hm => by
    rcases a.n c hm with z | z
    · exact hc z
    · rw [e] at z; cases z
  refine ⟨a.toExt.trans b.toExt, fun c u ne e hc => b.k c u ne (a.k c u ne e hc) (off c u e hc), fun c hc => ?_, fun c u ne e hc f => b.m c u ne (a.k c u ne e hc) (off c u e hc) (a.m c u ne e hc f)⟩
  rcases b.n c hc with z | z
  · exact a.n c z
  · by_cases hm : c ∈ ρ
    · exact .inl hm
    · cases q : H c with
      | none => exact .inr rfl
      | some u =>
        by_cases hcp : c = p
        · rw [hcp, hp] at z; cases z
        · have := a.k c u hcp q hm
          rw [z] at this; cases this
/-- what is tracked besides is changed -/
theorem Stt.off (s : Stt K F ρ h H) {o : HO} (f : F p = none) (np : p ∉ ρ) : Stt K F ρ h (upd H p o) := by
  refine ⟨fun b u q => ?_, s.len, s.nd, fun n a c q1 q2 => ?_⟩
  · have ne : b ≠ p := fun z => by rw [z, f] at q; cases q
    rw [upd_ne ne]
    exact s.same b u q
  · have ne : a ≠ p := fun z => np (by rw [← z]; exact List.mem_of_getElem? q1)
    obtain ⟨q, u, hu⟩ := s.cell n a c q1 q2
    refine ⟨?_, u, by rw [upd_ne ne]; exact hu⟩
    cases c with
    | dead => trivial
    | lst xs =>
      obtain ⟨f0, vs, h1, h2⟩ := q
      exact ⟨f0, vs, by rw [upd_ne ne]; exact h1, h2⟩
theorem exd_put {o : HO} : Exd p F ρ H F ρ (upd H p o) := ⟨Ext.refl F ρ, fun b u ne e _ => by rw [upd_ne ne]; exact e, fun _ e => .inl e, fun _ _ _ _ _ e => e⟩
/-- .. becomes a cell -/
theorem Stt.adoptC (s : Stt K F ρ h H) {vs : List V} {xs : List PyData} (f : F p = none) (np : p ∉ ρ) (e : H p = some (.lst vs)) (q : DqA K F vs xs) : Stt K F (ρ ++ [p]) (h ++ [.lst xs]) H := by
  refine ⟨s.same, by simp [s.len], ?_, fun n a c q1 q2 => ?_⟩
  · rw [List.nodup_append]
    refine ⟨s.nd, List.nodup_cons.mpr ⟨by simp, List.nodup_nil⟩, fun x hx y hy => ?_⟩
    rw [List.mem_singleton] at hy
    subst hy
    rintro rfl
    exact np hx
  · by_cases hn : n < ρ.length
    · rw [List.getElem?_append_left hn] at q1
      rw [List.getElem?_append_left (by rw [← s.len]; exact hn)] at q2
      exact s.cell n a c q1 q2
    · have e1 : n = ρ.length := by
        have := (List.getElem?_eq_some_iff.mp q1).1
        rw [List.length_append, List.length_singleton] at this
        omega
      subst e1
      rw [List.getElem?_append_right (Nat.le_refl _), Nat.sub_self] at q1
      rw [s.len, List.getElem?_append_right (Nat.le_refl _), Nat.sub_self] at q2
      cases q1; cases q2
      exact ⟨⟨f, vs, e, q⟩, _, e⟩
/-- .. never changes again -/
theorem Stt.adoptF (s : Stt K F ρ h H) {o : HO} (f : F p = none) (np : p ∉ ρ) (e : H p = some o) : Stt K (upd F p o) ρ h H ∧ Same F (upd F p o) := by
  have sm : Same F (upd F p o) := fun b u q => by
    rw [upd_ne (ne_of_none q f)]
    exact q
  refine ⟨⟨fun b u q => ?_, s.len, s.nd, fun n a c q1 q2 => ?_⟩, sm⟩
  · by_cases hb : b = p
    · subst hb
      rw [upd_same] at q
      rw [← q]
      exact e
    · rw [upd_ne hb] at q
      exact s.same b u q
  · have ne : a ≠ p := fun z => np (by rw [← z]; exact List.mem_of_getElem? q1)
    obtain ⟨q, u, hu⟩ := s.cell n a c q1 q2
    refine ⟨?_, u, hu⟩
    cases c with
    | dead => trivial
    | lst xs =>
      obtain ⟨f0, vs, h1, h2⟩ := q
      exact ⟨by rw [upd_ne ne]; exact f0, vs, h1, DqA.mono sm _ _ h2⟩
end

/-- a comprehension's loop: its list at p -/
theorem comp_loop {K : PySem.W.Frag} {p : Addr} {F1 H1 : Hp} {ρ1 : List Addr} {J : It} {ds : List D} {h1 h2 : Hs} {f : D → Hs → R (Option PyData)} (it : PyData → List PyData) {TP : V → Hp → (Hp → Prop) → Prop} {Fn : Hp → Prop}
    {acc0 : List V} {done0 ys : List PyData} (wd : WalkD K F1 ρ1 J ds) (st1 : Stt K F1 ρ1 h1 H1) (hp : H1 p = some (.lst acc0)) (fp : F1 p = none) (np : p ∉ ρ1) (q0 : DqA K F1 acc0 done0)
    (hc : compL ρ1.length f ds h1 = .ok ys h2) (hz : (done0 ++ ys.flatMap it).length ≤ sizeLine)
    (fin : ∀ (F2 H2 : Hp) (acc : List V), Exd p F1 ρ1 H1 F2 ρ1 H2 → Stt K F2 ρ1 h2 H2 → F2 p = none → H2 p = some (.lst acc) → DqA K F2 acc (done0 ++ ys.flatMap it) → Fn H2)
    (turn : ∀ (d : D) (x : V) (F2 H' : Hp) (hh : Hs) (acc : List V) (done : List PyData) (o : Option PyData) (h3 : Hs) (Nx : Hp → Prop), f d hh = .ok o h3 → Exd p F1 ρ1 H1 F2 ρ1 H' → Stt K F2 ρ1 hh H' → Rep K F2 ρ1 d x → F2 p = none →
      H' p = some (.lst acc) → DqA K F2 acc done → (done ++ o.toList.flatMap it).length ≤ sizeLine →
      (∀ (F4 H4 : Hp) (acc' : List V), Exd p F1 ρ1 H1 F4 ρ1 H4 → Stt K F4 ρ1 (h3.take ρ1.length) H4 → F4 p = none → H4 p = some (.lst acc') → DqA K F4 acc' (done ++ o.toList.flatMap it) → Nx H4) → TP x H' Nx) :
    ∃ W : Nat → Nat → Hp → Prop, (∃ m, W 0 m H1) ∧ ∀ i m H, W i m H → (J.stop i H ∧ Fn H) ∨ (J.go i H ∧ ∃ Nx : Hp → Prop, (∀ H', Nx H' → ∃ m', m' < m ∧ W (i + 1) m' H') ∧ ∀ x H', J.yld i H x H' → TP x H' Nx) := by
  refine ⟨fun i m H => m = ds.length - i ∧ i ≤ ds.length ∧ ∃ (F2 : Hp) (hh : Hs) (acc : List V) (done rest : List PyData), Exd p F1 ρ1 H1 F2 ρ1 H ∧ Stt K F2 ρ1 hh H ∧ F2 p = none ∧ H p = some (.lst acc) ∧ DqA K F2 acc done ∧
    compL ρ1.length f (ds.drop i) hh = .ok rest h2 ∧ done ++ rest.flatMap it = done0 ++ ys.flatMap it, ⟨ds.length, by simp, Nat.zero_le _, F1, h1, acc0, done0, ys, Exd.refl F1 ρ1 H1, st1, fp, hp, q0, by rw [List.drop_zero]; exact hc, rfl⟩, ?_⟩
  rintro i m H ⟨rfl, hi, F2, hh, acc, done, rest, ex, st, f2, hH, q, hcl, hd⟩
  have sF : Same F1 H := ex.f.trans st.same
  by_cases hlt : i < ds.length
  · refine .inr ⟨wd.goes i H hlt sF, fun H' => ds.length - (i + 1) = ds.length - (i + 1) ∧ i + 1 ≤ ds.length ∧ ∃ (F2 : Hp) (hh : Hs) (acc : List V) (done rest : List PyData), Exd p F1 ρ1 H1 F2 ρ1 H' ∧ Stt K F2 ρ1 hh H' ∧ F2 p = none ∧ H' p = some (.lst acc) ∧ DqA K F2 acc done ∧
      compL ρ1.length f (ds.drop (i + 1)) hh = .ok rest h2 ∧ done ++ rest.flatMap it = done0 ++ ys.flatMap it, fun H' w => ⟨ds.length - (i + 1), by omega, w⟩, fun x H' y => ?_⟩
    have hdi : ds[i]? = some ds[i] := List.getElem?_eq_getElem hlt
    obtain ⟨F3, e3, st3, r3⟩ := wd.next ex.toExt st hdi y
    rw [List.drop_eq_getElem_cons hlt] at hcl
    unfold compL at hcl
    cases ef : f ds[i] hh with
    | ok o h3 =>
      rw [ef] at hcl
      have hcl : (compL ρ1.length f (ds.drop (i + 1)) (h3.take ρ1.length)).bind (fun zs h4 => R.ok (o.toList ++ zs) h4) = .ok rest h2 := hcl
      cases ec : compL ρ1.length f (ds.drop (i + 1)) (h3.take ρ1.length) with
      | ok zs h4 =>
        rw [ec] at hcl
        have hcl : R.ok (o.toList ++ zs) h4 = .ok rest h2 := hcl
        cases hcl
        have hH' : H' p = some (.lst acc) := e3.k p _ hH np
        have ex' : Exd p F1 ρ1 H1 F3 ρ1 H' := Exd.trans hH ex e3.exd ⟨_, hp⟩
        have hd' : (done ++ o.toList.flatMap it) ++ zs.flatMap it = done0 ++ ys.flatMap it := by
          rw [← hd, List.flatMap_append, List.append_assoc]
        refine turn ds[i] x F3 H' hh acc done o h3 _ ef ex' st3 r3 (e3.m p _ hH np f2) hH' (DqA.mono e3.f _ _ q) ?_ fun F4 H4 acc' a1 a2 a3 a4 a5 => ⟨rfl, hlt, F4, _, acc', _, zs, a1, a2, a3, a4, a5, ec, hd'⟩
        rw [← hd', List.length_append] at hz
        omega
      | ex _ _ => rw [ec] at hcl; cases hcl
      | no => rw [ec] at hcl; cases hcl
    | ex _ _ => rw [ef] at hcl; cases hcl
    | no => rw [ef] at hcl; cases hcl
  · have e : i = ds.length := by omega
    subst e
    rw [List.drop_length] at hcl
    unfold compL at hcl
    cases hcl
    rw [List.flatMap_nil, List.append_nil] at hd
    subst hd
    exact .inl ⟨wd.stops H sF, fin F2 H acc ex st f2 hH q⟩

theorem bind_ok {α β : Type} {r : R α} {f : α → Hs → R β} {y : β} {h : Hs} (e : r.bind f = .ok y h) : ∃ x h1, r = .ok x h1 ∧ f x h1 = .ok y h := by
  cases r with
  | ok x h1 => exact ⟨x, h1, rfl, e⟩
  | ex _ _ => cases e
  | no => cases e
theorem turn_inv {own : List Nat} {t : Tg} {ifs : Sm} {k : Env → Hs → R (Option PyData)} {σ : Env} {d : D} {h h3 : Hs} {o : Option PyData} (e : turn own t ifs k σ d h = .ok o h3) :
    ∃ σ2 b h2, bindTg t d (wipeE σ own) = some σ2 ∧ ifs.ts σ2 h = .ok b h2 ∧ (if b = true then k σ2 h2 = .ok o h3 else o = none ∧ h3 = h2) := by
  unfold turn at e
  split at e
  · rename_i σ2 hb
    obtain ⟨b, h2, e1, e2⟩ := bind_ok e
    refine ⟨σ2, b, h2, hb, e1, ?_⟩
    cases b with
    | true => simpa using e2
    | false =>
      have e2 : R.ok none h2 = .ok o h3 := by simpa using e2
      cases e2
      simp
  · cases e
theorem some1_inv {r : R D} {o : Option PyData} {h : Hs} (e : some1 r = .ok o h) : ∃ y, r = .ok (.d y) h ∧ o = some y := by
  unfold some1 at e
  obtain ⟨x, h1, e1, e2⟩ := bind_ok e
  cases x with
  | d y =>
    have e2 : R.ok (some y) h1 = .ok o h := e2
    cases e2
    exact ⟨y, e1, rfl⟩
  | _ => cases e2
/-- one turn: a target, tests, a value that is appended -/
theorem turn1 {K : PySem.W.Frag} {p : Addr} {F1 H1 : Hp} {ρ1 : List Addr} {own : List Nat} {t : Tg} {ifs : Sm} {me : Env → Hs → R D} {σ : Env} {τ : St} (eo : EnvOk K F1 ρ1 σ τ) (hown : ∀ i ∈ slots t, i ∈ own) (np : p ∉ ρ1) (hp1 : ∃ u, H1 p = some u)
    (d : D) (x : V) (F2 H' : Hp) (hh : Hs) (acc : List V) (done : List PyData) (o : Option PyData) (h3 : Hs) (Nx : Hp → Prop) (ef : turn own t ifs (fun σ2 h3 => some1 (me σ2 h3)) σ d hh = .ok o h3) (ex : Exd p F1 ρ1 H1 F2 ρ1 H') (st : Stt K F2 ρ1 hh H')
    (r : Rep K F2 ρ1 d x) (f2 : F2 p = none) (hH : H' p = some (.lst acc)) (q : DqA K F2 acc done) (hz : (done ++ o.toList.flatMap fun y => [y]).length ≤ sizeLine)
    (nx : ∀ (F4 H4 : Hp) (acc' : List V), Exd p F1 ρ1 H1 F4 ρ1 H4 → Stt K F4 ρ1 (h3.take ρ1.length) H4 → F4 p = none → H4 p = some (.lst acc') → DqA K F4 acc' (done ++ o.toList.flatMap fun y => [y]) → Nx H4) :
    gT K t x (L2.wipe τ own) H' fun τ2 H2 => L2.wipe τ2 own = L2.wipe τ own ∧ rT K ifs.ts τ2 H2 fun b H3 =>
      if b = true then rV K me τ2 H3 fun y H4 => ∃ acc, H4 p = some (.lst acc) ∧ acc.length < sizeLine ∧ Nx (upd H4 p (.lst (acc ++ [y]))) else Nx H3 := by
  obtain ⟨σ2, b, h2, e1, e2, e3⟩ := turn_inv ef
  refine ⟨F2, ρ1, wipeE σ own, hh, d, σ2, st, (eo.mono ex.toExt).wipe own, r, e1, fun τ2 eo2 hw => ⟨(hw own hown).trans (wipe_idem τ own), F2, ρ1, σ2, hh, st, eo2, ?_⟩⟩
  rw [e2]
  intro F4 ρ4 H4 x4 st4
  have hH4 : H4 p = some (.lst acc) := x4.k p _ hH np
  have f4 : F4 p = none := x4.m p _ hH np f2
  have np4 : p ∉ ρ4 := fun z => by
    rcases x4.n p z with z | z
    · exact np z
    · rw [hH] at z; cases z
  have cutR : ρ4.take ρ1.length = ρ1 := take_pre x4.r
  have back : ∀ {F5 H5 : Hp} {ρ5 : List Addr} {h5 : Hs}, Exh F2 ρ1 H' F5 ρ5 H5 → Stt K F5 ρ5 h5 H5 → Stt K F5 ρ1 (h5.take ρ1.length) H5 ∧ Exd p F1 ρ1 H1 F5 ρ1 H5 := fun {F5 H5 ρ5 h5} x5 st5 => by
    have c := st5.cut ρ1.length
    rw [take_pre x5.r] at c
    refine ⟨c, Exd.trans hH ex ?_ hp1⟩
    exact ⟨⟨x5.f, List.prefix_refl ρ1⟩, fun b o _ e hb => x5.k b o e hb, fun _ e => .inl e, fun b o _ e hb f => x5.m b o e hb f⟩
  cases b with
  | false =>
    obtain ⟨rfl, rfl⟩ : o = none ∧ h3 = h2 := by simpa using e3
    simp only [Bool.false_eq_true, if_false]
    obtain ⟨c1, c2⟩ := back x4 st4
    exact nx F4 H4 acc c2 c1 f4 hH4 (by simpa using DqA.mono x4.f _ _ q)
  | true =>
    have e3 : some1 (me σ2 h2) = .ok o h3 := by simpa using e3
    obtain ⟨y, e4, rfl⟩ := some1_inv e3
    simp only [if_true]
    refine ⟨F4, ρ4, σ2, h2, st4, eo2.mono x4.toExt, ?_⟩
    rw [e4]
    intro F5 ρ5 H5 v x5 st5 r5
    have hH5 : H5 p = some (.lst acc) := x5.k p _ hH4 np4
    have f5 : F5 p = none := x5.m p _ hH4 np4 f4
    obtain ⟨c1, c2⟩ := back (x4.trans x5) st5
    have hl : done.length + 1 ≤ sizeLine := by simpa using hz
    refine ⟨acc, hH5, by rw [q.len]; exact hl, nx F5 _ (acc ++ [v]) (Exd.trans hH5 c2 exd_put hp1) (c1.off f5 np) f5 upd_same ?_⟩
    have := (DqA.mono (x4.trans x5).f _ _ q).app (.cons r5 .nil)
    simpa using this

section
variable {X : Cx}
theorem exd_exh {p : Addr} {F H F1 H1 H2 : Hp} {ρ : List Addr} {o u : HO} (hp : H p = none) (x : Exd p F ρ (upd H p o) F1 ρ H1) : Exh F ρ H F1 ρ H1 :=
  ⟨x.toExt, fun b u e hb => x.k b u (ne_of_none e hp) (by rw [upd_ne (ne_of_none e hp)]; exact e) hb, fun _ e => .inl e, fun b u e hb f => x.m b u (ne_of_none e hp) (by rw [upd_ne (ne_of_none e hp)]; exact e) hb f⟩
/-- the list is ready -/
theorem comp_done {K : PySem.W.Frag} {p : Addr} {F ρ H F1 ρ1 H1 F2 H2} {m : Bool} {xs : List PyData} {acc : List V} {h2 : Hs} {Q : VK} (e1 : Exh F ρ H F1 ρ1 H1) (hp : H1 p = none) (np : p ∉ ρ1) (x : Exd p F1 ρ1 (upd H1 p (.lst [])) F2 ρ1 H2) (st : Stt K F2 ρ1 h2 H2) (f2 : F2 p = none)
    (hH : H2 p = some (.lst acc)) (q : DqA K F2 acc xs) (fin : Fin K F ρ H (mkL m xs h2) Q) : Q (.ref p) H2 := by
  have e2 : Exh F1 ρ1 H1 F2 ρ1 H2 := exd_exh (H2 := H2) (u := .lst []) hp x
  have e3 := e1.trans e2
  have hp0 : H p = none := by
    cases z : H p with
    | none => rfl
    | some o =>
      by_cases hm : p ∈ ρ
      · exact absurd (e1.r.subset hm) np
      · have := e1.k p o z hm
        rw [hp] at this; cases this
  unfold mkL at fin
  split at fin
  · cases m with
    | true =>
      refine fin F2 (ρ1 ++ [p]) H2 _ ⟨⟨e3.f, e3.r.trans (List.prefix_append _ _)⟩, e3.k, fun b hb => ?_, e3.m⟩ (st.adoptC f2 np hH q) ⟨p, ?_, rfl⟩
      · rcases List.mem_append.mp hb with z | z
        · exact e3.n b z
        · rw [List.mem_singleton] at z
          rw [z]
          exact .inr hp0
      · rw [← st.len, List.getElem?_append_right (Nat.le_refl _), Nat.sub_self]
        rfl
    | false =>
      obtain ⟨s3, sm⟩ := st.adoptF f2 np hH
      refine fin _ ρ1 H2 _ ⟨⟨e3.f.trans sm, e3.r⟩, e3.k, e3.n, fun b o e hb f => ?_⟩ s3 (.lst upd_same (DqA.mono sm _ _ q))
      rw [upd_ne (ne_of_none e hp0)]
      exact e3.m b o e hb f
  · exact fin.elim
theorem lc_read {K : PySem.W.Frag} {mi : Env → Hs → R (List D)} {own : List Nat} {t : Tg} {ifs : Sm} {me : Env → Hs → R D} {m : Bool} (hown : ∀ i ∈ slots t, i ∈ own) {τ : St} {H : Hp} {Q : VK}
    (q : rV K (fun σ h => (mi σ h).bind fun ds h1 => (compL h1.length (turn own t ifs (fun σ2 h3 => some1 (me σ2 h3)) σ) ds h1).bind fun ys h2 => mkL m ys h2) τ H Q) :
    tLc (rI K mi) (gT K t) (rT K ifs.ts) (rV K me) own τ H Q := by
  obtain ⟨F, ρ, σ, h, st, eo, fin⟩ := q
  dsimp only at fin
  refine ⟨F, ρ, σ, h, st, eo, ?_⟩
  cases ei : mi σ h with
  | ok ds h1 =>
    rw [ei] at fin
    have fin : Fin K F ρ H ((compL h1.length (turn own t ifs (fun σ2 h3 => some1 (me σ2 h3)) σ) ds h1).bind fun ys h2 => mkL m ys h2) Q := fin
    intro F1 ρ1 H1 J e1 st1 wd p hp
    cases ec : compL h1.length (turn own t ifs (fun σ2 h3 => some1 (me σ2 h3)) σ) ds h1 with
    | ok ys h2 =>
      rw [ec] at fin
      have fin : Fin K F ρ H (mkL m ys h2) Q := fin
      have np : p ∉ ρ1 := fun hm => by
        obtain ⟨n, hn⟩ := List.getElem?_of_mem hm
        have hl : n < h1.length := by rw [← st1.len]; exact (List.getElem?_eq_some_iff.mp hn).1
        obtain ⟨_, u, hu⟩ := st1.cell n p _ hn (List.getElem?_eq_getElem hl)
        rw [hp] at hu; cases hu
      have fp : F1 p = none := by
        cases z : F1 p with
        | none => rfl
        | some u =>
          have := st1.same p u z
          rw [hp] at this; cases this
      have hz : ([] ++ ys.flatMap fun y => [y]).length ≤ sizeLine := by
        unfold mkL at fin
        split at fin
        · rename_i hz
          simpa using hz
        · exact fin.elim
      refine comp_loop (fun y => [y]) (acc0 := []) (done0 := []) wd (st1.more hp) upd_same fp np .nil (by rw [st1.len]; exact ec) hz (fun F2 H2 acc x2 st2 f2 hH2 q2 => ?_) fun d x F2 H' hh acc done o h3 Nx a1 a2 a3 a4 a5 a6 a7 a8 a9 => turn1 (eo.mono e1.toExt) hown np ⟨_, upd_same⟩ d x F2 H' hh acc done o h3 Nx a1 a2 a3 a4 a5 a6 a7 a8 a9
      exact comp_done e1 hp np x2 st2 f2 hH2 (by simpa using q2) fin
    | ex _ _ => rw [ec] at fin; exact fin.elim
    | no => rw [ec] at fin; exact fin.elim
  | ex _ _ => rw [ei] at fin; exact fin
  | no => rw [ei] at fin; exact fin
end
end En
/-! En: list comprehensions of two clauses -/
namespace En
open PySem L2
variable [Wd]
theorem lc2_read {K : PySem.W.Frag} {mi mi1 : Env → Hs → R (List D)} {own vs1 : List Nat} {t t1 : Tg} {ifs ifs1 : Sm} {me : Env → Hs → R D} (hown : ∀ i ∈ slots t, i ∈ own) (hown1 : ∀ i ∈ slots t1, i ∈ vs1) {τ : St} {H : Hp} {Q : VK}
    (q : rV K (fun σ h => (mi σ h).bind fun ds h1 => (compL h1.length (turn own t ifs (in2 mi1 vs1 t1 ifs1 me) σ) ds h1).bind fun yss h2 => mkL false (yss.flatMap unL) h2) τ H Q) :
    tLc2 (rI K mi) (gT K t) (rT K ifs.ts) (rI K mi1) (gT K t1) (rT K ifs1.ts) (rV K me) own vs1 τ H Q := by
  obtain ⟨F, ρ, σ, h, st, eo, fin⟩ := q
  dsimp only at fin
  refine ⟨F, ρ, σ, h, st, eo, ?_⟩
  cases ei : mi σ h with
  | ok ds h1 =>
    rw [ei] at fin
    have fin : Fin K F ρ H ((compL h1.length (turn own t ifs (in2 mi1 vs1 t1 ifs1 me) σ) ds h1).bind fun yss h2 => mkL false (yss.flatMap unL) h2) Q := fin
    intro F1 ρ1 H1 J e1 st1 wd p hp
    cases ec : compL h1.length (turn own t ifs (in2 mi1 vs1 t1 ifs1 me) σ) ds h1 with
    | ok ys h2 =>
      rw [ec] at fin
      have fin : Fin K F ρ H (mkL false (ys.flatMap unL) h2) Q := fin
      have np : p ∉ ρ1 := fun hm => by
        obtain ⟨n, hn⟩ := List.getElem?_of_mem hm
        have hl : n < h1.length := by rw [← st1.len]; exact (List.getElem?_eq_some_iff.mp hn).1
        obtain ⟨_, u, hu⟩ := st1.cell n p _ hn (List.getElem?_eq_getElem hl)
        rw [hp] at hu; cases hu
      have fp : F1 p = none := by
        cases z : F1 p with
        | none => rfl
        | some u =>
          have := st1.same p u z
          rw [hp] at this; cases this
      have hz : ([] ++ ys.flatMap unL).length ≤ sizeLine := by
        unfold mkL at fin
        split at fin
        · rename_i hz
          simpa using hz
        · exact fin.elim
      have hp1 : ∃ u, upd H1 p (.lst []) p = some u := ⟨_, upd_same⟩
      refine comp_loop unL (acc0 := []) (done0 := []) wd (st1.more hp) upd_same fp np .nil (by rw [st1.len]; exact ec) hz (fun F2 H2 acc x2 st2 f2 hH2 q2 => ?_) fun d x F2 H' hh acc done o h3 Nx ef ex st r f2 hH q hz nx => ?_
      · exact comp_done e1 hp np x2 st2 f2 hH2 (by simpa using q2) fin
      · obtain ⟨σ2, b, h3', a1, a2, a3⟩ := turn_inv ef
        refine ⟨F2, ρ1, wipeE σ own, hh, d, σ2, st, ((eo.mono e1.toExt).mono ex.toExt).wipe own, r, a1, fun τ2 eo2 hw => ⟨(hw own hown).trans (wipe_idem τ own), F2, ρ1, σ2, hh, st, eo2, ?_⟩⟩
        rw [a2]
        intro F4 ρ4 H4 x4 st4
        have hH4 : H4 p = some (.lst acc) := x4.k p _ hH np
        have f4 : F4 p = none := x4.m p _ hH np f2
        have back : ∀ {F5 H5 : Hp} {ρ5 : List Addr} {h5 : Hs}, Exd p F2 ρ1 H' F5 ρ5 H5 → Stt K F5 ρ5 h5 H5 → Stt K F5 ρ1 (h5.take ρ1.length) H5 ∧ Exd p F1 ρ1 (upd H1 p (.lst [])) F5 ρ1 H5 := fun {F5 H5 ρ5 h5} x5 st5 => by
          have c := st5.cut ρ1.length
          rw [take_pre x5.r] at c
          refine ⟨c, Exd.trans hH ex ?_ hp1⟩
          exact ⟨⟨x5.f, List.prefix_refl ρ1⟩, x5.k, fun _ e => .inl e, x5.m⟩
        cases b with
        | false =>
          obtain ⟨rfl, rfl⟩ : o = none ∧ h3 = h3' := by simpa using a3
          simp only [Bool.false_eq_true, if_false]
          obtain ⟨c1, c2⟩ := back x4.exd st4
          exact nx F4 H4 acc c2 c1 f4 hH4 (by simpa using DqA.mono x4.f _ _ q)
        | true =>
          have a3 : in2 mi1 vs1 t1 ifs1 me σ2 h3' = .ok o h3 := by simpa using a3
          unfold in2 at a3
          obtain ⟨ds1, h4, b1, b2⟩ := bind_ok a3
          obtain ⟨ys1, h5, b3, b4⟩ := bind_ok b2
          cases b4
          simp only [if_true]
          refine ⟨F4, ρ4, σ2, h3', st4, eo2.mono x4.toExt, ?_⟩
          rw [b1]
          intro F5 ρ5 H5 J1 x5 st5 wd1
          have np4 : p ∉ ρ4 := fun z => by
            rcases x4.n p z with z | z
            · exact np z
            · rw [hH] at z; cases z
          have hH5 : H5 p = some (.lst acc) := x5.k p _ hH4 np4
          have f5 : F5 p = none := x5.m p _ hH4 np4 f4
          have np5 : p ∉ ρ5 := fun z => by
            rcases x5.n p z with z | z
            · exact np4 z
            · rw [hH4] at z; cases z
          have x45 := x4.trans x5
          refine comp_loop (fun y => [y]) (acc0 := acc) (done0 := done) wd1 st5 hH5 f5 np5 (DqA.mono x45.f _ _ q) (by rw [st5.len]; exact b3) ?_ (fun F6 H6 acc6 x6 st6 f6 hH6 q6 => ?_) fun d x F2 H' hh acc done o h3 Nx a1 a2 a3 a4 a5 a6 a7 a8 a9 =>
            turn1 ((eo2.mono x4.toExt).mono x5.toExt) hown1 np5 ⟨_, hH5⟩ d x F2 H' hh acc done o h3 Nx a1 a2 a3 a4 a5 a6 a7 a8 a9
          · simpa [unL] using hz
          · obtain ⟨c1, c2⟩ := back (Exd.trans hH5 x45.exd x6 ⟨_, hH⟩) st6
            refine nx F6 H6 acc6 c2 c1 f6 hH6 ?_
            simpa [unL] using q6
    | ex _ _ => rw [ec] at fin; exact fin.elim
    | no => rw [ec] at fin; exact fin.elim
  | ex _ _ => rw [ei] at fin; exact fin
  | no => rw [ei] at fin; exact fin
end En
/-! En: the look at a text, and what it is worth -/
namespace En
open PySem L2
variable [Wd]

structure Ck where
  N : List Str
  sc : Scope
  fn : Str → Bool
  fs : List Str
  G : List (Str × PyData)

def Ck.gl (ck : Ck) (x : Str) : Bool := match ck.sc.names.lookup x with
  | some .globalImplicit => true
  | _ => false
def Ck.vis (ck : Ck) (x : Str) : Bool := match ck.sc.names.lookup x with
  | some .local => true
  | some .cell => true
  | some .free => true
  | _ => false
def okNm (x : Str) : Bool := !(x == Str.ofString "__debug__") && !(x == Str.ofString "__classdict__") && !(x == Str.ofString "__name__")
def Ck.blk (ck : Ck) (scope : Scope) : Ck := { ck with sc := relS scope ck.sc, fn := fun x => scope.names.lookup x == some .cell }

def notStar : Expr → Bool
  | .Starred _ _ => false
  | _ => true
def noStars : List Expr → Bool
  | [] => true
  | e :: es => notStar e && noStars es
def notSet : Expr → Bool
  | .Set _ _ _ => false
  | _ => true
def notComp : Expr → Bool
  | .ListComp _ _ _ _ => false
  | .SetComp _ _ _ _ => false
  | .DictComp _ _ _ _ _ => false
  | _ => true
def notSlice : Expr → Bool
  | .Slice _ _ _ _ => false
  | _ => true
def notSuper : Expr → Bool
  | .Call (.Name _ _) [] [] _ => false
  | _ => true
def isNilE : E → Bool
  | .nil => true
  | _ => false
def cstOk : PyData → Const → Bool
  | .none, .none => true
  | .bool a, .bool b => a == b
  | .int a, .int b => a == b
  | .str a, .str b => a == b
  | _, _ => false
def cstEq : PyData → Option PyData → Bool
  | .int a, some (.int b) => a == b
  | .str a, some (.str b) => a == b
  | _, _ => false
def biNm : Bi → Str
  | .abs => Str.ofString "abs"
  | .int => Str.ofString "int"
  | .len => Str.ofString "len"
  | .tuple => Str.ofString "tuple"
  | .list => Str.ofString "list"
  | .all => Str.ofString "all"
  | .any => Str.ofString "any"
def mtNm : Mt → Str
  | .append => Str.ofString "append"
  | .extend => Str.ofString "extend"
  | .join => Str.ofString "join"
  | .startswith => Str.ofString "startswith"
def tyNm (t : Ty) : Str := Str.ofString (nmTy t)
def bnames : List Str := [Str.ofString "abs", Str.ofString "int", Str.ofString "len", Str.ofString "tuple", Str.ofString "list", Str.ofString "all", Str.ofString "any", Str.ofString "isinstance", Str.ofString "bool",
  Str.ofString "str", Str.ofString "dict", Str.ofString "enumerate", Str.ofString "zip", Str.ofString "range"]
def ownN (N : List Str) (own : List Nat) : List (Str × Nat) := own.map fun i => (N.getD i (Str.ofString ""), i)

structure Ch where
  e : Ck → Expr → Bool
  l : Ck → List Expr → Bool
  o : Ck → Option Expr → Bool
  i : Ck → Expr → Expr → Bool
def chV (e : Ck → Expr → Bool) : Ch := ⟨e, fun _ _ => false, fun _ _ => false, fun ck _ x => e ck x && notSet x⟩
def chI (i : Ck → Expr → Expr → Bool) : Ch := ⟨fun _ _ => false, fun _ _ => false, fun _ _ => false, i⟩
def ckTys (ck : Ck) : List Ty → List Expr → Bool
  | [], [] => true
  | t :: ts, .Name x _ :: es => decide (x = tyNm t) && ck.gl x && ckTys ck ts es
  | _, _ => false
def sub (xs ys : List Nat) : Bool := xs.all fun i => ys.contains i

def chk : E → Ch
  | .nil => ⟨fun _ _ => false, fun _ es => es.isEmpty, fun _ o => o.isNone, fun _ _ _ => false⟩
  | .cons a r => ⟨fun _ _ => false, fun ck es => match es with
      | x :: xs => notStar x && (chk a).e ck x && (chk r).l ck xs
      | [] => false, fun ck o => match o with
      | some x => (chk a).e ck x && isNilE r
      | none => false, fun _ _ _ => false⟩
  | .star a r => ⟨fun _ _ => false, fun ck es => match es with
      | .Starred x _ :: xs => (chk a).e ck x && (chk r).l ck xs
      | _ => false, fun _ _ => false, fun _ _ _ => false⟩
  | .fz a => chV fun ck e => (chk a).e ck e && (match e with | .Name _ _ => true | _ => false)
  | .var i => chV fun ck e => match e with
    | .Name x _ => decide (ck.N[i]? = some x) && ck.vis x && okNm x
    | _ => false
  | .glo y v => chV fun ck e => match e with
    | .Name x _ => decide (x = y) && ck.gl x && okNm x && cstEq v (ck.G.lookup x)
    | _ => false
  | .cst v => chV fun _ e => match e with
    | .Constant c _ _ => cstOk v c
    | _ => false
  | .bin o _ a b => chV fun ck e => match e with
    | .BinOp x p y _ => decide (o = p) && (chk a).e ck x && (chk b).e ck y
    | _ => false
  | .neg a => chV fun ck e => match e with
    | .UnaryOp .USub x _ => (chk a).e ck x
    | _ => false
  | .cmp o a b => chV fun ck e => match e with
    | .Compare x [p] [y] _ => decide (o = p) && (chk a).e ck x && (chk b).e ck y && !(behindInMarks p y)
    | _ => false
  | .chn o p a b c => chV fun ck e => match e with
    | .Compare x [o', p'] [y, z] _ => decide (o = o') && decide (p = p') && (chk a).e ck x && (chk b).e ck y && (chk c).e ck z && !(lastMarks [o', p'] [y, z])
    | _ => false
  | .bop o es => chV fun ck e => match e with
    | .BoolOp p (x :: xs) _ => decide (o = p) && (chk es).l ck (x :: xs)
    | _ => false
  | .not a => chV fun ck e => match e with
    | .UnaryOp .Not x _ => (chk a).e ck x
    | _ => false
  | .ife c a b => chV fun ck e => match e with
    | .IfExp x y z _ => (chk c).e ck x && (chk a).e ck y && (chk b).e ck z
    | _ => false
  | .tup es => chV fun ck e => match e with
    | .Tuple xs _ _ => (chk es).l ck xs
    | _ => false
  | .lst _ es => chV fun ck e => match e with
    | .List xs _ => (chk es).l ck xs
    | _ => false
  | .ix a i => chV fun ck e => match e with
    | .Subscript x y _ => (chk a).e ck x && (chk i).e ck y && notSlice y
    | _ => false
  | .sl a lo hi => chV fun ck e => match e with
    | .Subscript x (.Slice l u none _) _ => (chk a).e ck x && (chk lo).o ck l && (chk hi).o ck u
    | _ => false
  | .call f es => chV fun ck e => match e with
    | .Call (.Name x _) (y :: ys) [] _ => decide (x = f) && ck.fs.contains f && ck.gl x && okNm x && (chk es).l ck (y :: ys) && noStars (y :: ys)
    | _ => false
  | .bi b _ es => chV fun ck e => match e with
    | .Call (.Name x _) (y :: ys) [] _ => decide (x = biNm b) && ck.gl x && (chk es).l ck (y :: ys) && noStars (y :: ys)
    | _ => false
  | .isi a ts t => chV fun ck e => match e with
    | .Call (.Name x _) [y, z] [] _ => decide (x = Str.ofString "isinstance") && ck.gl x && notStar y && (chk a).e ck y && (match t, z with
      | false, .Name n _ => (match ts with | [q] => decide (n = tyNm q) && ck.gl n | _ => false)
      | true, .Tuple es _ _ => ckTys ck ts es && decide (ts.length ≤ 100)
      | _, _ => false)
    | _ => false
  | .mth m o es => chV fun ck e => match e with
    | .Call (.Attribute x nm ap) (y :: ys) [] cp => decide (nm = mtNm m) && (chk o).e ck x && notSuper x && (ap.endLine == cp.line) && (chk es).l ck (y :: ys) && noStars (y :: ys) && decide ((y :: ys).length < 20)
    | _ => false
  | .dz a b => chV fun ck e => match e with
    | .Call (.Name x _) [.Call (.Name z _) [u, v] [] _] [] _ => decide (x = Str.ofString "dict") && decide (z = Str.ofString "zip") && ck.gl x && ck.gl z && notStar u && notStar v && (chk a).e ck u && (chk b).e ck v
    | _ => false
  | .lc _ own t it ifs elt => chV fun ck e => match e with
    | .ListComp x [⟨tg, iter, is, 0⟩] scope _ => (chk it).i ck tg iter && notSet iter && blkC ck.N ck.sc scope (ownN ck.N own) && ckTg (ck.blk scope).N (ck.blk scope).sc (ck.blk scope).fn t tg && (chk ifs).l (ck.blk scope) is && decide (is.length ≤ 1) &&
        (chk elt).e (ck.blk scope) x && sub (slots t) own
    | _ => false
  | .lc2 own vs1 t it ifs t1 it1 ifs1 elt => chV fun ck e => match e with
    | .ListComp x [⟨tg, iter, is, 0⟩, ⟨tg1, iter1, is1, 0⟩] scope _ => (chk it).i ck tg iter && notSet iter && notSet iter1 && blkC ck.N ck.sc scope (ownN ck.N own) && ckTg (ck.blk scope).N (ck.blk scope).sc (ck.blk scope).fn t tg && (chk ifs).l (ck.blk scope) is &&
        decide (is.length ≤ 1) && (chk it1).i (ck.blk scope) tg1 iter1 && ckTg (ck.blk scope).N (ck.blk scope).sc (ck.blk scope).fn t1 tg1 && (chk ifs1).l (ck.blk scope) is1 && decide (is1.length ≤ 1) && (chk elt).e (ck.blk scope) x && sub (slots t) own &&
        sub (slots t1) vs1 && sub vs1 own
    | _ => false
  | .dc own t it ifs k v => chV fun ck e => match e with
    | .DictComp x y [⟨tg, iter, is, 0⟩] scope _ => (chk it).i ck tg iter && notSet iter && blkC ck.N ck.sc scope (ownN ck.N own) && ckTg (ck.blk scope).N (ck.blk scope).sc (ck.blk scope).fn t tg && (chk ifs).l (ck.blk scope) is && decide (is.length ≤ 1) &&
        (chk k).e (ck.blk scope) x && (chk v).e (ck.blk scope) y && sub (slots t) own
    | _ => false
  | .enu a => chI fun ck tg e => match tg, e with
    | .Tuple _ _ _, .Call (.Name x _) [y] [] _ => decide (x = Str.ofString "enumerate") && ck.gl x && notStar y && (chk a).e ck y
    | _, _ => false
  | .zip a b => chI fun ck tg e => match tg, e with
    | .Tuple _ _ _, .Call (.Name x _) [y, z] [] _ => decide (x = Str.ofString "zip") && ck.gl x && notStar y && notStar z && (chk a).e ck y && (chk b).e ck z
    | _, _ => false
  | .rng a => chI fun ck _ e => match e with
    | .Call (.Name x _) [y] [] _ => decide (x = Str.ofString "range") && ck.gl x && notStar y && (chk a).e ck y
    | _ => false
end En
/-! En: expressions keep to the evaluator -/
namespace En
open PySem L2
variable [Wd]

theorem star_cons {e : Expr} {es : List Expr} {env : PySem.Env} (h : notStar e = true) : starEach (e :: es) env = (false, eval e env) :: starEach es env := by
  cases e <;> first | rfl | cases h
theorem star_any (pos : Pos) (env : PySem.Env) : ∀ es : List Expr, noStars es = true → (backTo pos (starEach es env)).any (·.1) = false ∧ (backTo pos (starEach es env)).all (fun x => !x.1) = true
  | [], _ => ⟨rfl, rfl⟩
  | e :: es, h => by
    unfold noStars at h
    simp only [Bool.and_eq_true] at h
    obtain ⟨i1, i2⟩ := star_any pos env es h.2
    rw [star_cons h.1]
    refine ⟨?_, ?_⟩
    · show (false || (backTo pos (starEach es env)).any (·.1)) = false
      rw [i1]; rfl
    · show (!false && (backTo pos (starEach es env)).all (fun x => !x.1)) = true
      rw [i2]; rfl
theorem fset_ok {e : Expr} (h : notSet e = true) (env : PySem.Env) (x : Value) : foldedSetIterable e env x = pure x := by
  cases e <;> first | rfl | cases h
theorem plain_ix {e : Expr} (h : notSlice e = true) : PlainIx e := by
  intro o i
  cases e <;> first | rfl | cases h
theorem base_ok {o : Expr} (h : notSuper o = true) (a : Str) (env : PySem.Env) (w : Sem Value) : attributeBase o a env w = w := by
  unfold attributeBase
  split
  · cases h
  · rfl

/-- a def's promise: what the evaluator gives -/
def spD (K : PySem.W.Frag) (n : Nat) (c : List D → Hs → R D) : Sp := fun vs H Q _ => vs.length = n ∧ ∃ F ρ h ds, Stt K F ρ h H ∧ RepL K F ρ ds vs ∧ Fin K F ρ H (c ds h) Q
/-- a context in which a text of the language runs -/
structure Fit (X : Cx) (ck : Ck) (C : Str → List D → Hs → R D) (k : Nat) : Prop where
  N : X.N = ck.N
  nd : X.N.Nodup
  sc : X.env.scope = ck.sc
  fn : X.fn = ck.fn
  calm : X.calm = true
  wd : X.w = Wd.w
  room : Room k X.A
  pass : PassesOwn (model X.prog X.w) X.A X.env X.xe
  blt : ∀ x ∈ bnames, X.mg x = none
  glo : ∀ x v, ck.G.lookup x = some v → ∃ u w, X.mg x = some u ∧ RelV w u ∧ ∀ F, Dq X.K F w v
  fns : ∀ f ∈ ck.fs, ∃ a fd ps, X.mg f = some (.ref a) ∧ PySem.W.keepIn X.K (.ref a) = true ∧ Binds X.K fd ps [] ∧ (∀ ds h x h', C f ds h = .ok x h' → ds.length = ps.length) ∧
    FnOk X.prog X.w X.K X.mg X.base CX0 k a fd ps (spD X.K ps.length (C f))
section
variable {X : Cx} {ck : Ck} {C : Str → List D → Hs → R D} {k : Nat}
theorem Fit.units (f : Fit X ck C k) : X.A.units + 100 < cLine := by
  have := f.room.un
  omega
theorem Fit.gl (f : Fit X ck C k) {x : Str} (h : ck.gl x = true) : Gl X x := by
  unfold Ck.gl at h
  unfold Gl PySem.Env.kindOf
  rw [f.sc]
  split at h
  · assumption
  · cases h
theorem Fit.vis (f : Fit X ck C k) {x : Str} (h : ck.vis x = true) : Vis X.env.scope x := by
  unfold Ck.vis at h
  rw [f.sc]
  split at h
  · rename_i e; exact .inl e
  · rename_i e; exact .inr (.inl e)
  · rename_i e; exact .inr (.inr e)
  · cases h
theorem Fit.blk (f : Fit X ck C k) (s : Shared) (H : Hp) (scope : Scope) (cl : List (Str × Addr)) (Ca : Addr) (fp : List Addr) : Fit (X.blk s H scope (compEnvC scope cl Ca X.env) fp) (ck.blk scope) C k where
  N := f.N
  nd := f.nd
  sc := by
    show relS scope X.env.scope = relS scope ck.sc
    rw [f.sc]
  fn := rfl
  calm := f.calm
  wd := f.wd
  room := f.room
  pass := PassesOwn.never
  blt := f.blt
  glo := f.glo
  fns := f.fns

def rOp (K : PySem.W.Frag) (m : Env → Hs → R (Option D)) : TO := fun τ H Q => ∃ F ρ σ h, Stt K F ρ h H ∧ EnvOk K F ρ σ τ ∧ match m σ h with
  | .ok d h' => ∀ (F' : Hp) (ρ' : List Addr) (H' : Hp), Exh F ρ H F' ρ' H' → Stt K F' ρ' h' H' → ∃ o, bnd d = some o ∧ Q o H'
  | _ => False
theorem ff {P : Prop} (q : false = true) : P := by cases q
/-- all that is shown of a piece -/
structure Snd (X : Cx) (ck : Ck) (C : Str → List D → Hs → R D) (g : E) : Prop where
  e : ∀ x, (chk g).e ck x = true → PE X x (rV X.K (sem C g).v)
  t : ∀ x, (chk g).e ck x = true → PT X x (rT X.K (sem C g).t)
  l : ∀ xs, (chk g).l ck xs = true → PA X xs (rL X.K (sem C g).l)
  o : ∀ x, (chk g).o ck x = true → PO X x (rOp X.K (sem C g).o)
  b : ∀ op xs pos, xs ≠ [] → (chk g).l ck xs = true → PE X (.BoolOp op xs pos) (rV X.K ((sem C g).b op))
  tb : ∀ op xs pos, xs ≠ [] → (chk g).l ck xs = true → PW X (.BoolOp op xs pos) (rT X.K ((sem C g).tb op))
  ts : ∀ xs, xs.length ≤ 1 → (chk g).l ck xs = true → PTs X xs (rT X.K (sem C g).ts)
  i : ∀ tg x, notSet x = true → (chk g).i ck tg x = true → PI X tg x (rI X.K (sem C g).it)
theorem finB_tru {K : PySem.W.Frag} {ma : Env → Hs → R D} {τ : St} {H : Hp} {Q : Bool → Hp → Prop} (q : rT K (fun σ h => (ma σ h).bind truD) τ H Q) : rV K ma τ H fun x H1 => ∃ b, TruV K x H1 b ∧ Q b H1 := by
  obtain ⟨F, ρ, σ, h, st, eo, fin⟩ := q
  dsimp only at fin
  refine ⟨F, ρ, σ, h, st, eo, ?_⟩
  cases ea : ma σ h with
  | ok x h1 =>
    rw [ea] at fin
    replace fin : FinB K F ρ H (truD x h1) Q := fin
    intro F1 ρ1 H1 v e1 st1 r1
    cases et : truD x h1 with
    | ok b h2 =>
      rw [et] at fin
      obtain ⟨rfl, t⟩ := tru_rep st1 r1 et
      exact ⟨b, t, fin F1 ρ1 H1 e1 st1⟩
    | ex _ _ => rw [et] at fin; exact fin.elim
    | no => rw [et] at fin; exact fin.elim
  | ex _ _ => rw [ea] at fin; exact fin
  | no => rw [ea] at fin; exact fin
/-- a test by truth -/
theorem pt_tru {x : Expr} {ma : Env → Hs → R D} (h : PE X x (rV X.K ma)) (he : ∀ whole, isTrue x X.env whole = (do let v ← whole; standAt x.pos; holding [v] (truthy v))) : PT X x (rT X.K fun σ h => (ma σ h).bind truD) :=
  PT.imp (pt_truth h he) fun τ H Q q => finB_tru q
/-- a value: what it is worth as a value and as a test -/
theorem Snd.val {e : E} {v : Env → Hs → R D} {c : Ck → Expr → Bool} (hs : sem C e = mkV v) (hc : chk e = chV c) (h : ∀ x, c ck x = true → PE X x (rV X.K v) ∧ PT X x (rT X.K fun σ h => (v σ h).bind truD)) : Snd X ck C e := by
  refine ⟨fun x q => ?_, fun x q => ?_, fun xs q => ?_, fun x q => ?_, fun op xs pos _ q => ?_, fun op xs pos _ q => ?_, fun xs _ q => ?_, fun tg x _ q => ?_⟩ <;> rw [hc] at q
  · rw [hs]; exact (h x q).1
  · rw [hs]; exact (h x q).2
  · cases q
  · cases q
  · cases q
  · cases q
  · cases q
  · have q : (c ck x && notSet x) = true := q
    simp only [Bool.and_eq_true] at q
    rw [hs]
    exact pi_val (h x q.1).1
theorem Snd.val2 {e : E} {v : Env → Hs → R D} {t : Env → Hs → R Bool} {c : Ck → Expr → Bool} (hs : sem C e = mkT v t) (hc : chk e = chV c) (h : ∀ x, c ck x = true → PE X x (rV X.K v) ∧ PT X x (rT X.K t)) : Snd X ck C e := by
  refine ⟨fun x q => ?_, fun x q => ?_, fun xs q => ?_, fun x q => ?_, fun op xs pos _ q => ?_, fun op xs pos _ q => ?_, fun xs _ q => ?_, fun tg x _ q => ?_⟩ <;> rw [hc] at q
  · rw [hs]; exact (h x q).1
  · rw [hs]; exact (h x q).2
  · cases q
  · cases q
  · cases q
  · cases q
  · cases q
  · have q : (c ck x && notSet x) = true := q
    simp only [Bool.and_eq_true] at q
    rw [hs]
    exact pi_val (h x q.1).1
theorem Snd.itr {e : E} {w : Env → Hs → R (List D)} {c : Ck → Expr → Expr → Bool} (hs : sem C e = mkI w) (hc : chk e = chI c) (h : ∀ tg x, notSet x = true → c ck tg x = true → PI X tg x (rI X.K w)) : Snd X ck C e := by
  refine ⟨fun x q => ?_, fun x q => ?_, fun xs q => ?_, fun x q => ?_, fun op xs pos _ q => ?_, fun op xs pos _ q => ?_, fun xs _ q => ?_, fun tg x ns q => ?_⟩ <;> rw [hc] at q
  · cases q
  · cases q
  · cases q
  · cases q
  · cases q
  · cases q
  · cases q
  · rw [hs]; exact h tg x ns q

/-! ### rows of expressions -/
theorem snd_nil : Snd X ck C .nil := by
  refine ⟨fun x q => ff q, fun x q => ff q, fun xs q => ?_, fun x q => ?_, fun op xs pos ne q => ?_, fun op xs pos ne q => ?_, fun xs _ q => ?_, fun tg x _ q => ff q⟩
  · cases xs with
    | nil =>
      refine PA.imp pa_nil fun τ H Q q => ?_
      obtain ⟨F, ρ, σ, h, st, eo, fin⟩ := q
      exact fin F ρ H [] (Exh.refl F ρ H) st rfl
    | cons _ _ => cases q
  · cases x with
    | none =>
      refine ⟨fun pins s τ H Q I q => po_none.run pins s τ H Q I ?_⟩
      obtain ⟨F, ρ, σ, h, st, eo, fin⟩ := q
      obtain ⟨o, e, q⟩ := fin F ρ H (Exh.refl F ρ H) st
      cases e
      exact q
    | some _ => cases q
  · cases xs with
    | nil => exact absurd rfl ne
    | cons _ _ => cases q
  · cases xs with
    | nil => exact absurd rfl ne
    | cons _ _ => cases q
  · cases xs with
    | nil =>
      refine ⟨fun pins s τ H Q I q => pts_nil.run pins s τ H Q I ?_⟩
      obtain ⟨F, ρ, σ, h, st, eo, fin⟩ := q
      exact fin F ρ H (Exh.refl F ρ H) st
    | cons _ _ => cases q
theorem nil_isNil (r : E) : (sem C r).nil = isNilE r := by cases r <;> rfl
theorem rest_nil {r : E} {xs : List Expr} (h : isNilE r = true) (q : (chk r).l ck xs = true) : xs = [] := by
  cases r with
  | nil =>
    cases xs with
    | nil => rfl
    | cons _ _ => cases q
  | _ => cases h
theorem rest_ne {r : E} {xs : List Expr} (h : isNilE r = false) (q : (chk r).l ck xs = true) : xs ≠ [] := by
  rintro rfl
  cases r with
  | nil => cases h
  | _ => cases q
theorem consL {K : PySem.W.Frag} {ma : Env → Hs → R D} {mr : Env → Hs → R (List D)} {τ : St} {H : Hp} {Q : List V → Hp → Prop} (q : rL K (fun σ h => (ma σ h).bind fun x h1 => (mr σ h1).bind fun xs h2 => .ok (x :: xs) h2) τ H Q) : tCons (rV K ma) (rL K mr) τ H Q := by
  obtain ⟨F, ρ, σ, h, st, eo, fin⟩ := q
  dsimp only at fin
  refine ⟨F, ρ, σ, h, st, eo, ?_⟩
  cases ea : ma σ h with
  | ok x h1 =>
    rw [ea] at fin
    intro F1 ρ1 H1 v e1 st1 r1
    refine ⟨F1, ρ1, σ, h1, st1, eo.mono e1.toExt, ?_⟩
    replace fin : FinL K F ρ H ((mr σ h1).bind fun xs h2 => .ok (x :: xs) h2) Q := fin
    cases eb : mr σ h1 with
    | ok xs h2 =>
      rw [eb] at fin
      intro F2 ρ2 H2 us e2 st2 r2
      exact fin F2 ρ2 H2 (v :: us) (e1.trans e2) st2 ⟨v, us, rfl, Rep.mono e2.toExt _ _ r1, r2⟩
    | ex _ _ => rw [eb] at fin; exact fin
    | no => rw [eb] at fin; exact fin
  | ex _ _ => rw [ea] at fin; exact fin
  | no => rw [ea] at fin; exact fin
theorem starL {K : PySem.W.Frag} {ma : Env → Hs → R D} {mr : Env → Hs → R (List D)} {τ : St} {H : Hp} {Q : List V → Hp → Prop} (q : rL K (fun σ h => (ma σ h).bind fun x h1 => match vwF x with
    | some (_, ys) => (mr σ h1).bind fun xs h2 => .ok (ys.map .d ++ xs) h2
    | none => .no) τ H Q) : StX.tStar K (rV K ma) (rL K mr) τ H Q := by
  obtain ⟨F, ρ, σ, h, st, eo, fin⟩ := q
  dsimp only at fin
  refine ⟨F, ρ, σ, h, st, eo, ?_⟩
  cases ea : ma σ h with
  | ok x h1 =>
    rw [ea] at fin
    intro F1 ρ1 H1 v e1 st1 r1
    replace fin : FinL K F ρ H (match vwF x with
      | some (_, ys) => (mr σ h1).bind fun xs h2 => .ok (ys.map .d ++ xs) h2
      | none => .no) Q := fin
    split at fin
    · rename_i t ys hw
      obtain ⟨a, vs, rfl, q1, q2⟩ := vwF_ok r1 hw
      refine ⟨a, vs, rfl, ?_, F1, ρ1, σ, h1, st1, eo.mono e1.toExt, ?_⟩
      · cases t with
        | true => exact .inl (sqT_mono st1.same (by simpa using q2))
        | false => exact .inr (sqL_mono st1.same (by simpa using q2))
      · cases eb : mr σ h1 with
        | ok xs h2 =>
          rw [eb] at fin
          intro F2 ρ2 H2 us e2 st2 r2
          exact fin F2 ρ2 H2 (vs ++ us) (e1.trans e2) st2 ((repL_d (DqA.mono e2.f _ _ q1)).app r2)
        | ex _ _ => rw [eb] at fin; exact fin
        | no => rw [eb] at fin; exact fin
    · exact fin.elim
  | ex _ _ => rw [ea] at fin; exact fin
  | no => rw [ea] at fin; exact fin
theorem bT {K : PySem.W.Frag} {ma : Env → Hs → R D} {mr : Env → Hs → R D} {op : BoolOp} {τ : St} {H : Hp} {Q : VK} (q : rV K (fun σ h => (ma σ h).bind fun x h1 => (truD x h1).bind fun t h2 => sel op t (mr σ h2) (.ok x h2)) τ H Q) :
    rV K ma τ H fun x H1 => ∃ b, TruV K x H1 b ∧ (match op with | .And => if b = true then rV K mr τ H1 Q else Q x H1 | .Or => if b = true then Q x H1 else rV K mr τ H1 Q) := by
  obtain ⟨F, ρ, σ, h, st, eo, fin⟩ := q
  dsimp only at fin
  refine ⟨F, ρ, σ, h, st, eo, ?_⟩
  cases ea : ma σ h with
  | ok x h1 =>
    rw [ea] at fin
    intro F1 ρ1 H1 v e1 st1 r1
    replace fin : Fin K F ρ H ((truD x h1).bind fun t h2 => sel op t (mr σ h2) (.ok x h2)) Q := fin
    cases et : truD x h1 with
    | ok b h2 =>
      rw [et] at fin
      obtain ⟨rfl, t⟩ := tru_rep st1 r1 et
      refine ⟨b, t, ?_⟩
      cases op <;> cases b
      · exact fin F1 ρ1 H1 v e1 st1 r1
      · exact ⟨F1, ρ1, σ, h2, st1, eo.mono e1.toExt, Fin.mono e1 fin⟩
      · exact ⟨F1, ρ1, σ, h2, st1, eo.mono e1.toExt, Fin.mono e1 fin⟩
      · exact fin F1 ρ1 H1 v e1 st1 r1
    | ex _ _ => rw [et] at fin; exact fin.elim
    | no => rw [et] at fin; exact fin.elim
  | ex _ _ => rw [ea] at fin; exact fin
  | no => rw [ea] at fin; exact fin
theorem tbT {K : PySem.W.Frag} {ma mr : Env → Hs → R Bool} {op : BoolOp} {τ : St} {H : Hp} {Q : Bool → Hp → Prop} (q : rT K (fun σ h => (ma σ h).bind fun t h2 => sel op t (mr σ h2) (.ok t h2)) τ H Q) :
    rT K ma τ H fun b H1 => (match op with | .And => if b = true then rT K mr τ H1 Q else Q false H1 | .Or => if b = true then Q true H1 else rT K mr τ H1 Q) := by
  obtain ⟨F, ρ, σ, h, st, eo, fin⟩ := q
  dsimp only at fin
  refine ⟨F, ρ, σ, h, st, eo, ?_⟩
  cases ea : ma σ h with
  | ok b h1 =>
    rw [ea] at fin
    intro F1 ρ1 H1 e1 st1
    cases op <;> cases b
    · exact fin F1 ρ1 H1 e1 st1
    · exact ⟨F1, ρ1, σ, h1, st1, eo.mono e1.toExt, FinB.mono e1 fin⟩
    · exact ⟨F1, ρ1, σ, h1, st1, eo.mono e1.toExt, FinB.mono e1 fin⟩
    · exact fin F1 ρ1 H1 e1 st1
  | ex _ _ => rw [ea] at fin; exact fin
  | no => rw [ea] at fin; exact fin
theorem snd_cons {a r : E} (sa : Snd X ck C a) (sr : Snd X ck C r) : Snd X ck C (.cons a r) := by
  have inv : ∀ xs, (chk (.cons a r)).l ck xs = true → ∃ y ys, xs = y :: ys ∧ notStar y = true ∧ (chk a).e ck y = true ∧ (chk r).l ck ys = true := fun xs q => by
    cases xs with
    | nil => cases q
    | cons y ys =>
      have q : (notStar y && (chk a).e ck y && (chk r).l ck ys) = true := q
      simp only [Bool.and_eq_true] at q
      exact ⟨y, ys, rfl, q.1.1, q.1.2, q.2⟩
  refine ⟨fun x q => ff q, fun x q => ff q, fun xs q => ?_, fun x q => ?_, fun op xs pos ne q => ?_, fun op xs pos ne q => ?_, fun xs hl q => ?_, fun tg x _ q => ff q⟩
  · obtain ⟨y, ys, rfl, q1, q2, q3⟩ := inv xs q
    exact PA.imp (pa_cons (sa.e y q2) (sr.l ys q3) (star_cons q1)) fun τ H Q q => consL q
  · cases x with
    | none => cases q
    | some y =>
      have q : ((chk a).e ck y && isNilE r) = true := q
      simp only [Bool.and_eq_true] at q
      refine ⟨fun pins s τ H Q I w => (po_some (sa.e y q.1)).run pins s τ H Q I ?_⟩
      obtain ⟨F, ρ, σ, h, st, eo, fin⟩ := w
      refine ⟨F, ρ, σ, h, st, eo, ?_⟩
      replace fin : (match (if (sem C r).nil then ((sem C a).v σ h).bind fun x h1 => .ok (some x) h1 else R.no) with
        | .ok d h' => ∀ (F' : Hp) (ρ' : List Addr) (H' : Hp), Exh F ρ H F' ρ' H' → Stt X.K F' ρ' h' H' → ∃ o, bnd d = some o ∧ Q o H'
        | _ => False) := fin
      rw [nil_isNil, q.2] at fin
      simp only [if_true] at fin
      cases ea : (sem C a).v σ h with
      | ok x h1 =>
        rw [ea] at fin
        intro F1 ρ1 H1 v e1 st1 r1
        obtain ⟨o, e, k⟩ := fin F1 ρ1 H1 e1 st1
        cases x with
        | d d =>
          cases d with
          | int i =>
            cases e
            cases r1
            exact ⟨i, rfl, k⟩
          | _ => cases e
        | _ => cases e
      | ex _ _ => rw [ea] at fin; exact fin
      | no => rw [ea] at fin; exact fin
  · obtain ⟨y, ys, rfl, q1, q2, q3⟩ := inv xs q
    cases hn : isNilE r with
    | true =>
      have e := rest_nil hn q3
      subst e
      refine PE.imp (pe_one (sa.e y q2)) fun τ H Q w => ?_
      have e2 : (sem C (.cons a r)).b op = (sem C a).v := by
        funext σ h
        show (if (sem C r).nil then _ else _) = _
        rw [nil_isNil, hn]
        rfl
      rw [e2] at w
      exact w
    | false =>
      have ne2 := rest_ne hn q3
      cases ys with
      | nil => exact absurd rfl ne2
      | cons z zs =>
        have e2 : (sem C (.cons a r)).b op = fun σ h => ((sem C a).v σ h).bind fun x h1 => (truD x h1).bind fun t h2 => sel op t ((sem C r).b op σ h2) (.ok x h2) := by
          funext σ h
          show (if (sem C r).nil then _ else _) = _
          rw [nil_isNil, hn]
          rfl
        rw [e2]
        have ih := sr.b op (z :: zs) pos (by simp) q3
        cases op with
        | And => exact PE.imp (pe_andT (sa.e y q2) ih) fun τ H Q w => bT w
        | Or => exact PE.imp (pe_orT (sa.e y q2) ih) fun τ H Q w => bT w
  · obtain ⟨y, ys, rfl, q1, q2, q3⟩ := inv xs q
    cases hn : isNilE r with
    | true =>
      have e := rest_nil hn q3
      subst e
      have e2 : (sem C (.cons a r)).tb op = (sem C a).t := by
        funext σ h
        show (if (sem C r).nil then _ else _) = _
        rw [nil_isNil, hn]
        rfl
      rw [e2]
      cases op with
      | And => exact pw_and1 (sa.t y q2)
      | Or => exact pw_or1 (sa.t y q2)
    | false =>
      have ne2 := rest_ne hn q3
      cases ys with
      | nil => exact absurd rfl ne2
      | cons z zs =>
        have e2 : (sem C (.cons a r)).tb op = fun σ h => ((sem C a).t σ h).bind fun t h2 => sel op t ((sem C r).tb op σ h2) (.ok t h2) := by
          funext σ h
          show (if (sem C r).nil then _ else _) = _
          rw [nil_isNil, hn]
          rfl
        rw [e2]
        have ih := sr.tb op (z :: zs) pos (by simp) q3
        cases op with
        | And => exact PW.imp (pw_and (sa.t y q2) ih) fun τ H Q w => tbT w
        | Or => exact PW.imp (pw_or (sa.t y q2) ih) fun τ H Q w => tbT w
  · obtain ⟨y, ys, rfl, q1, q2, q3⟩ := inv xs q
    have e : ys = [] := by
      cases ys with
      | nil => rfl
      | cons _ _ => simp at hl
    subst e
    have hn : isNilE r = true := by
      cases r with
      | nil => rfl
      | cons _ _ => cases q3
      | star _ _ => cases q3
      | _ => cases q3
    have e2 : (sem C (.cons a r)).ts = (sem C a).t := by
      funext σ h
      show (if (sem C r).nil then _ else _) = _
      rw [nil_isNil, hn]
      rfl
    rw [e2]
    exact pts_one (sa.t y q2)
theorem snd_star {a r : E} (sa : Snd X ck C a) (sr : Snd X ck C r) : Snd X ck C (.star a r) := by
  refine ⟨fun x q => ff q, fun x q => ff q, fun xs q => ?_, fun x q => ff q, fun op xs pos ne q => ?_, fun op xs pos ne q => ?_, fun xs hl q => ?_, fun tg x _ q => ff q⟩
  · cases xs with
    | nil => cases q
    | cons y ys =>
      cases y with
      | Starred y p =>
        have q : ((chk a).e ck y && (chk r).l ck ys) = true := q
        simp only [Bool.and_eq_true] at q
        exact PA.imp (StX.pa_star (sa.e y q.1) (sr.l ys q.2)) fun τ H Q w => starL w
      | _ => cases q
  · exact ⟨fun pins s τ H Q I w => by obtain ⟨F, ρ, σ, h, st, eo, fin⟩ := w; exact fin.elim⟩
  · exact ⟨fun wh pins s τ H Q I w => by obtain ⟨F, ρ, σ, h, st, eo, fin⟩ := w; exact fin.elim⟩
  · exact ⟨fun pins s τ H Q I w => by obtain ⟨F, ρ, σ, h, st, eo, fin⟩ := w; exact fin.elim⟩
end
end En
/-! En: expressions, one by one -/
namespace En
open PySem L2
variable [Wd]
section
variable {X : Cx} {ck : Ck} {C : Str → List D → Hs → R D} {k : Nat}
theorem both {x : Expr} {v : Env → Hs → R D} (h : PE X x (rV X.K v)) (he : ∀ whole, isTrue x X.env whole = (do let w ← whole; standAt x.pos; holding [w] (truthy w))) : PE X x (rV X.K v) ∧ PT X x (rT X.K fun σ h => (v σ h).bind truD) := ⟨h, pt_tru h he⟩
theorem debug_of {x : Str} (h : okNm x = true) : (x == ("__debug__" : Str)) = false ∧ (x == ("__classdict__" : Str)) = false ∧ x ≠ ("__name__" : Str) := by
  unfold okNm at h
  simp only [Bool.and_eq_true, Bool.not_eq_true', beq_eq_false_iff_ne, ne_eq] at h
  exact ⟨by simpa using h.1.1, by simpa using h.1.2, h.2⟩
theorem rvar {i : Nat} {τ : St} {H : Hp} {Q : VK} {K : PySem.W.Frag} (q : rV K (fun σ h => match σ[i]? with
    | some (some x) => .ok x h
    | _ => .no) τ H Q) : tVar i τ H Q := by
  obtain ⟨F, ρ, σ, h, st, eo, fin⟩ := q
  dsimp only at fin
  split at fin
  · rename_i x e
    obtain ⟨v, e1, r⟩ := eo.get i x e
    exact ⟨v, e1, fin_val st fin r⟩
  · exact fin.elim
theorem snd_var {i : Nat} (f : Fit X ck C k) : Snd X ck C (.var i) := by
  refine Snd.val rfl rfl fun x q => ?_
  split at q
  · rename_i y p
    simp only [Bool.and_eq_true, decide_eq_true_eq] at q
    obtain ⟨d1, d2, _⟩ := debug_of q.2
    exact both (PE.imp (pe_var (i := i) (by rw [f.N]; exact q.1.1) (f.vis q.1.2) d1 d2) fun τ H Q w => rvar w) fun _ => rfl
  · cases q
theorem rcst {x : V} {v : PyData} {τ : St} {H : Hp} {Q : VK} {K : PySem.W.Frag} (r : ∀ F, Dq K F x v) (q : rV K (fun _ h => .ok (.d v) h) τ H Q) : tC x τ H Q := by
  obtain ⟨F, ρ, σ, h, st, eo, fin⟩ := q
  exact fin_val st fin (r F)
theorem snd_glo {y : Str} {v : PyData} (f : Fit X ck C k) : Snd X ck C (.glo y v) := by
  refine Snd.val rfl rfl fun x q => ?_
  split at q
  · rename_i z p
    simp only [Bool.and_eq_true, decide_eq_true_eq] at q
    obtain ⟨⟨⟨rfl, q1⟩, q2⟩, q3⟩ := q
    obtain ⟨d1, d2, _⟩ := debug_of q2
    cases hl : ck.G.lookup z with
    | none => rw [hl] at q3; cases v <;> cases q3
    | some w =>
      rw [hl] at q3
      have e : v = w := by
        cases v <;> cases w <;> first | cases q3 | (simp only [cstEq, beq_iff_eq] at q3; rw [q3])
      obtain ⟨u, w', m, r, dq⟩ := f.glo z w hl
      rw [← e] at dq
      exact both (PE.imp (pe_glob (f.gl q1) m r d1) fun τ H Q w => rcst dq w) fun _ => rfl
  · cases q
theorem snd_cst {v : PyData} : Snd X ck C (.cst v) := by
  refine Snd.val rfl rfl fun x q => ?_
  split at q
  · rename_i c j p
    unfold cstOk at q
    split at q
    · exact both (PE.imp pe_non fun τ H Q w => rcst (fun _ => .non) w) fun _ => rfl
    · rename_i a b
      have e : a = b := by simpa using q
      subst e
      exact both (PE.imp pe_bl fun τ H Q w => rcst (fun _ => .bl _) w) fun _ => rfl
    · rename_i a b
      have e : a = b := by simpa using q
      subst e
      exact both (PE.imp pe_int fun τ H Q w => rcst (fun _ => .int _) w) fun _ => rfl
    · rename_i a b
      have e : a = b := by simpa using q
      subst e
      exact both (PE.imp pe_str fun τ H Q w => rcst (fun _ => .str _) w) fun _ => rfl
    · cases q
  · cases q
theorem rfz {K : PySem.W.Frag} {ma : Env → Hs → R D} {τ : St} {H : Hp} {Q : VK} (q : rV K (fun σ h => (ma σ h).bind fzD) τ H Q) : rV K ma τ H Q := by
  obtain ⟨F, ρ, σ, h, st, eo, fin⟩ := q
  dsimp only at fin
  refine ⟨F, ρ, σ, h, st, eo, ?_⟩
  cases ea : ma σ h with
  | ok x h1 =>
    rw [ea] at fin
    replace fin : Fin K F ρ H (fzD x h1) Q := fin
    intro F1 ρ1 H1 v e1 st1 r1
    unfold fzD at fin
    split at fin
    · rename_i n
      split at fin
      · rename_i xs hn
        obtain ⟨a, h2, rfl⟩ := r1
        obtain ⟨F2, sm, off, st2, dq⟩ := st1.freeze h2 hn
        exact fin F2 ρ1 H1 _ (e1.trans ⟨⟨sm, List.prefix_refl ρ1⟩, fun _ _ e _ => e, fun _ e => .inl e, fun b o e hb f => off b (fun z => hb (by rw [z]; exact List.mem_of_getElem? h2)) f⟩) st2 dq
      · exact fin.elim
    · exact fin F1 ρ1 H1 v e1 st1 r1
  | ex _ _ => rw [ea] at fin; exact fin
  | no => rw [ea] at fin; exact fin
theorem snd_fz {a : E} (sa : Snd X ck C a) : Snd X ck C (.fz a) := by
  refine Snd.val rfl rfl fun x q => ?_
  simp only [Bool.and_eq_true] at q
  obtain ⟨q1, q2⟩ := q
  split at q2
  · exact both (PE.imp (sa.e _ q1) fun τ H Q w => rfz w) fun _ => rfl
  · cases q2
theorem snd_bin {o : Operator} {m : Bool} {a b : E} (sa : Snd X ck C a) (sb : Snd X ck C b) : Snd X ck C (.bin o m a b) := by
  refine Snd.val rfl rfl fun x q => ?_
  split at q
  · simp only [Bool.and_eq_true, decide_eq_true_eq] at q
    obtain ⟨⟨rfl, q1⟩, q2⟩ := q
    exact both (PE.imp (pe_op (bin_ok o m) (sa.e _ q1) (sb.e _ q2)) fun τ H Q w => seq2 w) fun _ => rfl
  · cases q
theorem snd_neg {a : E} (sa : Snd X ck C a) : Snd X ck C (.neg a) := by
  refine Snd.val rfl rfl fun x q => ?_
  split at q
  · exact both (PE.imp (pe_un neg_ok (sa.e _ q)) fun τ H Q w => seq1 w) fun _ => rfl
  · cases q
theorem cmp_bool {o : CmpOp} {x y z : D} {h h' : Hs} (e : cmpD o x y h = .ok z h') : ∃ b, z = .d (.bool b) ∧ h' = h := by
  unfold cmpD at e
  repeat' split at e
  all_goals first | (cases e; exact ⟨_, rfl, rfl⟩) | cases e
theorem tT2 {K : PySem.W.Frag} {ma mb : Env → Hs → R D} {o : CmpOp} {τ : St} {H : Hp} {Q : Bool → Hp → Prop} (q : rT K (fun σ h => ((ma σ h).bind fun x h1 => (mb σ h1).bind fun y h2 => cmpD o x y h2).bind truD) τ H Q) :
    tTest (tOp (rD2 K (cmpD o)) (rV K ma) (rV K mb)) τ H Q := by
  refine seq2 (g := cmpD o) ?_
  obtain ⟨F, ρ, σ, h, st, eo, fin⟩ := q
  dsimp only at fin
  refine ⟨F, ρ, σ, h, st, eo, ?_⟩
  dsimp only
  cases er : (ma σ h).bind fun x h1 => (mb σ h1).bind fun y h2 => cmpD o x y h2 with
  | ok z h3 =>
    rw [er] at fin
    obtain ⟨x, h1, _, e2⟩ := bind_ok er
    obtain ⟨y, h2, _, e3⟩ := bind_ok e2
    obtain ⟨b, rfl, rfl⟩ := cmp_bool e3
    replace fin : FinB K F ρ H (.ok b h3) Q := fin
    intro F1 ρ1 H1 v e1 st1 r1
    cases r1
    exact ⟨b, rfl, fin F1 ρ1 H1 e1 st1⟩
  | ex _ _ => rw [er] at fin; exact fin
  | no => rw [er] at fin; exact fin
theorem snd_cmp {o : CmpOp} {a b : E} (f : Fit X ck C k) (sa : Snd X ck C a) (sb : Snd X ck C b) : Snd X ck C (.cmp o a b) := by
  refine Snd.val rfl rfl fun x q => ?_
  split at q
  · simp only [Bool.and_eq_true, decide_eq_true_eq, Bool.not_eq_true'] at q
    obtain ⟨⟨⟨rfl, q1⟩, q2⟩, q3⟩ := q
    exact ⟨PE.imp (pe_cmpR (cmp_ok f.units o) (sa.e _ q1) (sb.e _ q2) q3) fun τ H Q w => seq2 w, PT.imp (pt_cmpR (cmp_ok f.units o) (sa.e _ q1) (sb.e _ q2) q3) fun τ H Q w => tT2 w⟩
  · cases q
theorem rchn {K : PySem.W.Frag} {ma mb mc : Env → Hs → R D} {o p : CmpOp} {τ : St} {H : Hp} {Q : VK} (q : rV K (fun σ h => (ma σ h).bind fun x h1 => (mb σ h1).bind fun y h2 => (cmpD o x y h2).bind fun t h3 => (truD t h3).bind fun b h4 =>
      if b then (mc σ h4).bind fun z h5 => cmpD p y z h5 else .ok (.d (.bool false)) h4) τ H Q) : tChain (rD2 K (cmpD o)) (rD2 K (cmpD p)) (rV K ma) (rV K mb) (rV K mc) τ H Q := by
  obtain ⟨F, ρ, σ, h, st, eo, fin⟩ := q
  dsimp only at fin
  refine ⟨F, ρ, σ, h, st, eo, ?_⟩
  cases ea : ma σ h with
  | ok x h1 =>
    rw [ea] at fin
    intro F1 ρ1 H1 v e1 st1 r1
    refine ⟨F1, ρ1, σ, h1, st1, eo.mono e1.toExt, ?_⟩
    replace fin : Fin K F ρ H ((mb σ h1).bind fun y h2 => (cmpD o x y h2).bind fun t h3 => (truD t h3).bind fun b h4 => if b then (mc σ h4).bind fun z h5 => cmpD p y z h5 else .ok (.d (.bool false)) h4) Q := fin
    cases eb : mb σ h1 with
    | ok y h2 =>
      rw [eb] at fin
      replace fin : Fin K F ρ H ((cmpD o x y h2).bind fun t h3 => (truD t h3).bind fun b h4 => if b then (mc σ h4).bind fun z h5 => cmpD p y z h5 else .ok (.d (.bool false)) h4) Q := fin
      intro F2 ρ2 H2 u e2 st2 r2
      refine ⟨F2, ρ2, h2, x, y, st2, Rep.mono e2.toExt _ _ r1, r2, ?_⟩
      cases ec : cmpD o x y h2 with
      | ok t h3 =>
        rw [ec] at fin
        obtain ⟨b, rfl, rfl⟩ := cmp_bool ec
        replace fin : Fin K F ρ H (if b then (mc σ h3).bind fun z h5 => cmpD p y z h5 else .ok (.d (.bool false)) h3) Q := fin
        intro F3 ρ3 H3 w e3 st3 r3
        cases r3
        refine ⟨b, rfl, ?_⟩
        have e123 := (e1.trans e2).trans e3
        cases b with
        | false =>
          simp only [Bool.false_eq_true, if_false] at fin ⊢
          exact fin F3 ρ3 H3 _ e123 st3 (.bl _)
        | true =>
          simp only [if_true] at fin ⊢
          refine ⟨F3, ρ3, σ, h3, st3, eo.mono e123.toExt, ?_⟩
          cases ed : mc σ h3 with
          | ok z h5 =>
            rw [ed] at fin
            intro F4 ρ4 H4 w4 e4 st4 r4
            exact ⟨F4, ρ4, h5, y, z, st4, Rep.mono (e3.trans e4).toExt _ _ r2, r4, Fin.mono (e123.trans e4) fin⟩
          | ex _ _ => rw [ed] at fin; exact fin
          | no => rw [ed] at fin; exact fin
      | ex _ _ => rw [ec] at fin; exact fin
      | no => rw [ec] at fin; exact fin
    | ex _ _ => rw [eb] at fin; exact fin
    | no => rw [eb] at fin; exact fin
  | ex _ _ => rw [ea] at fin; exact fin
  | no => rw [ea] at fin; exact fin
theorem snd_chn {o p : CmpOp} {a b c : E} (f : Fit X ck C k) (sa : Snd X ck C a) (sb : Snd X ck C b) (sc : Snd X ck C c) : Snd X ck C (.chn o p a b c) := by
  refine Snd.val rfl rfl fun x q => ?_
  split at q
  · simp only [Bool.and_eq_true, decide_eq_true_eq, Bool.not_eq_true'] at q
    obtain ⟨⟨⟨⟨⟨rfl, rfl⟩, q1⟩, q2⟩, q3⟩, q4⟩ := q
    have pe := pe_chain (cmp_ok f.units o) (cmp_ok f.units p) (sa.e _ q1) (sb.e _ q2) (sc.e _ q3) q4 (pos := ‹Pos›)
    have pt := pt_chain (cmp_ok f.units o) (cmp_ok f.units p) (sa.e _ q1) (sb.e _ q2) (sc.e _ q3) q4 (pos := ‹Pos›)
    refine ⟨PE.imp pe fun τ H Q w => rchn w, PT.imp pt fun τ H Q w => ?_⟩
    refine rchn (o := o) (p := p) ?_
    obtain ⟨F, ρ, σ, h, st, eo, fin⟩ := w
    dsimp only at fin
    refine ⟨F, ρ, σ, h, st, eo, ?_⟩
    dsimp only
    cases er : ((sem C a).v σ h).bind fun x h1 => ((sem C b).v σ h1).bind fun y h2 => (cmpD o x y h2).bind fun t h3 => (truD t h3).bind fun b h4 => if b then ((sem C c).v σ h4).bind fun z h5 => cmpD p y z h5 else .ok (.d (.bool false)) h4 with
    | ok z h3 =>
      rw [er] at fin
      have hb : ∃ b, z = .d (.bool b) := by
        obtain ⟨x, h1, _, e2⟩ := bind_ok er
        obtain ⟨y, h2, _, e3⟩ := bind_ok e2
        obtain ⟨t, h4, _, e4⟩ := bind_ok e3
        obtain ⟨b, h5, _, e5⟩ := bind_ok e4
        cases b with
        | true =>
          simp only [if_true] at e5
          obtain ⟨w, h6, _, e6⟩ := bind_ok e5
          obtain ⟨b, e, _⟩ := cmp_bool e6
          exact ⟨b, e⟩
        | false =>
          simp only [Bool.false_eq_true, if_false] at e5
          cases e5
          exact ⟨false, rfl⟩
      obtain ⟨b, rfl⟩ := hb
      replace fin : FinB X.K F ρ H (.ok b h3) Q := fin
      intro F1 ρ1 H1 v e1 st1 r1
      cases r1
      exact ⟨b, rfl, fin F1 ρ1 H1 e1 st1⟩
    | ex _ _ => rw [er] at fin; exact fin
    | no => rw [er] at fin; exact fin
  · cases q
theorem snd_bop {o : BoolOp} {es : E} (sa : Snd X ck C es) : Snd X ck C (.bop o es) := by
  refine Snd.val2 rfl rfl fun x q => ?_
  split at q
  · simp only [Bool.and_eq_true, decide_eq_true_eq] at q
    obtain ⟨rfl, q1⟩ := q
    exact ⟨sa.b o _ _ (by simp) q1, (sa.tb o _ _ (by simp) q1).pt⟩
  · cases q
theorem rnot {K : PySem.W.Frag} {ma : Env → Hs → R D} {τ : St} {H : Hp} {Q : VK} (q : rV K (fun σ h => (ma σ h).bind fun x h1 => (truD x h1).bind fun b h2 => .ok (.d (.bool (!b))) h2) τ H Q) : tNotT K (rV K ma) τ H Q := by
  obtain ⟨F, ρ, σ, h, st, eo, fin⟩ := q
  dsimp only at fin
  refine ⟨F, ρ, σ, h, st, eo, ?_⟩
  cases ea : ma σ h with
  | ok x h1 =>
    rw [ea] at fin
    replace fin : Fin K F ρ H ((truD x h1).bind fun b h2 => .ok (.d (.bool (!b))) h2) Q := fin
    intro F1 ρ1 H1 v e1 st1 r1
    cases et : truD x h1 with
    | ok b h2 =>
      rw [et] at fin
      obtain ⟨rfl, t⟩ := tru_rep st1 r1 et
      exact ⟨b, t, fin F1 ρ1 H1 _ e1 st1 (.bl _)⟩
    | ex _ _ => rw [et] at fin; exact fin.elim
    | no => rw [et] at fin; exact fin.elim
  | ex _ _ => rw [ea] at fin; exact fin
  | no => rw [ea] at fin; exact fin
theorem snd_not {a : E} (sa : Snd X ck C a) : Snd X ck C (.not a) := by
  refine Snd.val2 rfl rfl fun x q => ?_
  split at q
  · refine ⟨PE.imp (pe_notT (sa.e _ q)) fun τ H Q w => rnot w, PT.imp (pt_not (sa.t _ q)) fun τ H Q w => ?_⟩
    obtain ⟨F, ρ, σ, h, st, eo, fin⟩ := w
    dsimp only at fin
    refine ⟨F, ρ, σ, h, st, eo, ?_⟩
    cases ea : (sem C a).t σ h with
    | ok x h1 =>
      rw [ea] at fin
      exact fun F1 ρ1 H1 e1 st1 => fin F1 ρ1 H1 e1 st1
    | ex _ _ => rw [ea] at fin; exact fin
    | no => rw [ea] at fin; exact fin
  · cases q
theorem rife {K : PySem.W.Frag} {mc : Env → Hs → R Bool} {ma mb : Env → Hs → R D} {τ : St} {H : Hp} {Q : VK} (q : rV K (fun σ h => (mc σ h).bind fun t h1 => if t then ma σ h1 else mb σ h1) τ H Q) : tIf (rT K mc) (rV K ma) (rV K mb) τ H Q := by
  obtain ⟨F, ρ, σ, h, st, eo, fin⟩ := q
  dsimp only at fin
  refine ⟨F, ρ, σ, h, st, eo, ?_⟩
  cases ea : mc σ h with
  | ok b h1 =>
    rw [ea] at fin
    replace fin : Fin K F ρ H (if b then ma σ h1 else mb σ h1) Q := fin
    intro F1 ρ1 H1 e1 st1
    cases b with
    | true => exact ⟨F1, ρ1, σ, h1, st1, eo.mono e1.toExt, Fin.mono e1 fin⟩
    | false => exact ⟨F1, ρ1, σ, h1, st1, eo.mono e1.toExt, Fin.mono e1 fin⟩
  | ex _ _ => rw [ea] at fin; exact fin
  | no => rw [ea] at fin; exact fin
theorem snd_ife {c a b : E} (sc : Snd X ck C c) (sa : Snd X ck C a) (sb : Snd X ck C b) : Snd X ck C (.ife c a b) := by
  refine Snd.val2 rfl rfl fun x q => ?_
  split at q
  · simp only [Bool.and_eq_true] at q
    refine ⟨PE.imp (pe_ifExp (sc.t _ q.1.1) (sa.e _ q.1.2) (sb.e _ q.2)) fun τ H Q w => rife w, ⟨fun pins s τ H Q I w => ?_⟩⟩
    obtain ⟨F, ρ, σ, h, st, eo, fin⟩ := w
    exact fin.elim
  · cases q
theorem rtup {K : PySem.W.Frag} {ma : Env → Hs → R (List D)} {τ : St} {H : Hp} {Q : VK} (q : rV K (fun σ h => (ma σ h).bind tupD) τ H Q) : tTup (rL K ma) τ H Q := by
  obtain ⟨F, ρ, σ, h, st, eo, fin⟩ := q
  dsimp only at fin
  refine ⟨F, ρ, σ, h, st, eo, ?_⟩
  cases ea : ma σ h with
  | ok ds h1 =>
    rw [ea] at fin
    replace fin : Fin K F ρ H (tupD ds h1) Q := fin
    intro F1 ρ1 H1 vs e1 st1 r1
    replace fin := Fin.mono e1 fin
    unfold tupD at fin
    split at fin
    · rename_i hz
      refine ⟨by rw [r1.len]; exact hz, ?_⟩
      split at fin
      · rename_i xs hp
        exact fin_tup st1 fin (repL_plain r1 hp)
      · intro p hp
        obtain ⟨s2, sm, fp⟩ := st1.new (o := .tup vs) hp
        exact fin _ ρ1 _ _ (exh_new hp sm) s2 ⟨p, vs, rfl, .inl (.inl upd_same), RepL.mono ⟨sm, List.prefix_refl ρ1⟩ _ _ r1⟩
    · exact fin.elim
  | ex _ _ => rw [ea] at fin; exact fin
  | no => rw [ea] at fin; exact fin
theorem snd_tup {es : E} (sa : Snd X ck C es) : Snd X ck C (.tup es) := by
  refine Snd.val rfl rfl fun x q => ?_
  split at q
  · exact both (PE.imp (pe_tup (sa.l _ q)) fun τ H Q w => rtup w) fun _ => rfl
  · cases q
theorem rlst {K : PySem.W.Frag} {m : Bool} {ma : Env → Hs → R (List D)} {τ : St} {H : Hp} {Q : VK} (q : rV K (fun σ h => (ma σ h).bind (lstD m)) τ H Q) : tLst (rL K ma) τ H Q := by
  obtain ⟨F, ρ, σ, h, st, eo, fin⟩ := q
  dsimp only at fin
  refine ⟨F, ρ, σ, h, st, eo, ?_⟩
  cases ea : ma σ h with
  | ok ds h1 =>
    rw [ea] at fin
    replace fin : Fin K F ρ H (lstD m ds h1) Q := fin
    intro F1 ρ1 H1 vs e1 st1 r1
    replace fin := Fin.mono e1 fin
    unfold lstD at fin
    split at fin
    · rename_i xs hp
      exact fin_lst st1 fin (repL_plain r1 hp)
    · exact fin.elim
  | ex _ _ => rw [ea] at fin; exact fin
  | no => rw [ea] at fin; exact fin
theorem snd_lst {m : Bool} {es : E} (sa : Snd X ck C es) : Snd X ck C (.lst m es) := by
  refine Snd.val rfl rfl fun x q => ?_
  split at q
  · exact both (PE.imp (pe_lst (sa.l _ q)) fun τ H Q w => rlst w) fun _ => rfl
  · cases q
end
end En
/-! En: expressions, one by one, further -/
namespace En
open PySem L2
variable [Wd]
section
variable {X : Cx} {ck : Ck} {C : Str → List D → Hs → R D} {k : Nat}
/-! ### keys that are tuples -/
mutual
theorem nk_is {pins : List (Addr × Obj)} {τ : St} {H F : Hp} {s : Shared} (I : Inv X pins τ H s) (sm : Same F H) : ∀ (a : PyData) (v : V) (u : Value) (k : NestedKey), Dq X.K F v a → RelV v u → nk a = some k → NestedIs s.heap k u
  | .none, _, _, _, h, r, e => by
    cases h; cases r; cases e; exact .none
  | .int i, _, _, _, h, r, e => by
    cases h
    obtain ⟨t, rfl⟩ := r
    cases e; exact .int _ _
  | .str x, _, _, _, h, r, e => by
    cases h
    obtain ⟨t, rfl⟩ := r
    cases e; exact .text _ _
  | .tuple xs, _, _, _, h, r, e => by
    unfold nk at e
    obtain ⟨ks, e1, rfl⟩ := Option.map_eq_some_iff.mp e
    cases h with
    | tup h1 h2 =>
      cases r
      obtain ⟨its, rv, ⟨o, ho, hc, n, hd⟩, _⟩ := I.tuple (sqT_mono sm h1)
      exact .tup ho hc hd (nks_is I sm xs _ _ ks h2 (by simpa using rv) e1)
  | .bool _, _, _, _, _, _, e => by cases e
  | .list _, _, _, _, _, _, e => by cases e
  | .dict _, _, _, _, _, _, e => by cases e
theorem nks_is {pins : List (Addr × Obj)} {τ : St} {H F : Hp} {s : Shared} (I : Inv X pins τ H s) (sm : Same F H) : ∀ (xs : List PyData) (vs : List V) (us : List Value) (ks : List NestedKey), DqA X.K F vs xs → Vals vs us → nks xs = some ks → NestedAll s.heap ks us
  | [], _, _, _, h, r, e => by
    cases h; cases r; cases e; exact .nil
  | x :: xs, _, _, _, h, r, e => by
    cases h with
    | cons h1 h2 =>
      cases r with
      | cons r1 r2 =>
        unfold nks at e
        split at e
        · rename_i a b e1 e2
          cases e
          exact .cons (nk_is I sm x _ _ a h1 r1 e1) (nks_is I sm xs _ _ b h2 r2 e2)
        · cases e
end
theorem tupKey_of {a : PyData} (h : tupKey a = true) : ∃ ks, nk a = some (.tup ks) ∧ (NestedKey.tup ks).depth ≤ 8 := by
  unfold tupKey at h
  split at h
  · rename_i ks e
    exact ⟨ks, e, of_decide_eq_true h⟩
  · cases h
theorem keyEq_of {a b : PyData} {x y : NestedKey} (ha : nk a = some x) (hb : nk b = some y) : keyEq a b = decide (x = y) := by
  unfold keyEq
  rw [ha, hb]
  exact (NestedKey.decide_eq x y).symm
theorem dicT_get {K : PySem.W.Frag} {F : Hp} {a : PyData} {k : NestedKey} (ha : nk a = some k) : ∀ {xs : List (NestedKey × Addr × Value)} {ps : List (PyData × PyData)} {x : PyData}, DicT K F xs ps → dicGet ps a = some x → ∃ u v, valueAt (pairsH xs) k = some u ∧ RelV v u ∧ Dq K F v x
  | _, _, _, .nil, e => by cases e
  | _, _, x, .cons (k := k') (u := u) (v := v) h1 h2 h3 h4 h5 t, e => by
    rw [valueAt_pairsH]
    unfold dicGet at e
    rw [List.find?_cons, keyEq_of h1 ha] at e
    unfold atKey
    rw [List.find?_cons]
    by_cases hk : k' = k
    · have hd : decide (k' = k) = true := decide_eq_true hk
      rw [hd] at e ⊢
      cases e
      exact ⟨u, v, rfl, h4, h5⟩
    · have hd : decide (k' = k) = false := decide_eq_false hk
      rw [hd] at e ⊢
      obtain ⟨u, v, q1, q2⟩ := dicT_get ha t e
      rw [valueAt_pairsH] at q1
      exact ⟨u, v, q1, q2⟩
theorem dicT_is {pins : List (Addr × Obj)} {τ : St} {H F : Hp} {s : Shared} (I : Inv X pins τ H s) (sm : Same F H) : ∀ {xs : List (NestedKey × Addr × Value)} {ps : List (PyData × PyData)}, DicT X.K F xs ps → ∀ x ∈ xs, (nestedKind X.prog X.w).is s.heap x.1 x.2.1
  | _, _, .nil, x, hx => by cases hx
  | _, _, .cons h1 h2 h3 h4 h5 t, x, hx => by
    rcases List.mem_cons.mp hx with rfl | hx
    · obtain ⟨ks, e1, e2⟩ := tupKey_of h2
      rw [h1] at e1
      cases e1
      exact ⟨nk_is I sm _ _ _ _ h3 rfl h1, e2⟩
    · exact dicT_is I sm t x hx
theorem kdx_of {pins : List (Addr × Obj)} {τ : St} {H F : Hp} {s : Shared} (hw : X.w = Wd.w) (I : Inv X pins τ H s) (sm : Same F H) {a : Addr} {xs : List (NestedKey × Addr × Value)} {ps : List (PyData × PyData)} (e : H a = some (.ext (kdx xs a))) (t : DicT X.K F xs ps) : s.heap.DictOfH (nestedKind X.prog X.w) a xs := by
  have ok : ObjOk X.prog X.w H s.heap a (.ext (kdx xs a)) := I.hok a _ e
  obtain ⟨⟨o, es, ep, h1, h2, h3, h4, h5⟩, _⟩ := ok
  refine ⟨o, es, ep, h1, h2, h3, ?_, dicT_is I sm t, h5⟩
  rw [h4]
  unfold entryOfKey nestedKind
  rw [hw]
def rDit (K : PySem.W.Frag) : R2 := fun x y H Q => ∃ (F : Hp) (d : Addr) (xs : List (NestedKey × Addr × Value)) (ps : List (PyData × PyData)) (a z : PyData), Same F H ∧ x = .ref d ∧ F d = some (.ext (kdx xs d)) ∧ DicT K F xs ps ∧ Dq K F y a ∧ tupKey a = true ∧ dicGet ps a = some z ∧ ∀ v, Dq K F v z → Q v H
theorem pe_dit {o i : Expr} {to ti : TE} {pos : Pos} (hu : X.A.units + 100 < cLine) (hw : X.w = Wd.w) (ho : PE X o to) (hi : PE X i ti) (hs : PlainIx i) : PE X (.Subscript o i pos) (tOp (rDit X.K) to ti) := by
  constructor
  intro pins s σ H Q I h
  refine subD_of PySem.F.slot_dict_getitem.lookup hs (thn (ho.run pins s σ H _ I h) ?_)
  rintro u s1 ⟨x, H1, I1, rx, q1⟩
  refine thn (hi.run pins s1 σ H1 _ I1 q1) ?_
  rintro iv s2 ⟨y, H2, I2, ry, F, d, xs, ps, a, z, sm, rfl, e, t, dq, tk, g, q2⟩
  obtain rfl : u = Value.ref d := rx
  obtain ⟨ks, e1, e2⟩ := tupKey_of tk
  obtain ⟨w, v, g1, g2, g3⟩ := dicT_get e1 t g
  have dd := kdx_of hw I2 sm (sm _ _ e) t
  have ny : ∃ b, y = .ref b := by
    cases dq with
    | tup h1 h2 => exact ⟨_, rfl⟩
    | lst h1 h2 => exact ⟨_, rfl⟩
    | _ => first | (cases e1) | skip
  obtain ⟨b, rfl⟩ := ny
  obtain rfl : iv = Value.ref b := ry
  have hr : (nestedKind X.prog X.w).room X.A.in1 := by
    show X.A.in1.units + 8 < cLine
    have : X.A.in1.units ≤ X.A.units + 1 := by first | exact Nat.le_refl _ | (simp [Around.in1]; omega)
    omega
  refine ⟨dd.typeIs, getItem_keyed hr ⟨nk_is I2 sm _ _ _ _ dq rfl e1, e2⟩ ⟨xs, dd, rfl⟩ g1 ⟨v, H2, I2.tok _, g2, q2 v g3⟩⟩
theorem rix {K : PySem.W.Frag} {ma mb : Env → Hs → R D} {τ : St} {H : Hp} {Q : VK} (q : rV K (fun σ h => (ma σ h).bind fun x h1 => (mb σ h1).bind fun y h2 => ixD x y h2) τ H Q) :
    tOp (fun x y H Q => ∃ F ρ h a b, Stt K F ρ h H ∧ isDic a = false ∧ Rep K F ρ a x ∧ Rep K F ρ b y ∧ Fin K F ρ H (ixD a b h) Q) (rV K ma) (rV K mb) τ H Q ∨ tDGet (rV K ma) (rV K mb) τ H Q ∨ tOp (rDit K) (rV K ma) (rV K mb) τ H Q := by
  obtain ⟨F, ρ, σ, h, st, eo, fin⟩ := q
  dsimp only at fin
  cases ea : ma σ h with
  | ok x h1 =>
    rw [ea] at fin
    replace fin : Fin K F ρ H ((mb σ h1).bind fun y h2 => ixD x y h2) Q := fin
    cases hd : isDic x with
    | false =>
      refine .inl ⟨F, ρ, σ, h, st, eo, ?_⟩
      rw [ea]
      intro F1 ρ1 H1 v e1 st1 r1
      refine ⟨F1, ρ1, σ, h1, st1, eo.mono e1.toExt, ?_⟩
      cases eb : mb σ h1 with
      | ok y h2 =>
        rw [eb] at fin
        intro F2 ρ2 H2 u e2 st2 r2
        exact ⟨F2, ρ2, h2, x, y, st2, hd, Rep.mono e2.toExt _ _ r1, r2, Fin.mono (e1.trans e2) fin⟩
      | ex _ _ => rw [eb] at fin; exact fin
      | no => rw [eb] at fin; exact fin
    | true =>
      cases x with
      | dic ps =>
        refine .inr (.inl ⟨F, ρ, σ, h, st, eo, ?_⟩)
        rw [ea]
        intro F1 ρ1 H1 v e1 st1 r1
        refine ⟨F1, ρ1, σ, h1, st1, eo.mono e1.toExt, ?_⟩
        cases eb : mb σ h1 with
        | ok y h2 =>
          rw [eb] at fin
          replace fin : Fin K F ρ H (ixD (.dic ps) y h2) Q := fin
          intro F2 ρ2 H2 u e2 st2 r2
          replace fin := Fin.mono (e1.trans e2) fin
          obtain ⟨a, rfl, dd⟩ := Rep.mono e2.toExt _ _ r1
          replace fin : Fin K F2 ρ2 H2 (dicIx ps y h2) Q := fin
          unfold dicIx at fin
          split at fin
          · rename_i z
            cases r2
            obtain ⟨o, g, _, g2⟩ := dget_dic st2 dd z
            split at fin
            · rename_i w hw
              obtain ⟨v, rfl, dq⟩ := g2 w hw
              exact ⟨a, v, rfl, g, fin_val st2 fin dq⟩
            · exact fin.elim
          · exact fin.elim
        | ex _ _ => rw [eb] at fin; exact fin
        | no => rw [eb] at fin; exact fin
      | dit ps =>
        refine .inr (.inr ⟨F, ρ, σ, h, st, eo, ?_⟩)
        rw [ea]
        intro F1 ρ1 H1 v e1 st1 r1
        refine ⟨F1, ρ1, σ, h1, st1, eo.mono e1.toExt, ?_⟩
        cases eb : mb σ h1 with
        | ok y h2 =>
          rw [eb] at fin
          replace fin : Fin K F ρ H (ixD (.dit ps) y h2) Q := fin
          intro F2 ρ2 H2 u e2 st2 r2
          replace fin := Fin.mono (e1.trans e2) fin
          obtain ⟨a, rfl, xs, ee, dd⟩ := Rep.mono e2.toExt _ _ r1
          replace fin : Fin K F2 ρ2 H2 (ditIx ps y h2) Q := fin
          unfold ditIx at fin
          split at fin
          · rename_i z
            split at fin
            · rename_i ht
              split at fin
              · rename_i w hw
                exact ⟨F2, a, xs, ps, z, w, st2.same, rfl, ee, dd, r2, ht, hw, fun v dq => fin_val st2 fin dq⟩
              · exact fin.elim
            · exact fin.elim
          · exact fin.elim
        | ex _ _ => rw [eb] at fin; exact fin
        | no => rw [eb] at fin; exact fin
      | _ => cases hd
  | ex _ _ => rw [ea] at fin; exact fin.elim
  | no => rw [ea] at fin; exact fin.elim
theorem snd_ix {a i : E} (f : Fit X ck C k) (sa : Snd X ck C a) (si : Snd X ck C i) : Snd X ck C (.ix a i) := by
  refine Snd.val rfl rfl fun x q => ?_
  split at q
  · simp only [Bool.and_eq_true] at q
    have hp := plain_ix q.2
    have hu := f.units
    exact both (PE.imp (PE.or (pe_ix ixS_ok (sa.e _ q.1.1) (si.e _ q.1.2) hp) (PE.or (pe_dget (by omega) (sa.e _ q.1.1) (si.e _ q.1.2) hp) (pe_dit hu f.wd (sa.e _ q.1.1) (si.e _ q.1.2) hp))) fun τ H Q w => rix w) fun _ => rfl
  · cases q
theorem rsl {K : PySem.W.Frag} {ma : Env → Hs → R D} {ml mu : Env → Hs → R (Option D)} {τ : St} {H : Hp} {Q : VK} (q : rV K (fun σ h => (ma σ h).bind fun x h1 => (ml σ h1).bind fun y h2 => (mu σ h2).bind fun z h3 => slD x y z h3) τ H Q) :
    tSl (fun x lo hi H Q => ∃ (F : Hp) (ρ : List Addr) (h : Hs) (a : D) (l u : Option D), Stt K F ρ h H ∧ Rep K F ρ a x ∧ bnd l = some lo ∧ bnd u = some hi ∧ Fin K F ρ H (slD a l u h) Q) (rV K ma) (rOp K ml) (rOp K mu) τ H Q := by
  obtain ⟨F, ρ, σ, h, st, eo, fin⟩ := q
  dsimp only at fin
  refine ⟨F, ρ, σ, h, st, eo, ?_⟩
  cases ea : ma σ h with
  | ok x h1 =>
    rw [ea] at fin
    replace fin : Fin K F ρ H ((ml σ h1).bind fun y h2 => (mu σ h2).bind fun z h3 => slD x y z h3) Q := fin
    intro F1 ρ1 H1 v e1 st1 r1
    refine ⟨F1, ρ1, σ, h1, st1, eo.mono e1.toExt, ?_⟩
    cases eb : ml σ h1 with
    | ok y h2 =>
      rw [eb] at fin
      replace fin : Fin K F ρ H ((mu σ h2).bind fun z h3 => slD x y z h3) Q := fin
      intro F2 ρ2 H2 e2 st2
      cases ec : mu σ h2 with
      | ok z h3 =>
        rw [ec] at fin
        replace fin : Fin K F ρ H (slD x y z h3) Q := fin
        have hb : ∃ lo hi, bnd y = some lo ∧ bnd z = some hi := by
          unfold slD at fin
          split at fin
          · rename_i lo hi b1 b2
            exact ⟨lo, hi, b1, b2⟩
          · exact fin.elim
        obtain ⟨lo, hi, b1, b2⟩ := hb
        refine ⟨lo, b1, F2, ρ2, σ, h2, st2, (eo.mono e1.toExt).mono e2.toExt, ?_⟩
        rw [ec]
        intro F3 ρ3 H3 e3 st3
        exact ⟨hi, b2, F3, ρ3, h3, x, y, z, st3, Rep.mono (e2.trans e3).toExt _ _ r1, b1, b2, Fin.mono ((e1.trans e2).trans e3) fin⟩
      | ex _ _ => rw [ec] at fin; exact fin.elim
      | no => rw [ec] at fin; exact fin.elim
    | ex _ _ => rw [eb] at fin; exact fin
    | no => rw [eb] at fin; exact fin
  | ex _ _ => rw [ea] at fin; exact fin
  | no => rw [ea] at fin; exact fin
theorem snd_sl {a l u : E} (sa : Snd X ck C a) (sl : Snd X ck C l) (su : Snd X ck C u) : Snd X ck C (.sl a l u) := by
  refine Snd.val rfl rfl fun x q => ?_
  split at q
  · simp only [Bool.and_eq_true] at q
    exact both (PE.imp (pe_slice sl_ok (sa.e _ q.1.1) (sl.o _ q.1.2) (su.o _ q.2)) fun τ H Q w => rsl w) fun _ => rfl
  · cases q
theorem stars_of {y : Expr} {ys : List Expr} (h : noStars (y :: ys) = true) : notStar y = true ∧ noStars ys = true := by
  unfold noStars at h
  simpa using h
theorem rcall {K : PySem.W.Frag} {n : Nat} {c : List D → Hs → R D} (hl : ∀ ds h x h', c ds h = .ok x h' → ds.length = n) {ma : Env → Hs → R (List D)} {τ : St} {H : Hp} {Q : VK} (q : rV K (fun σ h => (ma σ h).bind c) τ H Q) :
    tCall (spD K n c) [] E0 (rL K ma) τ H Q := by
  obtain ⟨F, ρ, σ, h, st, eo, fin⟩ := q
  dsimp only at fin
  refine ⟨F, ρ, σ, h, st, eo, ?_⟩
  cases ea : ma σ h with
  | ok ds h1 =>
    rw [ea] at fin
    replace fin : Fin K F ρ H (c ds h1) Q := fin
    intro F1 ρ1 H1 vs e1 st1 r1
    have hn : ds.length = n := by
      cases ec : c ds h1 with
      | ok x h' => exact hl ds h1 x h' ec
      | ex _ _ => rw [ec] at fin; exact fin.elim
      | no => rw [ec] at fin; exact fin.elim
    rw [List.append_nil]
    exact ⟨by rw [r1.len]; exact hn, F1, ρ1, h1, ds, st1, r1, Fin.mono e1 fin⟩
  | ex _ _ => rw [ea] at fin; exact fin
  | no => rw [ea] at fin; exact fin
theorem snd_call {g : Str} {es : E} (f : Fit X ck C k) (sa : Snd X ck C es) : Snd X ck C (.call g es) := by
  refine Snd.val rfl rfl fun x q => ?_
  split at q
  · rename_i z _ y ys p
    simp only [Bool.and_eq_true, decide_eq_true_eq] at q
    obtain ⟨⟨⟨⟨⟨rfl, q1⟩, q2⟩, q3⟩, q4⟩, q5⟩ := q
    obtain ⟨a, fd, ps, m1, m2, m3, m4, m5⟩ := f.fns z (by simpa using q1)
    obtain ⟨d1, _, _⟩ := debug_of q3
    obtain ⟨s1, s2⟩ := stars_of q5
    refine both (PE.imp (pe_call m5 f.room (f.gl q2) m1 m2 m3 .nil pass0 (sa.l _ q4) d1 (star_cons s1) (star_any p X.env ys s2).1) fun τ H Q w => rcall m4 w) fun _ => rfl
  · cases q
theorem rcb {K : PySem.W.Frag} {g : List D → Hs → R D} {ma : Env → Hs → R (List D)} {τ : St} {H : Hp} {Q : VK} (q : rV K (fun σ h => (ma σ h).bind g) τ H Q) : tCB (rDL K g) (rL K ma) τ H Q := seqL q
theorem blt_of (f : Fit X ck C k) {x : Str} (h : bnames.contains x = true) : X.mg x = none := f.blt x (by simpa using h)
theorem snd_bi {b : Bi} {m : Bool} {es : E} (f : Fit X ck C k) (sa : Snd X ck C es) : Snd X ck C (.bi b m es) := by
  refine Snd.val rfl rfl fun x q => ?_
  split at q
  · rename_i z _ y ys p
    simp only [Bool.and_eq_true, decide_eq_true_eq] at q
    obtain ⟨⟨⟨rfl, q2⟩, q4⟩, q5⟩ := q
    obtain ⟨s1, s2⟩ := stars_of q5
    have h1 := star_cons (es := ys) (env := X.env) s1
    have h2 := (star_any p X.env ys s2).1
    have g := f.gl q2
    have pa := sa.l _ q4
    refine both ?_ fun _ => rfl
    cases b with
    | abs => exact PE.imp (pe_callB (x := Str.ofString "abs") (call_absD m) g (blt_of f (by decide +kernel)) (by decide +kernel) pa (by decide) (by decide) h1 h2) fun τ H Q w => rcb w
    | int => exact PE.imp (pe_callTy (x := Str.ofString "int") (call_intD m) g (blt_of f (by decide +kernel)) (by decide +kernel) pa (by decide) (by decide) h1 h2) fun τ H Q w => rcb w
    | len => exact PE.imp (pe_callB (x := Str.ofString "len") (call_lenDD m) g (blt_of f (by decide +kernel)) (by decide +kernel) pa (by decide) (by decide) h1 h2) fun τ H Q w => rcb w
    | tuple => exact PE.imp (pe_callTy (x := Str.ofString "tuple") (call_tupleD m) g (blt_of f (by decide +kernel)) (by decide +kernel) pa (by decide) (by decide) h1 h2) fun τ H Q w => rcb w
    | list => exact PE.imp (pe_callTy (x := Str.ofString "list") (call_listD m) g (blt_of f (by decide +kernel)) (by decide +kernel) pa (by decide) (by decide) h1 h2) fun τ H Q w => rcb w
    | all => exact PE.imp (pe_callB (x := Str.ofString "all") (call_allD f.calm m) g (blt_of f (by decide +kernel)) (by decide +kernel) pa (by decide) (by decide) h1 h2) fun τ H Q w => rcb w
    | any => exact PE.imp (pe_callB (x := Str.ofString "any") (call_anyD f.calm m) g (blt_of f (by decide +kernel)) (by decide +kernel) pa (by decide) (by decide) h1 h2) fun τ H Q w => rcb w
  · cases q
theorem ty_boot (t : Ty) : bootBuiltins (tyNm t) = some (.type (nmTy t)) ∧ bnames.contains (tyNm t) = true ∧ tyNm t ≠ ("__name__" : Str) ∧ (tyNm t == ("__debug__" : Str)) = false := by
  cases t <;> exact ⟨by decide +kernel, by decide +kernel, by decide +kernel, by decide +kernel⟩
theorem pe_ty (f : Fit X ck C k) (t : Ty) {p : Pos} (h : ck.gl (tyNm t) = true) : PE X (.Name (tyNm t) p) (tC (.ty (nmTy t))) := by
  obtain ⟨b1, b2, b3, b4⟩ := ty_boot t
  exact pe_bltn (f.gl h) (blt_of f b2) b1 rfl b3 b4
def tTys (ts : List Ty) : TA := fun _ H Q => Q (ts.map fun t => .ty (nmTy t)) H
theorem pa_tys (f : Fit X ck C k) : ∀ (ts : List Ty) (es : List Expr), ckTys ck ts es = true → PA X es (tTys ts)
  | [], [], _ => PA.imp pa_nil fun τ H Q w => w
  | t :: ts, .Name x p :: es, h => by
    unfold ckTys at h
    simp only [Bool.and_eq_true, decide_eq_true_eq] at h
    obtain ⟨⟨rfl, h1⟩, h2⟩ := h
    exact PA.imp (pa_cons (pe_ty f t h1) (pa_tys f ts es h2) rfl) fun τ H Q w => w
  | [], _ :: _, h => by cases h
  | _ :: _, [], h => by cases h
  | _ :: _, .BoolOp .. :: _, h => by cases h
  | _ :: _, .NamedExpr .. :: _, h => by cases h
  | _ :: _, .BinOp .. :: _, h => by cases h
  | _ :: _, .UnaryOp .. :: _, h => by cases h
  | _ :: _, .Lambda .. :: _, h => by cases h
  | _ :: _, .IfExp .. :: _, h => by cases h
  | _ :: _, .Dict .. :: _, h => by cases h
  | _ :: _, .Set .. :: _, h => by cases h
  | _ :: _, .ListComp .. :: _, h => by cases h
  | _ :: _, .SetComp .. :: _, h => by cases h
  | _ :: _, .DictComp .. :: _, h => by cases h
  | _ :: _, .GeneratorExp .. :: _, h => by cases h
  | _ :: _, .Await .. :: _, h => by cases h
  | _ :: _, .Yield .. :: _, h => by cases h
  | _ :: _, .YieldFrom .. :: _, h => by cases h
  | _ :: _, .Compare .. :: _, h => by cases h
  | _ :: _, .Call .. :: _, h => by cases h
  | _ :: _, .FormattedValue .. :: _, h => by cases h
  | _ :: _, .JoinedStr .. :: _, h => by cases h
  | _ :: _, .Constant .. :: _, h => by cases h
  | _ :: _, .Attribute .. :: _, h => by cases h
  | _ :: _, .Subscript .. :: _, h => by cases h
  | _ :: _, .Starred .. :: _, h => by cases h
  | _ :: _, .List .. :: _, h => by cases h
  | _ :: _, .Tuple .. :: _, h => by cases h
  | _ :: _, .Slice .. :: _, h => by cases h
/-- the kind of a thing, and None -/
theorem isi_ok {K : PySem.W.Frag} {F H : Hp} {ρ : List Addr} {h : Hs} {x : D} {v : V} {ts : List Ty} {b : Bool} (st : Stt K F ρ h H) (r : Rep K F ρ x v) (e : isiD x ts h = some b) : ∃ t, TyX K H v t ∧ PySem.W.kitAny K t (ts.map fun q => .type (nmTy q)) = some b := by
  unfold isiD at e
  split at e
  · rename_i hn
    cases e
    cases x with
    | d d =>
      cases d with
      | none => cases r; exact ⟨_, .base .non, kitAnyN_ok ts⟩
      | _ => cases hn
    | _ => cases hn
  · split at e
    · rename_i hl
      obtain ⟨t, e1, e2⟩ := Option.map_eq_some_iff.mp e
      subst e2
      refine ⟨_, ty_rep st r e1 fun n hx => ?_, kitAny_ok t ts⟩
      subst hx
      unfold liveD at hl
      dsimp only at hl
      split at hl
      · exact ⟨_, by assumption⟩
      · cases hl
    · cases e
theorem kit1 {K : PySem.W.Frag} {t : Value} {c : Value} {b : Bool} (h : PySem.W.kitAny K t [c] = some b) : PySem.W.kitOne K t c = some b := by
  unfold PySem.W.kitAny at h
  split at h
  · rename_i e; rw [e]; exact h
  · rename_i e; rw [e]; exact h
  · cases h
theorem tys_pair : ∀ ts : List Ty, Paired ClsV (ts.map fun t => V.ty (nmTy t)) (ts.map fun q => Value.type (nmTy q))
  | [] => .nil
  | t :: ts => .cons (.ty _) (tys_pair ts)
theorem snd_isi {a : E} {ts : List Ty} {t : Bool} (f : Fit X ck C k) (sa : Snd X ck C a) : Snd X ck C (.isi a ts t) := by
  refine Snd.val rfl rfl fun x q => ?_
  split at q
  · rename_i z np y w p
    simp only [Bool.and_eq_true, decide_eq_true_eq] at q
    obtain ⟨⟨⟨⟨rfl, q2⟩, q3⟩, q4⟩, q5⟩ := q
    have g := f.gl q2
    refine both ?_ fun _ => rfl
    have go : ∀ {rd : List V → Hp → VK → Prop} {tz : TE} (cr : CallR X (.builtin "isinstance") rd) (pz : PE X w tz) (ns : notStar w = true) (im : ∀ τ H Q, rV X.K (fun σ h => ((sem C a).v σ h).bind fun x h1 => isiR x ts h1) τ H Q → tCB rd (tCons (rV X.K (sem C a).v) (tCons tz tNil)) τ H Q),
        PE X (.Call (.Name (Str.ofString "isinstance") np) [y, w] [] p) (rV X.K fun σ h => ((sem C a).v σ h).bind fun x h1 => isiR x ts h1) := fun {rd tz} cr pz ns im => by
      refine PE.imp (pe_callB (x := Str.ofString "isinstance") cr g (blt_of f (by decide +kernel)) (by decide +kernel) (pa_cons (sa.e _ q4) (pa_cons pz pa_nil (star_cons ns)) (star_cons q3)) (by decide) (by decide) (star_cons q3) (star_any p X.env [w] (by unfold noStars; rw [ns]; rfl)).1) im
    split at q5
    · rename_i n _
      split at q5
      · rename_i t1
        simp only [Bool.and_eq_true, decide_eq_true_eq] at q5
        obtain ⟨rfl, g1⟩ := q5
        refine go call_isi (pe_ty f t1 g1) rfl fun τ H Q w => ?_
        obtain ⟨F, ρ, σ, h, st, eo, fin⟩ := w
        dsimp only at fin
        refine ⟨F, ρ, σ, h, st, eo, ?_⟩
        cases ea : (sem C a).v σ h with
        | ok x h1 =>
          rw [ea] at fin
          replace fin : Fin X.K F ρ H (isiR x [t1] h1) Q := fin
          intro F1 ρ1 H1 v e1 st1 r1
          replace fin := Fin.mono e1 fin
          unfold isiR at fin
          split at fin
          · rename_i b hb
            obtain ⟨t, k1, k2⟩ := isi_ok st1 r1 hb
            exact ⟨v, _, t, _, b, rfl, .ty _, k1, kit1 k2, fin_val st1 fin (.bl _)⟩
          · exact fin.elim
        | ex _ _ => rw [ea] at fin; exact fin
        | no => rw [ea] at fin; exact fin
      · cases q5
    · rename_i es _ _
      simp only [Bool.and_eq_true, decide_eq_true_eq] at q5
      refine go call_isiT (pe_tup (pa_tys f ts es q5.1)) rfl fun τ H Q w => ?_
      obtain ⟨F, ρ, σ, h, st, eo, fin⟩ := w
      dsimp only at fin
      refine ⟨F, ρ, σ, h, st, eo, ?_⟩
      cases ea : (sem C a).v σ h with
      | ok x h1 =>
        rw [ea] at fin
        replace fin : Fin X.K F ρ H (isiR x ts h1) Q := fin
        intro F1 ρ1 H1 v e1 st1 r1
        replace fin := Fin.mono e1 fin
        unfold isiR at fin
        split at fin
        · rename_i b hb
          refine ⟨?_, fun tp hp => ?_⟩
          · rw [List.length_map]
            have hs : sizeLine = 16777216 := sizeLine_eq
            omega
          · obtain ⟨t, k1, k2⟩ := isi_ok (st1.more (o := .tup (ts.map fun t => .ty (nmTy t))) hp) r1 hb
            exact ⟨v, tp, _, t, ts.map fun q => .type (nmTy q), b, rfl, upd_same, tys_pair ts, k1, k2, fin F1 ρ1 _ _ (exh_more hp) (st1.more hp) (.bl _)⟩
        · exact fin.elim
      | ex _ _ => rw [ea] at fin; exact fin
      | no => rw [ea] at fin; exact fin
    · cases q5
  · cases q
end
end En
/-! En: methods, comprehensions, what is walked -/
namespace En
open PySem L2
variable [Wd]
section
variable {X : Cx} {ck : Ck} {C : Str → List D → Hs → R D} {k : Nat}
theorem rcv_list {K : PySem.W.Frag} {F H : Hp} {ρ : List Addr} {h : Hs} {x : D} {v : V} (st : Stt K F ρ h H) (r : Rep K F ρ x v) (e : (vwL x h).isSome = true) : tyV K "list" v H := by
  cases q : vwL x h with
  | none => rw [q] at e; cases e
  | some xs =>
    obtain ⟨l, vs, rfl, _, q1⟩ := vwL_ok st r q
    exact .inl ⟨rfl, vs, SqL.of q1⟩
theorem rcv_str {K : PySem.W.Frag} {F H : Hp} {ρ : List Addr} {x : D} {v : V} {h : Hs} (r : Rep K F ρ x v) (e : rcvOk .join x h = true) : tyV K "str" v H := by
  unfold rcvOk at e
  dsimp only at e
  split at e
  · rename_i z
    cases r
    rfl
  · cases e
theorem rmth {K : PySem.W.Frag} {m : Mt} {T : String} (hty : ∀ {F H : Hp} {ρ : List Addr} {h : Hs} {x : D} {v : V}, Stt K F ρ h H → Rep K F ρ x v → rcvOk m x h = true → tyV K T v H) {ma : Env → Hs → R D} {mb : Env → Hs → R (List D)} {τ : St} {H : Hp} {Q : VK}
    (q : rV K (fun σ h => (ma σ h).bind fun x h1 => if rcvOk m x h1 then (mb σ h1).bind (mthD m x) else .no) τ H Q) : tBM K T (rDM K (mthD m)) (rV K ma) (rL K mb) τ H Q := by
  have w := seqM q
  obtain ⟨F, ρ, σ, h, st, eo, fin⟩ := w
  refine ⟨F, ρ, σ, h, st, eo, ?_⟩
  cases ea : ma σ h with
  | ok x h1 =>
    rw [ea] at fin
    intro F1 ρ1 H1 v e1 st1 r1
    obtain ⟨⟨F2, ρ2, h2, x2, st2, r2, c2⟩, w⟩ := fin F1 ρ1 H1 v e1 st1 r1
    exact ⟨hty st2 r2 c2, w⟩
  | ex _ _ => rw [ea] at fin; exact fin
  | no => rw [ea] at fin; exact fin
theorem few_of {y : Expr} {ys : List Expr} {cp : Pos} {env : PySem.Env} (h : noStars (y :: ys) = true) (hl : (y :: ys).length < 20) : ((backTo cp (starEach (y :: ys) env)).all (fun x => !x.1) && (backToKw cp (keywordEach [] env)).all (fun x => x.1.isSome)
      && decide ((y :: ys).length + ([] : List Keyword).length + (if ([] : List Keyword).isEmpty then 0 else 1) < 30)) = true := by
  rw [(star_any cp env (y :: ys) h).2]
  have e1 : (backToKw cp (keywordEach [] env)).all (fun x => x.1.isSome) = true := rfl
  rw [e1]
  simp only [Bool.and_self, Bool.true_and, decide_eq_true_eq]
  have e2 : ([] : List Keyword).length = 0 := rfl
  rw [e2]
  simp only [List.isEmpty_nil, if_true]
  omega
theorem snd_mth {m : Mt} {o es : E} (so : Snd X ck C o) (sa : Snd X ck C es) : Snd X ck C (.mth m o es) := by
  refine Snd.val rfl rfl fun x q => ?_
  split at q
  · rename_i x nm ap y ys cp
    simp only [Bool.and_eq_true, decide_eq_true_eq] at q
    obtain ⟨⟨⟨⟨⟨⟨rfl, q1⟩, q2⟩, q3⟩, q4⟩, q5⟩, q6⟩ := q
    obtain ⟨s1, s2⟩ := stars_of q5
    have h1 := star_cons (es := ys) (env := X.env) s1
    have h2 := (star_any cp X.env ys s2).1
    have pa := sa.l _ q4
    have po := so.e _ q1
    have hf := few_of (cp := cp) (env := X.env) q5 q6
    refine both ?_ fun _ => rfl
    cases m with
    | append => exact PE.imp (pe_bm PySem.F.plainAttrs_list PySem.F.slot_list_append PySem.F.type_list_append mt_appendD po pa (base_ok q2 _ _ _) hf q3 h1 h2) fun τ H Q w => rmth (m := .append) (fun st r e => rcv_list st r e) w
    | extend => exact PE.imp (pe_bm PySem.F.plainAttrs_list PySem.F.slot_list_extend PySem.F.type_list_extend mt_extendD po pa (base_ok q2 _ _ _) hf q3 h1 h2) fun τ H Q w => rmth (m := .extend) (fun st r e => rcv_list st r e) w
    | join => exact PE.imp (pe_bm PySem.F.plainAttrs_str PySem.F.slot_str_join PySem.F.type_str_join mt_joinD po pa (base_ok q2 _ _ _) hf q3 h1 h2) fun τ H Q w => rmth (m := .join) (fun st r e => rcv_str r e) w
    | startswith => exact PE.imp (pe_bm PySem.F.plainAttrs_str PySem.F.slot_str_startswith PySem.F.type_str_startswith mt_startsD po pa (base_ok q2 _ _ _) hf q3 h1 h2) fun τ H Q w => rmth (m := .startswith) (fun st r e => rcv_str (h := []) r e) w
  · cases q
/-- true of a piece in each context that fits -/
def All (C : Str → List D → Hs → R D) (k : Nat) (g : E) : Prop := ∀ (X : Cx) (ck : Ck), Fit X ck C k → Snd X ck C g
theorem sub_of {xs ys : List Nat} (h : sub xs ys = true) : ∀ i ∈ xs, i ∈ ys := by
  intro i hi
  unfold sub at h
  have := List.all_eq_true.mp h i hi
  simpa using this
theorem own_snd (N : List Str) (own : List Nat) : (ownN N own).map (·.2) = own := by
  unfold ownN
  rw [List.map_map]
  exact List.map_id own
theorem pg_blk (f : Fit X ck C k) {t : Tg} {tg : Expr} {scope : Scope} (h : ckTg (ck.blk scope).N (ck.blk scope).sc (ck.blk scope).fn t tg = true) (s : Shared) (H : Hp) (Ca : Addr) (cl : List (Str × Addr)) (fp : List Addr) :
    PG (X.blk s H scope (compEnvC scope cl Ca X.env) fp) tg (gT X.K t) := by
  have g := f.blk s H scope cl Ca fp
  exact pg_ok g.calm g.N g.nd g.sc g.fn h
theorem blk_own (f : Fit X ck C k) {scope : Scope} {own : List Nat} (h : blkC ck.N ck.sc scope (ownN ck.N own) = true) : BlkOk X.N X.env.scope scope (ownN ck.N own) := by
  rw [f.N, f.sc]
  exact blkOk_by h
theorem snd_lc {m : Bool} {own : List Nat} {t : Tg} {it ifs elt : E} (f : Fit X ck C k) (hi : All C k it) (hf : All C k ifs) (he : All C k elt) : Snd X ck C (.lc m own t it ifs elt) := by
  refine Snd.val rfl rfl fun x q => ?_
  split at q
  · rename_i x tg iter is scope p
    simp only [Bool.and_eq_true, decide_eq_true_eq] at q
    obtain ⟨⟨⟨⟨⟨⟨⟨q1, q2⟩, q3⟩, q4⟩, q5⟩, q6⟩, q7⟩, q8⟩ := q
    have pe := pe_lc (pos := p) (tt := rT X.K (sem C ifs).ts) (te := rV X.K (sem C elt).v) f.calm f.nd ((hi X ck f).i tg iter q2 q1) (blk_own f q3) (fun s H Ca cl fp => pg_blk f q4 s H Ca cl fp) (fun s H Ca cl fp => (hf _ _ (f.blk s H scope cl Ca fp)).ts is q6 q5) (fun s H Ca cl fp => (he _ _ (f.blk s H scope cl Ca fp)).e x q7) (fun y => fset_ok q2 _ y)
    rw [own_snd] at pe
    exact both (PE.imp pe fun τ H Q w => lc_read (sub_of q8) w) fun _ => rfl
  · cases q
theorem snd_lc2 {own vs1 : List Nat} {t t1 : Tg} {it ifs it1 ifs1 elt : E} (f : Fit X ck C k) (hi : All C k it) (hf : All C k ifs) (hi1 : All C k it1) (hf1 : All C k ifs1) (he : All C k elt) : Snd X ck C (.lc2 own vs1 t it ifs t1 it1 ifs1 elt) := by
  refine Snd.val rfl rfl fun x q => ?_
  split at q
  · rename_i x tg iter is tg1 iter1 is1 scope p
    simp only [Bool.and_eq_true, decide_eq_true_eq] at q
    obtain ⟨⟨⟨⟨⟨⟨⟨⟨⟨⟨⟨⟨⟨⟨q1, q2⟩, q2'⟩, q3⟩, q4⟩, q5⟩, q6⟩, q7⟩, q8⟩, q9⟩, q10⟩, q11⟩, q12⟩, q13⟩, q14⟩ := q
    have pe := pe_lc2 (pos := p) (vs1 := vs1) (tt := rT X.K (sem C ifs).ts) (wi1 := rI X.K (sem C it1).it) (tt1 := rT X.K (sem C ifs1).ts) (te := rV X.K (sem C elt).v) f.calm f.nd ((hi X ck f).i tg iter q2 q1) (blk_own f q3) (by rw [own_snd]; exact sub_of q14) (fun s H Ca cl fp => pg_blk f q4 s H Ca cl fp) (fun s H Ca cl fp => (hf _ _ (f.blk s H scope cl Ca fp)).ts is q6 q5)
      (fun s H Ca cl fp => (hi1 _ _ (f.blk s H scope cl Ca fp)).i tg1 iter1 q2' q7) (fun s H Ca cl fp => pg_blk f q8 s H Ca cl fp) (fun s H Ca cl fp => (hf1 _ _ (f.blk s H scope cl Ca fp)).ts is1 q10 q9) (fun s H Ca cl fp => (he _ _ (f.blk s H scope cl Ca fp)).e x q11) (fun y => fset_ok q2 _ y) (fun env y => fset_ok q2' env y)
    rw [own_snd] at pe
    exact both (PE.imp pe fun τ H Q w => lc2_read (sub_of q12) (sub_of q13) w) fun _ => rfl
  · cases q
theorem one_star {y : Expr} {env : PySem.Env} (h : notStar y = true) : starEach [y] env = [(false, eval y env)] := star_cons h
/-- one argument, walked -/
theorem walk1 {K : PySem.W.Frag} {ma : Env → Hs → R D} {g : D → Hs → R (List D)} {τ : St} {H : Hp} {Q : It → Hp → Prop} (q : rI K (fun σ h => (ma σ h).bind g) τ H Q) :
    tCons (rV K ma) tNil τ H fun vs H1 => ∃ v F ρ h x ds h', vs = [v] ∧ Stt K F ρ h H1 ∧ Rep K F ρ x v ∧ g x h = .ok ds h' ∧ ∀ (F' : Hp) (ρ' : List Addr) (H' : Hp) (J : It), Exh F ρ H1 F' ρ' H' → Stt K F' ρ' h' H' → WalkD K F' ρ' J ds → Q J H' := by
  obtain ⟨F, ρ, σ, h, st, eo, fin⟩ := q
  dsimp only at fin
  refine ⟨F, ρ, σ, h, st, eo, ?_⟩
  cases ea : ma σ h with
  | ok x h1 =>
    rw [ea] at fin
    intro F1 ρ1 H1 v e1 st1 r1
    simp only [R.bind] at fin
    cases eg : g x h1 with
    | ok ds h' =>
      rw [eg] at fin
      exact ⟨v, F1, ρ1, h1, x, ds, h', rfl, st1, r1, eg, fun F' ρ' H' J a b c => fin F' ρ' H' J (e1.trans a) b c⟩
    | ex _ _ => rw [eg] at fin; exact fin.elim
    | no => rw [eg] at fin; exact fin.elim
  | ex _ _ => rw [ea] at fin; exact fin.elim
  | no => rw [ea] at fin; exact fin.elim
theorem walk2 {K : PySem.W.Frag} {ma mb : Env → Hs → R D} {g : D → D → Hs → R (List D)} {τ : St} {H : Hp} {Q : It → Hp → Prop} (q : rI K (fun σ h => (ma σ h).bind fun x h1 => (mb σ h1).bind fun y h2 => g x y h2) τ H Q) :
    tCons (rV K ma) (tCons (rV K mb) tNil) τ H fun vs H1 => ∃ v u F ρ h x y ds h', vs = [v, u] ∧ Stt K F ρ h H1 ∧ Rep K F ρ x v ∧ Rep K F ρ y u ∧ g x y h = .ok ds h' ∧ ∀ (F' : Hp) (ρ' : List Addr) (H' : Hp) (J : It), Exh F ρ H1 F' ρ' H' → Stt K F' ρ' h' H' → WalkD K F' ρ' J ds → Q J H' := by
  obtain ⟨F, ρ, σ, h, st, eo, fin⟩ := q
  dsimp only at fin
  refine ⟨F, ρ, σ, h, st, eo, ?_⟩
  cases ea : ma σ h with
  | ok x h1 =>
    rw [ea] at fin
    intro F1 ρ1 H1 v e1 st1 r1
    simp only [R.bind] at fin
    refine ⟨F1, ρ1, σ, h1, st1, eo.mono e1.toExt, ?_⟩
    cases eb : mb σ h1 with
    | ok y h2 =>
      rw [eb] at fin
      dsimp only at fin
      intro F2 ρ2 H2 u e2 st2 r2
      cases eg : g x y h2 with
      | ok ds h' =>
        rw [eg] at fin
        exact ⟨v, u, F2, ρ2, h2, x, y, ds, h', rfl, st2, Rep.mono e2.toExt _ _ r1, r2, eg, fun F' ρ' H' J a b c => fin F' ρ' H' J ((e1.trans e2).trans a) b c⟩
      | ex _ _ => rw [eg] at fin; exact fin.elim
      | no => rw [eg] at fin; exact fin.elim
    | ex _ _ => rw [eb] at fin; exact fin.elim
    | no => rw [eb] at fin; exact fin.elim
  | ex _ _ => rw [ea] at fin; exact fin.elim
  | no => rw [ea] at fin; exact fin.elim
theorem cons1_imp {K : PySem.W.Frag} {ma : Env → Hs → R D} {τ : St} {H : Hp} {P P' : List V → Hp → Prop} (i : ∀ vs H, P vs H → P' vs H) (q : tCons (rV K ma) tNil τ H P) : tCons (rV K ma) tNil τ H P' := by
  obtain ⟨F, ρ, σ, h, st, eo, fin⟩ := q
  refine ⟨F, ρ, σ, h, st, eo, ?_⟩
  cases ea : ma σ h with
  | ok x h1 =>
    rw [ea] at fin
    exact fun F1 ρ1 H1 v e1 st1 r1 => i _ _ (fin F1 ρ1 H1 v e1 st1 r1)
  | ex _ _ => rw [ea] at fin; exact fin
  | no => rw [ea] at fin; exact fin
theorem cons2_imp {K : PySem.W.Frag} {ma mb : Env → Hs → R D} {τ : St} {H : Hp} {P P' : List V → Hp → Prop} (i : ∀ vs H, P vs H → P' vs H) (q : tCons (rV K ma) (tCons (rV K mb) tNil) τ H P) : tCons (rV K ma) (tCons (rV K mb) tNil) τ H P' := by
  obtain ⟨F, ρ, σ, h, st, eo, fin⟩ := q
  refine ⟨F, ρ, σ, h, st, eo, ?_⟩
  cases ea : ma σ h with
  | ok x h1 =>
    rw [ea] at fin
    exact fun F1 ρ1 H1 v e1 st1 r1 => cons1_imp (fun vs H => i _ _) (fin F1 ρ1 H1 v e1 st1 r1)
  | ex _ _ => rw [ea] at fin; exact fin
  | no => rw [ea] at fin; exact fin
theorem snd_rng {a : E} (f : Fit X ck C k) (sa : Snd X ck C a) : Snd X ck C (.rng a) := by
  refine Snd.itr rfl rfl fun tg x _ q => ?_
  split at q
  · rename_i z np y p
    simp only [Bool.and_eq_true, decide_eq_true_eq] at q
    obtain ⟨⟨⟨rfl, q1⟩, q2⟩, q3⟩ := q
    refine PI.imp (pi_range1 (f.gl q1) (blt_of f (x := Str.ofString "range") (by decide +kernel)) (pa_cons (sa.e _ q3) pa_nil (one_star q2)) (one_star q2)) fun τ H Q w => ?_
    refine cons1_imp (fun vs H1 w => ?_) (walk1 w)
    obtain ⟨v, F, ρ, h, x, ds, h', rfl, st, r, eg, fin⟩ := w
    unfold rngW at eg
    split at eg
    · rename_i n
      split at eg
      · rename_i hn
        have hn := of_decide_eq_true hn
        cases eg
        cases r
        exact ⟨n, rfl, by omega, by omega, fin F ρ H1 _ (Exh.refl F ρ H1) st (wd_rng n.toNat)⟩
      · cases eg
    · cases eg
  · cases q
theorem snd_zip {a b : E} (f : Fit X ck C k) (sa : Snd X ck C a) (sb : Snd X ck C b) : Snd X ck C (.zip a b) := by
  refine Snd.itr rfl rfl fun tg x _ q => ?_
  split at q
  · rename_i es kk tp z np y w p
    simp only [Bool.and_eq_true, decide_eq_true_eq] at q
    obtain ⟨⟨⟨⟨⟨rfl, q1⟩, q2⟩, q2'⟩, q3⟩, q4⟩ := q
    refine PI.imp (RZ.pi_zipA (f.gl q1) (blt_of f (x := Str.ofString "zip") (by decide +kernel)) (pa_cons (sa.e _ q3) (pa_cons (sb.e _ q4) pa_nil (one_star q2')) (star_cons q2)) (star_cons q2) (by rw [one_star q2']; rfl)) fun τ H Q w => ?_
    refine cons2_imp (fun vs H1 w => ?_) (walk2 w)
    obtain ⟨v, u, F, ρ, h, x, y, ds, h', rfl, st, r, r', eg, fin⟩ := w
    unfold zipW at eg
    split at eg
    · rename_i t xs t' ys e1 e2
      split at eg
      · rename_i ht
        subst ht
        cases eg
        obtain ⟨a, vs, rfl, k1, k2⟩ := vwF_ok r e1
        obtain ⟨b, ws, rfl, k3, k4⟩ := vwF_ok r' e2
        refine ⟨a, b, vs, ws, rfl, ?_⟩
        cases t with
        | true =>
          have k2 : SqT X.K F a vs := by simpa using k2
          have k4 : SqT X.K F b ws := by simpa using k4
          exact .inr ⟨sqT_mono st.same k2, sqT_mono st.same k4, fin F ρ H1 _ (Exh.refl F ρ H1) st (wd_zipT k2 k4 k1 k3)⟩
        | false =>
          have k2 : SqL X.K F a vs := by simpa using k2
          have k4 : SqL X.K F b ws := by simpa using k4
          exact .inl ⟨sqL_mono st.same k2, sqL_mono st.same k4, fin F ρ H1 _ (Exh.refl F ρ H1) st (wd_zip k2 k4 k1 k3)⟩
      · cases eg
    · cases eg
  · cases q
end
end En
/-! En: statements -/
namespace En
open PySem L2
variable [Wd]

def FinS (K : PySem.W.Frag) (F : Hp) (ρ : List Addr) (H : Hp) (r : R (Fl × Env)) (Z : Ends) : Prop := match r with
  | .ok p h' => ∀ (F' : Hp) (ρ' : List Addr) (H' : Hp), Exh F ρ H F' ρ' H' → Stt K F' ρ' h' H' → (match p.1 with
    | .nx => ∀ τ', EnvOk K F' ρ' p.2 τ' → Z.nx τ' H'
    | .bk => ∀ τ', EnvOk K F' ρ' p.2 τ' → Z.bk τ' H'
    | .ct => ∀ τ', EnvOk K F' ρ' p.2 τ' → Z.ct τ' H'
    | .rt x => ∀ v, Rep K F' ρ' x v → Z.rt v H')
  | _ => False
def rS (K : PySem.W.Frag) (m : Env → Hs → R (Fl × Env)) : TS := fun Z τ H => ∃ F ρ σ h, Stt K F ρ h H ∧ EnvOk K F ρ σ τ ∧ FinS K F ρ H (m σ h) Z
section
variable {K : PySem.W.Frag} {F F' H H' : Hp} {ρ ρ' : List Addr} {h : Hs} {Z : Ends}
theorem FinS.mono {r : R (Fl × Env)} (e : Exh F ρ H F' ρ' H') (q : FinS K F ρ H r Z) : FinS K F' ρ' H' r Z := by
  cases r with
  | ok x h' => exact fun F2 ρ2 H2 e2 st => q F2 ρ2 H2 (e.trans e2) st
  | ex _ _ => exact q
  | no => exact q
theorem finS_nx {σ : Env} {τ : St} (st : Stt K F ρ h H) (eo : EnvOk K F ρ σ τ) (q : FinS K F ρ H (.ok (.nx, σ) h) Z) : Z.nx τ H := q F ρ H (Exh.refl F ρ H) st τ eo
theorem sSeq {ms mr : Env → Hs → R (Fl × Env)} {τ : St} (q : rS K (fun σ h => (ms σ h).bind fun p h1 => match p.1 with
    | .nx => mr p.2 h1
    | f => .ok (f, p.2) h1) Z τ H) : tSeq (rS K ms) (rS K mr) Z τ H := by
  obtain ⟨F, ρ, σ, h, st, eo, fin⟩ := q
  dsimp only at fin
  refine ⟨F, ρ, σ, h, st, eo, ?_⟩
  cases ea : ms σ h with
  | ok p h1 =>
    rw [ea] at fin
    replace fin : FinS K F ρ H (match p.1 with
      | .nx => mr p.2 h1
      | f => .ok (f, p.2) h1) Z := fin
    intro F1 ρ1 H1 e1 st1
    split
    · rename_i hp
      rw [hp] at fin
      exact fun τ' eo1 => ⟨F1, ρ1, _, h1, st1, eo1, FinS.mono e1 fin⟩
    · rename_i hp
      rw [hp] at fin
      exact fun τ' eo1 => fin F1 ρ1 H1 e1 st1 τ' eo1
    · rename_i hp
      rw [hp] at fin
      exact fun τ' eo1 => fin F1 ρ1 H1 e1 st1 τ' eo1
    · rename_i x hp
      rw [hp] at fin
      exact fun v r => fin F1 ρ1 H1 e1 st1 v r
  | ex _ _ => rw [ea] at fin; exact fin
  | no => rw [ea] at fin; exact fin
theorem sAsg {ma : Env → Hs → R D} {i : Nat} {τ : St} (q : rS K (fun σ h => (ma σ h).bind fun x h1 => .ok (.nx, σ.set i (some x)) h1) Z τ H) : tAsg (rV K ma) (gName i) Z τ H := by
  obtain ⟨F, ρ, σ, h, st, eo, fin⟩ := q
  dsimp only at fin
  refine ⟨F, ρ, σ, h, st, eo, ?_⟩
  cases ea : ma σ h with
  | ok x h1 =>
    rw [ea] at fin
    intro F1 ρ1 H1 v e1 st1 r1
    exact fin F1 ρ1 H1 e1 st1 _ ((eo.mono e1.toExt).put i r1)
  | ex _ _ => rw [ea] at fin; exact fin
  | no => rw [ea] at fin; exact fin
theorem sUnp {ma : Env → Hs → R D} {t : Tg} {τ : St} (q : rS K (fun σ h => (ma σ h).bind fun x h1 => match bindTg t x σ with
    | some σ1 => .ok (.nx, σ1) h1
    | none => .no) Z τ H) : tAsg (rV K ma) (gT K t) Z τ H := by
  obtain ⟨F, ρ, σ, h, st, eo, fin⟩ := q
  dsimp only at fin
  refine ⟨F, ρ, σ, h, st, eo, ?_⟩
  cases ea : ma σ h with
  | ok x h1 =>
    rw [ea] at fin
    replace fin : FinS K F ρ H (match bindTg t x σ with
      | some σ1 => .ok (.nx, σ1) h1
      | none => .no) Z := fin
    intro F1 ρ1 H1 v e1 st1 r1
    split at fin
    · rename_i σ1 hb
      exact ⟨F1, ρ1, σ, h1, x, σ1, st1, eo.mono e1.toExt, r1, hb, fun τ' eo1 _ => fin F1 ρ1 H1 e1 st1 τ' eo1⟩
    · exact fin.elim
  | ex _ _ => rw [ea] at fin; exact fin
  | no => rw [ea] at fin; exact fin
theorem sPar2 {ma mb : Env → Hs → R D} {i j : Nat} {τ : St} (q : rS K (fun σ h => (ma σ h).bind fun x h1 => (mb σ h1).bind fun y h2 => .ok (.nx, (σ.set i (some x)).set j (some y)) h2) Z τ H) :
    tCons (rV K ma) (tCons (rV K mb) tNil) τ H fun vs H1 => ∃ v w F1 ρ1 h1, vs = [v, w] ∧ Stt K F1 ρ1 h1 H1 ∧ ∀ H2, Exh F1 ρ1 H1 F1 ρ1 H2 → Stt K F1 ρ1 h1 H2 → Z.nx ((τ.set i (some v)).set j (some w)) H2 := by
  obtain ⟨F, ρ, σ, h, st, eo, fin⟩ := q
  dsimp only at fin
  refine ⟨F, ρ, σ, h, st, eo, ?_⟩
  cases ea : ma σ h with
  | ok x h1 =>
    rw [ea] at fin
    replace fin : FinS K F ρ H ((mb σ h1).bind fun y h2 => .ok (.nx, (σ.set i (some x)).set j (some y)) h2) Z := fin
    intro F1 ρ1 H1 v e1 st1 r1
    refine ⟨F1, ρ1, σ, h1, st1, eo.mono e1.toExt, ?_⟩
    cases eb : mb σ h1 with
    | ok y h2 =>
      rw [eb] at fin
      intro F2 ρ2 H2 w e2 st2 r2
      exact ⟨v, w, F2, ρ2, h2, rfl, st2, fun H3 e3 st3 => fin F2 ρ2 H3 ((e1.trans e2).trans e3) st3 _ ((((eo.mono e1.toExt).mono e2.toExt).put i (Rep.mono e2.toExt _ _ r1)).put j r2)⟩
    | ex _ _ => rw [eb] at fin; exact fin
    | no => rw [eb] at fin; exact fin
  | ex _ _ => rw [ea] at fin; exact fin
  | no => rw [ea] at fin; exact fin
theorem sSto {ma mb mc : Env → Hs → R D} {τ : St} (q : rS K (fun σ h => (ma σ h).bind fun x h1 => (mb σ h1).bind fun y h2 => (mc σ h2).bind fun z h3 => match stoD y z x h3 with
    | some h4 => .ok (.nx, σ) h4
    | none => .no) Z τ H) : tAsg (rV K ma) (gSub (rV K mb) (rV K mc) rSetL) Z τ H := by
  obtain ⟨F, ρ, σ, h, st, eo, fin⟩ := q
  dsimp only at fin
  refine ⟨F, ρ, σ, h, st, eo, ?_⟩
  cases ea : ma σ h with
  | ok x h1 =>
    rw [ea] at fin
    replace fin : FinS K F ρ H ((mb σ h1).bind fun y h2 => (mc σ h2).bind fun z h3 => match stoD y z x h3 with
      | some h4 => .ok (.nx, σ) h4
      | none => .no) Z := fin
    intro F1 ρ1 H1 v e1 st1 r1
    refine ⟨F1, ρ1, σ, h1, st1, eo.mono e1.toExt, ?_⟩
    cases eb : mb σ h1 with
    | ok y h2 =>
      rw [eb] at fin
      replace fin : FinS K F ρ H ((mc σ h2).bind fun z h3 => match stoD y z x h3 with
        | some h4 => .ok (.nx, σ) h4
        | none => .no) Z := fin
      intro F2 ρ2 H2 w e2 st2 r2
      refine ⟨F2, ρ2, σ, h2, st2, (eo.mono e1.toExt).mono e2.toExt, ?_⟩
      cases ec : mc σ h2 with
      | ok z h3 =>
        rw [ec] at fin
        replace fin : FinS K F ρ H (match stoD y z x h3 with
          | some h4 => .ok (.nx, σ) h4
          | none => .no) Z := fin
        intro F3 ρ3 H3 u e3 st3 r3
        have e13 := (e1.trans e2).trans e3
        split at fin
        · rename_i h4 hs
          unfold stoD at hs
          split at hs
          · rename_i n j yy
            split at hs
            · rename_i xs hn
              split at hs
              · rename_i kk hk
                cases hs
                cases r3
                obtain ⟨a, q1, rfl⟩ := Rep.mono e3.toExt _ _ r2
                have r1' : Dq K F3 v yy := Rep.mono (e2.trans e3).toExt _ _ r1
                obtain ⟨⟨_, vs, q2, q3⟩, _⟩ := st3.cell n a _ q1 hn
                refine ⟨a, vs, j, kk, rfl, rfl, q2, by rw [q3.len]; exact hk, ?_⟩
                exact fin F3 ρ3 _ (e13.trans (exh_put q1)) (st3.cellPut q1 hn (q3.put kk r1')) τ ((eo.mono e13.toExt))
              · cases hs
            · cases hs
          · cases hs
        · exact fin.elim
      | ex _ _ => rw [ec] at fin; exact fin
      | no => rw [ec] at fin; exact fin
    | ex _ _ => rw [eb] at fin; exact fin
    | no => rw [eb] at fin; exact fin
  | ex _ _ => rw [ea] at fin; exact fin
  | no => rw [ea] at fin; exact fin
theorem sExp {ma : Env → Hs → R D} {τ : St} (q : rS K (fun σ h => (ma σ h).bind fun _ h1 => .ok (.nx, σ) h1) Z τ H) : tDrop (rV K ma) Z τ H := by
  obtain ⟨F, ρ, σ, h, st, eo, fin⟩ := q
  dsimp only at fin
  refine ⟨F, ρ, σ, h, st, eo, ?_⟩
  cases ea : ma σ h with
  | ok x h1 =>
    rw [ea] at fin
    intro F1 ρ1 H1 v e1 st1 r1
    exact fin F1 ρ1 H1 e1 st1 _ (eo.mono e1.toExt)
  | ex _ _ => rw [ea] at fin; exact fin
  | no => rw [ea] at fin; exact fin
theorem sRet {ma : Env → Hs → R D} {τ : St} (q : rS K (fun σ h => (ma σ h).bind fun x h1 => .ok (.rt x, σ) h1) Z τ H) : tRet (rV K ma) Z τ H := by
  obtain ⟨F, ρ, σ, h, st, eo, fin⟩ := q
  dsimp only at fin
  refine ⟨F, ρ, σ, h, st, eo, ?_⟩
  cases ea : ma σ h with
  | ok x h1 =>
    rw [ea] at fin
    intro F1 ρ1 H1 v e1 st1 r1
    exact fin F1 ρ1 H1 e1 st1 v r1
  | ex _ _ => rw [ea] at fin; exact fin
  | no => rw [ea] at fin; exact fin
theorem sIte {mc : Env → Hs → R Bool} {ma mb : Env → Hs → R (Fl × Env)} {τ : St} (q : rS K (fun σ h => (mc σ h).bind fun t h1 => if t then ma σ h1 else mb σ h1) Z τ H) : tIfS (rT K mc) (rS K ma) (rS K mb) Z τ H := by
  obtain ⟨F, ρ, σ, h, st, eo, fin⟩ := q
  dsimp only at fin
  refine ⟨F, ρ, σ, h, st, eo, ?_⟩
  cases ea : mc σ h with
  | ok b h1 =>
    rw [ea] at fin
    replace fin : FinS K F ρ H (if b then ma σ h1 else mb σ h1) Z := fin
    intro F1 ρ1 H1 e1 st1
    cases b with
    | true => exact ⟨F1, ρ1, σ, h1, st1, eo.mono e1.toExt, FinS.mono e1 fin⟩
    | false => exact ⟨F1, ρ1, σ, h1, st1, eo.mono e1.toExt, FinS.mono e1 fin⟩
  | ex _ _ => rw [ea] at fin; exact fin
  | no => rw [ea] at fin; exact fin
theorem sFor {mi : Env → Hs → R (List D)} {t : Tg} {mb : Env → Hs → R (Fl × Env)} {τ : St} (q : rS K (fun σ h => (mi σ h).bind fun ds h1 => loopF (fun x σ1 h2 => match bindTg t x σ1 with
    | some σ2 => mb σ2 h2
    | none => .no) ds σ h1) Z τ H) : tFor (rI K mi) (gT K t) (rS K mb) Z τ H := by
  obtain ⟨F, ρ, σ, h, st, eo, fin⟩ := q
  dsimp only at fin
  refine ⟨F, ρ, σ, h, st, eo, ?_⟩
  cases ea : mi σ h with
  | ok ds h1 =>
    rw [ea] at fin
    intro F1 ρ1 H1 J e1 st1 wd
    let f : D → Env → Hs → R (Fl × Env) := fun x σ1 h2 => match bindTg t x σ1 with
      | some σ2 => mb σ2 h2
      | none => .no
    replace fin : FinS K F ρ H (loopF f ds σ h1) Z := fin
    refine ⟨fun i m τ H => m = ds.length - i ∧ i ≤ ds.length ∧ ∃ F2 ρ2 σ2 h2, Ext F1 ρ1 F2 ρ2 ∧ Stt K F2 ρ2 h2 H ∧ EnvOk K F2 ρ2 σ2 τ ∧ FinS K F2 ρ2 H (loopF f (ds.drop i) σ2 h2) Z,
      ⟨ds.length, rfl, Nat.zero_le _, F1, ρ1, σ, h1, Ext.refl F1 ρ1, st1, eo.mono e1.toExt, FinS.mono e1 fin⟩, ?_⟩
    rintro i m τ2 H2 ⟨rfl, hi, F2, ρ2, σ2, h2, x2, st2, eo2, fin2⟩
    by_cases hlt : i < ds.length
    · refine .inr ⟨wd.goes i H2 hlt (x2.f.trans st2.same), fun τ' H' => ds.length - (i + 1) = ds.length - (i + 1) ∧ i + 1 ≤ ds.length ∧ ∃ F2 ρ2 σ2 h2, Ext F1 ρ1 F2 ρ2 ∧ Stt K F2 ρ2 h2 H' ∧ EnvOk K F2 ρ2 σ2 τ' ∧ FinS K F2 ρ2 H' (loopF f (ds.drop (i + 1)) σ2 h2) Z,
        fun τ' H' w => ⟨ds.length - (i + 1), by omega, w⟩, fun x H' y => ?_⟩
      obtain ⟨F3, e3, st3, r3⟩ := wd.next x2 st2 (List.getElem?_eq_getElem hlt) y
      rw [List.drop_eq_getElem_cons hlt] at fin2
      unfold loopF at fin2
      replace fin2 := FinS.mono e3 fin2
      cases hb : bindTg t ds[i] σ2 with
      | none =>
        have ef : f ds[i] σ2 h2 = .no := by show (match bindTg t ds[i] σ2 with | some σ2 => mb σ2 h2 | none => .no) = _; rw [hb]
        rw [ef] at fin2
        exact fin2.elim
      | some σ3 =>
        have ef : f ds[i] σ2 h2 = mb σ3 h2 := by show (match bindTg t ds[i] σ2 with | some σ2 => mb σ2 h2 | none => .no) = _; rw [hb]
        rw [ef] at fin2
        refine ⟨F3, ρ2, σ2, h2, ds[i], σ3, st3, eo2.mono e3.toExt, r3, hb, fun τ3 eo3 _ => ⟨F3, ρ2, σ3, h2, st3, eo3, ?_⟩⟩
        cases er : mb σ3 h2 with
        | ok p h4 =>
          rw [er] at fin2
          obtain ⟨fl, σ4⟩ := p
          intro F4 ρ4 H4 e4 st4
          have x4 := (x2.trans e3.toExt).trans e4.toExt
          cases fl with
          | nx => exact fun τ4 eo4 => ⟨rfl, hlt, F4, ρ4, σ4, h4, x4, st4, eo4, FinS.mono e4 fin2⟩
          | ct => exact fun τ4 eo4 => ⟨rfl, hlt, F4, ρ4, σ4, h4, x4, st4, eo4, FinS.mono e4 fin2⟩
          | bk => exact fun τ4 eo4 => fin2 F4 ρ4 H4 e4 st4 τ4 eo4
          | rt d => exact fun v r => fin2 F4 ρ4 H4 e4 st4 v r
        | ex _ _ => rw [er] at fin2; exact fin2
        | no => rw [er] at fin2; exact fin2
    · have e : i = ds.length := by omega
      subst e
      rw [List.drop_length] at fin2
      unfold loopF at fin2
      exact .inl ⟨wd.stops H2 (x2.f.trans st2.same), finS_nx st2 eo2 fin2⟩
  | ex _ _ => rw [ea] at fin; exact fin
  | no => rw [ea] at fin; exact fin
theorem sWhl {mc : Env → Hs → R Bool} {mb : Env → Hs → R (Fl × Env)} {n : Nat} {τ : St} (q : rS K (whlF mc mb n) Z τ H) : tWhile (rT K mc) (rS K mb) Z τ H := by
  refine ⟨fun m τ H => rS K (whlF mc mb m) Z τ H, ⟨n, q⟩, ?_⟩
  intro m τ2 H2 w
  obtain ⟨F, ρ, σ, h, st, eo, fin⟩ := w
  cases m with
  | zero => exact fin.elim
  | succ m =>
    unfold whlF at fin
    refine ⟨F, ρ, σ, h, st, eo, ?_⟩
    cases ec : mc σ h with
    | ok b h1 =>
      rw [ec] at fin
      intro F1 ρ1 H1 e1 st1
      cases b with
      | true =>
        simp only [if_true]
        replace fin : FinS K F ρ H2 ((mb σ h1).bind fun p h2 => (match p.1 with
          | .nx => whlF mc mb m p.2 h2
          | .ct => whlF mc mb m p.2 h2
          | .bk => .ok (.nx, p.2) h2
          | .rt y => .ok (.rt y, p.2) h2)) Z := by simp only [R.bind, if_true] at fin; exact fin
        refine ⟨fun τ H => rS K (whlF mc mb m) Z τ H, fun τ' H' w => ⟨m, Nat.lt_succ_self m, w⟩, F1, ρ1, σ, h1, st1, eo.mono e1.toExt, ?_⟩
        cases er : mb σ h1 with
        | ok p h4 =>
          rw [er] at fin
          obtain ⟨fl, σ4⟩ := p
          intro F4 ρ4 H4 e4 st4
          have e14 := e1.trans e4
          cases fl with
          | nx => exact fun τ4 eo4 => ⟨F4, ρ4, σ4, h4, st4, eo4, FinS.mono e14 fin⟩
          | ct => exact fun τ4 eo4 => ⟨F4, ρ4, σ4, h4, st4, eo4, FinS.mono e14 fin⟩
          | bk => exact fun τ4 eo4 => fin F4 ρ4 H4 e14 st4 τ4 eo4
          | rt d => exact fun v r => fin F4 ρ4 H4 e14 st4 v r
        | ex _ _ => rw [er] at fin; exact fin
        | no => rw [er] at fin; exact fin
      | false =>
        simp only [Bool.false_eq_true, if_false]
        replace fin : FinS K F ρ H2 (.ok (.nx, σ) h1) Z := by simp only [R.bind, Bool.false_eq_true, if_false] at fin; exact fin
        exact fin F1 ρ1 H1 e1 st1 τ2 (eo.mono e1.toExt)
    | ex _ _ => rw [ec] at fin; exact fin
    | no => rw [ec] at fin; exact fin
end
end En
/-! En: the look at statements -/
namespace En
open PySem L2
variable [Wd]
theorem pw_if {α : Type} {c : Prop} [Decidable c] {a b : Sem α} {x : Sem α} (h1 : c → a = x) (h2 : ¬ c → b = x) : (if c then a else b) = x := by
  split
  · exact h1 ‹_›
  · exact h2 ‹_›
def locN (sc : Scope) : Expr → Bool
  | .Name x _ => sc.names.lookup x == some .local
  | _ => false
theorem fm_lt {f : Expr → Option Str} {g : Expr → Bool} (hg : ∀ e, g e = false → f e = none) : ∀ ts : List Expr, ts.all g = false → (ts.filterMap f).length < ts.length
  | [], h => by cases h
  | t :: ts, h => by
    have hl := List.length_filterMap_le f ts
    rw [List.filterMap_cons]
    cases hf : g t with
    | false =>
      rw [hg t hf]
      simp only [List.length_cons]
      omega
    | true =>
      simp only [List.all_cons, hf, Bool.true_and] at h
      have := fm_lt hg ts h
      split <;> simp only [List.length_cons] <;> omega
theorem sw_cell {env : PySem.Env} {ts vs : List Expr} {k k2 : Nat} {p p2 : Pos} (h : ts.all (locN env.scope) = false) : swappedStores [.Tuple ts k p] (.Tuple vs k2 p2) env = pure none := by
  unfold swappedStores
  dsimp only
  refine pw_if (fun _ => rfl) fun _ => pw_if (fun _ => rfl) fun _ => pw_if (fun _ => rfl) fun hc => ?_
  exfalso
  apply hc
  rw [Bool.or_eq_true]
  left
  rw [bne_iff_ne]
  have := fm_lt (f := fun x => match x with
    | .Name id pos => if (env.kindOf id == some .local && pos.line == (ts.head?.map (·.pos.line)).getD 0) = true then some id else none
    | _ => none) (g := locN env.scope) (fun e he => ?_) ts h
  · exact Nat.ne_of_lt this
  · unfold locN at he
    split at he
    · have : (env.kindOf ‹Str› == some .local) = false := he
      simp only [this, Bool.false_and, Bool.false_eq_true, if_false]
    · rename_i hn
      cases e <;> first | rfl | exact absurd rfl (hn _ _)
theorem sw_fold {env : PySem.Env} {ts vs : List Expr} {k k2 : Nat} {p p2 : Pos} (h : vs.all (foldedForSure 8) = true) : swappedStores [.Tuple ts k p] (.Tuple vs k2 p2) env = pure none := by
  unfold swappedStores
  dsimp only
  exact pw_if (fun _ => rfl) fun _ => pw_if (fun _ => rfl) fun _ => pw_if (fun _ => rfl) fun hc => pw_if (fun _ => rfl) fun hc => absurd h hc
def notTup : Expr → Bool
  | .Tuple _ _ _ => false
  | _ => true
theorem sw_tup {env : PySem.Env} {t : Expr} {v : Expr} (h : notTup v = true) : swappedStores [t] v env = pure none := by
  cases v <;> first | (cases t <;> rfl) | cases h
theorem sw_two {env : PySem.Env} {x y : Str} {px py p p2 : Pos} {a b : Expr} {k k2 : Nat} (hk : env.scope.kind = .function) (hx : env.scope.names.lookup x = some .local) (hy : env.scope.names.lookup y = some .local) (hl : (py.line == px.line) = true) (hxy : (x == y) = false)
    (ha : notStar a = true) (hb : notStar b = true) (hf : [a, b].all (foldedForSure 8) = false) (hc : [a, b].all (constantsAlone 8) = false) : swappedStores [.Tuple [.Name x px, .Name y py] k p] (.Tuple [a, b] k2 p2) env = pure (some [x, y]) := by
  have kb : env.blockKind = .function := by unfold PySem.Env.blockKind; rw [hk]; rfl
  have kx : env.kindOf x = some .local := hx
  have ky : env.kindOf y = some .local := hy
  have hyx : (y == x) = false := by rw [beq_eq_false_iff_ne] at hxy ⊢; exact fun e => hxy e.symm
  have hs : ([a, b].any fun | .Starred .. => true | _ => false) = false := by
    have e1 : ∀ a : Expr, notStar a = true → (match a with | .Starred .. => true | _ => false) = false := fun a h => by
      cases a <;> first | rfl | cases h
    simp only [List.any_cons, List.any_nil, Bool.or_false]
    rw [Bool.or_eq_false_iff]
    exact ⟨e1 a ha, e1 b hb⟩
  unfold swappedStores
  dsimp only
  simp only [List.filterMap_cons, List.filterMap_nil, kx, ky, List.head?_cons, Option.map_some, Option.getD_some, Expr.pos, hl, beq_self_eq_true, Bool.and_self, if_true, Bool.and_true]
  have e : ([x, y] : List Str).eraseDups = [x, y] := by
    simp [List.eraseDups_cons, hyx]
  rw [e]
  refine (if_neg fun hq => ?_).trans ((if_neg fun hq => ?_).trans ((if_neg fun hq => ?_).trans ((if_neg fun hq => ?_).trans (if_neg fun hq => ?_))))
  · rw [kb] at hq
    exact Bool.false_ne_true hq
  · exact Bool.false_ne_true (hs.symm.trans hq)
  · exact Bool.false_ne_true hq
  · exact Bool.false_ne_true (hf.symm.trans hq)
  · exact Bool.false_ne_true (hc.symm.trans hq)
/-- does the store come before the comprehension's names go -/
def swB (sc : Scope) (y : Str) (py : Pos) (v : Expr) : Bool := match v with
  | .ListComp _ _ s p => (sc.names.lookup y == some .local) && (py.line == p.line) && !(s.names.any fun (n, k) => n == y && (k == .local || k == .cell))
  | .SetComp _ _ s p => (sc.names.lookup y == some .local) && (py.line == p.line) && !(s.names.any fun (n, k) => n == y && (k == .local || k == .cell))
  | .DictComp _ _ _ s p => (sc.names.lookup y == some .local) && (py.line == p.line) && !(s.names.any fun (n, k) => n == y && (k == .local || k == .cell))
  | _ => false
theorem sw_name {env : PySem.Env} {y : Str} {py : Pos} {v : Expr} {l : Nat} (hk : env.scope.kind = .function) : swapsWith v (some (.Name y py)) l env = pure (swB env.scope y py v) := by
  have kb : env.blockKind = .function := by unfold PySem.Env.blockKind; rw [hk]; rfl
  cases v <;> first | rfl | skip
  all_goals
    unfold swapsWith
    dsimp only
    rw [kb]
    rfl
theorem sw_tgt {env : PySem.Env} {t v : Expr} {l : Nat} (h : (match t with | .Name _ _ => false | _ => true) = true) : swapsWith v (some t) l env = pure false := by
  cases v <;> first | rfl | skip
  all_goals
    cases t <;> first | rfl | cases h
theorem sole_tup {env : PySem.Env} {ts : List Expr} {k : Nat} {p : Pos} {v : Expr} {l : Nat} : swapsWithSole [.Tuple ts k p] v l env = pure false := sw_tgt (env := env) (l := l) (t := .Tuple ts k p) rfl
theorem sole_sub {env : PySem.Env} {o i : Expr} {p : Pos} {v : Expr} {l : Nat} : swapsWithSole [.Subscript o i p] v l env = pure false := sw_tgt (env := env) (l := l) (t := .Subscript o i p) rfl
theorem swst_sub {env : PySem.Env} {o i : Expr} {p : Pos} {v : Expr} : swappedStores [.Subscript o i p] v env = pure none := by
  cases v <;> rfl
theorem sw_drop {env : PySem.Env} {v : Expr} {l : Nat} (h : notComp v = true) : swapsWith v none l env = pure false := by
  cases v <;> first | rfl | cases h

structure Cs where
  l : Ck → List Stmt → Bool
  s : Ck → Stmt → Bool
def csS (s : Ck → Stmt → Bool) : Cs := ⟨fun _ _ => false, s⟩
def isLc : Expr → Bool
  | .ListComp _ _ _ _ => true
  | _ => false
def notNm : Expr → Bool
  | .Name _ _ => false
  | _ => true
/-- the stores go from the left -/
def fromLeft (sc : Scope) (ts : List Expr) (v : Expr) : Bool := match v with
  | .Tuple vs _ _ => !(ts.all (locN sc)) || vs.all (foldedForSure 8)
  | _ => true
def chkS : S → Cs
  | .nil => ⟨fun _ ss => ss.isEmpty, fun _ _ => false⟩
  | .seq s r => ⟨fun ck ss => match ss with
      | x :: xs => (chkS s).s ck x && (chkS r).l ck xs
      | [] => false, fun _ _ => false⟩
  | .asg i e => csS fun ck st => match st with
    | .Assign [.Name x py] v _ => (chk e).e ck v && decide (ck.N[i]? = some x) && locB ck.sc ck.fn x && (!(swB ck.sc x py v) || isLc v)
    | _ => false
  | .unp is e => csS fun ck st => match st with
    | .Assign [.Tuple ts _ _] v _ => (chk e).e ck v && ckNames ck.N ck.sc ck.fn is ts && fromLeft ck.sc ts v
    | _ => false
  | .par i j a b => csS fun ck st => match st with
    | .Assign [.Tuple [.Name x px, .Name y py] _ _] (.Tuple [u, v] _ _) _ => (chk a).e ck u && (chk b).e ck v && notStar u && notStar v && decide (ck.N[i]? = some x) && decide (ck.N[j]? = some y) && decide (i ≠ j) &&
        (ck.sc.names.lookup x == some .local) && (ck.sc.names.lookup y == some .local) && (py.line == px.line) && !(x == y) && ([u, v].all (foldedForSure 8) || !([u, v].all (constantsAlone 8)))
    | _ => false
  | .sto o i e => csS fun ck st => match st with
    | .Assign [.Subscript u v _] w _ => (chk e).e ck w && (chk o).e ck u && (chk i).e ck v && notSlice v
    | _ => false
  | .exp e => csS fun ck st => match st with
    | .Expr v _ => (chk e).e ck v && notComp v
    | _ => false
  | .ret e => csS fun ck st => match st with
    | .Return (some v) _ => (chk e).e ck v
    | _ => false
  | .retN => csS fun _ st => match st with
    | .Return none _ => true
    | _ => false
  | .ite c a b => csS fun ck st => match st with
    | .If x y z _ => (chk c).e ck x && (chkS a).l ck y && (chkS b).l ck z
    | _ => false
  | .for_ t it b => csS fun ck st => match st with
    | .For tg x y [] _ => (chk it).i ck tg x && notSet x && ckTg ck.N ck.sc ck.fn t tg && (chkS b).l ck y
    | _ => false
  | .whl c b => csS fun ck st => match st with
    | .While x y [] _ => (chk c).e ck x && (chkS b).l ck y
    | _ => false
  | .rai => csS fun _ _ => true
  | .pass => csS fun _ st => match st with
    | .Pass _ => true
    | _ => false
  | .brk => csS fun _ st => match st with
    | .Break _ => true
    | _ => false
  | .cnt => csS fun _ st => match st with
    | .Continue _ => true
    | _ => false

section
variable {X : Cx} {ck : Ck} {C : Str → List D → Hs → R D} {k : Nat}
structure SndS (X : Cx) (ck : Ck) (C : Str → List D → Hs → R D) (g : S) : Prop where
  l : ∀ ss, (chkS g).l ck ss = true → PSs X ss (rS X.K (run C g))
  s : ∀ st, (chkS g).s ck st = true → PS X st (rS X.K (run C g))
theorem SndS.one {g : S} {c : Ck → Stmt → Bool} (hc : chkS g = csS c) (h : ∀ st, c ck st = true → PS X st (rS X.K (run C g))) : SndS X ck C g := by
  refine ⟨fun ss q => ?_, fun st q => ?_⟩ <;> rw [hc] at q
  · cases q
  · exact h st q
theorem sto_asg {env : PySem.Env} {o i : Expr} {pos : Pos} (h : notSlice i = true) (v : Value) : assign (.Subscript o i pos) env v = (do
      let ov ← holding [v] (eval o env)
      let iv ← holding [v, ov] (eval i env)
      standAt pos
      holding [v, ov, iv] (setItem ov iv v)
      release [v, ov, iv] []) := by
  cases i <;> first | rfl | cases h
/-- name = [..], the store within -/
theorem asg_comp (hE : ∀ e, All C k e) (f : Fit X ck C k) {e : E} {v : Expr} (q : (chk e).e ck v = true) (hl : isLc v = true) {i : Nat} {y : Str} {py sp : Pos} (hy : X.N[i]? = some y) (hyl : X.env.scope.names.lookup y = some .local)
    (hsw : swapsWith v (some (.Name y py)) sp.line X.env = pure true) : PS X (.Assign [.Name y py] v sp) (tAsg (rV X.K (sem C e).v) (gName i)) := by
  cases v with
  | ListComp x gs scope p =>
    cases e with
    | lc m own t it ifs elt =>
      unfold chk at q
      unfold chV at q
      dsimp only at q
      split at q
      · rename_i x tg iter is scope p he
        cases he
        simp only [Bool.and_eq_true, decide_eq_true_eq] at q
        obtain ⟨⟨⟨⟨⟨⟨⟨q1, q2⟩, q3⟩, q4⟩, q5⟩, q6⟩, q7⟩, q8⟩ := q
        have pe := ps_setLc (tt := rT X.K (sem C ifs).ts) (te := rV X.K (sem C elt).v) f.calm f.nd hy hyl hsw ((hE it X ck f).i tg iter q2 q1) (blk_own f q3) (fun s H Ca cl fp => pg_blk f q4 s H Ca cl fp) (fun s H Ca cl fp => (hE ifs _ _ (f.blk s H scope cl Ca fp)).ts is q6 q5) (fun s H Ca cl fp => (hE elt _ _ (f.blk s H scope cl Ca fp)).e x q7) (fun y => fset_ok q2 _ y)
        rw [own_snd] at pe
        exact PS.imp pe fun Z τ H w => lc_read (sub_of q8) w
      · cases q
    | lc2 own vs1 t it ifs t1 it1 ifs1 elt =>
      unfold chk at q
      unfold chV at q
      dsimp only at q
      split at q
      · rename_i x tg iter is tg1 iter1 is1 scope p he
        cases he
        simp only [Bool.and_eq_true, decide_eq_true_eq] at q
        obtain ⟨⟨⟨⟨⟨⟨⟨⟨⟨⟨⟨⟨⟨⟨q1, q2⟩, q2'⟩, q3⟩, q4⟩, q5⟩, q6⟩, q7⟩, q8⟩, q9⟩, q10⟩, q11⟩, q12⟩, q13⟩, q14⟩ := q
        have pe := ps_setLc2 (vs1 := vs1) (tt := rT X.K (sem C ifs).ts) (wi1 := rI X.K (sem C it1).it) (tt1 := rT X.K (sem C ifs1).ts) (te := rV X.K (sem C elt).v) f.calm f.nd hy hyl hsw ((hE it X ck f).i tg iter q2 q1) (blk_own f q3) (by rw [own_snd]; exact sub_of q14) (fun s H Ca cl fp => pg_blk f q4 s H Ca cl fp) (fun s H Ca cl fp => (hE ifs _ _ (f.blk s H scope cl Ca fp)).ts is q6 q5)
          (fun s H Ca cl fp => (hE it1 _ _ (f.blk s H scope cl Ca fp)).i tg1 iter1 q2' q7) (fun s H Ca cl fp => pg_blk f q8 s H Ca cl fp) (fun s H Ca cl fp => (hE ifs1 _ _ (f.blk s H scope cl Ca fp)).ts is1 q10 q9) (fun s H Ca cl fp => (hE elt _ _ (f.blk s H scope cl Ca fp)).e x q11) (fun y => fset_ok q2 _ y) (fun env y => fset_ok q2' env y)
        rw [own_snd] at pe
        exact PS.imp pe fun Z τ H w => lc2_read (sub_of q12) (sub_of q13) w
      · cases q
    | fz a =>
      have q : ((chk a).e ck (.ListComp x gs scope p) && false) = true := q
      rw [Bool.and_false] at q
      cases q
    | _ => cases q
  | _ => cases hl
theorem run_whl {c : E} {b : S} : run C (.whl c b) = whlF (sem C c).t (run C b) fuel := by
  funext σ h
  rw [run]
theorem snd_S (hE : ∀ e, All C k e) (f : Fit X ck C k) (hk : ck.sc.kind = .function) : ∀ g : S, SndS X ck C g := by
  intro g
  induction g with
  | nil =>
    refine ⟨fun ss q => ?_, fun _ q => ff q⟩
    cases ss with
    | nil =>
      refine PSs.imp pss_nil fun Z τ H w => ?_
      obtain ⟨F, ρ, σ, h, st, eo, fin⟩ := w
      exact finS_nx st eo fin
    | cons _ _ => cases q
  | seq s r hs hr =>
    refine ⟨fun ss q => ?_, fun _ q => ff q⟩
    cases ss with
    | nil => cases q
    | cons x xs =>
      have q : ((chkS s).s ck x && (chkS r).l ck xs) = true := q
      simp only [Bool.and_eq_true] at q
      exact PSs.imp (pss_cons (hs.s x q.1) (hr.l xs q.2)) fun Z τ H w => sSeq w
  | asg i e =>
    refine SndS.one rfl fun st q => ?_
    split at q
    · rename_i x py v pos
      simp only [Bool.and_eq_true, decide_eq_true_eq, Bool.or_eq_true, Bool.not_eq_true'] at q
      obtain ⟨⟨⟨q1, q2⟩, q3⟩, q4⟩ := q
      obtain ⟨l1, l2⟩ := locB_ok f.sc f.fn q3
      have hi : X.N[i]? = some x := by rw [f.N]; exact q2
      have hkk : X.env.scope.kind = .function := by rw [f.sc]; exact hk
      have sw := sw_name (l := pos.line) (y := x) (py := py) (v := v) hkk
      rw [f.sc] at sw
      cases hb : swB ck.sc x py v with
      | false =>
        rw [hb] at sw
        exact PS.imp (ps_set f.nd hi l1 ((hE e X ck f).e v q1) sw l2) fun Z τ H w => sAsg w
      | true =>
        rw [hb] at sw
        have hlc : isLc v = true := q4.resolve_left (by rw [hb]; simp)
        have hy : X.env.scope.names.lookup x = some .local := by
          rw [f.sc]
          unfold swB at hb
          cases v with
          | ListComp _ _ _ _ =>
            simp only [Bool.and_eq_true] at hb
            simpa using hb.1.1
          | _ => cases hlc
        exact PS.imp (asg_comp hE f q1 hlc hi hy sw) fun Z τ H w => sAsg w
    · cases q
  | unp is e =>
    refine SndS.one rfl fun st q => ?_
    split at q
    · rename_i ts kk tp v pos
      simp only [Bool.and_eq_true] at q
      obtain ⟨⟨q1, q2⟩, q3⟩ := q
      have pg := pg_ok (X := X) (t := .tp is) (e := .Tuple ts kk tp) f.calm f.N f.nd f.sc f.fn q2
      have hw : swappedStores [.Tuple ts kk tp] v X.env = pure none := by
        unfold fromLeft at q3
        split at q3
        · simp only [Bool.or_eq_true, Bool.not_eq_true'] at q3
          rcases q3 with z | z
          · exact sw_cell (by rw [f.sc]; exact z)
          · exact sw_fold z
        · rename_i hn
          refine sw_tup ?_
          cases v <;> first | rfl | exact absurd rfl (hn _ _ _)
      exact PS.imp (ps_asg ((hE e X ck f).e v q1) pg sole_tup hw) fun Z τ H w => sUnp w
    · cases q
  | par i j a b =>
    refine SndS.one rfl fun st q => ?_
    split at q
    · rename_i x px y py _ _ u v _ _ pos
      simp only [Bool.and_eq_true, decide_eq_true_eq, Bool.or_eq_true, Bool.not_eq_true', beq_iff_eq] at q
      obtain ⟨⟨⟨⟨⟨⟨⟨⟨⟨⟨⟨q1, q2⟩, q3⟩, q4⟩, q5⟩, q6⟩, q7⟩, q8⟩, q9⟩, q10⟩, q11⟩, q12⟩ := q
      have hkk : X.env.scope.kind = .function := by rw [f.sc]; exact hk
      have hi : X.N[i]? = some x := by rw [f.N]; exact q5
      have hj : X.N[j]? = some y := by rw [f.N]; exact q6
      have hx : X.env.scope.names.lookup x = some .local := by rw [f.sc]; exact q8
      have hy : X.env.scope.names.lookup y = some .local := by rw [f.sc]; exact q9
      have pa := pa_cons ((hE a X ck f).e u q1) (pa_cons ((hE b X ck f).e v q2) pa_nil (one_star q4)) (star_cons q3)
      cases hf : [u, v].all (foldedForSure 8) with
      | false =>
        have hc : [u, v].all (constantsAlone 8) = false := q12.resolve_left (by rw [hf]; simp)
        refine PS.imp (ps_par f.calm f.nd hi hj q7 hx hy pa (sw_two hkk hx hy (by simpa using q10) (by simpa using q11) q3 q4 hf hc) sole_tup) fun Z τ H w => ?_
        refine cons2_imp (fun vs H1 w => ?_) (sPar2 w)
        obtain ⟨v, w, F1, ρ1, h1, rfl, st1, nx⟩ := w
        exact ⟨v, w, rfl, nx H1 (Exh.refl _ _ _) st1⟩
      | true =>
        have pg : PGs X [.Name x px, .Name y py] (gCons (gName i) (gCons (gName j) gNil)) := pgs_cons (pg_name f.nd hi (.inl hx) (.inr hx)) (pgs_cons (pg_name f.nd hj (.inl hy) (.inr hy)) pgs_nil)
        refine PS.imp (ps_asg (pe_tup pa) (pg_tup f.calm pg) sole_tup (sw_fold hf)) fun Z τ H w => ?_
        unfold tAsg tTup
        refine cons2_imp (fun vs H1 w => ?_) (sPar2 w)
        obtain ⟨v, w, F1, ρ1, h1, rfl, st1, nx⟩ := w
        refine ⟨by show 2 ≤ sizeLine; decide, fun p hp => ⟨p, _, rfl, .inl (.inl upd_same), rfl, v, [w], rfl, w, [], rfl, rfl, nx _ (exh_more hp) (st1.more hp)⟩⟩
    · cases q
  | sto o i e =>
    refine SndS.one rfl fun st q => ?_
    split at q
    · simp only [Bool.and_eq_true] at q
      obtain ⟨⟨⟨q1, q2⟩, q3⟩, q4⟩ := q
      exact PS.imp (ps_asg ((hE e X ck f).e _ q1) (pg_sub ((hE o X ck f).e _ q2) ((hE i X ck f).e _ q3) set_list (sto_asg q4)) sole_sub swst_sub) fun Z τ H w => sSto w
    · cases q
  | exp e =>
    refine SndS.one rfl fun st q => ?_
    split at q
    · simp only [Bool.and_eq_true] at q
      exact PS.imp (ps_expr ((hE e X ck f).e _ q.1) (sw_drop q.2)) fun Z τ H w => sExp w
    · cases q
  | ret e =>
    refine SndS.one rfl fun st q => ?_
    split at q
    · exact PS.imp (ps_ret ((hE e X ck f).e _ q)) fun Z τ H w => sRet w
    · cases q
  | retN =>
    refine SndS.one rfl fun st q => ?_
    split at q
    · refine PS.imp ps_retN fun Z τ H w => ?_
      obtain ⟨F, ρ, σ, h, st, eo, fin⟩ := w
      exact fin F ρ H (Exh.refl F ρ H) st _ .non
    · cases q
  | ite c a b ha hb =>
    refine SndS.one rfl fun st q => ?_
    split at q
    · simp only [Bool.and_eq_true] at q
      exact PS.imp (ps_if ((hE c X ck f).t _ q.1.1) (ha.l _ q.1.2) (hb.l _ q.2)) fun Z τ H w => sIte w
    · cases q
  | for_ t it b hb =>
    refine SndS.one rfl fun st q => ?_
    split at q
    · simp only [Bool.and_eq_true] at q
      obtain ⟨⟨⟨q1, q2⟩, q3⟩, q4⟩ := q
      exact PS.imp (ps_for f.pass f.calm ((hE it X ck f).i _ _ q2 q1) (pg_ok f.calm f.N f.nd f.sc f.fn q3) (hb.l _ q4) (fun y => fset_ok q2 _ y)) fun Z τ H w => sFor w
    · cases q
  | whl c b hb =>
    refine SndS.one rfl fun st q => ?_
    split at q
    · simp only [Bool.and_eq_true] at q
      rw [run_whl]
      exact PS.imp (ps_while f.pass ((hE c X ck f).t _ q.1) (hb.l _ q.2)) fun Z τ H w => sWhl w
    · cases q
  | rai =>
    refine SndS.one rfl fun st q => PS.imp ps_never fun Z τ H w => ?_
    obtain ⟨F, ρ, σ, h, st, eo, fin⟩ := w
    exact fin.elim
  | pass =>
    refine SndS.one rfl fun st q => ?_
    split at q
    · refine PS.imp ps_pass fun Z τ H w => ?_
      obtain ⟨F, ρ, σ, h, st, eo, fin⟩ := w
      exact finS_nx st eo fin
    · cases q
  | brk =>
    refine SndS.one rfl fun st q => ?_
    split at q
    · refine PS.imp ps_break fun Z τ H w => ?_
      obtain ⟨F, ρ, σ, h, st, eo, fin⟩ := w
      exact fin F ρ H (Exh.refl F ρ H) st τ eo
    · cases q
  | cnt =>
    refine SndS.one rfl fun st q => ?_
    split at q
    · refine PS.imp ps_continue fun Z τ H w => ?_
      obtain ⟨F, ρ, σ, h, st, eo, fin⟩ := w
      exact fin F ρ H (Exh.refl F ρ H) st τ eo
    · cases q
end
end En
/-! En: enumerate over a tuple -/
namespace En
open PySem L2 PySem.Spec PyProof.Rows
variable [Wd]

theorem enu_new {vv : Value} {ob : Obj} {Hh : Heap → Prop} (bg : Begins vv ob Hh) : Meets (Builtin.«enumerate.__new__» ⟨[.type "enumerate", vv], []⟩) (fun _ Rr st => Hh st.heap ∧
    Rr (.ok (.ret (.ref (st.heap.push ob).objs.size))) { st with heap := (st.heap.push ob).push { cls := .type "enumerate", data := .fields #[.none, .bool false, .ref st.heap.objs.size, rawInt 0, .none, .none] } }) := by
  refine .of_wp fun pr wd ar Rr st hyp => ?_
  rcases st with ⟨m0, m1, m2, m3, m4⟩
  rcases hyp with ⟨ha, hb⟩
  have hsub := sub_enumerate
  have stp : ∀ {ar' : Around} {Ex : Value → Shared → Prop} {Qv : Value → Shared → Prop}, Qv (.ref m0.objs.size) ⟨m0.push ob, m1, m2, m3, m4⟩ → wpAny (model pr wd) ar' (pyIter vv) Qv Ex ⟨m0, m1, m2, m3, m4⟩ := fun z => bg.iter pr wd _ _ ⟨m0, m1, m2, m3, m4⟩ _ ha z
  wp_walk using stp
  refine wpAny_stack_any fun sk => wpAny_pure ?_
  split
  · rename_i cc _ _ _ _ _
    cases (cc == Value.type "enumerate") <;> (wp_walk using stp; exact ⟨_, rfl, hb⟩)
  · wp_walk using stp
    exact ⟨_, rfl, hb⟩
theorem enu_call {pr : Program} {wd : World} {ar : Around} {Ex : Value → Shared → Prop} {st : Shared} {vv : Value} {ob : Obj} {Hh : Heap → Prop} {Qv : Value → Shared → Prop} (bg : Begins vv ob Hh) (ha : Hh st.heap)
    (hq : ∀ g : Heap, IsEnum g (st.heap.objs.size + 1) st.heap.objs.size 0 .none → g.get? st.heap.objs.size = some ob → (∀ c u, st.heap.get? c = some u → g.get? c = some u) → Qv (.ref (st.heap.objs.size + 1)) { st with heap := g }) :
    wpAny (model pr wd) ar (call (.type "enumerate") [vv]) Qv Ex st := by
  have hz : (st.heap.push ob).objs.size = st.heap.objs.size + 1 := Heap.size_push ..
  refine callType_new F.called_enumerate (by decide) (F.typeCall_enumerate_1 _) (F.newCall_enumerate_1 _) (fun obj => F.args_object_init_2 obj _) F.entry_enumerate_new (enu_new bg) ⟨ha, ?_⟩
  show _ ∧ _
  rw [hz]
  have he := Heap.get?_push_size (st.heap.push ob) (o := { cls := .type "enumerate", data := .fields #[.none, .bool false, .ref st.heap.objs.size, rawInt 0, .none, .none] }) rfl
  rw [hz] at he
  exact ⟨⟨_, he, rfl⟩, hq _ he (Heap.get?_push_of_some _ (Heap.get?_push_size _ bg.free)) fun c u e => Heap.get?_push_of_some _ (Heap.get?_push_of_some _ e)⟩

/-- the tuple at a as it stands at each turn -/
def IteT (K : PySem.W.Frag) (a : Addr) : It where
  go := fun i H => ∃ (xs : List V) (x : V), SqT K H a xs ∧ xs[i]? = some x
  yld := fun i H v H' => ∃ T x, v = .ref T ∧ H T = none ∧ H' = upd H T (.tup [.int (i : Nat), x]) ∧ ∀ xs, SqT K H a xs → xs[i]? = some x
  stop := fun i H => ∃ xs : List V, SqT K H a xs ∧ xs.length = i
theorem turn_enumT {P : Program} {w : World} {K : PySem.W.Frag} {elts : List Expr} {kk : Nat} {tpos : Pos} (a e t : Addr) :
    Turn P w K (.Tuple elts kk tpos) (IteT K a) [e, t] e (fun i h => (∃ old, IsEnum h e t ((i : Nat) : Int) old) ∧ h.IsTupleIter t a i ∧ e ≠ t ∧ e ≠ a ∧ a ≠ t) where
  mem := List.mem_cons_self
  obj := fun i h st b hb => by
    obtain ⟨⟨old, he⟩, ⟨o, ho, hc, hd⟩, _⟩ := st
    rcases (by simpa using hb : b = e ∨ b = t) with rfl | rfl
    · exact ⟨_, he, fun v z => nomatch z⟩
    · exact ⟨o, ho, fun v z => by rw [hd] at z; cases z⟩
  keep := fun i h h' st k => by
    obtain ⟨⟨old, he⟩, hi, hn⟩ := st
    exact ⟨⟨old, k e (by simp) _ he⟩, hi.at fun o z => k t (by simp) o z, hn⟩
  item := by
    intro X hP hw hK hc i pins s σ H E I hf st hg
    subst hP hw hK
    obtain ⟨⟨old, he⟩, hit, n1, n2, n3⟩ := st
    obtain ⟨xs, x, hq, hx⟩ := hg
    obtain ⟨its, rv, p, _⟩ := I.tuple hq
    have hlt : i < its.toArray.size := by
      have h1 := (List.getElem?_eq_some_iff.mp hx).1
      have h2 := rv.length
      simp
      omega
    have hdn : X.A.in1.handled = none := I.ok.hd hc
    have hel : e < s.heap.objs.size := Heap.lt_size he
    have htl : t < s.heap.objs.size := by obtain ⟨_, z, _⟩ := hit; exact Heap.lt_size z
    refine wpAny_pyNext_enum_itemD (Draws.tuple hdn t a n3 its.toArray) he ⟨hit, p⟩ hlt n1 (by simp [n1, n2]) fun u g tk hu ho hs hT _ hk => ?_
    obtain ⟨u', hu', ru⟩ := rv.get hx
    have eu : u' = u := by
      have hu2 : its[i]? = some u := by simpa using hu
      rw [hu'] at hu2
      exact Option.some.inj hu2
    subst eu
    refine ⟨_, rfl, wpAny_letOwnedTupleGo_enum (s := { s with heap := g, toks := tk + 1 }) ho fun g2 he2 sb => ?_⟩
    have hT2 := (sb.2 s.heap.objs.size (Nat.ne_of_gt hel)).trans hT
    have nw : ObjOk X.prog X.w (upd H s.heap.objs.size (.tup [.int (i : Nat), x])) g2 s.heap.objs.size (.tup [.int (i : Nat), x]) := ⟨by show 2 ≤ sizeLine; decide, [.int i tk, u'], .cons ⟨tk, rfl⟩ (.cons ru .nil), _, hT2, rfl, _, rfl⟩
    have I1 := I.turnedNew (h' := g2) (t' := tk + 1) (ch := [e, t]) (fun b ob hb z => (sb.2 b (fun y => hb (by simp [y]))).trans (hk b ob (fun y => hb (by simp [y])) (fun y => hb (by simp [y])) z)) hf (Nat.le_refl _) nw
    refine ⟨.ref s.heap.objs.size, _, I1, rfl, ⟨_, x, rfl, I.hok.fresh (Nat.le_refl _), rfl, fun ys hy => by rw [I.tuple_inj hy hq]; exact hx⟩, ⟨⟨u', ?_⟩, hs.1.at fun o z => (sb.2 t (Ne.symm n1)).trans z, n1, n2, n3⟩, fun b hb => ?_⟩
    · have e1 : ((i + 1 : Nat) : Int) = (i : Int) + 1 := by omega
      rw [e1]
      exact he2
    · have hbl : b < s.heap.objs.size := by
        rcases (by simpa using hb : b = e ∨ b = t) with rfl | rfl
        · exact hel
        · exact htl
      rw [upd_ne (Nat.ne_of_lt hbl)]
      exact (hf b hb).1
  done := by
    intro X hP hw hK hc i pins s σ H E I hf st hg
    subst hP hw hK
    obtain ⟨⟨old, he⟩, hit, n1, n2, n3⟩ := st
    obtain ⟨xs, hq, hx⟩ := hg
    obtain ⟨its, rv, p, _⟩ := I.tuple hq
    have hl : its.toArray.size = i := by
      have h2 := rv.length
      simp
      omega
    have hdn : X.A.in1.handled = none := I.ok.hd hc
    refine wpAny_pyNext_enum_endD (Draws.tuple hdn t a n3 its.toArray) he ⟨by rw [hl]; exact hit, p⟩ fun g hk => ⟨rfl, ?_⟩
    exact I.turnedL (t' := s.toks) (ch := [e, t]) (fun b o hb z => hk b o (fun y => hb (by simp [y])) z) hf
  self := fun A i s Q E st h => by
    obtain ⟨⟨_, he⟩, _⟩ := st
    exact wpAny_pyIter_enum he h

def iEnuT (K : PySem.W.Frag) (ta : TA) : TI := fun σ H R => ta σ H fun vs H1 => ∃ a xs, vs = [.ref a] ∧ SqT K H1 a xs ∧ R (IteT K a) H1
theorem pi_enumT {X : Cx} {e : Expr} {ta : TA} {p pos tpos : Pos} {elts : List Expr} {kk : Nat} (hg : Gl X "enumerate") (hm : X.mg "enumerate" = none) (ha : PA X [e] ta) (hs : starEach [e] X.env = [(false, eval e X.env)]) :
    PI X (.Tuple elts kk tpos) (.Call (.Name "enumerate" p) [e] [] pos) (iEnuT X.K ta) := by
  constructor
  intro pins s σ H R I h
  refine Call_ (ld_blt I hg hm boot_enumerate (PyProof.Rows.callWith_type1 (thn (ha.run pos pins s σ H _ I h) ?_) hs rfl))
  rintro us st ⟨vs, H1, I1, r1, a, xs, rfl, hq, q⟩
  cases r1 with
  | cons r rr =>
    cases rr
    cases r
    obtain ⟨its, rv, pt, _⟩ := I1.tuple hq
    have hal : a < st.heap.objs.size := by obtain ⟨_, z, _⟩ := pt; exact Heap.lt_size z
    refine enu_call (begins_tuple a its.toArray) pt fun g he hi hk => wpAny_pyIter_enum he ?_
    have I2 : Inv X pins σ H1 { st with heap := g } := I1.kept (t' := st.toks) hk
    refine ⟨st.heap.objs.size + 1, [st.heap.objs.size + 1, st.heap.objs.size], _, _, H1, rfl, I2, turn_enumT a (st.heap.objs.size + 1) st.heap.objs.size, ⟨⟨.none, he⟩, ⟨_, hi, rfl, rfl⟩, Nat.succ_ne_self _, Nat.ne_of_gt (Nat.lt_succ_of_lt hal), Nat.ne_of_lt hal⟩, fun b hb => ?_, q⟩
    have hle : st.heap.objs.size ≤ b := by
      rcases (by simpa using hb : b = st.heap.objs.size + 1 ∨ b = st.heap.objs.size) with rfl | rfl
      · exact Nat.le_succ _
      · exact Nat.le_refl _
    exact I1.fpOk hle (I1.hok.fresh hle)
theorem wd_enuT {K : PySem.W.Frag} {F : Hp} {ρ : List Addr} {a : Addr} {vs : List V} {xs : List PyData} (h : SqT K F a vs) (q : DqA K F vs xs) : WalkD K F ρ (IteT K a) (enumP 0 xs) := by
  have el : (enumP 0 xs).length = vs.length := by rw [enumP_len, q.len]
  refine ⟨fun i H hi s => ?_, fun H s => ⟨vs, sqT_mono s h, el.symm⟩, fun i H x H' d hd s y => ?_⟩
  · rw [el] at hi
    exact ⟨vs, vs[i], sqT_mono s h, List.getElem?_eq_getElem hi⟩
  · obtain ⟨T, x1, e1, e2, e3, e4⟩ := y
    have e4 := e4 _ (sqT_mono s h)
    obtain ⟨z, h1, rfl⟩ := enumP_get xs 0 i d hd
    obtain ⟨v1, k1, k2⟩ := q.get h1
    rw [k1] at e4; cases e4
    refine .inr ⟨T, _, _, e2, e3, e1, rfl, .cons ?_ (.cons k2 .nil)⟩
    rw [Nat.zero_add]
    exact .int _
section
variable {X : Cx} {ck : Ck} {C : Str → List D → Hs → R D} {k : Nat}
theorem snd_enu {a : E} (f : Fit X ck C k) (sa : Snd X ck C a) : Snd X ck C (.enu a) := by
  refine Snd.itr rfl rfl fun tg x _ q => ?_
  split at q
  · rename_i es kk tp z np y p
    simp only [Bool.and_eq_true, decide_eq_true_eq] at q
    obtain ⟨⟨⟨rfl, q1⟩, q2⟩, q3⟩ := q
    have hm : X.mg "enumerate" = none := blt_of f (x := Str.ofString "enumerate") (by decide +kernel)
    have pa := pa_cons (sa.e _ q3) pa_nil (one_star q2)
    refine PI.imp (PI.or (pi_enum (f.gl q1) hm pa (one_star q2)) (pi_enumT (f.gl q1) hm pa (one_star q2))) fun τ H Q w => ?_
    obtain ⟨F, ρ, σ, h, st, eo, fin⟩ := w
    dsimp only at fin
    cases ea : (sem C a).v σ h with
    | ok x h1 =>
      rw [ea] at fin
      simp only [R.bind, enuW] at fin
      cases ht : vwF x with
      | none => rw [ht] at fin; exact fin.elim
      | some tx =>
        obtain ⟨t, xs⟩ := tx
        rw [ht] at fin
        cases t with
        | true =>
          refine .inr ⟨F, ρ, σ, h, st, eo, ?_⟩
          rw [ea]
          intro F1 ρ1 H1 v e1 st1 r1
          obtain ⟨l, vs, rfl, k1, k2⟩ := vwF_ok r1 ht
          have k2 : SqT X.K F1 l vs := by simpa using k2
          exact ⟨l, vs, rfl, sqT_mono st1.same k2, fin F1 ρ1 H1 _ e1 st1 (wd_enuT k2 k1)⟩
        | false =>
          refine .inl ⟨F, ρ, σ, h, st, eo, ?_⟩
          rw [ea]
          intro F1 ρ1 H1 v e1 st1 r1
          obtain ⟨l, vs, rfl, k1, k2⟩ := vwF_ok r1 ht
          have k2 : SqL X.K F1 l vs := by simpa using k2
          exact ⟨l, vs, rfl, sqL_mono st1.same k2, fin F1 ρ1 H1 _ e1 st1 (wd_enu k2 k1)⟩
    | ex _ _ => rw [ea] at fin; exact fin.elim
    | no => rw [ea] at fin; exact fin.elim
  · cases q
end
end En
/-! En: dict(zip(t, u)) of two tuples -/
namespace En
open PySem L2 PySem.Spec PyProof.Rows
variable [Wd]

section
variable {pr : Program} {wd : World} {ar : Around} {Ex : Value → Shared → Prop} {st : Shared} {z ti to' tp p q l m : Addr} {j : Nat} {us vs : Array Value} {b : Bool} {ot : Obj}
theorem held_item {x y : Value} {Qv : Value → Shared → Prop} (ap : ZipApart z ti to' p q l m) (c1 : IsZipHeld st.heap z ti to' tp b) (c2 : st.heap.get? tp = some ot) (c3 : IsPair st.heap ti (.ref p) (.ref q))
    (c4 : st.heap.IsTupleIter p l j) (c5 : st.heap.IsTupleIter q m j) (c6 : st.heap.IsTuple l us) (c7 : st.heap.IsTuple m vs) (c8 : us[j]? = some x) (c9 : vs[j]? = some y)
    (nx : ∀ g : Heap, IsZipHeld g z ti to' tp true → g.IsTupleIter p l (j + 1) → g.IsTupleIter q m (j + 1) → IsPair g st.heap.objs.size x y → (∀ c o, c ≠ z → c ≠ p → c ≠ q → st.heap.get? c = some o → g.get? c = some o) → Qv (.ref st.heap.objs.size) { st with heap := g }) :
    wpAny (model pr wd) ar (Builtin.«zip.__next__» ⟨[.ref z], []⟩) (fun fn s2 => ∃ v, fn = .done (.ret v) ∧ Qv v s2) Ex st := by
  show wpAny _ _ (field (.ref z) 2 >>= _) _ _ st
  refine wpAny_bind (wpAny_field c1 rfl (x := .bool false) rfl ?_)
  show wpAny _ _ (field (.ref z) 3 >>= _) _ _ st
  refine wpAny_bind (wpAny_field c1 rfl (x := .ref ti) rfl ?_)
  refine wpAny_bind (wpAny_seqItems c3 rfl ?_)
  show wpAny _ _ (Builtin.SmallTypes.ownedTupleIsFree (.ref z) >>= _) _ _ st
  refine wpAny_bind (wpAny_tupleHeld_zip c1 c2 fun g1 d1 e1 => ?_)
  simp only [Bool.false_eq_true, if_false]
  refine wpAny_bind ?_
  rw [← Array.forIn_toList]
  simp only [List.forIn_cons, List.forIn_nil]
  refine wpAny_bind (wpAny_bind (wpAny_holding ?_))
  show wpAny _ _ (Builtin.SmallTypes.nextOf (.ref p) >>= _) _ _ _
  refine wpAny_bind (RZ.nextOf_tuple_item (s := { st with heap := g1 }) (c4.extBut e1.extBut ap.i1z) (c6.extBut e1.extBut ap.l1z) c8 fun g2 d2 e2 => wpAny_pure (wpAny_pure ?_))
  refine wpAny_bind (wpAny_bind (wpAny_holding ?_))
  show wpAny _ _ (Builtin.SmallTypes.nextOf (.ref q) >>= _) _ _ _
  refine wpAny_bind (RZ.nextOf_tuple_item (s := { st with heap := g2 }) ((c5.extBut e1.extBut ap.i2z).extBut e2.extBut ap.i12.symm) ((c7.extBut e1.extBut ap.l2z).extBut e2.extBut ap.l2i1) c9 fun g3 d3 e3 => wpAny_pure (wpAny_pure (wpAny_pure ?_)))
  show wpAny _ _ (newTuple [x, y] >>= _) _ _ _
  refine wpAny_bind (wpAny_newTuple (wpAny_pure ⟨_, rfl, ?_⟩))
  have hz : g3.objs.size = st.heap.objs.size := by rw [e3.1, e2.1, e1.1]
  have up : ∀ c o, c ≠ z → c ≠ p → c ≠ q → st.heap.get? c = some o → g3.get? c = some o := fun c o n1 n2 n3 e => e3.extBut _ _ n3 (e2.extBut _ _ n2 (e1.extBut _ _ n1 e))
  show Qv (.ref g3.objs.size) _
  have pp : IsPair (g3.push { cls := .type "tuple", data := .seq #[x, y] }) g3.objs.size x y := Heap.get?_push_size _ rfl
  rw [hz] at pp ⊢
  refine nx _ (Heap.get?_push_of_some _ (e3.extBut _ _ ap.i2z.symm (e2.extBut _ _ ap.i1z.symm d1))) ((d2.extBut e3.extBut ap.i12).at fun o e => Heap.get?_push_of_some _ e) (d3.at fun o e => Heap.get?_push_of_some _ e) pp fun c o n1 n2 n3 e => Heap.get?_push_of_some _ (up c o n1 n2 n3 e)
theorem held_end {Qv : PySem.Fin → Shared → Prop} (hh : ar.handled = none) (ap : ZipApart z ti to' p q l m) (c1 : IsZipHeld st.heap z ti to' tp b) (c2 : st.heap.get? tp = some ot) (c3 : IsPair st.heap ti (.ref p) (.ref q))
    (c4 : st.heap.IsTupleIter p l j) (c5 : st.heap.IsTupleIter q m j) (c6 : st.heap.IsTuple l us) (c7 : st.heap.IsTuple m vs) (c8 : us[j]? = none ∨ vs[j]? = none)
    (nx : ∀ (g : Heap) (e : Addr), (∀ c o, c ≠ z → c ≠ p → c ≠ q → st.heap.get? c = some o → g.get? c = some o) → (∃ o, g.get? e = some o ∧ o.cls = .type "StopIteration") → Ex (.ref e) { st with heap := g }) :
    wpAny (model pr wd) ar (Builtin.«zip.__next__» ⟨[.ref z], []⟩) Qv Ex st := by
  show wpAny _ _ (field (.ref z) 2 >>= _) _ _ st
  refine wpAny_bind (wpAny_field c1 rfl (x := .bool false) rfl ?_)
  show wpAny _ _ (field (.ref z) 3 >>= _) _ _ st
  refine wpAny_bind (wpAny_field c1 rfl (x := .ref ti) rfl ?_)
  refine wpAny_bind (wpAny_seqItems c3 rfl ?_)
  show wpAny _ _ (Builtin.SmallTypes.ownedTupleIsFree (.ref z) >>= _) _ _ st
  refine wpAny_bind (wpAny_tupleHeld_zip c1 c2 fun g1 d1 e1 => ?_)
  simp only [Bool.false_eq_true, if_false]
  refine wpAny_bind ?_
  rw [← Array.forIn_toList]
  simp only [List.forIn_cons, List.forIn_nil]
  refine wpAny_bind (wpAny_bind (wpAny_holding ?_))
  show wpAny _ _ (Builtin.SmallTypes.nextOf (.ref p) >>= _) _ _ _
  cases hx : us[j]? with
  | none => exact wpAny_bind (RZ.nextOf_tuple_end (s := { st with heap := g1 }) hh (c4.extBut e1.extBut ap.i1z) (c6.extBut e1.extBut ap.l1z) hx fun g2 e e2 he => nx g2 e (fun c o n1 n2 _ w => e2 _ _ n2 (e1.extBut _ _ n1 w)) he)
  | some x =>
    have hy : vs[j]? = none := c8.resolve_left (by rw [hx]; simp)
    refine wpAny_bind (RZ.nextOf_tuple_item (s := { st with heap := g1 }) (c4.extBut e1.extBut ap.i1z) (c6.extBut e1.extBut ap.l1z) hx fun g2 d2 e2 => wpAny_pure (wpAny_pure ?_))
    refine wpAny_bind (wpAny_bind (wpAny_holding ?_))
    show wpAny _ _ (Builtin.SmallTypes.nextOf (.ref q) >>= _) _ _ _
    exact wpAny_bind (RZ.nextOf_tuple_end (s := { st with heap := g2 }) hh ((c5.extBut e1.extBut ap.i2z).extBut e2.extBut ap.i12.symm) ((c7.extBut e1.extBut ap.l2z).extBut e2.extBut ap.l2i1) hy fun g3 e e3 he => nx g3 e (fun c o n1 n2 n3 w => e3 _ _ n3 (e2.extBut _ _ n2 (e1.extBut _ _ n1 w))) he)
theorem nx_item {x y : Value} {Qv : Option Value → Shared → Prop} (ap : ZipApart z ti to' p q l m) (c1 : IsZipHeld st.heap z ti to' tp b) (c2 : st.heap.get? tp = some ot) (c3 : IsPair st.heap ti (.ref p) (.ref q))
    (c4 : st.heap.IsTupleIter p l j) (c5 : st.heap.IsTupleIter q m j) (c6 : st.heap.IsTuple l us) (c7 : st.heap.IsTuple m vs) (c8 : us[j]? = some x) (c9 : vs[j]? = some y)
    (nx : ∀ g : Heap, IsZipHeld g z ti to' tp true → g.IsTupleIter p l (j + 1) → g.IsTupleIter q m (j + 1) → IsPair g st.heap.objs.size x y → (∀ c o, c ≠ z → c ≠ p → c ≠ q → st.heap.get? c = some o → g.get? c = some o) → Qv (some (.ref st.heap.objs.size)) { st with heap := g }) :
    wpAny (model pr wd) ar (pyNext (.ref z)) Qv Ex st := by
  have ty : st.TypeIs (.ref z) "zip" := ⟨_, c1, rfl⟩
  unfold pyNext
  refine wpAny_bind (wpAny_attempt (wpAny_callSpecial?_slot (name := Str.ofString "__next__") ty F.slot_zip_next (wpAny_call_entry F.slot_zip_next ty F.entry_zip_next ?_ (F.args_zip_next_1 _))))
  exact held_item ap c1 c2 c3 c4 c5 c6 c7 c8 c9 fun g a1 a2 a3 a4 a5 => wpAny_pure (nx g a1 a2 a3 a4 a5)
theorem nx_end {Qv : Option Value → Shared → Prop} (hh : ar.handled = none) (ap : ZipApart z ti to' p q l m) (c1 : IsZipHeld st.heap z ti to' tp b) (c2 : st.heap.get? tp = some ot) (c3 : IsPair st.heap ti (.ref p) (.ref q))
    (c4 : st.heap.IsTupleIter p l j) (c5 : st.heap.IsTupleIter q m j) (c6 : st.heap.IsTuple l us) (c7 : st.heap.IsTuple m vs) (c8 : us[j]? = none ∨ vs[j]? = none)
    (nx : ∀ g : Heap, (∀ c o, c ≠ z → c ≠ p → c ≠ q → st.heap.get? c = some o → g.get? c = some o) → Qv none { st with heap := g }) : wpAny (model pr wd) ar (pyNext (.ref z)) Qv Ex st := by
  have ty : st.TypeIs (.ref z) "zip" := ⟨_, c1, rfl⟩
  unfold pyNext
  refine wpAny_bind (wpAny_attempt (wpAny_callSpecial?_slot (name := Str.ofString "__next__") ty F.slot_zip_next (wpAny_call_entry F.slot_zip_next ty F.entry_zip_next ?_ (F.args_zip_next_1 _))))
  refine held_end hh ap c1 c2 c3 c4 c5 c6 c7 c8 fun g e up he => ?_
  obtain ⟨o, ho, hc⟩ := he
  exact wpAny_bind (wpAny_isInstance (T := "StopIteration") (b := true) ⟨o, ho, hc⟩ isSubtype_stop (wpAny_pure (nx g up)))
end
end En
/-! En: dict(zip(t, u)), the rule -/
namespace En
open PySem L2 PySem.Spec PyProof.Rows
variable [Wd]

/-- how a zip of two tuples stands at its turn j, a dict at d being filled -/
structure ZSt (z ti to' p q l m d : Addr) (us vs : Array Value) (j : Nat) (g : Heap) : Prop where
  fi : IsPair g ti (.ref p) (.ref q)
  fp : g.IsTupleIter p l j
  fq : g.IsTupleIter q m j
  fl : g.IsTuple l us
  fm : g.IsTuple m vs
  fz : (IsZip g z ti to' .none ∧ ∃ a b, IsPair g to' a b) ∨ ∃ t f o, IsZipHeld g z ti to' t f ∧ g.get? t = some o ∧ t ≠ z ∧ t ≠ p ∧ t ≠ q ∧ t ≠ d
theorem zarg {pr : Program} {wd : World} (z ti to' p q l m : Addr) (ap : ZipApart z ti to' p q l m) (us vs : Array Value) :
    PairArg pr wd "zip" z [z, ti, to', p, q, l, m] [z, to', p, q] (min us.size vs.size) (fun i k v => us[i]? = some k ∧ vs[i]? = some v)
      (fun g => IsZip g z ti to' .none ∧ IsPair g ti (.ref p) (.ref q) ∧ (∃ a b, IsPair g to' a b) ∧ g.IsTupleIter p l 0 ∧ g.IsTupleIter q m 0 ∧ g.IsTuple l us ∧ g.IsTuple m vs) where
  type := fun st ok => ⟨_, ok.1, rfl⟩
  notDict := by decide
  keep := fun g g' ok up => by
    obtain ⟨a1, a2, ⟨x, y, a3⟩, a4, a5, a6, a7⟩ := ok
    exact ⟨up _ _ a1, up _ _ a2, ⟨x, y, up _ _ a3⟩, a4.at fun o e => up _ o e, a5.at fun o e => up _ o e, a6.at fun o e => up _ o e, a7.at fun o e => up _ o e⟩
  there := fun g ok c hc => by
    obtain ⟨a1, a2, ⟨x, y, a3⟩, ⟨o1, a4, _⟩, ⟨o2, a5, _⟩, ⟨o3, a6, _⟩, ⟨o4, a7, _⟩⟩ := ok
    rcases (by simpa using hc : c = z ∨ c = ti ∨ c = to' ∨ c = p ∨ c = q ∨ c = l ∨ c = m) with rfl | rfl | rfl | rfl | rfl | rfl | rfl
    · exact ⟨_, a1⟩
    · exact ⟨_, a2⟩
    · exact ⟨_, a3⟩
    · exact ⟨_, a4⟩
    · exact ⟨_, a5⟩
    · exact ⟨_, a6⟩
    · exact ⟨_, a7⟩
  sub := fun c hc => by
    rcases (by simpa using hc : c = z ∨ c = to' ∨ c = p ∨ c = q) with rfl | rfl | rfl | rfl <;> simp
  noKeys := fun ar st Qv Ex hA ok nx => getAttrOr_miss_zip ok.1 rfl rfl rfl zip_no_keys (by decide +kernel) hA nx
  iter := fun ar st d Qv Ex hA ok hd hn nx => by
    obtain ⟨a1, a2, ⟨x, y, a3⟩, a4, a5, a6, a7⟩ := ok
    have nn : d ≠ z ∧ d ≠ ti ∧ d ≠ to' ∧ d ≠ p ∧ d ≠ q ∧ d ≠ l ∧ d ≠ m := by simpa using hn
    obtain ⟨n1, n2, n3, n4, n5, n6, n7⟩ := nn
    refine wpAny_pyIter_zip a1 (nx z [z, to', p, q] (ZSt z ti to' p q l m d us vs) st.heap st.toks ?_ ⟨a2, a4, a5, a6, a7, .inl ⟨a1, x, y, a3⟩⟩ (fun _ _ e => e) fun c hc => .inl hc)
    refine ⟨by simp [n1, n3, n4, n5], fun i g g' s up => ?_, fun i s1 Q1 E1 hi s hds hq => ?_, fun s1 Q1 E1 s hq => ?_⟩
    · refine ⟨up _ _ n2.symm s.fi, s.fp.at fun o e => up _ o n4.symm e, s.fq.at fun o e => up _ o n5.symm e, s.fl.at fun o e => up _ o n6.symm e, s.fm.at fun o e => up _ o n7.symm e, ?_⟩
      rcases s.fz with ⟨h1, a, b, h2⟩ | ⟨t, f, o, h1, h2, r1, r2, r3, r4⟩
      · exact .inl ⟨up _ _ n1.symm h1, a, b, up _ _ n3.symm h2⟩
      · exact .inr ⟨t, f, o, up _ _ n1.symm h1, up _ _ r4 h2, r1, r2, r3, r4⟩
    · have i1 : i < us.size := by omega
      have i2 : i < vs.size := by omega
      have e1 := Array.getElem?_eq_getElem i1
      have e2 := Array.getElem?_eq_getElem i2
      have lt : ∀ {c o}, s1.heap.get? c = some o → s1.heap.objs.size ≠ c := fun e => Nat.ne_of_gt (Heap.lt_size e)
      have m1 : s1.heap.objs.size ≠ p := by obtain ⟨_, e, _⟩ := s.fp; exact lt e
      have m2 : s1.heap.objs.size ≠ q := by obtain ⟨_, e, _⟩ := s.fq; exact lt e
      rcases s.fz with ⟨h1, a, b, h2⟩ | ⟨t, f, o, h1, h2, r1, r2, r3, r4⟩
      · refine RZ.pyNext_zipT_item ap h1 s.fi h2 s.fp s.fq s.fl s.fm e1 e2 fun g b1 b2 b3 b4 b5 _ up => ?_
        refine hq s1.heap.objs.size _ _ g s1.toks ⟨e1, e2⟩ (.inl ⟨_, b5, rfl, _, rfl⟩) ⟨up _ _ ap.TIz ap.TITO ap.TIi1 ap.TIi2 s.fi, b3, b4, s.fl.at fun o e => up _ o ap.l1z ap.l1TO ap.l1i1 ap.l1i2 e, s.fm.at fun o e => up _ o ap.l2z ap.l2TO ap.l2i1 ap.l2i2 e, .inr ⟨_, false, _, b1, b5, lt h1, m1, m2, Nat.ne_of_gt hds⟩⟩ fun c o hc e => ?_
        have hc' : c ≠ z ∧ c ≠ to' ∧ c ≠ p ∧ c ≠ q := by simpa using hc
        exact up c o hc'.1 hc'.2.1 hc'.2.2.1 hc'.2.2.2 e
      · refine nx_item ap h1 h2 s.fi s.fp s.fq s.fl s.fm e1 e2 fun g b1 b3 b4 b5 up => ?_
        refine hq s1.heap.objs.size _ _ g s1.toks ⟨e1, e2⟩ (.inl ⟨_, b5, rfl, _, rfl⟩) ⟨up _ _ ap.TIz ap.TIi1 ap.TIi2 s.fi, b3, b4, s.fl.at fun o e => up _ o ap.l1z ap.l1i1 ap.l1i2 e, s.fm.at fun o e => up _ o ap.l2z ap.l2i1 ap.l2i2 e, .inr ⟨t, true, o, b1, up _ _ r1 r2 r3 h2, r1, r2, r3, r4⟩⟩ fun c o hc e => ?_
        have hc' : c ≠ z ∧ c ≠ to' ∧ c ≠ p ∧ c ≠ q := by simpa using hc
        exact up c o hc'.1 hc'.2.2.1 hc'.2.2.2 e
    · have he : us[min us.size vs.size]? = none ∨ vs[min us.size vs.size]? = none := by
        by_cases h : us.size ≤ vs.size
        · exact .inl (Array.getElem?_eq_none (by omega))
        · exact .inr (Array.getElem?_eq_none (by omega))
      rcases s.fz with ⟨h1, a, b, h2⟩ | ⟨t, f, o, h1, h2, r1, r2, r3, r4⟩
      · refine RZ.pyNext_zipT_end hA ap h1 s.fi h2 s.fp s.fq s.fl s.fm he fun g up => hq g s1.toks fun c o hc e => ?_
        have hc' : c ≠ z ∧ c ≠ to' ∧ c ≠ p ∧ c ≠ q := by simpa using hc
        exact up c o hc'.1 hc'.2.1 hc'.2.2.1 hc'.2.2.2 e
      · refine nx_end hA ap h1 h2 s.fi s.fp s.fq s.fl s.fm he fun g up => hq g s1.toks fun c o hc e => ?_
        have hc' : c ≠ z ∧ c ≠ to' ∧ c ≠ p ∧ c ≠ q := by simpa using hc
        exact up c o hc'.1 hc'.2.2.1 hc'.2.2.2 e

def zkv (ks : List Str) (ys : List V) : List (Key × V) := (ks.zip ys).map fun p => (.inr p.1, p.2)
def tDz (K : PySem.W.Frag) (ta : TA) : TE := fun σ H Q => ta σ H fun ws H1 => ∃ (a b : Addr) (ks : List Str) (ys : List V), ws = [.ref a, .ref b] ∧ SqT K H1 a (ks.map V.str) ∧ SqT K H1 b ys ∧ ∀ p, H1 p = none → Q (.ref p) (upd H1 p (.dK (mergeK [] (zkv ks ys))))
theorem zkv_rel (pr : Program) (wd : World) : ∀ {ks : List Str} {ys : List V} {us vs : List Value}, Vals (ks.map V.str) us → Vals ys vs → ∃ prs : List (Key × Value), KV (zkv ks ys) prs ∧ prs.length = min us.length vs.length ∧
    ∀ (i : Nat) (x y : Value), us[i]? = some x → vs[i]? = some y → ∃ k, prs[i]? = some (k, y) ∧ keyIs k x = true
  | [], ys, us, vs, r, _ => by
    cases r
    exact ⟨[], .nil, by simp, fun i x y e => by simp at e⟩
  | k :: ks, [], us, vs, _, r => by
    cases r
    exact ⟨[], .nil, by simp, fun i x y _ e => by simp at e⟩
  | k :: ks, w :: ys, us, vs, r, r' => by
    cases r with
    | cons h t =>
      cases r' with
      | cons h' t' =>
        obtain ⟨prs, e1, e2, e3⟩ := zkv_rel pr wd t t'
        refine ⟨(.inr k, _) :: prs, .cons ⟨rfl, h'⟩ e1, by simp only [List.length_cons, e2]; omega, fun i x y ex ey => ?_⟩
        cases i with
        | zero =>
          simp only [List.getElem?_cons_zero, Option.some.injEq] at ex ey
          subst ex ey
          exact ⟨.inr k, rfl, kV_is (P := pr) (w := wd) (k := .inr k) h⟩
        | succ i =>
          simp only [List.getElem?_cons_succ] at ex ey ⊢
          exact e3 i x y ex ey
theorem pe_dz {X : Cx} {u v : Expr} {ta : TA} {p1 p2 p3 p4 : Pos} (hc : X.calm = true) (gd : Gl X "dict") (md : X.mg "dict" = none) (gz : Gl X "zip") (mz : X.mg "zip" = none) (ha : PA X [u, v] ta)
    (hs : starEach [u, v] X.env = (false, eval u X.env) :: starEach [v] X.env) (hp : (backTo p4 (starEach [v] X.env)).any (·.1) = false) :
    PE X (.Call (.Name "dict" p1) [.Call (.Name "zip" p3) [u, v] [] p4] [] p2) (tDz X.K ta) := by
  constructor
  intro pins s σ H Q I h
  refine Call_ (ld_blt I gd md PyProof.Rows.boot_dict (PyProof.Rows.callWith_type1 (args_cons (Call_ (ld_blt I gz mz PyProof.Rows.boot_zip (PyProof.Rows.callWith_type1 (thn (ha.run p4 pins s σ H _ I h) ?_) hs hp))) rfl) rfl rfl))
  rintro us st ⟨ws, H1, I1, r1, a, b, ks, ys, rfl, hqa, hqb, q⟩
  obtain ⟨x1, x2, rfl, rx1, rx2⟩ := Vals.two r1
  cases rx1
  cases rx2
  obtain ⟨i1, rv1, t1, z1⟩ := I1.tuple hqa
  obtain ⟨i2, rv2, t2, z2⟩ := I1.tuple hqb
  have la : a < st.heap.objs.size := by obtain ⟨_, e, _⟩ := t1; exact Heap.lt_size e
  have lb : b < st.heap.objs.size := by obtain ⟨_, e, _⟩ := t2; exact Heap.lt_size e
  refine RZ.call_zipT t1 t2 fun g c1 c2 c3 c4 c5 c6 up => args_nil ?_
  have ap := PySem.W.ktu_apart st.heap.objs.size a b la lb
  obtain ⟨prs, kv, hl, hpr⟩ := zkv_rel X.prog X.w rv1 rv2
  have l1 := rv1.length
  have l2 := rv2.length
  refine PySem.call_dict_pairs (s := { st with heap := g }) (knd := mixKind X.prog X.w) (kvs := prs) (zarg (pr := X.prog) (wd := X.w) _ _ _ _ _ a b ap i1.toArray i2.toArray) (I1.ok.hd hc)
    ⟨c1, c2, ⟨_, _, c3⟩, c4, c5, Heap.IsTuple.at t1 fun o e => up _ o e, Heap.IsTuple.at t2 fun o e => up _ o e⟩ ⟨by simp [hl], fun i x y e => hpr i x y (by simpa using e.1) (by simpa using e.2)⟩ (by simp; omega) fun g2 tk dd up2 => ?_
  have hm : (g.objs.size == sysModules) = false := beq_eq_false_iff_ne.mpr (by rw [c6]; exact Nat.ne_of_gt (Nat.lt_of_lt_of_le I1.big (Nat.le_add_right _ _)))
  have hlen : (mergeK [] (zkv ks ys)).length ≤ sizeLine := by
    have h1 := length_mergeK (zkv ks ys) []
    have h2 : (zkv ks ys).length = prs.length := Paired.length kv
    simp only [List.length_nil] at h1
    omega
  have nw : ObjOk X.prog X.w (upd H1 g.objs.size (.dK (mergeK [] (zkv ks ys)))) g2 g.objs.size (.dK (mergeK [] (zkv ks ys))) := ⟨hlen, hm, merged [] prs, KV.merge kv .nil, dd⟩
  have big : st.heap.objs.size ≤ g.objs.size := by rw [c6]; omega
  refine ⟨.ref g.objs.size, _, I1.laid (t' := tk) (fun c u e => up2 c u ?_ (up c u e)) big nw, rfl, q _ (I1.hok.fresh big)⟩
  have lc : c < st.heap.objs.size := Heap.lt_size e
  simp only [List.mem_cons, List.not_mem_nil, or_false, not_or]
  exact ⟨Nat.ne_of_lt (Nat.lt_of_lt_of_le lc (Nat.le_add_right _ _)), Nat.ne_of_lt (Nat.lt_of_lt_of_le lc (Nat.le_add_right _ _)), Nat.ne_of_lt lc, Nat.ne_of_lt (Nat.lt_of_lt_of_le lc (Nat.le_add_right _ _))⟩
end En
/-! En: dicts that are made -/
namespace En
open PySem L2 PySem.Spec PyProof.Rows
variable [Wd]
section
variable {K : PySem.W.Frag} {F : Hp}
theorem keyEq_str (j k : Str) : keyEq (.str j) (.str k) = decide (j = k) := by simp [keyEq, nk, NestedKey.beq]
theorem dicA_any (k : Str) : ∀ {kvs : List (Key × V)} {ps : List (PyData × PyData)}, DicA K F kvs ps → (kvs.any fun kv => decide (kv.1 = (Sum.inr k : Key))) = ps.any fun p => keyEq p.1 (.str k)
  | _, _, .nil => rfl
  | _, _, .cons (k := j) h t => by
    rw [List.any_cons, List.any_cons, dicA_any k t, keyEq_str]
    congr 1
    simp
theorem dicA_map {v : V} {x : PyData} (k : Str) (q : Dq K F v x) : ∀ {kvs : List (Key × V)} {ps : List (PyData × PyData)}, DicA K F kvs ps →
    DicA K F (kvs.map fun kv => if kv.1 = (Sum.inr k : Key) then (kv.1, v) else kv) (ps.map fun p => if keyEq p.1 (.str k) then (p.1, x) else p)
  | _, _, .nil => .nil
  | _, _, .cons (k := j) h t => by
    rw [List.map_cons, List.map_cons, keyEq_str]
    by_cases e : j = k
    · subst e
      simp only [if_true, decide_true]
      exact .cons q (dicA_map j q t)
    · have e1 : ¬ ((Sum.inr j : Key) = Sum.inr k) := fun z => e (Sum.inr.inj z)
      rw [if_neg e1, if_neg (by simpa using e)]
      exact .cons h (dicA_map k q t)
theorem dicA_app : ∀ {kvs lvs : List (Key × V)} {ps qs : List (PyData × PyData)}, DicA K F kvs ps → DicA K F lvs qs → DicA K F (kvs ++ lvs) (ps ++ qs)
  | _, _, _, _, .nil, g => g
  | _, _, _, _, .cons h t, g => .cons h (dicA_app t g)
theorem dicA_put {v : V} {x : PyData} (k : Str) (q : Dq K F v x) {kvs : List (Key × V)} {ps : List (PyData × PyData)} (d : DicA K F kvs ps) : DicA K F (putK kvs (.inr k) v) (dicPut ps (.str k) x) := by
  unfold putK dicPut
  rw [dicA_any k d]
  split
  · exact dicA_map k q d
  · exact dicA_app d (.cons q .nil)
theorem dicA_zip : ∀ (ks : List Str) {ys : List PyData} {vs : List V} {kvs : List (Key × V)} {ps : List (PyData × PyData)}, DqA K F vs ys → DicA K F kvs ps → DicA K F (mergeK kvs (zkv ks vs)) ((ks.zip ys).foldl (fun m p => dicPut m (.str p.1) p.2) ps)
  | [], _, _, _, _, _, d => d
  | k :: ks, _, _, _, _, .nil, d => d
  | k :: ks, _, _, _, _, .cons h t, d => dicA_zip ks t (dicA_put k h d)
end
section
variable {X : Cx} {ck : Ck} {C : Str → List D → Hs → R D} {k : Nat}
theorem snd_dz {a b : E} (f : Fit X ck C k) (sa : Snd X ck C a) (sb : Snd X ck C b) : Snd X ck C (.dz a b) := by
  refine Snd.val rfl rfl fun x q => ?_
  split at q
  · rename_i x np z np2 u v p1 p2
    simp only [Bool.and_eq_true, decide_eq_true_eq] at q
    obtain ⟨⟨⟨⟨⟨⟨⟨rfl, rfl⟩, q1⟩, q2⟩, q3⟩, q4⟩, q5⟩, q6⟩ := q
    have m1 : X.mg "dict" = none := blt_of f (x := Str.ofString "dict") (by decide +kernel)
    have m2 : X.mg "zip" = none := blt_of f (x := Str.ofString "zip") (by decide +kernel)
    refine both (PE.imp (pe_dz f.calm (f.gl q1) m1 (f.gl q2) m2 (pa_cons (sa.e _ q5) (pa_cons (sb.e _ q6) pa_nil (one_star q4)) (star_cons q3)) (star_cons q3) (by rw [one_star q4]; rfl)) fun τ H Q w => ?_) fun _ => rfl
    unfold tDz
    obtain ⟨F, ρ, σ, h, st, eo, fin⟩ := w
    dsimp only at fin
    refine ⟨F, ρ, σ, h, st, eo, ?_⟩
    cases ea : (sem C a).v σ h with
    | ok x h1 =>
      rw [ea] at fin
      replace fin : Fin X.K F ρ H (((sem C b).v σ h1).bind fun y h2 => zipD x y h2) Q := fin
      intro F1 ρ1 H1 v1 e1 st1 r1
      refine ⟨F1, ρ1, σ, h1, st1, eo.mono e1.toExt, ?_⟩
      cases eb : (sem C b).v σ h1 with
      | ok y h2 =>
        rw [eb] at fin
        replace fin : Fin X.K F ρ H (zipD x y h2) Q := fin
        intro F2 ρ2 H2 v2 e2 st2 r2
        replace fin := Fin.mono (e1.trans e2) fin
        unfold zipD at fin
        split at fin
        · rename_i xs ys h3 h4
          split at fin
          · rename_i ks hk
            split at fin
            · obtain ⟨l, vs, rfl, g1, g2⟩ := vwF_ok (Rep.mono e2.toExt _ _ r1) h3
              obtain ⟨m, ws, rfl, g3, g4⟩ := vwF_ok r2 h4
              have g2 : SqT X.K F2 l vs := by simpa using g2
              have g4 : SqT X.K F2 m ws := by simpa using g4
              have ev := dq_strs g1 hk
              subst ev
              refine ⟨l, m, ks, ws, rfl, sqT_mono st2.same g2, sqT_mono st2.same g4, fun p hp => ?_⟩
              obtain ⟨s3, sm, fp⟩ := st2.new (o := .dK (mergeK [] (zkv ks ws))) hp
              exact fin _ ρ2 _ _ (exh_new hp sm) s3 ⟨p, rfl, _, upd_same, DicA.mono sm (dicA_zip ks g3 .nil)⟩
            · exact fin.elim
          · exact fin.elim
        · exact fin.elim
      | ex _ _ => rw [eb] at fin; exact fin
      | no => rw [eb] at fin; exact fin
    | ex _ _ => rw [ea] at fin; exact fin
    | no => rw [ea] at fin; exact fin
  · cases q
end
end En
/-! En: dict comprehensions, whatever the keys -/
namespace En
open PySem L2 PySem.Spec PyProof.Rows
variable [Wd]

/-- a way to keep a dict: how the empty one stands, what a store makes of it -/
structure DKind where
  O : Addr → HO
  S : V → V → Addr → Hp → (Hp → Prop) → Prop
structure DKind.Ok (d : DKind) (X : Cx) : Prop where
  new : ∀ (H : Hp) (h : Heap), sysModules < h.objs.size → ObjOk X.prog X.w H (h.push { cls := .type "dict", data := .dict #[] }) h.objs.size (d.O h.objs.size)
  set : ∀ (pins : List (Addr × Obj)) (s : Shared) (σ : L2.St) (H : Hp) (y z : V) (u r : Value) (D : Addr) (Q : Hp → Prop) (Ev : Value → Shared → Prop), Inv X pins σ H s → RelV y u → RelV z r → d.S y z D H Q →
    wpAny (model X.prog X.w) X.A (dictSet D u r) (fun _ s' => ∃ H', Inv X pins σ H' s' ∧ Q H') Ev s
def tDcG (d : DKind) (wi : TI) (g : TG) (tt : TT) (tk tv : TE) (vs : List Nat) : TE := fun σ H Q => wi σ H fun J H1 => ∀ p, H1 p = none → ∃ W : Nat → Nat → Hp → Prop, (∃ m, W 0 m (upd H1 p (d.O p))) ∧ ∀ i m H, W i m H →
  (J.stop i H ∧ Q (.ref p) H) ∨ (J.go i H ∧ ∃ Nx : Hp → Prop, (∀ H', Nx H' → ∃ m', m' < m ∧ W (i + 1) m' H') ∧ ∀ x H', J.yld i H x H' → g x (L2.wipe σ vs) H' fun σ2 H2 => L2.wipe σ2 vs = L2.wipe σ vs ∧ tt σ2 H2 fun b H3 =>
    if b = true then tk σ2 H3 fun y H4 => tv σ2 H4 fun z H5 => d.S y z p H5 Nx else Nx H3)
section
variable {X : Cx}
/-- the frame in which a comprehension's block runs -/
abbrev blkE (scope : Scope) (t : Shared) (X : Cx) : PySem.Env := compEnvC scope (cellsFrom (t.heap.objs.size + 1) scope.names (cloFrom X.env.cells scope.names [])) t.heap.objs.size X.env
theorem dcg_loop {d : DKind} {pins : List (Addr × Obj)} {t5 : Shared} {σ : L2.St} {G : Hp} {Q : VK} {kx vx tg iter : Expr} {ifs : List Expr} {scope : Scope} {own : List Nat} {pos : Pos} {g : TG} {tt : TT} {tk tv : TE} {post : Result → Shared → Prop} {t3 : Shared} {ce : PySem.Env} {p it : Addr} {fp : List Addr} {tn : Nat → Heap → Prop} {J : It} {W : Nat → Nat → Hp → Prop} {m0 : Nat}
    (ca : X.calm = true) (ko : d.Ok (X.blk t3 G scope ce fp)) (pg : PG (X.blk t3 G scope ce fp) tg g) (pt : PTs (X.blk t3 G scope ce fp) ifs tt) (pk : PE (X.blk t3 G scope ce fp) kx tk) (pv : PE (X.blk t3 G scope ce fp) vx tv) (T : Turn X.prog X.w X.K tg J fp it tn)
    (turn : ∀ i m H, W i m H → (J.stop i H ∧ Q (.ref p) H) ∨ (J.go i H ∧ ∃ Nx : Hp → Prop, (∀ H', Nx H' → ∃ m', m' < m ∧ W (i + 1) m' H') ∧ ∀ x H', J.yld i H x H' → g x (L2.wipe σ own) H' fun σ2 H2 => L2.wipe σ2 own = L2.wipe σ own ∧ tt σ2 H2 fun b H3 =>
      if b = true then tk σ2 H3 fun y H4 => tv σ2 H4 fun z H5 => d.S y z p H5 Nx else Nx H3))
    (dn : ∀ (t : Shared) (H : Hp), Inv (X.blk t3 G scope ce fp) [] (L2.wipe σ own) H t → Q (.ref p) H → post (.ok .next) t)
    (I5 : Inv (X.blk t3 G scope ce fp) [] (L2.wipe σ own) G t5) (s5 : tn 0 t5.heap) (n5 : ∀ b ∈ fp, G b = none) (w5 : W 0 m0 G) :
    codeAny (model X.prog X.w) X.A (.compLoop (.DictComp kx vx [⟨tg, iter, ifs, 0⟩] scope pos) 0 (.ref it) (.ref p) ce) post t5 := by
  have free : ∀ {σ' : L2.St} {H' : Hp} {t : Shared}, Inv (X.blk t3 G scope ce fp) [] σ' H' t → (∀ b ∈ fp, H' b = none) → ∀ b ∈ fp, FpOk (X.blk t3 G scope ce fp) [] H' b := fun {σ' H' t} I' hn b hb => by
    refine ⟨hn b hb, (I'.ok.exf b hb).1, I'.ok.exfs b hb, .inl hb, (I'.ok.exf b hb).2, fun q hq => ?_⟩
    have hq : q ∈ ([] : List (Addr × Obj)) ++ [] := hq
    simp at hq
  refine compLoop_anyD (fun n t => ∃ i H', Inv (X.blk t3 G scope ce fp) [] (L2.wipe σ own) H' t ∧ tn i t.heap ∧ (∀ b ∈ fp, H' b = none) ∧ W i n H') ?_ m0 ⟨0, G, I5, s5, n5, w5⟩
  rintro n t6 ⟨i, H6, I6, s6, n6, w6⟩
  rcases turn i n H6 w6 with ⟨hstop, hq⟩ | ⟨hgo, Nx, hnx, step⟩
  · refine thnF (T.done (X.blk t3 G scope ce fp) rfl rfl rfl ca i [] t6 _ H6 (fun _ _ => False) I6 (free I6 n6) s6 hstop) ?_
    rintro r t7 ⟨rfl, I7⟩
    exact dn t7 H6 I7 hq
  · refine thnF (T.item (X.blk t3 G scope ce fp) rfl rfl rfl ca i [] t6 _ H6 (fun _ _ => False) I6 (free I6 n6) s6 hgo) ?_
    rintro r t7 ⟨u, rfl, h7⟩
    refine thnF h7 ?_
    rintro _ t8 ⟨x, H8, I8, r8, y8, s8, n8⟩
    refine thnF (pg.run _ t8 _ H8 x u _ (I8.pinned (free I8 n8) (T.obj _ _ s8)) r8 (step x H8 y8)) ?_
    rintro _ t9 ⟨σ9, H9, I9, hw, q9⟩
    refine thnF (pt.run _ t9 σ9 H9 _ I9 q9) ?_
    rintro b t10 ⟨H10, I10, q10⟩
    have back : ∀ {t : Shared} {H' : Hp}, Inv (X.blk t3 G scope ce fp) ([] ++ pinsAt fp t8.heap) σ9 H' t → Nx H' → ∃ m, m < n ∧ ∃ i H', Inv (X.blk t3 G scope ce fp) [] (L2.wipe σ own) H' t ∧ tn i t.heap ∧ (∀ b ∈ fp, H' b = none) ∧ W i m H' := fun {t H'} I' nx => by
      obtain ⟨m', hm, w'⟩ := hnx H' nx
      have keep : ∀ b ∈ fp, ∀ o, t8.heap.get? b = some o → t.heap.get? b = some o ∧ H' b = none := fun b hb o e => by
        have z := I'.pin (b, o) (List.mem_append_right _ (List.mem_append_right _ (mem_pinsAt hb e)))
        exact ⟨z.1, z.2.1⟩
      refine ⟨m', hm, i + 1, H', (I'.unpinned (pins := [])).weak (by rw [← hw, L2.wipe_length]) (fun j v e => ?_), T.keep _ _ _ s8 fun b hb o e => (keep b hb o e).1, fun b hb => ?_, w'⟩
      · rw [← hw] at e
        exact (wipe_some e).1
      · obtain ⟨o, e, _⟩ := T.obj _ _ s8 b hb
        exact (keep b hb o e).2
    cases b with
    | false =>
      simp only [Bool.false_eq_true, if_false] at q10 ⊢
      exact back I10 q10
    | true =>
      simp only [if_true] at q10 ⊢
      refine thnF (pk.run _ t10 σ9 H10 _ I10 q10) ?_
      rintro ku t11 ⟨ky, H11, I11, r11, q11⟩
      refine thnF (pv.run _ t11 σ9 H11 _ I11 q11) ?_
      rintro vu t12 ⟨vy, H12, I12, r12, q12⟩
      refine thn (ko.set _ t12 σ9 H12 ky vy ku vu p Nx _ I12 r11 r12 q12) ?_
      rintro _ t13 ⟨H13, I13, nx⟩
      exact back I13 nx
end
end En
/-! En: dict comprehensions, the rule -/
namespace En
open PySem L2 PySem.Spec PyProof.Rows
variable [Wd]
section
variable {X : Cx}
theorem pe_dcG {d : DKind} {kx vx tg iter : Expr} {ifs : List Expr} {scope : Scope} {own : List (Str × Nat)} {pos : Pos} {wi : TI} {g : TG} {tt : TT} {tk tv : TE} (ca : X.calm = true) (nd : X.N.Nodup) (kx0 : d.Ok X) (ko : ∀ (t : Shared) (H : Hp) (ce : PySem.Env) (fp : List Addr), d.Ok (X.blk t H scope ce fp)) (hi : PI X tg iter wi) (ok : BlkOk X.N X.env.scope scope own)
    (hg : ∀ (t : Shared) (H : Hp) (c : Addr) (cl : List (Str × Addr)) (fp : List Addr), PG (X.blk t H scope (compEnvC scope cl c X.env) fp) tg g) (ht : ∀ (t : Shared) (H : Hp) (c : Addr) (cl : List (Str × Addr)) (fp : List Addr), PTs (X.blk t H scope (compEnvC scope cl c X.env) fp) ifs tt)
    (hk : ∀ (t : Shared) (H : Hp) (c : Addr) (cl : List (Str × Addr)) (fp : List Addr), PE (X.blk t H scope (compEnvC scope cl c X.env) fp) kx tk)
    (hv : ∀ (t : Shared) (H : Hp) (c : Addr) (cl : List (Str × Addr)) (fp : List Addr), PE (X.blk t H scope (compEnvC scope cl c X.env) fp) vx tv) (hs : ∀ y, foldedSetIterable iter X.env y = pure y) :
    PE X (.DictComp kx vx [⟨tg, iter, ifs, 0⟩] scope pos) (tDcG d wi g tt tk tv (own.map (·.2))) := by
  constructor
  intro pins t0 σ H Q I0 h
  rw [arm_eval_DictComp]
  have hfree : ∀ y ∈ scope.names, y.2 = .free → ∃ c, X.env.cells.lookup y.1 = some c := fun y hy e => I0.ok.has _ (ok.free y hy e)
  refine wpAny_comprehension_free (use := none) rfl hs (closure_ok hfree) ok.kind (fun y hy e => by rw [ok.uniq y hy, e]) (thn (hi.run pins t0 σ H _ I0 h) ?_)
  intro xv t1 h1
  refine thn h1 ?_
  rintro itv t2 ⟨it, fp, tn, J, H2, rfl, I2, T, s2, f2, q⟩
  refine wpAny_newObj_type (newEnv_comp ?_)
  obtain ⟨W, ⟨m0, w0⟩, turn⟩ := q t2.heap.objs.size (I2.hok.fresh (Nat.le_refl _))
  have I3 : Inv X pins σ (upd H2 t2.heap.objs.size (d.O t2.heap.objs.size)) { t2 with heap := t2.heap.push { cls := .type "dict", data := .dict #[] } } := I2.laid (t' := t2.toks) (fun b o e => Heap.get?_push_of_some _ e) (Nat.le_refl _) (kx0.new _ t2.heap I2.big)
  have below : ∀ b ∈ fp, b < t2.heap.objs.size := fun b hb => by
    obtain ⟨o, e, _⟩ := T.obj _ _ s2 b hb
    exact Heap.lt_size e
  generalize ht3 : ({ t2 with heap := t2.heap.push { cls := .type "dict", data := .dict #[] } } : Shared) = t3 at I3
  have z3 : t3.heap.objs.size = t2.heap.objs.size + 1 := by rw [← ht3]; exact Heap.size_push ..
  have g3 : ∀ b o, t2.heap.get? b = some o → t3.heap.get? b = some o := fun b o e => by rw [← ht3]; exact Heap.get?_push_of_some _ e
  generalize hp : t2.heap.objs.size = p at *
  generalize hG : upd H2 p (d.O p) = G at *
  have f3 : ∀ b ∈ fp, FpOk X pins G b ∧ b < t3.heap.objs.size := fun b hb => by
    have hlt := below b hb
    refine ⟨⟨?_, (f2 b hb).2⟩, by rw [z3]; exact Nat.lt_succ_of_lt hlt⟩
    rw [← hG, upd_ne (Nat.ne_of_lt hlt)]
    exact (f2 b hb).1
  have I4 := block_start I3 ok nd f3
  have pg := hg t3 G t3.heap.objs.size (cellsFrom (t3.heap.objs.size + 1) scope.names (cloFrom X.env.cells scope.names [])) fp
  have pt := ht t3 G t3.heap.objs.size (cellsFrom (t3.heap.objs.size + 1) scope.names (cloFrom X.env.cells scope.names [])) fp
  have pk := hk t3 G t3.heap.objs.size (cellsFrom (t3.heap.objs.size + 1) scope.names (cloFrom X.env.cells scope.names [])) fp
  have pv := hv t3 G t3.heap.objs.size (cellsFrom (t3.heap.objs.size + 1) scope.names (cloFrom X.env.cells scope.names [])) fp
  show codeAny _ _ (.compStart (.DictComp kx vx [⟨tg, iter, ifs, 0⟩] scope pos) 0 (.ref it) (.ref p) (blkE scope t3 X)) (compPost (model X.prog X.w) X.A X.xe none _ (.ref p) t3.heap.objs.size) { t3 with heap := pushCells (t3.heap.push { cls := .type "dict", data := .dict #[] }) scope.names }
  unfold blkE
  generalize hce : compEnvC scope (cellsFrom (t3.heap.objs.size + 1) scope.names (cloFrom X.env.cells scope.names [])) t3.heap.objs.size X.env = ce at I4 pg pt pk pv ⊢
  have cL : ce.locals = t3.heap.objs.size := by rw [← hce]; rfl
  have k1 := ko t3 G ce fp
  have s4 : tn 0 (pushCells (t3.heap.push { cls := .type "dict", data := .dict #[] }) scope.names) := T.keep _ _ _ s2 fun b _ o e => pushCells_keeps _ _ _ _ (Heap.get?_push_of_some _ (g3 b o e))
  have loop := dcg_loop (X := X) (d := d) (pins := pins) (σ := σ) (G := G) (Q := Q) (kx := kx) (vx := vx) (iter := iter) (pos := pos) (own := own.map (·.2)) (post := compPost (model X.prog X.w) X.A X.xe none (EP X pins σ Q) (.ref p) t3.heap.objs.size) ca k1 pg pt pk pv T turn (fun t5 H5 I5 qq => ?_) I4 s4 (fun b hb => (f3 b hb).1.1) w0
  · exact codeAny_compStart_dict loop (T.self X.A 0 _ _ _ s4 loop)
  · have I6 : Inv X pins σ H5 t5 := I3.call' (ch := fp) I5.os I5.base I5.hok I5.bare fun b hb => ⟨(f3 b hb).1.2.2.2.1, (f3 b hb).1.2.1, (f3 b hb).1.2.2.2.2.1, (f3 b hb).1.2.2.2.2.2⟩
    have nC : H5 t3.heap.objs.size = none := by
      have z : H5 ce.locals = none := I5.free
      rw [cL] at z
      exact z
    obtain ⟨m, hn, _⟩ := I5.loc
    have hn : t5.heap.Ns ce.locals m := hn
    rw [cL] at hn
    obtain ⟨f0, f1, _, f4, f5, f6⟩ := I3.fpOk (H' := H5) (Nat.le_refl _) nC
    exact ⟨m, hn, fun g2 sb => ⟨.ref p, H5, I6.turned (t' := t5.toks) (fun b o hb e => (sb.2 b hb).trans e) f0 f1 f4 f5 f6, rfl, qq⟩⟩
end
end En
/-! En: dict comprehensions, read -/
namespace En
open PySem L2
variable [Wd]

/-- as comp_loop, the thing at p told by P -/
theorem dict_loop {K : PySem.W.Frag} {p : Addr} {P : Hp → HO → List PyData → Prop} (mono : ∀ {F F' : Hp} {o : HO} {l : List PyData}, Same F F' → P F o l → P F' o l) {F1 H1 : Hp} {ρ1 : List Addr} {J : It} {ds : List D} {h1 h2 : Hs} {f : D → Hs → R (Option PyData)} {TP : V → Hp → (Hp → Prop) → Prop} {Fn : Hp → Prop}
    {o0 : HO} {ys : List PyData} (wd : WalkD K F1 ρ1 J ds) (st1 : Stt K F1 ρ1 h1 H1) (hp : H1 p = some o0) (fp : F1 p = none) (np : p ∉ ρ1) (q0 : P F1 o0 []) (hc : compL ρ1.length f ds h1 = .ok ys h2)
    (fin : ∀ (F2 H2 : Hp) (o : HO), Exd p F1 ρ1 H1 F2 ρ1 H2 → Stt K F2 ρ1 h2 H2 → F2 p = none → H2 p = some o → P F2 o ys → Fn H2)
    (turn : ∀ (d : D) (x : V) (F2 H' : Hp) (hh : Hs) (o : HO) (done rest : List PyData) (y : Option PyData) (h3 : Hs) (Nx : Hp → Prop), f d hh = .ok y h3 → Exd p F1 ρ1 H1 F2 ρ1 H' → Stt K F2 ρ1 hh H' → Rep K F2 ρ1 d x → F2 p = none →
      H' p = some o → P F2 o done → done ++ y.toList ++ rest = ys →
      (∀ (F4 H4 : Hp) (o' : HO), Exd p F1 ρ1 H1 F4 ρ1 H4 → Stt K F4 ρ1 (h3.take ρ1.length) H4 → F4 p = none → H4 p = some o' → P F4 o' (done ++ y.toList) → Nx H4) → TP x H' Nx) :
    ∃ W : Nat → Nat → Hp → Prop, (∃ m, W 0 m H1) ∧ ∀ i m H, W i m H → (J.stop i H ∧ Fn H) ∨ (J.go i H ∧ ∃ Nx : Hp → Prop, (∀ H', Nx H' → ∃ m', m' < m ∧ W (i + 1) m' H') ∧ ∀ x H', J.yld i H x H' → TP x H' Nx) := by
  refine ⟨fun i m H => m = ds.length - i ∧ i ≤ ds.length ∧ ∃ (F2 : Hp) (hh : Hs) (o : HO) (done rest : List PyData), Exd p F1 ρ1 H1 F2 ρ1 H ∧ Stt K F2 ρ1 hh H ∧ F2 p = none ∧ H p = some o ∧ P F2 o done ∧
    compL ρ1.length f (ds.drop i) hh = .ok rest h2 ∧ done ++ rest = ys, ⟨ds.length, by simp, Nat.zero_le _, F1, h1, o0, [], ys, Exd.refl F1 ρ1 H1, st1, fp, hp, q0, by rw [List.drop_zero]; exact hc, rfl⟩, ?_⟩
  rintro i m H ⟨rfl, hi, F2, hh, o, done, rest, ex, st, f2, hH, q, hcl, hd⟩
  have sF : Same F1 H := ex.f.trans st.same
  by_cases hlt : i < ds.length
  · refine .inr ⟨wd.goes i H hlt sF, fun H' => ds.length - (i + 1) = ds.length - (i + 1) ∧ i + 1 ≤ ds.length ∧ ∃ (F2 : Hp) (hh : Hs) (o : HO) (done rest : List PyData), Exd p F1 ρ1 H1 F2 ρ1 H' ∧ Stt K F2 ρ1 hh H' ∧ F2 p = none ∧ H' p = some o ∧ P F2 o done ∧
      compL ρ1.length f (ds.drop (i + 1)) hh = .ok rest h2 ∧ done ++ rest = ys, fun H' w => ⟨ds.length - (i + 1), by omega, w⟩, fun x H' y => ?_⟩
    have hdi : ds[i]? = some ds[i] := List.getElem?_eq_getElem hlt
    obtain ⟨F3, e3, st3, r3⟩ := wd.next ex.toExt st hdi y
    rw [List.drop_eq_getElem_cons hlt] at hcl
    unfold compL at hcl
    obtain ⟨yo, h3, ef, hcl⟩ := bind_ok hcl
    obtain ⟨zs, h4, ec, hcl⟩ := bind_ok hcl
    cases hcl
    have hH' : H' p = some o := e3.k p _ hH np
    have ex' : Exd p F1 ρ1 H1 F3 ρ1 H' := Exd.trans hH ex e3.exd ⟨_, hp⟩
    have hd' : done ++ yo.toList ++ zs = ys := by rw [← hd, List.append_assoc]
    exact turn ds[i] x F3 H' hh o done zs yo h3 _ ef ex' st3 r3 (e3.m p _ hH np f2) hH' (mono e3.f q) hd' fun F4 H4 o' a1 a2 a3 a4 a5 => ⟨rfl, hlt, F4, _, o', _, zs, a1, a2, a3, a4, a5, ec, hd'⟩
  · have e : i = ds.length := by omega
    subst e
    rw [List.drop_length] at hcl
    unfold compL at hcl
    cases hcl
    rw [List.append_nil] at hd
    subst hd
    exact .inl ⟨wd.stops H sF, fin F2 H o ex st f2 hH q⟩
/-- what a kind of dict is worth: P tells what its pairs are -/
structure DKind.Tell (d : DKind) (K : PySem.W.Frag) (good : PyData → Bool) (P : Addr → Hp → HO → List PyData → Prop) : Prop where
  mono : ∀ {p : Addr} {F F' : Hp} {o : HO} {l : List PyData}, Same F F' → P p F o l → P p F' o l
  nil : ∀ (p : Addr) (F : Hp), P p F (d.O p) []
  put : ∀ {p : Addr} {F H : Hp} {ρ : List Addr} {h : Hs} {o : HO} {done : List PyData} {y z : V} {a x : PyData} {N : Hp → Prop}, Stt K F ρ h H → F p = none → H p = some o → P p F o done → Dq K F y a → Dq K F z x → good (.tuple [a, x]) = true → done.length < 100000 →
    (∀ o', P p F o' (done ++ [.tuple [a, x]]) → N (upd H p o')) → d.S y z p H N
theorem pair_inv {kx vx : D} {h h' : Hs} {o : Option PyData} (e : pairR kx vx h = .ok o h') : ∃ a b, kx = .d a ∧ vx = .d b ∧ o = some (.tuple [a, b]) ∧ h' = h := by
  unfold pairR at e
  cases kx with
  | d a =>
    cases vx with
    | d b =>
      have e : R.ok (some (PyData.tuple [a, b])) h = .ok o h' := e
      cases e
      exact ⟨a, b, rfl, rfl, rfl, rfl⟩
    | _ => cases e
  | _ => cases vx <;> cases e
theorem dc_read {K : PySem.W.Frag} {d : DKind} {good : PyData → Bool} {P : Addr → Hp → HO → List PyData → Prop} (tl : d.Tell K good P) {mi : Env → Hs → R (List D)} {own : List Nat} {t : Tg} {ifs : Sm} {mk mv : Env → Hs → R D} (hown : ∀ i ∈ slots t, i ∈ own) {τ : St} {F H : Hp} {ρ : List Addr} {σ : Env} {h h1 h2 : Hs} {ds : List D} {ys : List PyData} {Q : VK}
    (st : Stt K F ρ h H) (eo : EnvOk K F ρ σ τ) (ei : mi σ h = .ok ds h1) (ec : compL h1.length (turn own t ifs (fun σ2 h3 => (mk σ2 h3).bind fun kx h4 => (mv σ2 h4).bind fun vx h5 => pairR kx vx h5) σ) ds h1 = .ok ys h2) (hg : ys.all good = true) (hl : ys.length ≤ 100000)
    (fin : ∀ (F2 : Hp) (ρ2 : List Addr) (H2 : Hp) (p : Addr) (o : HO), Exh F ρ H F2 ρ2 H2 → Stt K F2 ρ2 h2 H2 → H p = none → p ∉ ρ2 → F2 p = none → H2 p = some o → P p F2 o ys → Q (.ref p) H2) :
    tDcG d (rI K mi) (gT K t) (rT K ifs.ts) (rV K mk) (rV K mv) own τ H Q := by
  refine ⟨F, ρ, σ, h, st, eo, ?_⟩
  rw [ei]
  intro F1 ρ1 H1 J e1 st1 wd p hp
  have np : p ∉ ρ1 := fun hm => by
    obtain ⟨n, hn⟩ := List.getElem?_of_mem hm
    have hl : n < h1.length := by rw [← st1.len]; exact (List.getElem?_eq_some_iff.mp hn).1
    obtain ⟨_, u, hu⟩ := st1.cell n p _ hn (List.getElem?_eq_getElem hl)
    rw [hp] at hu; cases hu
  have fp : F1 p = none := by
    cases z : F1 p with
    | none => rfl
    | some u =>
      have := st1.same p u z
      rw [hp] at this; cases this
  have hp0 : H p = none := by
    cases z : H p with
    | none => rfl
    | some o =>
      by_cases hm : p ∈ ρ
      · exact absurd (e1.r.subset hm) np
      · have := e1.k p o z hm
        rw [hp] at this; cases this
  have hp1 : ∃ u, upd H1 p (d.O p) p = some u := ⟨_, upd_same⟩
  refine dict_loop (P := P p) tl.mono wd (st1.more hp) upd_same fp np (tl.nil p F1) (by rw [st1.len]; exact ec) (fun F2 H2 o x2 st2 f2 hH2 q2 => ?_) fun dd x F2 H' hh o done rest y h3 Nx ef ex st2 r f2 hH q hall nx => ?_
  · exact fin F2 ρ1 H2 p o (e1.trans (exd_exh (H2 := H2) (u := d.O p) hp x2)) st2 hp0 np f2 hH2 q2
  · obtain ⟨σ2, b, h4, a1, a2, a3⟩ := turn_inv ef
    refine ⟨F2, ρ1, wipeE σ own, hh, dd, σ2, st2, ((eo.mono e1.toExt).mono ex.toExt).wipe own, r, a1, fun τ2 eo2 hw => ⟨(hw own hown).trans (wipe_idem τ own), F2, ρ1, σ2, hh, st2, eo2, ?_⟩⟩
    rw [a2]
    intro F4 ρ4 H4 x4 st4
    have hH4 : H4 p = some o := x4.k p _ hH np
    have f4 : F4 p = none := x4.m p _ hH np f2
    have np4 : p ∉ ρ4 := fun z => by
      rcases x4.n p z with z | z
      · exact np z
      · rw [hH] at z; cases z
    have back : ∀ {F5 H5 : Hp} {ρ5 : List Addr} {h5 : Hs}, Exh F2 ρ1 H' F5 ρ5 H5 → Stt K F5 ρ5 h5 H5 → Stt K F5 ρ1 (h5.take ρ1.length) H5 ∧ Exd p F1 ρ1 (upd H1 p (d.O p)) F5 ρ1 H5 := fun {F5 H5 ρ5 h5} x5 st5 => by
      have c := st5.cut ρ1.length
      rw [take_pre x5.r] at c
      refine ⟨c, Exd.trans hH ex ?_ hp1⟩
      exact ⟨⟨x5.f, List.prefix_refl ρ1⟩, fun b o _ e hb => x5.k b o e hb, fun _ e => .inl e, fun b o _ e hb f => x5.m b o e hb f⟩
    cases b with
    | false =>
      obtain ⟨rfl, rfl⟩ : y = none ∧ h3 = h4 := by simpa using a3
      simp only [Bool.false_eq_true, if_false]
      obtain ⟨c1, c2⟩ := back x4 st4
      exact nx F4 H4 o c2 c1 f4 hH4 (by simpa using tl.mono x4.f q)
    | true =>
      simp only [if_true] at a3 ⊢
      obtain ⟨kx, h5, b1, b2⟩ := bind_ok a3
      obtain ⟨vx, h6, b3, b4⟩ := bind_ok b2
      obtain ⟨ka, va, rfl, rfl, rfl, rfl⟩ := pair_inv b4
      refine ⟨F4, ρ4, σ2, h4, st4, eo2.mono x4.toExt, ?_⟩
      rw [b1]
      intro F5 ρ5 H5 ky x5 st5 r5
      refine ⟨F5, ρ5, σ2, h5, st5, (eo2.mono x4.toExt).mono x5.toExt, ?_⟩
      rw [b3]
      intro F6 ρ6 H6 vy x6 st6 r6
      have x46 := (x4.trans x5).trans x6
      have hH5 : H5 p = some o := x5.k p _ hH4 np4
      have np5 : p ∉ ρ5 := fun z => by
        rcases x5.n p z with z | z
        · exact np4 z
        · rw [hH4] at z; cases z
      have hH6 : H6 p = some o := x6.k p _ hH5 np5
      have f6 : F6 p = none := x6.m p _ hH5 np5 (x5.m p _ hH4 np4 f4)
      obtain ⟨c1, c2⟩ := back x46 st6
      have hgood : good (.tuple [ka, va]) = true := List.all_eq_true.mp hg _ (by rw [← hall]; simp)
      have hlen : done.length < 100000 := by
        have := congrArg List.length hall
        simp at this
        omega
      exact tl.put c1 f6 hH6 (tl.mono x46.f q) (Dq.mono x6.f _ _ r5) r6 hgood hlen fun o' q' => nx F6 _ o' (Exd.trans hH6 c2 exd_put hp1) (c1.off f6 np) f6 upd_same (by simpa using q')
end En
/-! En: the two kinds of dicts; all expressions -/
namespace En
open PySem L2
variable [Wd]
def txtK : DKind := ⟨fun _ => .dK [], fun y z p H Q => ∃ kvs k, y = kV k ∧ H p = some (.dK kvs) ∧ kvs.length < sizeLine ∧ Q (upd H p (.dK (putK kvs k z)))⟩
def tupK (K : PySem.W.Frag) : DKind := ⟨fun p => .ext (kdx [] p), fun y z p H Q => ∃ (F : Hp) (xs : List (NestedKey × Addr × Value)) (ps : List (PyData × PyData)) (a : PyData) (k : NestedKey) (b : Addr), Same F H ∧ H p = some (.ext (kdx xs p)) ∧ DicT K F xs ps ∧ y = .ref b ∧ Dq K F y a ∧ tupKey a = true ∧ nk a = some k ∧ xs.length < 100000 ∧
  ∀ r, RelV z r → Q (upd H p (.ext (kdx (storedH xs k b r) p)))⟩
theorem txt_ok {X : Cx} : txtK.Ok X where
  new := fun H h hb => dk_empty h hb
  set := by
    intro pins s σ H y z u r D Q Ev I ry rz q
    obtain ⟨kvs, k, rfl, h1, h2, q⟩ := q
    exact d_dictSet I h1 h2 ry rz fun s' I' => ⟨_, I', q⟩
theorem kdx_stay {xs : List (NestedKey × Addr × Value)} {a : Addr} {h1 h2 : Heap} (e : kdx xs a h1) (k : ∀ o, h1.get? a = some o → h2.get? a = some o) : kdx xs a h2 := by
  obtain ⟨o, es, ep, e1, e2⟩ := e
  exact ⟨o, es, ep, k o e1, e2⟩
theorem kdx_is {P : Program} {w : World} (hw : w = Wd.w) {xs : List (NestedKey × Addr × Value)} {a : Addr} {h : Heap} (e : h.DictOfH (nestedKind P w) a xs) : kdx xs a h := by
  obtain ⟨o, es, ep, e1, e2, e3, e4, _, e6⟩ := e
  refine ⟨o, es, ep, e1, e2, e3, ?_, e6⟩
  rw [e4]
  unfold entryOfKey nestedKind
  rw [hw]
theorem ext_ok {P : Program} {w : World} (hw : w = Wd.w) {H : Hp} {xs : List (NestedKey × Addr × Value)} {a : Addr} {h : Heap} (e : h.DictOfH (nestedKind P w) a xs) : ObjOk P w H h a (.ext (kdx xs a)) := by
  have k := kdx_is hw e
  obtain ⟨o, _, _, e1, _⟩ := id k
  exact ⟨k, ⟨o, e1⟩, fun h1 h2 e k => kdx_stay e k⟩
theorem tup_ok {X : Cx} (hw : X.w = Wd.w) (hu : X.A.units + 100 < cLine) : (tupK X.K).Ok X where
  new := fun H h hb => ext_ok hw (Heap.DictOfH.new h)
  set := by
    intro pins s σ H y z u r D Q Ev I ry rz q
    obtain ⟨F, xs, ps, a, k, b, sm, h1, h2, rfl, h3, h4, h5, h6, q⟩ := q
    obtain rfl : u = Value.ref b := ry
    obtain ⟨ks, e1, e2⟩ := tupKey_of h4
    rw [h5] at e1
    cases e1
    have hz : sizeLine = 16777216 := sizeLine_eq
    refine wpAny_dictSet_heap (knd := nestedKind X.prog X.w) (hsz := by omega) (show X.A.units + 8 < cLine by omega) ⟨nk_is I sm _ _ _ _ h3 rfl h5, e2⟩ (kdx_of hw I sm h1 h2) fun g dd sb => ⟨_, ?_, q r rz⟩
    have he : ∃ o, g.get? D = some o := let ⟨o, _, _, e, _⟩ := dd; ⟨o, e⟩
    exact d_write I (by rw [h1]; exact True.intro) sb he (ext_ok hw dd)
theorem length_dicPut (m : List (PyData × PyData)) (a x : PyData) : (dicPut m a x).length ≤ m.length + 1 := by
  unfold dicPut
  split <;> simp
theorem foldl_snoc (done : List PyData) (y : PyData) : (done ++ [y]).foldl dcPut [] = dcPut (done.foldl dcPut []) y := by
  rw [List.foldl_append]; rfl
theorem DicA.len {K : PySem.W.Frag} {F : Hp} : ∀ {kvs : List (Key × V)} {ps : List (PyData × PyData)}, DicA K F kvs ps → kvs.length = ps.length
  | _, _, .nil => rfl
  | _, _, .cons _ t => congrArg (· + 1) t.len
theorem DicT.len {K : PySem.W.Frag} {F : Hp} : ∀ {kvs : List (NestedKey × Addr × Value)} {ps : List (PyData × PyData)}, DicT K F kvs ps → kvs.length = ps.length
  | _, _, .nil => rfl
  | _, _, .cons _ _ _ _ _ t => congrArg (· + 1) t.len
theorem fold_len : ∀ (l : List PyData) (m : List (PyData × PyData)), (l.foldl dcPut m).length ≤ m.length + l.length
  | [], m => by simp
  | y :: l, m => by
    rw [List.foldl_cons]
    refine Nat.le_trans (fold_len l _) ?_
    have h1 : (dcPut m y).length ≤ m.length + 1 := by
      unfold dcPut
      split
      · exact length_dicPut _ _ _
      · omega
    simp only [List.length_cons]
    omega
theorem txt_tell {K : PySem.W.Frag} : txtK.Tell K strP (fun _ F o l => ∃ kvs, o = .dK kvs ∧ DicA K F kvs (l.foldl dcPut [])) where
  mono := by
    rintro p F F' o l s ⟨kvs, e, d⟩
    exact ⟨kvs, e, d.mono s⟩
  nil := fun p F => ⟨[], rfl, .nil⟩
  put := by
    rintro p F H ρ h o done y z a x N st f hH ⟨kvs, rfl, d⟩ q1 q2 hg hl nx
    cases a with
    | str k =>
      cases q1
      have h1 := d.len
      have h2 := fold_len done []
      have hz : sizeLine = 16777216 := sizeLine_eq
      refine ⟨kvs, .inr k, rfl, hH, by simp at h2; omega, nx _ ⟨_, rfl, ?_⟩⟩
      rw [foldl_snoc]
      exact dicA_put k q2 d
    | _ => cases hg
section
variable {K : PySem.W.Frag} {F : Hp} {a : PyData} {k : NestedKey} (ha : nk a = some k)
include ha
theorem dicT_any : ∀ {xs : List (NestedKey × Addr × Value)} {ps : List (PyData × PyData)}, DicT K F xs ps → (ps.any fun p => keyEq p.1 a) = (atKey xs k).isSome
  | _, _, .nil => rfl
  | _, _, .cons (k := k') h1 h2 h3 h4 h5 t => by
    rw [List.any_cons, dicT_any t, keyEq_of h1 ha]
    unfold atKey
    rw [List.find?_cons]
    by_cases e : k' = k
    · simp [e]
    · simp [e]
theorem dicT_map {z : V} {r : Value} {x : PyData} (rz : RelV z r) (q : Dq K F z x) : ∀ {xs : List (NestedKey × Addr × Value)} {ps : List (PyData × PyData)}, DicT K F xs ps → DicT K F (xs.map (putAt k r)) (ps.map fun p => if keyEq p.1 a then (p.1, x) else p)
  | _, _, .nil => .nil
  | _, _, .cons (k := k') h1 h2 h3 h4 h5 t => by
    rw [List.map_cons, List.map_cons, keyEq_of h1 ha]
    unfold putAt
    by_cases e : k' = k
    · rw [if_pos e, if_pos (by simpa using e)]
      exact .cons h1 h2 h3 rz q (dicT_map rz q t)
    · rw [if_neg e, if_neg (by simpa using e)]
      exact .cons h1 h2 h3 h4 h5 (dicT_map rz q t)
theorem dicT_put {b : Addr} {z : V} {r : Value} {x : PyData} (hk : tupKey a = true) (qa : Dq K F (.ref b) a) (rz : RelV z r) (q : Dq K F z x) {xs : List (NestedKey × Addr × Value)} {ps : List (PyData × PyData)} (d : DicT K F xs ps) : DicT K F (storedH xs k b r) (dicPut ps a x) := by
  have app : ∀ {xs ys : List (NestedKey × Addr × Value)} {ps qs : List (PyData × PyData)}, DicT K F xs ps → DicT K F ys qs → DicT K F (xs ++ ys) (ps ++ qs) := by
    intro xs ys ps qs h g
    induction h with
    | nil => exact g
    | cons h1 h2 h3 h4 h5 t ih => exact .cons h1 h2 h3 h4 h5 ih
  unfold storedH dicPut
  rw [dicT_any ha d]
  split
  · exact dicT_map ha rz q d
  · exact app d (.cons ha hk qa rz q .nil)
end
theorem tup_tell {K : PySem.W.Frag} : (tupK K).Tell K tupP (fun p F o l => ∃ xs, o = .ext (kdx xs p) ∧ DicT K F xs (l.foldl dcPut [])) where
  mono := by
    rintro p F F' o l s ⟨kvs, e, d⟩
    exact ⟨kvs, e, d.mono s⟩
  nil := fun p F => ⟨[], rfl, .nil⟩
  put := by
    rintro p F H ρ h o done y z a x N st f hH ⟨xs, rfl, d⟩ q1 q2 hg hl nx
    have hk : tupKey a = true := hg
    obtain ⟨ks, e1, e2⟩ := tupKey_of hk
    have ny : ∃ b, y = .ref b := by
      cases q1 with
      | tup h1 h2 => exact ⟨_, rfl⟩
      | lst h1 h2 => exact ⟨_, rfl⟩
      | _ => first | (cases e1) | skip
    obtain ⟨b, rfl⟩ := ny
    have h1 := d.len
    have h2 := fold_len done []
    refine ⟨F, xs, _, a, _, b, st.same, hH, d, rfl, q1, hk, e1, by simp at h2; omega, fun r rz => nx _ ⟨_, rfl, ?_⟩⟩
    rw [foldl_snoc]
    exact dicT_put e1 hk q1 rz q2 d
section
variable {X : Cx} {ck : Ck} {C : Str → List D → Hs → R D} {k : Nat}
theorem snd_dc {own : List Nat} {t : Tg} {it ifs kk vv : E} (f : Fit X ck C k) (hi : All C k it) (hf : All C k ifs) (hk : All C k kk) (hv : All C k vv) : Snd X ck C (.dc own t it ifs kk vv) := by
  refine Snd.val rfl rfl fun x q => ?_
  split at q
  · rename_i x y tg iter is scope p
    simp only [Bool.and_eq_true, decide_eq_true_eq] at q
    obtain ⟨⟨⟨⟨⟨⟨⟨⟨q1, q2⟩, q3⟩, q4⟩, q5⟩, q6⟩, q7⟩, q8⟩, q9⟩ := q
    have rule : ∀ {d : DKind} (k0 : d.Ok X) (k1 : ∀ (t : Shared) (H : Hp) (ce : PySem.Env) (fp : List Addr), d.Ok (X.blk t H scope ce fp)), PE X (.DictComp x y [⟨tg, iter, is, 0⟩] scope p) (tDcG d (rI X.K (sem C it).it) (gT X.K t) (rT X.K (sem C ifs).ts) (rV X.K (sem C kk).v) (rV X.K (sem C vv).v) own) := fun {d} k0 k1 => by
      have pe := pe_dcG (pos := p) (d := d) (tt := rT X.K (sem C ifs).ts) (tk := rV X.K (sem C kk).v) (tv := rV X.K (sem C vv).v) f.calm f.nd k0 k1 ((hi X ck f).i tg iter q2 q1) (blk_own f q3) (fun s H Ca cl fp => pg_blk f q4 s H Ca cl fp) (fun s H Ca cl fp => (hf _ _ (f.blk s H scope cl Ca fp)).ts is q6 q5)
        (fun s H Ca cl fp => (hk _ _ (f.blk s H scope cl Ca fp)).e x q7) (fun s H Ca cl fp => (hv _ _ (f.blk s H scope cl Ca fp)).e y q8) (fun y => fset_ok q2 _ y)
      rw [own_snd] at pe
      exact pe
    refine both (PE.imp (PE.or (rule txt_ok fun _ _ _ _ => txt_ok) (rule (tup_ok f.wd f.units) fun t H ce fp => tup_ok (X := X.blk t H scope ce fp) f.wd f.units)) fun τ H Q w => ?_) fun _ => rfl
    obtain ⟨F, ρ, σ, h, st, eo, fin⟩ := w
    dsimp only at fin
    cases ei : (sem C it).it σ h with
    | ok ds h1 =>
      rw [ei] at fin
      replace fin : Fin X.K F ρ H ((compL h1.length (turn own t (sem C ifs) (fun σ2 h3 => ((sem C kk).v σ2 h3).bind fun kx h4 => ((sem C vv).v σ2 h4).bind fun vx h5 => pairR kx vx h5) σ) ds h1).bind dcR) Q := fin
      cases ec : compL h1.length (turn own t (sem C ifs) (fun σ2 h3 => ((sem C kk).v σ2 h3).bind fun kx h4 => ((sem C vv).v σ2 h4).bind fun vx h5 => pairR kx vx h5) σ) ds h1 with
      | ok ys h2 =>
        rw [ec] at fin
        replace fin : Fin X.K F ρ H (dcR ys h2) Q := fin
        unfold dcR at fin
        split at fin
        · rename_i hl
          split at fin
          · rename_i hg
            refine .inl (dc_read txt_tell (sub_of q9) st eo ei ec hg hl fun F2 ρ2 H2 p o e2 st2 hp0 np f2 hH2 q2 => ?_)
            obtain ⟨kvs, rfl, d⟩ := q2
            obtain ⟨s3, sm⟩ := st2.adoptF f2 np hH2
            refine fin _ ρ2 H2 _ ⟨⟨e2.f.trans sm, e2.r⟩, e2.k, e2.n, fun b o e hb ff => ?_⟩ s3 ⟨p, rfl, kvs, upd_same, d.mono sm⟩
            rw [upd_ne (ne_of_none e hp0)]
            exact e2.m b o e hb ff
          · split at fin
            · rename_i hg
              refine .inr (dc_read tup_tell (sub_of q9) st eo ei ec hg hl fun F2 ρ2 H2 p o e2 st2 hp0 np f2 hH2 q2 => ?_)
              obtain ⟨xs, rfl, d⟩ := q2
              obtain ⟨s3, sm⟩ := st2.adoptF f2 np hH2
              refine fin _ ρ2 H2 _ ⟨⟨e2.f.trans sm, e2.r⟩, e2.k, e2.n, fun b o e hb ff => ?_⟩ s3 ⟨p, rfl, xs, upd_same, d.mono sm⟩
              rw [upd_ne (ne_of_none e hp0)]
              exact e2.m b o e hb ff
            · exact fin.elim
        · exact fin.elim
      | ex _ _ => rw [ec] at fin; exact fin.elim
      | no => rw [ec] at fin; exact fin.elim
    | ex _ _ => rw [ei] at fin; exact fin.elim
    | no => rw [ei] at fin; exact fin.elim
  · cases q
/-- every expression keeps to the evaluator -/
theorem all_E (C : Str → List D → Hs → R D) (k : Nat) (e : E) : All C k e := by
  induction e with
  | nil => exact fun X ck f => snd_nil
  | cons a r ha hr => exact fun X ck f => snd_cons (ha X ck f) (hr X ck f)
  | star a r ha hr => exact fun X ck f => snd_star (ha X ck f) (hr X ck f)
  | fz a ha => exact fun X ck f => snd_fz (ha X ck f)
  | var i => exact fun X ck f => snd_var f
  | glo x v => exact fun X ck f => snd_glo f
  | cst v => exact fun X ck f => snd_cst
  | bin o m a b ha hb => exact fun X ck f => snd_bin (ha X ck f) (hb X ck f)
  | neg a ha => exact fun X ck f => snd_neg (ha X ck f)
  | cmp o a b ha hb => exact fun X ck f => snd_cmp f (ha X ck f) (hb X ck f)
  | chn o p a b c ha hb hc => exact fun X ck f => snd_chn f (ha X ck f) (hb X ck f) (hc X ck f)
  | bop o es he => exact fun X ck f => snd_bop (he X ck f)
  | not a ha => exact fun X ck f => snd_not (ha X ck f)
  | ife c a b hc ha hb => exact fun X ck f => snd_ife (hc X ck f) (ha X ck f) (hb X ck f)
  | tup es he => exact fun X ck f => snd_tup (he X ck f)
  | lst m es he => exact fun X ck f => snd_lst (he X ck f)
  | ix a i ha hi => exact fun X ck f => snd_ix f (ha X ck f) (hi X ck f)
  | sl a lo hi ha hl hh => exact fun X ck f => snd_sl (ha X ck f) (hl X ck f) (hh X ck f)
  | call g es he => exact fun X ck f => snd_call f (he X ck f)
  | bi b m es he => exact fun X ck f => snd_bi f (he X ck f)
  | isi a ts t ha => exact fun X ck f => snd_isi f (ha X ck f)
  | mth m o es ho he => exact fun X ck f => snd_mth (ho X ck f) (he X ck f)
  | dz a b ha hb => exact fun X ck f => snd_dz f (ha X ck f) (hb X ck f)
  | lc m own tg it ifs elt hi hf he => exact fun X ck f => snd_lc f hi hf he
  | lc2 own vs1 tg it ifs tg1 it1 ifs1 elt hi hf hi1 hf1 he => exact fun X ck f => snd_lc2 f hi hf hi1 hf1 he
  | dc own tg it ifs kk vv hi hf hk hv => exact fun X ck f => snd_dc f hi hf hk hv
  | enu a ha => exact fun X ck f => snd_enu f (ha X ck f)
  | zip a b ha hb => exact fun X ck f => snd_zip f (ha X ck f) (hb X ck f)
  | rng a ha => exact fun X ck f => snd_rng f (ha X ck f)
end
end En
/-! En: defs -/
namespace En
open PySem L2
variable [Wd]
section
variable {K : PySem.W.Frag} {F H : Hp} {ρ : List Addr}
theorem start_ok {fn : Fn} {N : List Str} {ds : List D} {vs : List V} (r : RepL K F ρ ds vs) (hn : N.length = fn.nn) : EnvOk K F ρ (startE fn ds) (L2.start N vs) := by
  have hl := r.len
  refine ⟨by simp [startE, L2.start, hl, hn], fun i x e => ?_⟩
  unfold startE at e
  unfold L2.start
  by_cases hi : i < ds.length
  · rw [List.getElem?_append_left (by simpa using hi), List.getElem?_map] at e
    obtain ⟨y, e1, e2⟩ := Option.map_eq_some_iff.mp e
    cases e2
    obtain ⟨v, e3, e4⟩ := r.get e1
    refine ⟨v, ?_, e4⟩
    rw [List.getElem?_append_left (by simp; omega), List.getElem?_map, e3]
    rfl
  · rw [List.getElem?_append_right (by simp; omega)] at e
    obtain ⟨_, e⟩ := List.getElem?_eq_some_iff.mp e
    simp at e
theorem exh_back {F' H' : Hp} {ρ' : List Addr} (x : Exh F ρ H F' ρ' H') : Exh F ρ H F' ρ H' := ⟨⟨x.f, List.prefix_refl ρ⟩, x.k, fun _ e => .inl e, x.m⟩
theorem leave_ok {frz : Bool} {h h1 : Hs} {x : D} {v : V} {F' H' : Hp} {ρ' : List Addr} {Q : VK} (st : Stt K F ρ h H) (e1 : Exh F ρ H F' ρ' H') (st1 : Stt K F' ρ' h1 H') (r : Rep K F' ρ' x v) (fin : Fin K F ρ H (leave frz h.length x h1) Q) : Q v H' := by
  have cut := st1.cut h.length
  have tk : ρ'.take h.length = ρ := by rw [← st.len]; exact take_pre e1.r
  rw [tk] at cut
  have bk := exh_back e1
  unfold leave at fin
  split at fin
  · rename_i m
    obtain ⟨a, q1, rfl⟩ := r
    split at fin
    · rename_i hm
      refine fin F' ρ H' _ bk cut ⟨a, ?_, rfl⟩
      rw [← tk, List.getElem?_take_of_lt hm]
      exact q1
    · rename_i hm
      split at fin
      · rename_i xs hx
        cases frz with
        | true =>
          obtain ⟨F2, sm, off, st2, dq⟩ := st1.freeze q1 hx
          have c2 := st2.cut h.length
          rw [tk, List.take_set_of_le (by omega)] at c2
          refine fin F2 ρ H' _ ⟨⟨bk.f.trans sm, bk.r⟩, bk.k, bk.n, fun b o e hb f => ?_⟩ c2 dq
          refine off b (fun z => ?_) (bk.m b o e hb f)
          subst z
          rcases e1.n b (List.mem_of_getElem? q1) with z | z
          · exact hb z
          · rw [e] at z; cases z
        | false =>
          simp only [Bool.false_eq_true, if_false] at fin
          have hln : (h1.take h.length).length = ρ.length := by rw [← cut.len]
          have np : a ∉ ρ := fun hm2 => by
            obtain ⟨n, hn⟩ := List.getElem?_of_mem hm2
            have hlt := (List.getElem?_eq_some_iff.mp hn).1
            have hn' : ρ'[n]? = some a := e1.toExt.get hn
            have := nodup_at st1.nd hn' q1
            rw [st.len] at hlt
            omega
          obtain ⟨⟨f0, vs, k1, k2⟩, _⟩ := st1.cell m a _ q1 hx
          refine fin F' (ρ ++ [a]) H' _ ⟨⟨bk.f, List.prefix_append _ _⟩, bk.k, fun b hb => ?_, bk.m⟩ (cut.adoptC f0 np k1 k2) ⟨a, ?_, rfl⟩
          · rcases List.mem_append.mp hb with z | z
            · exact .inl z
            · rw [List.mem_singleton] at z
              subst z
              rcases e1.n b (List.mem_of_getElem? q1) with z | z
              · exact absurd z np
              · exact .inr z
          · rw [hln, List.getElem?_append_right (Nat.le_refl _), Nat.sub_self]
            rfl
      · exact fin.elim
  · exact fin.elim
  · rename_i hc hm
    refine fin F' ρ H' v bk cut ?_
    cases x with
    | cel n => exact absurd rfl (hc n)
    | mix ds => exact absurd rfl (hm ds)
    | d x => exact r
    | ty n => exact r
    | scr ns => exact r
    | dic ps => exact r
    | dit ps => exact r
theorem run_body {C : Str → List D → Hs → R D} {fn : Fn} {N : List Str} {h : Hs} {ds : List D} {vs : List V} {Q : VK} (hn : N.length = fn.nn) (st : Stt K F ρ h H) (r : RepL K F ρ ds vs) (fin : Fin K F ρ H (runF C fn ds h) Q) :
    rS K (run C fn.body) { nx := fun _ H' => Q .non H', rt := Q } (L2.start N vs) H := by
  refine ⟨F, ρ, startE fn ds, h, st, start_ok r hn, ?_⟩
  unfold runF at fin
  split at fin
  · cases er : run C fn.body (startE fn ds) h with
    | ok p h1 =>
      rw [er] at fin
      obtain ⟨fl, σ1⟩ := p
      intro F' ρ' H' e1 st1
      cases fl with
      | nx => exact fun τ' _ => leave_ok (x := .d .none) (v := .non) st e1 st1 Dq.non fin
      | rt x => exact fun v rv => leave_ok st e1 st1 rv fin
      | bk => exact fin.elim
      | ct => exact fin.elim
    | ex _ _ => rw [er] at fin; exact fin
    | no => rw [er] at fin; exact fin
  · exact fin.elim
end

/-- a def of the program, as the linker sees it -/
structure Dn where
  x : Str
  st : Stmt
  N : List Str
  ps : List Str
  fn : Fn
def Dn.ck (d : Dn) (fs : List Str) (G : List (Str × PyData)) : Ck := ⟨d.N, defScope d.st, fun _ => true, fs, G⟩
def Dn.good (d : Dn) (P : Prog) (fs : List Str) (G : List (Str × PyData)) : Bool :=
  C8.scC d.N d.ps (defScope d.st) && decide (d.ps.length = d.fn.np) && decide (d.N.length = d.fn.nn) && (chkS d.fn.body).l (d.ck fs G) (defBody d.st)
/-- .. and as it stands in the heap -/
structure Dn.At (d : Dn) (K : PySem.W.Frag) (mg : Str → Option Value) (P : Prog) (f : Addr) (fd : FuncData) : Prop where
  fun_ : Fun K d.x d.x d.st f fd
  mg : mg d.x = some (.ref f)
  binds : Binds K fd d.ps []
  look : P.lookup d.x = some d.fn
section
variable {pr : Program} {w : World} {K : PySem.W.Frag} {mg : Str → Option Value} {base : Heap} {P : Prog} {fs : List Str} {G : List (Str × PyData)}
theorem call_len {k : Nat} {x : Str} {fn : Fn} (hl : P.lookup x = some fn) {ds : List D} {h h' : Hs} {y : D} (e : callN P k x ds h = .ok y h') : ds.length = fn.np := by
  cases k with
  | zero => cases e
  | succ k =>
    unfold callN at e
    rw [hl] at e
    dsimp only at e
    unfold runF at e
    split at e
    · assumption
    · cases e
theorem levels (hw : w = Wd.w) (ds : List Dn) (hat : ∀ d ∈ ds, ∃ f fd, d.At K mg P f fd) (hg : ∀ d ∈ ds, d.good P fs G = true) (hfs : ∀ x ∈ fs, ∃ d ∈ ds, d.x = x) (hb : ∀ x ∈ bnames, mg x = none)
    (hG : ∀ x v, G.lookup x = some v → ∃ u w, mg x = some u ∧ RelV w u ∧ ∀ F, Dq K F w v) :
    ∀ k, ∀ d ∈ ds, ∀ f fd, d.At K mg P f fd → FnOk pr w K mg base CX0 k f fd d.ps (spD K d.ps.length (callN P k d.x)) := by
  intro k
  induction k with
  | zero =>
    intro d hd f fd at_
    refine ⟨fun vs H Q E h => h.1, fun A outer s H args us vs Q E _ _ _ _ h => ?_⟩
    obtain ⟨_, F, ρ, hh, dd, st, r, fin⟩ := h
    exact fin.elim
  | succ k ih =>
    intro d hd f fd at_
    have good := hg d hd
    unfold Dn.good at good
    simp only [Bool.and_eq_true, decide_eq_true_eq] at good
    obtain ⟨⟨⟨g1, g2⟩, g3⟩, g4⟩ := good
    have S := C8.fnScope_by g1
    refine at_.fun_.ok S (fun vs H Q E h => h.1) fun cdv A outer s H vs Q E hr h => ?_
    obtain ⟨hvl, F, ρ, hh, dd, st, r, fin⟩ := h
    have fit : Fit (cxOf CX0 pr w K mg base d.N d.x (defScope d.st) f cdv A outer s H E).nox (d.ck fs G) (callN P k) k := by
      refine ⟨rfl, S.nd, rfl, rfl, rfl, hw, hr, PassesOwn.never, hb, hG, fun x hx => ?_⟩
      obtain ⟨e, he, rfl⟩ := hfs x hx
      obtain ⟨f2, fd2, at2⟩ := hat e he
      have ge := hg e he
      unfold Dn.good at ge
      simp only [Bool.and_eq_true, decide_eq_true_eq] at ge
      exact ⟨f2, fd2, e.ps, at2.mg, at2.fun_.kp, at2.binds, fun ds h y h' q => by rw [ge.1.1.2]; exact call_len at2.look q, ih e he f2 fd2 at2⟩
    refine ⟨rS K (run (callN P k) d.fn.body), (snd_S (all_E (callN P k) k) fit S.kind d.fn.body).l _ g4, ?_⟩
    refine run_body g3 st r ?_
    have e : callN P (k + 1) d.x dd hh = runF (callN P k) d.fn dd hh := by
      show (match P.lookup d.x with | some fn => runF (callN P k) fn dd hh | none => .no) = _
      rw [at_.look]
    rw [e] at fin
    exact fin
theorem mem_look {α : Type} {x : Str} {v : α} : ∀ {l : List (Str × α)}, l.lookup x = some v → (x, v) ∈ l
  | [], e => by cases e
  | (y, u) :: l, e => by
    rw [List.lookup_cons] at e
    split at e
    · rename_i h
      have : x = y := by simpa using h
      cases e
      rw [this]
      exact List.mem_cons_self
    · exact List.mem_cons_of_mem _ (mem_look e)
theorem gl_all {G : List (Str × PyData)} (h : ∀ p ∈ G, ∃ u w, mg p.1 = some u ∧ RelV w u ∧ ∀ F, Dq K F w p.2) : ∀ x v, G.lookup x = some v → ∃ u w, mg x = some u ∧ RelV w u ∧ ∀ F, Dq K F w v := fun x v e => h (x, v) (mem_look e)
/-- the law: a script of ints -/
def spL (K : PySem.W.Frag) (n : Nat) : Sp := fun vs H Q _ => ∃ (a : Addr) (ns : List Int), vs = [.ref a] ∧ SqL K H a (ns.map V.int) ∧ ns.length ≤ n ∧ ∀ H', Q (.bl true) H'
theorem law_ok {k n : Nat} {f : Addr} {fd : FuncData} {ps : List Str} {x : Str} (hps : ps.length = 1) (h : FnOk pr w K mg base CX0 k f fd ps (spD K ps.length (callN P k x)))
    (law : ∀ ns : List Int, ns.length ≤ n → ∃ h', callN P k x [.scr ns] [] = .ok (.d (.bool true)) h') : FnOk pr w K mg base CX0 k f fd ps (spL K n) := by
  refine h.imp fun vs H Q E q => ?_
  obtain ⟨a, ns, rfl, hS, hl, q⟩ := q
  obtain ⟨h', e⟩ := law ns hl
  refine ⟨by rw [hps]; rfl, H, [], [], [.scr ns], ⟨Same.refl H, rfl, List.nodup_nil, fun n a c e => by simp at e⟩, ⟨_, _, rfl, ⟨a, rfl, hS⟩, rfl⟩, ?_⟩
  rw [e]
  intro F' ρ' H' v _ _ r
  cases r
  exact q H'
end
end En
namespace En
open PySem L2
def f__law_box : Fn := ⟨2, 3, false,
    (.seq (.asg 2 (.ife (.cmp .Lt (.var 1) (.bi .len false (.cons (.var 0) .nil))) (.ix (.var 0) (.var 1)) (.cst (.int (0)))))
    (.seq (.ret (.lst true (.cons (.bin .Mult false (.bi .abs false (.cons (.var 2) .nil)) (.bi .int false (.cons (.cmp .GtE (.bi .abs false (.cons (.var 2) .nil)) (.bin .Pow false (.cst (.int (10))) (.cst (.int (18))))) .nil))) (.cons (.bin .Add false (.bin .Add false (.bin .Mod false (.bi .int false (.cons (.var 2) .nil)) (.cst (.int (2305843009213693951)))) (.bin .Mult false (.cst (.int (39373))) (.var 1))) (.cst (.int (281)))) (.cons (.cst (.int (0))) .nil)))))
    .nil))⟩
/- _law_take: 0:_law_box_here 1:_law_below 2:_law_drawn 3:_law_once 4:_law_far 5:_law_twice -/
def f__law_take : Fn := ⟨2, 6, true,
    (.seq (.ite (.cmp .Gt (.ix (.var 0) (.cst (.int (0)))) (.cst (.int (0))))
    (.seq (.asg 2 (.bin .Mod false (.bi .int false (.cons (.ix (.var 0) (.cst (.int (0)))) .nil)) (.var 1)))
    (.seq (.sto (.var 0) (.cst (.int (0))) (.bin .FloorDiv false (.ix (.var 0) (.cst (.int (0)))) (.var 1)))
    (.seq (.ret (.var 2))
    .nil)))
    .nil)
    (.seq (.sto (.var 0) (.cst (.int (2))) (.bin .Add false (.ix (.var 0) (.cst (.int (2)))) (.cst (.int (1)))))
    (.seq (.asg 3 (.bin .Mod false (.bi .int false (.cons (.bin .Mult false (.bin .Add false (.ix (.var 0) (.cst (.int (1)))) (.bin .Mult false (.cst (.int (48271))) (.ix (.var 0) (.cst (.int (2)))))) (.bin .Add false (.cst (.int (39373))) (.ix (.var 0) (.cst (.int (2)))))) .nil)) (.cst (.int (2147483647)))))
    (.seq (.asg 4 (.bin .Add false (.bin .Mod false (.bi .int false (.cons (.var 3) .nil)) (.cst (.int (40009)))) (.cst (.int (7)))))
    (.seq (.asg 5 (.bin .Mod false (.bi .int false (.cons (.bin .Mult false (.bin .Add false (.bin .Add false (.var 3) (.ix (.var 0) (.cst (.int (2))))) (.bin .FloorDiv false (.ix (.var 0) (.cst (.int (1)))) (.cst (.int (1000003))))) (.var 4)) .nil)) (.cst (.int (2147483629)))))
    (.seq (.ret (.bin .Mod false (.bi .int false (.cons (.bin .FloorDiv false (.bin .Mod false (.bi .int false (.cons (.bin .Add false (.bin .Mult false (.var 5) (.cst (.int (48271)))) (.var 3)) .nil)) (.cst (.int (2147483587)))) (.cst (.int (64)))) .nil)) (.var 1)))
    .nil))))))⟩
/- _law_cells: 0:_law_script 1:_law_most 2:_law_cells_here 3:_law_k 4:_law_cell 5:_law_at_so -/
def f__law_cells : Fn := ⟨2, 6, true,
    (.seq (.asg 2 (.bop .Or (.cons (.bi .list true (.cons (.sl (.var 0) .nil (.cons (.var 1) .nil)) .nil)) (.cons (.lst true (.cons (.cst (.int (0))) .nil)) .nil))))
    (.seq (.for_ (.tp [3, 4]) (.enu (.sl (.var 0) (.cons (.var 1) .nil) (.cons (.cst (.int (63))) .nil)))
    (.seq (.asg 5 (.bin .Mod false (.bi .int false (.cons (.var 3) .nil)) (.var 1)))
    (.seq (.sto (.var 2) (.var 5) (.bin .Add false (.ix (.var 2) (.var 5)) (.bin .Mult false (.var 4) (.bin .Add false (.var 3) (.cst (.int (2)))))))
    .nil)))
    (.seq (.ret (.fz (.var 2)))
    .nil)))⟩
/- _law_of: 0:_law_box_here 1:_law_some -/
def f__law_of : Fn := ⟨2, 2, true,
    (.seq (.ret (.ix (.var 1) (.call (Str.ofString "_law_take") (.cons (.var 0) (.cons (.bi .len false (.cons (.var 1) .nil)) .nil)))))
    .nil)⟩
section
variable (C : Str → List D → Hs → R D)
theorem ix_cel {n : Nat} {h : Hs} {xs : List PyData} {i : Int} {v : PyData} (hn : h[n]? = some (.lst xs)) (hv : L2.atI xs i = some v) : ixD (.cel n) (.d (.int i)) h = .ok (.d v) h := by
  simp [ixD, seqIx, vw, hn, hv]
theorem ltI (a b : Int) : PySem.W.dataLt (.int a) (.int b) = decide (a < b) := by
  show PyProof.Rows.lexLt PyProof.Rows.itemOrd [.inl a] [.inl b] = _
  simp [PyProof.Rows.lexLt, PyProof.Rows.itemLt]
theorem okI (a b : Int) : ordOk (.int a) (.int b) = true := by simp [ordOk, PySem.W.alike, PyData.depth]
theorem not_dec (a b : Int) : (!decide (a < b)) = decide (b ≤ a) := by
  by_cases h : a < b <;> simp [h] <;> omega
theorem gt_int (a b : Int) (h : Hs) : cmpD .Gt (.d (.int a)) (.d (.int b)) h = .ok (.d (.bool (decide (b < a)))) h := by simp [cmpD, okI, ltI]
theorem ge_int (a b : Int) (h : Hs) : cmpD .GtE (.d (.int a)) (.d (.int b)) h = .ok (.d (.bool (decide (b ≤ a)))) h := by
  simp [cmpD, okI, ltI, not_dec]
theorem lt_int (a b : Int) (h : Hs) : cmpD .Lt (.d (.int a)) (.d (.int b)) h = .ok (.d (.bool (decide (a < b)))) h := by simp [cmpD, okI, ltI]
theorem le_int (a b : Int) (h : Hs) : cmpD .LtE (.d (.int a)) (.d (.int b)) h = .ok (.d (.bool (decide (a ≤ b)))) h := by simp [cmpD, okI, ltI, not_dec]
theorem take_big {n : Nat} {h : Hs} {a b c m : Int} (hn : h[n]? = some (.lst [.int a, .int b, .int c])) (hm : 0 < m) (hm2 : m < 1073741824) (ha : 0 < a) :
    runF C f__law_take [.cel n, .d (.int m)] h = .ok (.d (.int (a % m))) (h.set n (.lst [.int (a / m), .int b, .int c])) := by
  have hl : n < h.length := (List.getElem?_eq_some_iff.mp hn).1
  simp [f__law_take, runF, startE, run, sem, mkV, mkT, smCons, smNil, R.bind, L2.atI, L2.ixN, gt_int, truD, ha, biD, binD, arI, hm, hm2, stoD, hn, leave, ixD, seqIx, vw]
  exact List.take_of_length_le (by simp)
def tkR : S := match f__law_take.body with
  | .seq _ (.seq _ r) => r
  | _ => .nil
def tkV (b c m : Int) : Int :=
  let once := (b + 48271 * c) * (39373 + c) % 2147483647
  let far := once % 40009 + 7
  let twice := (once + c + b / 1000003) * far % 2147483629
  (twice * 48271 + once) % 2147483587 / 64 % m
theorem take_rest {n : Nat} {h : Hs} {a b c m : Int} (hn : h[n]? = some (.lst [.int a, .int b, .int c])) (hm : 0 < m) (hc : 0 ≤ c) (hc2 : c < 1000000) :
    ∃ σ, run C tkR [some (.cel n), some (.d (.int m)), none, none, none, none] h = .ok (.rt (.d (.int (tkV b c m))), σ) h := by
  have m1 : ∀ x : Int, cmul x (39373 + c) = true := fun x => by unfold cmul; exact decide_eq_true (.inr (by omega))
  have m2 : cmul 48271 c = true := by unfold cmul; exact decide_eq_true (.inl (by omega))
  have m3 : ∀ x y : Int, cmul x (y % 40009 + 7) = true := fun x y => by unfold cmul; exact decide_eq_true (.inr (by omega))
  have m4 : ∀ x : Int, cmul x 48271 = true := fun x => by unfold cmul; exact decide_eq_true (.inr (by omega))
  simp [tkR, f__law_take, run, sem, mkV, mkT, smCons, smNil, R.bind, L2.atI, L2.ixN, biD, binD, arI, hm, hn, ixD, seqIx, vw, m1, m2, m3, m4, tkV]
theorem take_small {n : Nat} {h : Hs} {a b c m : Int} (hn : h[n]? = some (.lst [.int a, .int b, .int c])) (hm : 0 < m) (ha : ¬ 0 < a) (hc : 0 ≤ c) (hc2 : c < 999999) :
    runF C f__law_take [.cel n, .d (.int m)] h = .ok (.d (.int (tkV b (c + 1) m))) (h.set n (.lst [.int a, .int b, .int (c + 1)])) := by
  have hl : n < h.length := (List.getElem?_eq_some_iff.mp hn).1
  have hn2 : (h.set n (.lst [.int a, .int b, .int (c + 1)]))[n]? = some (.lst [.int a, .int b, .int (c + 1)]) := List.getElem?_set_self hl
  obtain ⟨σ, e⟩ := take_rest C (a := a) (b := b) (c := c + 1) (m := m) hn2 hm (by omega) (by omega)
  have e1 : run C f__law_take.body [some (.cel n), some (.d (.int m)), none, none, none, none] h = run C tkR [some (.cel n), some (.d (.int m)), none, none, none, none] (h.set n (.lst [.int a, .int b, .int (c + 1)])) := by
    generalize hr : tkR = r
    have hb : f__law_take.body = .seq (match f__law_take.body with | .seq x _ => x | _ => .nil) (.seq (match f__law_take.body with | .seq _ (.seq x _) => x | _ => .nil) r) := by rw [← hr]; rfl
    rw [hb]
    simp [f__law_take, run, sem, mkV, mkT, smCons, smNil, R.bind, L2.atI, L2.ixN, gt_int, truD, ha, biD, binD, arI, stoD, hn, ixD, seqIx, vw]
  show (run C f__law_take.body [some (.cel n), some (.d (.int m)), none, none, none, none] h).bind _ = _
  rw [e1, e]
  simp [R.bind, leave]
  exact List.take_of_length_le (by simp)
theorem tkV_lt (b c : Int) {m : Int} (hm : 0 < m) : 0 ≤ tkV b c m ∧ tkV b c m < m := by
  unfold tkV
  exact ⟨Int.emod_nonneg _ (by omega), Int.emod_lt_of_pos _ hm⟩
/-- a draw -/
theorem take_ok {n : Nat} {h : Hs} {a b c m : Int} (hn : h[n]? = some (.lst [.int a, .int b, .int c])) (hm : 0 < m) (hm2 : m < 1073741824) (hc : 0 ≤ c) (hc2 : c < 999999) :
    ∃ r a' c', 0 ≤ r ∧ r < m ∧ 0 ≤ c' ∧ c' ≤ c + 1 ∧ runF C f__law_take [.cel n, .d (.int m)] h = .ok (.d (.int r)) (h.set n (.lst [.int a', .int b, .int c'])) := by
  by_cases ha : 0 < a
  · exact ⟨_, _, _, Int.emod_nonneg _ (by omega), Int.emod_lt_of_pos _ hm, hc, by omega, take_big C hn hm hm2 ha⟩
  · exact ⟨_, _, _, (tkV_lt b (c + 1) hm).1, (tkV_lt b (c + 1) hm).2, by omega, by omega, take_small C hn hm ha hc hc2⟩
end
end En
namespace En
open PySem L2
section
variable (C : Str → List D → Hs → R D)
def clB : S := match f__law_cells.body with
  | .seq _ (.seq (.for_ _ _ b) _) => b
  | _ => .nil
abbrev clF : D → Env → Hs → R (Fl × Env) := fun x σ1 h2 => match bindTg (.tp [3, 4]) x σ1 with
  | some σ2 => run C clB σ2 h2
  | none => .no
theorem ixN_nat {n j : Nat} {i : Int} (h0 : i = (j : Int)) (h1 : j < n) : L2.ixN n i = some j := by
  subst h0
  unfold L2.ixN
  rw [if_pos (by omega), if_pos (by omega), Int.toNat_natCast]
theorem cells_step {n : Nat} {h : Hs} {cs : List Int} {m : Nat} {k : Nat} {y : Int} {s : D} {z3 z4 z5 : Option D} (hn : h[n]? = some (.lst (cs.map .int))) (hm : 0 < m) (hl : cs.length = m) (hk : k < 1000) :
    ∃ v, clF C (.d (.tuple [.int (k : Int), .int y])) [some s, some (.d (.int (m : Int))), some (.cel n), z3, z4, z5] h =
      .ok (.nx, [some s, some (.d (.int (m : Int))), some (.cel n), some (.d (.int (k : Int))), some (.d (.int y)), some (.d (.int ((k : Int) % (m : Int))))]) (h.set n (.lst ((cs.set (k % m) v).map .int))) := by
  have hj : k % m < m := Nat.mod_lt _ hm
  have e1 : (k : Int) % (m : Int) = ((k % m : Nat) : Int) := by simp
  have e2 : L2.ixN (cs.map PyData.int).length ((k : Int) % (m : Int)) = some (k % m) := ixN_nat e1 (by simp; omega)
  have e3 : L2.atI (cs.map PyData.int) ((k : Int) % (m : Int)) = some (.int (cs[k % m]'(by omega))) := by
    unfold L2.atI
    rw [e2]
    simp only [Option.bind_some, List.getElem?_map]
    rw [List.getElem?_eq_getElem (by omega)]
    rfl
  have e4 : cmul y ((k : Int) + 2) = true := by unfold cmul; exact decide_eq_true (.inr (by omega))
  have e5 : (0 : Int) < (m : Int) := by omega
  refine ⟨cs[k % m]'(by omega) + y * ((k : Int) + 2), ?_⟩
  rw [List.map_set]
  simp [clF, clB, f__law_cells, bindTg, tupItems, setAll, run, sem, mkV, mkT, smCons, smNil, R.bind, biD, binD, arI, ixD, seqIx, vw, hn, e2, e3, e4, e5, hm, stoD, -List.length_map]
theorem cells_loop {n m : Nat} {s : D} (hm : 0 < m) : ∀ (ys : List Int) (k : Nat) (h : Hs) (cs : List Int) (z3 z4 z5 : Option D), h[n]? = some (.lst (cs.map .int)) → cs.length = m → k + ys.length ≤ 1000 →
    ∃ (cs' : List Int) (w3 w4 w5 : Option D), cs'.length = m ∧ loopF (clF C) (enumP k (ys.map .int)) [some s, some (.d (.int (m : Int))), some (.cel n), z3, z4, z5] h =
      .ok (.nx, [some s, some (.d (.int (m : Int))), some (.cel n), w3, w4, w5]) (h.set n (.lst (cs'.map .int)))
  | [], k, h, cs, z3, z4, z5, hn, hl, hk => by
    refine ⟨cs, z3, z4, z5, hl, ?_⟩
    have : h.set n (.lst (cs.map .int)) = h := by
      obtain ⟨h1, h2⟩ := List.getElem?_eq_some_iff.mp hn
      rw [← h2, List.set_getElem_self]
    rw [this]
    rfl
  | y :: ys, k, h, cs, z3, z4, z5, hn, hl, hk => by
    have hlen : n < h.length := (List.getElem?_eq_some_iff.mp hn).1
    simp only [List.length_cons] at hk
    obtain ⟨v, e⟩ := cells_step C (y := y) (s := s) (z3 := z3) (z4 := z4) (z5 := z5) hn hm hl (k := k) (by omega)
    obtain ⟨cs', w3, w4, w5, q1, q2⟩ := cells_loop hm ys (k + 1) (h.set n (.lst ((cs.set (k % m) v).map .int))) (cs.set (k % m) v) (some (.d (.int (k : Int)))) (some (.d (.int y))) (some (.d (.int ((k : Int) % (m : Int))))) (List.getElem?_set_self hlen) (by simp [hl]) (by omega)
    refine ⟨cs', w3, w4, w5, q1, ?_⟩
    rw [List.set_set] at q2
    show (clF C (.d (.tuple [.int (k : Int), .int y])) _ h).bind _ = _
    rw [e]
    exact q2
theorem cut_lo (ns : List Int) (m : Nat) : cutP (ns.map PyData.int) none (some (m : Int)) = (ns.take m).map .int := by
  unfold cutP
  rw [HT.sIx_none, HT.sIx_nat, List.drop_zero, Nat.sub_zero, List.length_map, ← List.map_take]
  congr 1
  by_cases h : m ≤ ns.length
  · rw [Nat.min_eq_left h]
  · rw [Nat.min_eq_right (by omega), List.take_of_length_le (Nat.le_refl _), List.take_of_length_le (by omega)]
theorem cut_hi (ns : List Int) (m : Nat) (hl : ns.length ≤ 63) : cutP (ns.map PyData.int) (some (m : Int)) (some 63) = (ns.drop m).map .int := by
  have e : (63 : Int) = ((63 : Nat) : Int) := rfl
  unfold cutP
  rw [e, HT.sIx_nat, HT.sIx_nat, List.length_map, ← List.map_drop, ← List.map_take]
  congr 1
  rw [Nat.min_eq_right hl]
  by_cases h : m ≤ ns.length
  · rw [Nat.min_eq_left h, List.take_of_length_le (by simp)]
  · rw [Nat.min_eq_right (by omega), List.drop_of_length_le (Nat.le_refl _), List.drop_of_length_le (by omega), List.take_nil]
def clR : S := match f__law_cells.body with
  | .seq _ r => r
  | _ => .nil
/-- the cells of a script -/
theorem cells_ok {ns : List Int} {m : Nat} {h : Hs} (hm : 0 < m) (hl : ns.length ≤ 63) : ∃ cs : List Int, 0 < cs.length ∧ cs.length ≤ m ∧ runF C f__law_cells [.scr ns, .d (.int (m : Int))] h = .ok (.d (.list (cs.map .int))) h := by
  have hz : sizeLine = 16777216 := sizeLine_eq
  -- the rest, from a list of its own
  have rest : ∀ (hh : Hs) (n : Nat) (cs : List Int), hh[n]? = some (.lst (cs.map .int)) → h.length ≤ n → hh.take h.length = h → (ns.length ≤ m ∨ cs.length = m) → ∃ (cs' : List Int) (σ : Env), cs'.length = cs.length ∧
      run C clR [some (.scr ns), some (.d (.int (m : Int))), some (.cel n), none, none, none] hh = .ok (.rt (.d (.list (cs'.map .int))), σ) ((hh.set n (.lst (cs'.map .int))).set n .dead) := by
    intro hh n cs hn hle ht hc
    have hlen : n < hh.length := (List.getElem?_eq_some_iff.mp hn).1
    have lp : ∃ (cs' : List Int) (w3 w4 w5 : Option D), cs'.length = cs.length ∧ loopF (clF C) (enumP 0 ((ns.drop m).map .int)) [some (.scr ns), some (.d (.int (m : Int))), some (.cel n), none, none, none] hh = .ok (.nx, [some (.scr ns), some (.d (.int (m : Int))), some (.cel n), w3, w4, w5]) (hh.set n (.lst (cs'.map .int))) := by
      rcases hc with hc | hc
      · refine ⟨cs, none, none, none, rfl, ?_⟩
        rw [List.drop_of_length_le hc]
        have : hh.set n (.lst (cs.map .int)) = hh := by
          obtain ⟨h1, h2⟩ := List.getElem?_eq_some_iff.mp hn
          rw [← h2, List.set_getElem_self]
        rw [this]
        rfl
      · obtain ⟨cs', w3, w4, w5, q1, q2⟩ := cells_loop C (s := .scr ns) hm (ns.drop m) 0 hh cs none none none hn hc (by simp; omega)
        exact ⟨cs', w3, w4, w5, by omega, q2⟩
    obtain ⟨cs', w3, w4, w5, q1, q2⟩ := lp
    refine ⟨cs', [some (.scr ns), some (.d (.int (m : Int))), some (.cel n), w3, w4, w5], q1, ?_⟩
    have hs : (hh.set n (.lst (cs'.map .int)))[n]? = some (.lst (cs'.map .int)) := List.getElem?_set_self hlen
    have er : clR = .seq (.for_ (.tp [3, 4]) (.enu (.sl (.var 0) (.cons (.var 1) .nil) (.cons (.cst (.int (63))) .nil))) clB) (.seq (.ret (.fz (.var 2))) .nil) := rfl
    have ei : (sem C (.enu (.sl (.var 0) (.cons (.var 1) .nil) (.cons (.cst (.int (63))) .nil)))).it [some (.scr ns), some (.d (.int (m : Int))), some (.cel n), none, none, none] hh = .ok (enumP 0 ((ns.drop m).map .int)) hh := by
      simp [sem, mkV, mkI, smCons, smNil, R.bind, slD, bnd, vw, cut_hi ns m hl, enuW, vwF]
    rw [er]
    show ((((sem C (.enu (.sl (.var 0) (.cons (.var 1) .nil) (.cons (.cst (.int (63))) .nil)))).it [some (.scr ns), some (.d (.int (m : Int))), some (.cel n), none, none, none] hh).bind fun ds h1 => loopF (clF C) ds [some (.scr ns), some (.d (.int (m : Int))), some (.cel n), none, none, none] h1).bind fun p h1 => match p.1 with
      | .nx => run C (.seq (.ret (.fz (.var 2))) .nil) p.2 h1
      | f => .ok (f, p.2) h1) = _
    rw [ei]
    simp only [R.bind]
    rw [q2]
    simp [run, sem, mkV, R.bind, fzD, hs]
  have e0 : run C f__law_cells.body [some (.scr ns), some (.d (.int (m : Int))), none, none, none, none] h = (((sem C (.bop .Or (.cons (.bi .list true (.cons (.sl (.var 0) .nil (.cons (.var 1) .nil)) .nil)) (.cons (.lst true (.cons (.cst (.int (0))) .nil)) .nil)))).v [some (.scr ns), some (.d (.int (m : Int))), none, none, none, none] h).bind fun x h1 => R.ok (Fl.nx, [some (.scr ns), some (.d (.int (m : Int))), some x, none, none, none]) h1).bind fun p h1 => match p.1 with
      | Fl.nx => run C clR p.2 h1
      | f => R.ok (f, p.2) h1 := rfl
  have fin : ∀ (hh : Hs) (n : Nat) (cs : List Int), (sem C (.bop .Or (.cons (.bi .list true (.cons (.sl (.var 0) .nil (.cons (.var 1) .nil)) .nil)) (.cons (.lst true (.cons (.cst (.int (0))) .nil)) .nil)))).v [some (.scr ns), some (.d (.int (m : Int))), none, none, none, none] h = .ok (.cel n) hh →
      hh[n]? = some (.lst (cs.map .int)) → h.length ≤ n → hh.take h.length = h → (ns.length ≤ m ∨ cs.length = m) → ∃ cs' : List Int, cs'.length = cs.length ∧ runF C f__law_cells [.scr ns, .d (.int (m : Int))] h = .ok (.d (.list (cs'.map .int))) h := by
    intro hh n cs e hn hle ht hc
    obtain ⟨cs', σ, q1, q2⟩ := rest hh n cs hn hle ht hc
    refine ⟨cs', q1, ?_⟩
    show (run C f__law_cells.body [some (.scr ns), some (.d (.int (m : Int))), none, none, none, none] h).bind _ = _
    rw [e0, e]
    simp only [R.bind]
    rw [q2]
    simp [leave]
    rw [List.take_set_of_le hle]
    first | exact ht | (rw [List.take_set_of_le hle]; exact ht)
  cases ns with
  | nil =>
    obtain ⟨cs', q1, q2⟩ := fin (h ++ [.lst []] ++ [.lst [.int 0]]) (h.length + 1) [0] (by simp [sem, mkV, mkT, smCons, smNil, R.bind, slD, bnd, vw, cutP, biD, mkL, truD, sel, lstD, plainL, hz]) (by simp) (by omega) (by simp) (.inl (by simp))
    exact ⟨cs', by simp at q1; omega, by simp at q1; omega, q2⟩
  | cons x ns =>
    have hx : (x :: ns).take m ≠ [] := by
      cases m with
      | zero => omega
      | succ m => simp
    obtain ⟨cs', q1, q2⟩ := fin (h ++ [.lst (((x :: ns).take m).map .int)]) h.length ((x :: ns).take m) (by
      have c := cut_lo (x :: ns) m
      have hl2 : (((x :: ns).take m).map PyData.int).length ≤ sizeLine := by simp at hl ⊢; omega
      have he : (((x :: ns).take m).map PyData.int).isEmpty = false := by
        cases hq : (x :: ns).take m with
        | nil => exact absurd hq hx
        | cons _ _ => rfl
      generalize x :: ns = ws at c hl2 he
      generalize (ws.take m).map PyData.int = us at c hl2 he
      simp [sem, mkV, mkT, smCons, smNil, R.bind, slD, bnd, vw, biD, c, mkL, hl2, truD, sel, he]) (by simp) (Nat.le_refl _) (by simp) (by
      by_cases hh : (x :: ns).length ≤ m
      · exact .inl hh
      · refine .inr ?_
        rw [List.length_take]
        omega)
    refine ⟨cs', ?_, ?_, q2⟩
    · rw [q1]
      exact List.length_pos_iff.mpr hx
    · rw [q1, List.length_take]
      omega
end
end En
namespace En
open PySem L2
section
variable (C : Str → List D → Hs → R D)
theorem at_list {xs : List PyData} {k : Nat} {v : PyData} (h : xs[k]? = some v) : L2.atI xs (k : Int) = some v := by
  unfold L2.atI
  rw [ixN_nat rfl (List.getElem?_eq_some_iff.mp h).1]
  exact h
/-- a box of draws -/
theorem box_ok {cs : List Int} {k : Nat} {h : Hs} (hk : k < cs.length) (hl : cs.length ≤ 1000) : ∃ a b : Int, runF C f__law_box [.d (.list (cs.map .int)), .d (.int (k : Int))] h = .ok (.cel h.length) (h ++ [.lst [.int a, .int b, .int 0]]) := by
  have e1 : L2.atI (cs.map PyData.int) (k : Int) = some (.int cs[k]) := at_list (by simp [hk])
  generalize cs[k] = v at e1
  have hlt : (k : Int) < (cs.length : Int) := by omega
  have hz : sizeLine = 16777216 := sizeLine_eq
  have m1 : cmul 39373 (k : Int) = true := by unfold cmul; exact decide_eq_true (.inl (by omega))
  have m2 : ∀ (x : Int) (p : Prop) [Decidable p], cmul x (if p then 1 else 0) = true := fun x p _ => by
    unfold cmul
    refine decide_eq_true (.inr ?_)
    by_cases hp : p <;> simp [hp]
  refine ⟨(if v < 0 then -v else v) * (if decide (1000000000000000000 ≤ (if v < 0 then -v else v)) = true then 1 else 0), v % 2305843009213693951 + 39373 * (k : Int) + 281, ?_⟩
  simp only [f__law_box, runF, startE, run, sem, mkV, mkT, smCons, smNil, R.bind, List.length_cons, List.length_nil, List.map_cons, List.map_nil, List.cons_append, List.nil_append]
  simp [lt_int, ge_int, lenD, vw, hlt, hk, truD, ixD, seqIx, e1, biD, binD, arI, m1, m2, lstD, plainL, mkL, hz, leave]
theorem of_ok {n : Nat} {h h' : Hs} {xs : List PyData} {r : Nat} {v : PyData} (hc : C (Str.ofString "_law_take") [.cel n, .d (.int (xs.length : Int))] h = .ok (.d (.int (r : Int))) h') (hv : xs[r]? = some v) (hl : h'.length = h.length) :
    runF C f__law_of [.cel n, .d (.list xs)] h = .ok (.d v) h' := by
  have e := at_list hv
  simp [f__law_of, runF, startE, run, sem, mkV, mkT, smCons, smNil, R.bind, biD, lenD, vw, hc, ixD, seqIx, e, leave, ← hl]
end
end En
namespace En
open PySem L2 PyProof.Rows
/- tupled: 0:thing 1:part -/
def f_tupled : Fn := ⟨1, 2, true,
    (.seq (.ret (.ife (.isi (.var 0) [.list, .tuple] true) (.bi .tuple false (.cons (.lc false [1] (.nm 1) (.var 0) .nil (.call (Str.ofString "tupled") (.cons (.var 1) .nil))) .nil)) (.var 0)))
    .nil)⟩
/- is_number: 0:thing 1:bottom -/
def f_is_number : Fn := ⟨2, 2, true,
    (.seq (.ret (.bop .And (.cons (.isi (.var 0) [.int] false) (.cons (.not (.isi (.var 0) [.bool] false)) (.cons (.cmp .GtE (.var 0) (.var 1)) .nil)))))
    .nil)⟩
/- is_tuple: 0:thing 1:many -/
def f_is_tuple : Fn := ⟨2, 2, true,
    (.seq (.ret (.bop .And (.cons (.isi (.var 0) [.tuple] false) (.cons (.cmp .Eq (.bi .len false (.cons (.var 0) .nil)) (.var 1)) .nil))))
    .nil)⟩
/- is_made_of: 0:thing 1:signs 2:most 3:sign -/
def f_is_made_of : Fn := ⟨3, 4, true,
    (.seq (.ret (.bop .And (.cons (.isi (.var 0) [.str] false) (.cons (.chn .LtE .LtE (.cst (.int (1))) (.bi .len false (.cons (.var 0) .nil)) (.var 2)) (.cons (.bi .all false (.cons (.lc false [3] (.nm 3) (.var 0) .nil (.cmp .In (.var 3) (.var 1))) .nil)) .nil)))))
    .nil)⟩
/- is_name: 0:thing -/
def f_is_name : Fn := ⟨1, 1, true,
    (.seq (.ret (.call (Str.ofString "is_made_of") (.cons (.var 0) (.cons (.glo (Str.ofString "LETTERS") (.str ⟨#[97, 98, 99, 100, 101, 102, 103, 104, 105, 106, 107, 108, 109, 110, 111, 112, 113, 114, 115, 116, 117, 118, 119, 120, 121, 122]⟩)) (.cons (.glo (Str.ofString "MOST_NAME") (.int (8))) .nil)))))
    .nil)⟩
/- is_word: 0:thing -/
def f_is_word : Fn := ⟨1, 1, true,
    (.seq (.ret (.call (Str.ofString "is_made_of") (.cons (.var 0) (.cons (.bin .Add false (.glo (Str.ofString "LETTERS") (.str ⟨#[97, 98, 99, 100, 101, 102, 103, 104, 105, 106, 107, 108, 109, 110, 111, 112, 113, 114, 115, 116, 117, 118, 119, 120, 121, 122]⟩)) (.glo (Str.ofString "DIGITS") (.str ⟨#[48, 49, 50, 51, 52, 53, 54, 55, 56, 57]⟩))) (.cons (.glo (Str.ofString "MOST_WORD") (.int (3))) .nil)))))
    .nil)⟩
/- rises: 0:some 1:rows 2:one 3:other -/
def f_rises : Fn := ⟨1, 4, true,
    (.seq (.asg 1 (.bi .list false (.cons (.var 0) .nil)))
    (.seq (.ret (.bi .all false (.cons (.lc false [2, 3] (.tp [2, 3]) (.zip (.var 1) (.sl (.var 1) (.cons (.cst (.int (1))) .nil) .nil)) .nil (.cmp .Lt (.var 2) (.var 3))) .nil)))
    .nil))⟩
/- are_names: 0:thing 1:part -/
def f_are_names : Fn := ⟨1, 2, true,
    (.seq (.ret (.bop .And (.cons (.isi (.var 0) [.tuple] false) (.cons (.bi .all false (.cons (.lc false [1] (.nm 1) (.var 0) .nil (.call (Str.ofString "is_name") (.cons (.var 1) .nil))) .nil)) (.cons (.call (Str.ofString "rises") (.cons (.var 0) .nil)) .nil)))))
    .nil)⟩
/- is_literal: 0:thing 1:sign -/
def f_is_literal : Fn := ⟨1, 2, true,
    (.seq (.ret (.bop .And (.cons (.isi (.var 0) [.str] false) (.cons (.cmp .Gt (.bi .len false (.cons (.var 0) .nil)) (.cst (.int (0)))) (.cons (.bi .all false (.cons (.lc false [1] (.nm 1) (.var 0) .nil (.cmp .In (.var 1) (.glo (Str.ofString "SIGNS") (.str ⟨#[97, 98, 99, 100, 101, 102, 103, 104, 105, 106, 107, 108, 109, 110, 111, 112, 113, 114, 115, 116, 117, 118, 119, 120, 121, 122, 48, 49, 50, 51, 52, 53, 54, 55, 56, 57, 45, 46]⟩)))) .nil)) .nil)))))
    .nil)⟩
/- is_piece: 0:thing -/
def f_is_piece : Fn := ⟨1, 1, true,
    (.seq (.ite (.bop .Or (.cons (.not (.call (Str.ofString "is_tuple") (.cons (.var 0) (.cons (.glo (Str.ofString "PAIR") (.int (2))) .nil)))) (.cons (.not (.isi (.ix (.var 0) (.cst (.int (0)))) [.str] false)) .nil)))
    (.seq (.ret (.cst (.bool false)))
    .nil)
    .nil)
    (.seq (.ret (.bop .Or (.cons (.bop .And (.cons (.cmp .Eq (.ix (.var 0) (.cst (.int (0)))) (.glo (Str.ofString "TEXT") (.str ⟨#[116, 101, 120, 116]⟩))) (.cons (.call (Str.ofString "is_literal") (.cons (.ix (.var 0) (.cst (.int (1)))) .nil)) .nil))) (.cons (.bop .And (.cons (.cmp .Eq (.ix (.var 0) (.cst (.int (0)))) (.glo (Str.ofString "FIELD") (.str ⟨#[102, 105, 101, 108, 100]⟩))) (.cons (.call (Str.ofString "is_name") (.cons (.ix (.var 0) (.cst (.int (1)))) .nil)) .nil))) .nil))))
    .nil))⟩
/- is_template: 0:thing 1:piece 2:one 3:other -/
def f_is_template : Fn := ⟨1, 4, true,
    (.seq (.ite (.bop .Or (.cons (.not (.isi (.var 0) [.tuple] false)) (.cons (.not (.bi .all false (.cons (.lc false [1] (.nm 1) (.var 0) .nil (.call (Str.ofString "is_piece") (.cons (.var 1) .nil))) .nil))) .nil)))
    (.seq (.ret (.cst (.bool false)))
    .nil)
    .nil)
    (.seq (.ret (.not (.bi .any false (.cons (.lc false [2, 3] (.tp [2, 3]) (.zip (.var 0) (.sl (.var 0) (.cons (.cst (.int (1))) .nil) .nil)) .nil (.bop .And (.cons (.cmp .Eq (.ix (.var 2) (.cst (.int (0)))) (.glo (Str.ofString "TEXT") (.str ⟨#[116, 101, 120, 116]⟩))) (.cons (.cmp .Eq (.ix (.var 3) (.cst (.int (0)))) (.glo (Str.ofString "TEXT") (.str ⟨#[116, 101, 120, 116]⟩))) .nil)))) .nil))))
    .nil))⟩
/- do_begin: 0:some 1:others 2:last 3:far -/
def f_do_begin : Fn := ⟨2, 4, true,
    (.seq (.ite (.bop .Or (.cons (.cmp .Eq (.bi .len false (.cons (.var 0) .nil)) (.cst (.int (0)))) (.cons (.cmp .Gt (.bi .len false (.cons (.var 0) .nil)) (.bi .len false (.cons (.var 1) .nil))) .nil)))
    (.seq (.ret (.cmp .Eq (.bi .len false (.cons (.var 0) .nil)) (.cst (.int (0)))))
    .nil)
    .nil)
    (.seq (.par 2 3 (.ix (.var 0) (.neg (.cst (.int (1))))) (.ix (.var 1) (.bin .Sub false (.bi .len false (.cons (.var 0) .nil)) (.cst (.int (1))))))
    (.seq (.ite (.cmp .NotEq (.sl (.var 0) .nil (.cons (.neg (.cst (.int (1)))) .nil)) (.sl (.var 1) .nil (.cons (.bin .Sub false (.bi .len false (.cons (.var 0) .nil)) (.cst (.int (1)))) .nil)))
    (.seq (.ret (.cst (.bool false)))
    .nil)
    .nil)
    (.seq (.ret (.bop .Or (.cons (.cmp .Eq (.var 2) (.var 3)) (.cons (.bop .And (.cons (.cmp .Eq (.ix (.var 2) (.cst (.int (0)))) (.glo (Str.ofString "TEXT") (.str ⟨#[116, 101, 120, 116]⟩))) (.cons (.cmp .Eq (.ix (.var 3) (.cst (.int (0)))) (.glo (Str.ofString "TEXT") (.str ⟨#[116, 101, 120, 116]⟩))) (.cons (.mth .startswith (.ix (.var 3) (.cst (.int (1)))) (.cons (.ix (.var 2) (.cst (.int (1)))) .nil)) .nil)))) .nil))))
    .nil))))⟩
/- text_of: 0:template 1:values 2:kind 3:what -/
def f_text_of : Fn := ⟨2, 4, true,
    (.seq (.ret (.mth .join (.cst (.str ⟨#[]⟩)) (.cons (.lc false [2, 3] (.tp [2, 3]) (.var 0) .nil (.ife (.cmp .Eq (.var 2) (.glo (Str.ofString "FIELD") (.str ⟨#[102, 105, 101, 108, 100]⟩))) (.ix (.var 1) (.var 3)) (.var 3))) .nil)))
    .nil)⟩
/- is_setting: 0:thing 1:many 2:part -/
def f_is_setting : Fn := ⟨2, 3, true,
    (.seq (.ret (.bop .And (.cons (.call (Str.ofString "is_tuple") (.cons (.var 0) (.cons (.var 1) .nil))) (.cons (.bi .all false (.cons (.lc false [2] (.nm 2) (.var 0) .nil (.call (Str.ofString "is_word") (.cons (.var 2) .nil))) .nil)) .nil))))
    .nil)⟩
/- is_job: 0:thing 1:fields 2:used 3:part 4:kind 5:what 6:name -/
def f_is_job : Fn := ⟨2, 7, true,
    (.seq (.ite (.bop .Or (.cons (.not (.call (Str.ofString "is_tuple") (.cons (.var 0) (.cons (.glo (Str.ofString "JOB_PARTS") (.int (4))) .nil)))) (.cons (.not (.call (Str.ofString "is_name") (.cons (.ix (.var 0) (.cst (.int (0)))) .nil))) (.cons (.not (.isi (.ix (.var 0) (.cst (.int (2)))) [.tuple] false)) .nil))))
    (.seq (.ret (.cst (.bool false)))
    .nil)
    .nil)
    (.seq (.ite (.bop .Or (.cons (.not (.bi .all false (.cons (.lc false [3] (.nm 3) (.lst false (.cons (.ix (.var 0) (.cst (.int (1)))) (.star (.ix (.var 0) (.cst (.int (2)))) .nil))) .nil (.call (Str.ofString "is_template") (.cons (.var 3) .nil))) .nil))) (.cons (.not (.call (Str.ofString "are_names") (.cons (.ix (.var 0) (.cst (.int (3)))) .nil))) .nil)))
    (.seq (.ret (.cst (.bool false)))
    .nil)
    .nil)
    (.seq (.asg 2 (.lc2 [3, 4, 5] [4, 5] (.nm 3) (.lst false (.cons (.ix (.var 0) (.cst (.int (1)))) (.star (.ix (.var 0) (.cst (.int (2)))) .nil))) .nil (.tp [4, 5]) (.var 3) (.cons (.cmp .Eq (.var 4) (.glo (Str.ofString "FIELD") (.str ⟨#[102, 105, 101, 108, 100]⟩))) .nil) (.var 5)))
    (.seq (.ret (.bop .And (.cons (.bi .all false (.cons (.lc false [6] (.nm 6) (.var 2) .nil (.cmp .In (.var 6) (.var 1))) .nil)) (.cons (.bi .all false (.cons (.lc false [6] (.nm 6) (.ix (.var 0) (.cst (.int (3)))) .nil (.cmp .In (.var 6) (.var 1))) .nil)) .nil))))
    .nil))))⟩
/- is_plan: 0:thing 1:fields 2:settings 3:jobs 4:part 5:job -/
def f_is_plan : Fn := ⟨1, 6, true,
    (.seq (.ite (.bop .Or (.cons (.not (.call (Str.ofString "is_tuple") (.cons (.var 0) (.cons (.glo (Str.ofString "TRIPLE") (.int (3))) .nil)))) (.cons (.not (.call (Str.ofString "are_names") (.cons (.ix (.var 0) (.cst (.int (0)))) .nil))) .nil)))
    (.seq (.ret (.cst (.bool false)))
    .nil)
    .nil)
    (.seq (.unp [1, 2, 3] (.var 0))
    (.seq (.ite (.bop .Or (.cons (.not (.isi (.var 2) [.tuple] false)) (.cons (.not (.bi .all false (.cons (.lc false [4] (.nm 4) (.var 2) .nil (.call (Str.ofString "is_setting") (.cons (.var 4) (.cons (.bi .len false (.cons (.var 1) .nil)) .nil)))) .nil))) .nil)))
    (.seq (.ret (.cst (.bool false)))
    .nil)
    .nil)
    (.seq (.ite (.bop .Or (.cons (.not (.call (Str.ofString "rises") (.cons (.var 2) .nil))) (.cons (.not (.isi (.var 3) [.tuple] false)) .nil)))
    (.seq (.ret (.cst (.bool false)))
    .nil)
    .nil)
    (.seq (.ret (.bop .And (.cons (.bi .all false (.cons (.lc false [5] (.nm 5) (.var 3) .nil (.call (Str.ofString "is_job") (.cons (.var 5) (.cons (.var 1) .nil)))) .nil)) (.cons (.call (Str.ofString "rises") (.cons (.lc false [5] (.nm 5) (.var 3) .nil (.ix (.var 5) (.cst (.int (0))))) .nil)) .nil))))
    .nil)))))⟩
/- cases: 0:plan 1:settings 2:job 3:setting -/
def f_cases : Fn := ⟨1, 4, true,
    (.seq (.asg 1 (.call (Str.ofString "tupled") (.cons (.ix (.var 0) (.cst (.int (1)))) .nil)))
    (.seq (.ret (.lc2 [2, 3] [3] (.nm 2) (.ix (.var 0) (.cst (.int (2)))) .nil (.nm 3) (.var 1) .nil (.tup (.cons (.ix (.var 2) (.cst (.int (0)))) (.cons (.var 3) .nil)))))
    .nil))⟩
/- job_row: 0:plan 1:name 2:job -/
def f_job_row : Fn := ⟨2, 3, true,
    (.seq (.for_ (.nm 2) (.ix (.var 0) (.cst (.int (2))))
    (.seq (.ite (.cmp .Eq (.ix (.var 2) (.cst (.int (0)))) (.var 1))
    (.seq (.ret (.var 2))
    .nil)
    .nil)
    .nil))
    (.seq .rai
    .nil))⟩
/- values_of: 0:plan 1:setting -/
def f_values_of : Fn := ⟨2, 2, true,
    (.seq (.ret (.dz (.ix (.var 0) (.cst (.int (0)))) (.var 1)))
    .nil)⟩
/- key_text: 0:plan 1:case 2:name 3:setting -/
def f_key_text : Fn := ⟨2, 4, true,
    (.seq (.unp [2, 3] (.var 1))
    (.seq (.ret (.call (Str.ofString "text_of") (.cons (.ix (.call (Str.ofString "job_row") (.cons (.var 0) (.cons (.var 2) .nil))) (.cst (.int (1)))) (.cons (.call (Str.ofString "values_of") (.cons (.var 0) (.cons (.var 3) .nil))) .nil))))
    .nil))⟩
/- prefix_texts: 0:plan 1:case 2:name 3:setting 4:prefix -/
def f_prefix_texts : Fn := ⟨2, 5, true,
    (.seq (.unp [2, 3] (.var 1))
    (.seq (.ret (.lc false [4] (.nm 4) (.ix (.call (Str.ofString "job_row") (.cons (.var 0) (.cons (.var 2) .nil))) (.cst (.int (2)))) .nil (.call (Str.ofString "text_of") (.cons (.var 4) (.cons (.call (Str.ofString "values_of") (.cons (.var 0) (.cons (.var 3) .nil))) .nil)))))
    .nil))⟩
/- row_of: 0:template 1:values 2:kind 3:what -/
def f_row_of : Fn := ⟨2, 4, true,
    (.seq (.ret (.bi .tuple false (.cons (.lc false [2, 3] (.tp [2, 3]) (.var 0) .nil (.tup (.cons (.var 2) (.cons (.var 3) (.cons (.ife (.cmp .Eq (.var 2) (.glo (Str.ofString "FIELD") (.str ⟨#[102, 105, 101, 108, 100]⟩))) (.ix (.var 1) (.var 3)) (.cst (.str ⟨#[]⟩))) .nil))))) .nil)))
    .nil)⟩
/- key_row: 0:plan 1:case 2:name 3:setting -/
def f_key_row : Fn := ⟨2, 4, true,
    (.seq (.unp [2, 3] (.var 1))
    (.seq (.ret (.call (Str.ofString "row_of") (.cons (.ix (.call (Str.ofString "job_row") (.cons (.var 0) (.cons (.var 2) .nil))) (.cst (.int (1)))) (.cons (.call (Str.ofString "values_of") (.cons (.var 0) (.cons (.var 3) .nil))) .nil))))
    .nil))⟩
/- prefix_of: 0:plan 1:name 2:number 3:prefixes -/
def f_prefix_of : Fn := ⟨3, 4, true,
    (.seq (.asg 3 (.ix (.call (Str.ofString "job_row") (.cons (.var 0) (.cons (.var 1) .nil))) (.cst (.int (2)))))
    (.seq (.ite (.bop .Or (.cons (.not (.call (Str.ofString "is_number") (.cons (.var 2) (.cons (.cst (.int (0))) .nil)))) (.cons (.cmp .GtE (.var 2) (.bi .len false (.cons (.var 3) .nil))) .nil)))
    (.seq .rai
    .nil)
    .nil)
    (.seq (.ret (.call (Str.ofString "tupled") (.cons (.ix (.var 3) (.var 2)) .nil)))
    .nil)))⟩
/- begun: 0:plan 1:job 2:number 3:prefix 4:some 5:found 6:setting 7:text 8:case 9:key -/
def f_begun : Fn := ⟨3, 10, true,
    (.seq (.par 3 4 (.call (Str.ofString "prefix_of") (.cons (.var 0) (.cons (.var 1) (.cons (.var 2) .nil)))) (.lc false [8] (.nm 8) (.call (Str.ofString "cases") (.cons (.var 0) .nil)) .nil (.tup (.cons (.var 8) (.cons (.call (Str.ofString "key_text") (.cons (.var 0) (.cons (.var 8) .nil))) .nil)))))
    (.seq (.asg 5 (.lst true .nil))
    (.seq (.for_ (.nm 6) (.call (Str.ofString "tupled") (.cons (.ix (.var 0) (.cst (.int (1)))) .nil))
    (.seq (.asg 7 (.call (Str.ofString "text_of") (.cons (.var 3) (.cons (.call (Str.ofString "values_of") (.cons (.var 0) (.cons (.var 6) .nil))) .nil))))
    (.seq (.exp (.mth .extend (.var 5) (.cons (.lc false [8, 9] (.tp [8, 9]) (.var 4) (.cons (.mth .startswith (.var 9) (.cons (.var 7) .nil)) .nil) (.tup (.cons (.var 6) (.cons (.var 8) .nil)))) .nil)))
    .nil)))
    (.seq (.ret (.fz (.var 5)))
    .nil))))⟩
/- accident: 0:plan 1:job 2:number 3:prefix 4:rows 5:setting 6:case -/
def f_accident : Fn := ⟨3, 7, true,
    (.seq (.par 3 4 (.call (Str.ofString "prefix_of") (.cons (.var 0) (.cons (.var 1) (.cons (.var 2) .nil)))) (.dc [6] (.nm 6) (.call (Str.ofString "cases") (.cons (.var 0) .nil)) .nil (.var 6) (.call (Str.ofString "key_row") (.cons (.var 0) (.cons (.var 6) .nil)))))
    (.seq (.for_ (.tp [5, 6]) (.call (Str.ofString "begun") (.cons (.var 0) (.cons (.var 1) (.cons (.var 2) .nil))))
    (.seq (.ite (.not (.call (Str.ofString "do_begin") (.cons (.call (Str.ofString "row_of") (.cons (.var 3) (.cons (.call (Str.ofString "values_of") (.cons (.var 0) (.cons (.var 5) .nil))) .nil))) (.cons (.ix (.var 4) (.var 6)) .nil))))
    (.seq (.ret (.tup (.cons (.var 5) (.cons (.var 6) .nil))))
    .nil)
    .nil)
    .nil))
    (.seq (.ret (.cst .none))
    .nil)))⟩
/- twins: 0:plan 1:some 2:case 3:one 4:text 5:row 6:other 7:far 8:its -/
def f_twins : Fn := ⟨1, 9, true,
    (.seq (.asg 1 (.lc false [2] (.nm 2) (.call (Str.ofString "cases") (.cons (.var 0) .nil)) .nil (.tup (.cons (.var 2) (.cons (.call (Str.ofString "key_text") (.cons (.var 0) (.cons (.var 2) .nil))) (.cons (.call (Str.ofString "key_row") (.cons (.var 0) (.cons (.var 2) .nil))) .nil))))))
    (.seq (.ret (.lc2 [3, 4, 5, 6, 7, 8] [6, 7, 8] (.tp [3, 4, 5]) (.var 1) .nil (.tp [6, 7, 8]) (.var 1) (.cons (.bop .And (.cons (.cmp .Lt (.var 3) (.var 6)) (.cons (.cmp .Eq (.var 4) (.var 7)) (.cons (.cmp .NotEq (.var 5) (.var 8)) .nil)))) .nil) (.tup (.cons (.var 3) (.cons (.var 6) .nil)))))
    .nil))⟩
/- held: 0:plan 1:job 2:number 3:pairs 4:place 5:name 6:setting 7:case -/
def f_held : Fn := ⟨3, 8, true,
    (.seq (.asg 3 (.call (Str.ofString "begun") (.cons (.var 0) (.cons (.var 1) (.cons (.var 2) .nil)))))
    (.seq (.ret (.bi .tuple false (.cons (.lc false [4, 5] (.tp [4, 5]) (.enu (.ix (.var 0) (.cst (.int (0))))) (.cons (.bi .all false (.cons (.lc false [6, 7] (.tp [6, 7]) (.var 3) .nil (.cmp .Eq (.ix (.var 6) (.var 4)) (.ix (.ix (.var 7) (.cst (.int (1)))) (.var 4)))) .nil)) .nil) (.var 5)) .nil)))
    .nil))⟩
/- _law_same: 0:_law_got 1:_law_due 2:_law_mine 3:_law_its -/
def f__law_same : Fn := ⟨2, 4, true,
    (.seq (.ite (.isi (.var 1) [.list, .tuple] true)
    (.seq (.ite (.bop .Or (.cons (.cmp .NotEq (.isi (.var 0) [.list] false) (.isi (.var 1) [.list] false)) (.cons (.cmp .NotEq (.isi (.var 0) [.tuple] false) (.isi (.var 1) [.tuple] false)) .nil)))
    (.seq (.ret (.cst (.bool false)))
    .nil)
    .nil)
    (.seq (.ret (.bop .And (.cons (.cmp .Eq (.bi .len false (.cons (.var 0) .nil)) (.bi .len false (.cons (.var 1) .nil))) (.cons (.bi .all false (.cons (.lc false [2, 3] (.tp [2, 3]) (.zip (.var 0) (.var 1)) .nil (.call (Str.ofString "_law_same") (.cons (.var 2) (.cons (.var 3) .nil)))) .nil)) .nil))))
    .nil))
    .nil)
    (.seq (.ite (.bop .Or (.cons (.cmp .Is (.var 1) (.cst .none)) (.cons (.isi (.var 1) [.bool, .str] true) .nil)))
    (.seq (.ret (.bop .And (.cons (.cmp .Eq (.var 0) (.var 1)) (.cons (.cmp .Eq (.isi (.var 0) [.bool] false) (.isi (.var 1) [.bool] false)) (.cons (.cmp .Eq (.cmp .Is (.var 0) (.cst .none)) (.cmp .Is (.var 1) (.cst .none))) .nil)))))
    .nil)
    .nil)
    (.seq (.ret (.bop .And (.cons (.isi (.var 0) [.int] false) (.cons (.not (.isi (.var 0) [.bool] false)) (.cons (.cmp .Eq (.var 0) (.var 1)) .nil)))))
    .nil)))⟩
/- _law_row_right: 0:_law_box_here 1:_law_size_so 2:_law_tag_so 3:_law_pool 4:_law_a 5:_law_dash 6:_law_bare 7:_law_signed 8:_law_told 9:_law_due 10:_law_k 11:_law_own -/
def f__law_row_right : Fn := ⟨1, 12, true,
    (.seq (.par 1 2 (.bin .Add false (.cst (.int (2))) (.call (Str.ofString "_law_take") (.cons (.var 0) (.cons (.cst (.int (2))) .nil)))) (.call (Str.ofString "_law_of") (.cons (.var 0) (.cons (.lst false (.cons (.cst (.str ⟨#[97]⟩)) (.cons (.cst (.str ⟨#[108, 111, 99, 107]⟩)) (.cons (.cst (.str ⟨#[119, 101, 101, 107]⟩)) .nil)))) .nil))))
    (.seq (.asg 3 (.bi .tuple false (.cons (.lc false [10] (.nm 10) (.rng (.var 1)) .nil (.bin .Mult false (.cst (.str ⟨#[49]⟩)) (.bin .Add false (.var 10) (.cst (.int (1)))))) .nil)))
    (.seq (.par 4 5 (.tup (.cons (.cst (.str ⟨#[102, 105, 101, 108, 100]⟩)) (.cons (.var 2) .nil))) (.tup (.cons (.cst (.str ⟨#[116, 101, 120, 116]⟩)) (.cons (.cst (.str ⟨#[45]⟩)) .nil))))
    (.seq (.asg 6 (.tup (.cons (.tup (.cons (.var 2) .nil)) (.cons (.bi .tuple false (.cons (.lc false [11] (.nm 11) (.var 3) .nil (.tup (.cons (.var 11) .nil))) .nil)) (.cons (.tup (.cons (.tup (.cons (.cst (.str ⟨#[106]⟩)) (.cons (.tup (.cons (.var 4) .nil)) (.cons (.tup (.cons (.tup (.cons (.var 4) .nil)) (.cons (.tup .nil) .nil))) (.cons (.tup (.cons (.var 2) .nil)) .nil))))) .nil)) .nil)))))
    (.seq (.asg 7 (.tup (.cons (.ix (.var 6) (.cst (.int (0)))) (.cons (.ix (.var 6) (.cst (.int (1)))) (.cons (.tup (.cons (.tup (.cons (.cst (.str ⟨#[106]⟩)) (.cons (.tup (.cons (.var 4) (.cons (.var 5) .nil))) (.cons (.tup (.cons (.tup (.cons (.var 4) .nil)) (.cons (.tup (.cons (.var 4) (.cons (.var 5) .nil))) (.cons (.tup (.cons (.var 5) .nil)) .nil)))) (.cons (.tup .nil) .nil))))) .nil)) .nil)))))
    (.seq (.asg 8 (.lst true (.cons (.call (Str.ofString "is_plan") (.cons (.var 6) .nil)) (.cons (.call (Str.ofString "is_plan") (.cons (.var 7) .nil)) (.cons (.lc false [11] (.nm 11) (.call (Str.ofString "cases") (.cons (.var 6) .nil)) .nil (.call (Str.ofString "key_text") (.cons (.var 6) (.cons (.var 11) .nil)))) (.cons (.call (Str.ofString "twins") (.cons (.var 6) .nil)) (.cons (.call (Str.ofString "twins") (.cons (.var 7) .nil)) .nil)))))))
    (.seq (.asg 9 (.lst false (.cons (.cst (.bool true)) (.cons (.cst (.bool true)) (.cons (.bi .list false (.cons (.var 3) .nil)) (.cons (.lst false .nil) (.cons (.lst false .nil) .nil)))))))
    (.seq (.asg 8 (.bin .Add true (.var 8) (.lst false (.cons (.call (Str.ofString "accident") (.cons (.var 6) (.cons (.cst (.str ⟨#[106]⟩)) (.cons (.cst (.int (0))) .nil)))) (.cons (.call (Str.ofString "accident") (.cons (.var 6) (.cons (.cst (.str ⟨#[106]⟩)) (.cons (.cst (.int (1))) .nil)))) (.cons (.call (Str.ofString "held") (.cons (.var 6) (.cons (.cst (.str ⟨#[106]⟩)) (.cons (.cst (.int (0))) .nil)))) (.cons (.call (Str.ofString "held") (.cons (.var 6) (.cons (.cst (.str ⟨#[106]⟩)) (.cons (.cst (.int (1))) .nil)))) .nil)))))))
    (.seq (.asg 9 (.bin .Add false (.var 9) (.lst false (.cons (.tup (.cons (.tup (.cons (.cst (.str ⟨#[49]⟩)) .nil)) (.cons (.tup (.cons (.cst (.str ⟨#[106]⟩)) (.cons (.tup (.cons (.cst (.str ⟨#[49, 49]⟩)) .nil)) .nil))) .nil))) (.cons (.cst .none) (.cons (.tup .nil) (.cons (.tup .nil) .nil)))))))
    (.seq (.asg 8 (.bin .Add true (.bin .Add false (.var 8) (.lc false [11] (.nm 11) (.rng (.cst (.int (3)))) .nil (.call (Str.ofString "accident") (.cons (.var 7) (.cons (.cst (.str ⟨#[106]⟩)) (.cons (.var 11) .nil)))))) (.lc false [11] (.nm 11) (.rng (.cst (.int (3)))) .nil (.call (Str.ofString "held") (.cons (.var 7) (.cons (.cst (.str ⟨#[106]⟩)) (.cons (.var 11) .nil)))))))
    (.seq (.asg 9 (.bin .Add false (.var 9) (.lst false (.cons (.tup (.cons (.tup (.cons (.cst (.str ⟨#[49]⟩)) .nil)) (.cons (.tup (.cons (.cst (.str ⟨#[106]⟩)) (.cons (.tup (.cons (.cst (.str ⟨#[49, 49]⟩)) .nil)) .nil))) .nil))) (.cons (.cst .none) (.cons (.cst .none) (.cons (.tup .nil) (.cons (.tup (.cons (.var 2) .nil)) (.cons (.tup (.cons (.var 2) .nil)) .nil)))))))))
    (.seq (.exp (.mth .append (.var 8) (.cons (.call (Str.ofString "prefix_texts") (.cons (.var 7) (.cons (.tup (.cons (.cst (.str ⟨#[106]⟩)) (.cons (.tup (.cons (.ix (.var 3) (.cst (.int (1)))) .nil)) .nil))) .nil))) .nil)))
    (.seq (.ret (.call (Str.ofString "_law_same") (.cons (.fz (.var 8)) (.cons (.bin .Add false (.var 9) (.lst false (.cons (.lst false (.cons (.cst (.str ⟨#[49, 49]⟩)) (.cons (.cst (.str ⟨#[49, 49, 45]⟩)) (.cons (.cst (.str ⟨#[45]⟩)) .nil)))) .nil))) .nil))))
    .nil)))))))))))))⟩
/- _law_beside_right: 0:_law_box_here 1:_law_sign 2:_law_a 3:_law_b 4:_law_some 5:_law_glued 6:_law_apart_so 7:_law_told 8:_law_due -/
def f__law_beside_right : Fn := ⟨1, 9, true,
    (.seq (.asg 1 (.call (Str.ofString "_law_of") (.cons (.var 0) (.cons (.lst false (.cons (.cst (.str ⟨#[45]⟩)) (.cons (.cst (.str ⟨#[46]⟩)) .nil))) .nil))))
    (.seq (.par 2 3 (.tup (.cons (.cst (.str ⟨#[102, 105, 101, 108, 100]⟩)) (.cons (.cst (.str ⟨#[97]⟩)) .nil))) (.tup (.cons (.cst (.str ⟨#[102, 105, 101, 108, 100]⟩)) (.cons (.cst (.str ⟨#[98]⟩)) .nil))))
    (.seq (.asg 4 (.tup (.cons (.tup (.cons (.cst (.str ⟨#[49]⟩)) (.cons (.cst (.str ⟨#[49, 50]⟩)) .nil))) (.cons (.tup (.cons (.cst (.str ⟨#[49, 49]⟩)) (.cons (.cst (.str ⟨#[50]⟩)) .nil))) (.cons (.tup (.cons (.cst (.str ⟨#[49, 49, 50]⟩)) (.cons (.cst (.str ⟨#[49]⟩)) .nil))) .nil)))))
    (.seq (.asg 5 (.tup (.cons (.tup (.cons (.cst (.str ⟨#[97]⟩)) (.cons (.cst (.str ⟨#[98]⟩)) .nil))) (.cons (.var 4) (.cons (.tup (.cons (.tup (.cons (.cst (.str ⟨#[106]⟩)) (.cons (.tup (.cons (.var 2) (.cons (.var 3) .nil))) (.cons (.tup (.cons (.tup (.cons (.var 2) .nil)) .nil)) (.cons (.tup .nil) .nil))))) .nil)) .nil)))))
    (.seq (.asg 6 (.tup (.cons (.tup (.cons (.cst (.str ⟨#[97]⟩)) (.cons (.cst (.str ⟨#[98]⟩)) .nil))) (.cons (.var 4) (.cons (.tup (.cons (.tup (.cons (.cst (.str ⟨#[106]⟩)) (.cons (.tup (.cons (.var 2) (.cons (.tup (.cons (.cst (.str ⟨#[116, 101, 120, 116]⟩)) (.cons (.var 1) .nil))) (.cons (.var 3) .nil)))) (.cons (.tup (.cons (.tup (.cons (.var 2) (.cons (.tup (.cons (.cst (.str ⟨#[116, 101, 120, 116]⟩)) (.cons (.var 1) .nil))) .nil))) .nil)) (.cons (.tup .nil) .nil))))) .nil)) .nil)))))
    (.seq (.asg 7 (.lst false (.cons (.call (Str.ofString "twins") (.cons (.var 5) .nil)) (.cons (.call (Str.ofString "accident") (.cons (.var 5) (.cons (.cst (.str ⟨#[106]⟩)) (.cons (.cst (.int (0))) .nil)))) (.cons (.call (Str.ofString "held") (.cons (.var 5) (.cons (.cst (.str ⟨#[106]⟩)) (.cons (.cst (.int (0))) .nil)))) (.cons (.call (Str.ofString "twins") (.cons (.var 6) .nil)) (.cons (.call (Str.ofString "accident") (.cons (.var 6) (.cons (.cst (.str ⟨#[106]⟩)) (.cons (.cst (.int (0))) .nil)))) .nil)))))))
    (.seq (.asg 8 (.lst false (.cons (.lst false (.cons (.tup (.cons (.tup (.cons (.cst (.str ⟨#[106]⟩)) (.cons (.ix (.var 4) (.cst (.int (0)))) .nil))) (.cons (.tup (.cons (.cst (.str ⟨#[106]⟩)) (.cons (.ix (.var 4) (.cst (.int (1)))) .nil))) .nil))) .nil)) (.cons (.tup (.cons (.ix (.var 4) (.cst (.int (0)))) (.cons (.tup (.cons (.cst (.str ⟨#[106]⟩)) (.cons (.ix (.var 4) (.cst (.int (1)))) .nil))) .nil))) (.cons (.tup .nil) (.cons (.lst false .nil) (.cons (.cst .none) .nil)))))))
    (.seq (.ret (.call (Str.ofString "_law_same") (.cons (.bin .Add false (.var 7) (.lst false (.cons (.call (Str.ofString "held") (.cons (.var 6) (.cons (.cst (.str ⟨#[106]⟩)) (.cons (.cst (.int (0))) .nil)))) (.cons (.call (Str.ofString "key_text") (.cons (.var 5) (.cons (.tup (.cons (.cst (.str ⟨#[106]⟩)) (.cons (.ix (.var 4) (.cst (.int (2)))) .nil))) .nil))) .nil)))) (.cons (.bin .Add false (.var 8) (.lst false (.cons (.tup (.cons (.cst (.str ⟨#[97]⟩)) (.cons (.cst (.str ⟨#[98]⟩)) .nil))) (.cons (.cst (.str ⟨#[49, 49, 50, 49]⟩)) .nil)))) .nil))))
    .nil))))))))⟩
/- _law_jobs_right: 0:_law_box_here 1:_law_sign 2:_law_a 3:_law_one 4:_law_two 5:_law_scheme 6:_law_told 7:_law_due -/
def f__law_jobs_right : Fn := ⟨1, 8, true,
    (.seq (.asg 1 (.call (Str.ofString "_law_of") (.cons (.var 0) (.cons (.lst false (.cons (.cst (.str ⟨#[45]⟩)) (.cons (.cst (.str ⟨#[46]⟩)) .nil))) .nil))))
    (.seq (.asg 2 (.tup (.cons (.cst (.str ⟨#[102, 105, 101, 108, 100]⟩)) (.cons (.cst (.str ⟨#[97]⟩)) .nil))))
    (.seq (.asg 3 (.tup (.cons (.cst (.str ⟨#[100, 111, 99, 115]⟩)) (.cons (.tup (.cons (.tup (.cons (.cst (.str ⟨#[116, 101, 120, 116]⟩)) (.cons (.bin .Add false (.cst (.str ⟨#[98, 117, 105, 108, 100]⟩)) (.var 1)) .nil))) (.cons (.var 2) .nil))) (.cons (.tup (.cons (.tup (.cons (.tup (.cons (.cst (.str ⟨#[116, 101, 120, 116]⟩)) (.cons (.bin .Add false (.cst (.str ⟨#[98, 117, 105, 108, 100]⟩)) (.var 1)) .nil))) .nil)) (.cons (.tup (.cons (.tup (.cons (.cst (.str ⟨#[116, 101, 120, 116]⟩)) (.cons (.cst (.str ⟨#[98]⟩)) .nil))) .nil)) .nil))) (.cons (.tup .nil) .nil))))))
    (.seq (.asg 4 (.tup (.cons (.cst (.str ⟨#[116, 101, 115, 116]⟩)) (.cons (.tup (.cons (.tup (.cons (.cst (.str ⟨#[116, 101, 120, 116]⟩)) (.cons (.bin .Add false (.bin .Add false (.bin .Add false (.cst (.str ⟨#[98, 117, 105, 108, 100]⟩)) (.var 1)) (.cst (.str ⟨#[97, 108, 108]⟩))) (.var 1)) .nil))) (.cons (.var 2) .nil))) (.cons (.tup (.cons (.tup (.cons (.tup (.cons (.cst (.str ⟨#[116, 101, 120, 116]⟩)) (.cons (.bin .Add false (.bin .Add false (.cst (.str ⟨#[98, 117, 105, 108, 100]⟩)) (.var 1)) (.cst (.str ⟨#[97, 108, 108]⟩))) .nil))) .nil)) .nil)) (.cons (.tup (.cons (.cst (.str ⟨#[97]⟩)) .nil)) .nil))))))
    (.seq (.asg 5 (.tup (.cons (.tup (.cons (.cst (.str ⟨#[97]⟩)) .nil)) (.cons (.tup (.cons (.tup (.cons (.cst (.str ⟨#[97, 108, 108]⟩)) .nil)) (.cons (.tup (.cons (.cst (.str ⟨#[120]⟩)) .nil)) .nil))) (.cons (.tup (.cons (.var 3) (.cons (.var 4) .nil))) .nil)))))
    (.seq (.asg 6 (.lst false (.cons (.call (Str.ofString "accident") (.cons (.var 5) (.cons (.cst (.str ⟨#[100, 111, 99, 115]⟩)) (.cons (.cst (.int (0))) .nil)))) (.cons (.call (Str.ofString "accident") (.cons (.var 5) (.cons (.cst (.str ⟨#[100, 111, 99, 115]⟩)) (.cons (.cst (.int (1))) .nil)))) (.cons (.call (Str.ofString "accident") (.cons (.var 5) (.cons (.cst (.str ⟨#[116, 101, 115, 116]⟩)) (.cons (.cst (.int (0))) .nil)))) (.cons (.call (Str.ofString "twins") (.cons (.var 5) .nil)) .nil))))))
    (.seq (.asg 7 (.lst false (.cons (.cst .none) (.cons (.cst .none) (.cons (.tup (.cons (.tup (.cons (.cst (.str ⟨#[97, 108, 108]⟩)) .nil)) (.cons (.tup (.cons (.cst (.str ⟨#[100, 111, 99, 115]⟩)) (.cons (.tup (.cons (.cst (.str ⟨#[97, 108, 108]⟩)) .nil)) .nil))) .nil))) (.cons (.lst false .nil) .nil))))))
    (.seq (.asg 6 (.bin .Add false (.var 6) (.lst false (.cons (.call (Str.ofString "held") (.cons (.var 5) (.cons (.cst (.str ⟨#[100, 111, 99, 115]⟩)) (.cons (.cst (.int (0))) .nil)))) (.cons (.call (Str.ofString "held") (.cons (.var 5) (.cons (.cst (.str ⟨#[116, 101, 115, 116]⟩)) (.cons (.cst (.int (0))) .nil)))) (.cons (.call (Str.ofString "key_text") (.cons (.var 5) (.cons (.ix (.call (Str.ofString "cases") (.cons (.var 5) .nil)) (.cst (.int (3)))) .nil))) .nil))))))
    (.seq (.ret (.call (Str.ofString "_law_same") (.cons (.var 6) (.cons (.bin .Add false (.var 7) (.lst false (.cons (.tup .nil) (.cons (.tup .nil) (.cons (.bin .Add false (.bin .Add false (.bin .Add false (.bin .Add false (.cst (.str ⟨#[98, 117, 105, 108, 100]⟩)) (.var 1)) (.cst (.str ⟨#[97, 108, 108]⟩))) (.var 1)) (.cst (.str ⟨#[120]⟩))) .nil))))) .nil))))
    .nil)))))))))⟩
/- _law_right: 0:_law_box_here -/
def f__law_right : Fn := ⟨1, 1, true,
    (.seq (.ret (.bop .And (.cons (.call (Str.ofString "_law_row_right") (.cons (.var 0) .nil)) (.cons (.call (Str.ofString "_law_beside_right") (.cons (.var 0) .nil)) (.cons (.call (Str.ofString "_law_jobs_right") (.cons (.var 0) .nil)) .nil)))))
    .nil)⟩
/- law: 0:_law_script 1:_law_cells_here 2:_law_k -/
def f_law : Fn := ⟨1, 3, true,
    (.seq (.asg 1 (.call (Str.ofString "_law_cells") (.cons (.var 0) (.cons (.cst (.int (1))) .nil))))
    (.seq (.ret (.bi .all false (.cons (.lc false [2] (.nm 2) (.rng (.bi .len false (.cons (.var 1) .nil))) .nil (.call (Str.ofString "_law_right") (.cons (.call (Str.ofString "_law_box") (.cons (.var 1) (.cons (.var 2) .nil))) .nil))) .nil)))
    .nil))⟩
def prog : Prog := [(Str.ofString "tupled", f_tupled),
  (Str.ofString "is_number", f_is_number),
  (Str.ofString "is_tuple", f_is_tuple),
  (Str.ofString "is_made_of", f_is_made_of),
  (Str.ofString "is_name", f_is_name),
  (Str.ofString "is_word", f_is_word),
  (Str.ofString "rises", f_rises),
  (Str.ofString "are_names", f_are_names),
  (Str.ofString "is_literal", f_is_literal),
  (Str.ofString "is_piece", f_is_piece),
  (Str.ofString "is_template", f_is_template),
  (Str.ofString "do_begin", f_do_begin),
  (Str.ofString "text_of", f_text_of),
  (Str.ofString "is_setting", f_is_setting),
  (Str.ofString "is_job", f_is_job),
  (Str.ofString "is_plan", f_is_plan),
  (Str.ofString "cases", f_cases),
  (Str.ofString "job_row", f_job_row),
  (Str.ofString "values_of", f_values_of),
  (Str.ofString "key_text", f_key_text),
  (Str.ofString "prefix_texts", f_prefix_texts),
  (Str.ofString "row_of", f_row_of),
  (Str.ofString "key_row", f_key_row),
  (Str.ofString "prefix_of", f_prefix_of),
  (Str.ofString "begun", f_begun),
  (Str.ofString "accident", f_accident),
  (Str.ofString "twins", f_twins),
  (Str.ofString "held", f_held),
  (Str.ofString "_law_box", f__law_box),
  (Str.ofString "_law_take", f__law_take),
  (Str.ofString "_law_cells", f__law_cells),
  (Str.ofString "_law_of", f__law_of),
  (Str.ofString "_law_same", f__law_same),
  (Str.ofString "_law_row_right", f__law_row_right),
  (Str.ofString "_law_beside_right", f__law_beside_right),
  (Str.ofString "_law_jobs_right", f__law_jobs_right),
  (Str.ofString "_law_right", f__law_right),
  (Str.ofString "law", f_law)]
def topS (i : Nat) : Stmt := PySem.Challenge.pw_prefixkeys_k13_whole_known_plans.main.body.getD i (.Pass ⟨0, 0, 0, 0⟩)
def d_tupled : Dn := ⟨(Str.ofString "tupled"), topS 8, [(Str.ofString "thing"), (Str.ofString "part")], [(Str.ofString "thing")], f_tupled⟩
def d_is_number : Dn := ⟨(Str.ofString "is_number"), topS 9, [(Str.ofString "thing"), (Str.ofString "bottom")], [(Str.ofString "thing"), (Str.ofString "bottom")], f_is_number⟩
def d_is_tuple : Dn := ⟨(Str.ofString "is_tuple"), topS 10, [(Str.ofString "thing"), (Str.ofString "many")], [(Str.ofString "thing"), (Str.ofString "many")], f_is_tuple⟩
def d_is_made_of : Dn := ⟨(Str.ofString "is_made_of"), topS 11, [(Str.ofString "thing"), (Str.ofString "signs"), (Str.ofString "most"), (Str.ofString "sign")], [(Str.ofString "thing"), (Str.ofString "signs"), (Str.ofString "most")], f_is_made_of⟩
def d_is_name : Dn := ⟨(Str.ofString "is_name"), topS 12, [(Str.ofString "thing")], [(Str.ofString "thing")], f_is_name⟩
def d_is_word : Dn := ⟨(Str.ofString "is_word"), topS 13, [(Str.ofString "thing")], [(Str.ofString "thing")], f_is_word⟩
def d_rises : Dn := ⟨(Str.ofString "rises"), topS 14, [(Str.ofString "some"), (Str.ofString "rows"), (Str.ofString "one"), (Str.ofString "other")], [(Str.ofString "some")], f_rises⟩
def d_are_names : Dn := ⟨(Str.ofString "are_names"), topS 15, [(Str.ofString "thing"), (Str.ofString "part")], [(Str.ofString "thing")], f_are_names⟩
def d_is_literal : Dn := ⟨(Str.ofString "is_literal"), topS 23, [(Str.ofString "thing"), (Str.ofString "sign")], [(Str.ofString "thing")], f_is_literal⟩
def d_is_piece : Dn := ⟨(Str.ofString "is_piece"), topS 24, [(Str.ofString "thing")], [(Str.ofString "thing")], f_is_piece⟩
def d_is_template : Dn := ⟨(Str.ofString "is_template"), topS 25, [(Str.ofString "thing"), (Str.ofString "piece"), (Str.ofString "one"), (Str.ofString "other")], [(Str.ofString "thing")], f_is_template⟩
def d_do_begin : Dn := ⟨(Str.ofString "do_begin"), topS 26, [(Str.ofString "some"), (Str.ofString "others"), (Str.ofString "last"), (Str.ofString "far")], [(Str.ofString "some"), (Str.ofString "others")], f_do_begin⟩
def d_text_of : Dn := ⟨(Str.ofString "text_of"), topS 27, [(Str.ofString "template"), (Str.ofString "values"), (Str.ofString "kind"), (Str.ofString "what")], [(Str.ofString "template"), (Str.ofString "values")], f_text_of⟩
def d_is_setting : Dn := ⟨(Str.ofString "is_setting"), topS 28, [(Str.ofString "thing"), (Str.ofString "many"), (Str.ofString "part")], [(Str.ofString "thing"), (Str.ofString "many")], f_is_setting⟩
def d_is_job : Dn := ⟨(Str.ofString "is_job"), topS 29, [(Str.ofString "thing"), (Str.ofString "fields"), (Str.ofString "used"), (Str.ofString "part"), (Str.ofString "kind"), (Str.ofString "what"), (Str.ofString "name")], [(Str.ofString "thing"), (Str.ofString "fields")], f_is_job⟩
def d_is_plan : Dn := ⟨(Str.ofString "is_plan"), topS 30, [(Str.ofString "thing"), (Str.ofString "fields"), (Str.ofString "settings"), (Str.ofString "jobs"), (Str.ofString "part"), (Str.ofString "job")], [(Str.ofString "thing")], f_is_plan⟩
def d_cases : Dn := ⟨(Str.ofString "cases"), topS 31, [(Str.ofString "plan"), (Str.ofString "settings"), (Str.ofString "job"), (Str.ofString "setting")], [(Str.ofString "plan")], f_cases⟩
def d_job_row : Dn := ⟨(Str.ofString "job_row"), topS 32, [(Str.ofString "plan"), (Str.ofString "name"), (Str.ofString "job")], [(Str.ofString "plan"), (Str.ofString "name")], f_job_row⟩
def d_values_of : Dn := ⟨(Str.ofString "values_of"), topS 33, [(Str.ofString "plan"), (Str.ofString "setting")], [(Str.ofString "plan"), (Str.ofString "setting")], f_values_of⟩
def d_key_text : Dn := ⟨(Str.ofString "key_text"), topS 34, [(Str.ofString "plan"), (Str.ofString "case"), (Str.ofString "name"), (Str.ofString "setting")], [(Str.ofString "plan"), (Str.ofString "case")], f_key_text⟩
def d_prefix_texts : Dn := ⟨(Str.ofString "prefix_texts"), topS 35, [(Str.ofString "plan"), (Str.ofString "case"), (Str.ofString "name"), (Str.ofString "setting"), (Str.ofString "prefix")], [(Str.ofString "plan"), (Str.ofString "case")], f_prefix_texts⟩
def d_row_of : Dn := ⟨(Str.ofString "row_of"), topS 36, [(Str.ofString "template"), (Str.ofString "values"), (Str.ofString "kind"), (Str.ofString "what")], [(Str.ofString "template"), (Str.ofString "values")], f_row_of⟩
def d_key_row : Dn := ⟨(Str.ofString "key_row"), topS 37, [(Str.ofString "plan"), (Str.ofString "case"), (Str.ofString "name"), (Str.ofString "setting")], [(Str.ofString "plan"), (Str.ofString "case")], f_key_row⟩
def d_prefix_of : Dn := ⟨(Str.ofString "prefix_of"), topS 38, [(Str.ofString "plan"), (Str.ofString "name"), (Str.ofString "number"), (Str.ofString "prefixes")], [(Str.ofString "plan"), (Str.ofString "name"), (Str.ofString "number")], f_prefix_of⟩
def d_begun : Dn := ⟨(Str.ofString "begun"), topS 39, [(Str.ofString "plan"), (Str.ofString "job"), (Str.ofString "number"), (Str.ofString "prefix"), (Str.ofString "some"), (Str.ofString "found"), (Str.ofString "setting"), (Str.ofString "text"), (Str.ofString "case"), (Str.ofString "key")], [(Str.ofString "plan"), (Str.ofString "job"), (Str.ofString "number")], f_begun⟩
def d_accident : Dn := ⟨(Str.ofString "accident"), topS 40, [(Str.ofString "plan"), (Str.ofString "job"), (Str.ofString "number"), (Str.ofString "prefix"), (Str.ofString "rows"), (Str.ofString "setting"), (Str.ofString "case")], [(Str.ofString "plan"), (Str.ofString "job"), (Str.ofString "number")], f_accident⟩
def d_twins : Dn := ⟨(Str.ofString "twins"), topS 41, [(Str.ofString "plan"), (Str.ofString "some"), (Str.ofString "case"), (Str.ofString "one"), (Str.ofString "text"), (Str.ofString "row"), (Str.ofString "other"), (Str.ofString "far"), (Str.ofString "its")], [(Str.ofString "plan")], f_twins⟩
def d_held : Dn := ⟨(Str.ofString "held"), topS 42, [(Str.ofString "plan"), (Str.ofString "job"), (Str.ofString "number"), (Str.ofString "pairs"), (Str.ofString "place"), (Str.ofString "name"), (Str.ofString "setting"), (Str.ofString "case")], [(Str.ofString "plan"), (Str.ofString "job"), (Str.ofString "number")], f_held⟩
def d__law_box : Dn := ⟨(Str.ofString "_law_box"), topS 44, [(Str.ofString "_law_script"), (Str.ofString "_law_k"), (Str.ofString "_law_cell")], [(Str.ofString "_law_script"), (Str.ofString "_law_k")], f__law_box⟩
def d__law_take : Dn := ⟨(Str.ofString "_law_take"), topS 45, [(Str.ofString "_law_box_here"), (Str.ofString "_law_below"), (Str.ofString "_law_drawn"), (Str.ofString "_law_once"), (Str.ofString "_law_far"), (Str.ofString "_law_twice")], [(Str.ofString "_law_box_here"), (Str.ofString "_law_below")], f__law_take⟩
def d__law_cells : Dn := ⟨(Str.ofString "_law_cells"), topS 46, [(Str.ofString "_law_script"), (Str.ofString "_law_most"), (Str.ofString "_law_cells_here"), (Str.ofString "_law_k"), (Str.ofString "_law_cell"), (Str.ofString "_law_at_so")], [(Str.ofString "_law_script"), (Str.ofString "_law_most")], f__law_cells⟩
def d__law_of : Dn := ⟨(Str.ofString "_law_of"), topS 47, [(Str.ofString "_law_box_here"), (Str.ofString "_law_some")], [(Str.ofString "_law_box_here"), (Str.ofString "_law_some")], f__law_of⟩
def d__law_same : Dn := ⟨(Str.ofString "_law_same"), topS 48, [(Str.ofString "_law_got"), (Str.ofString "_law_due"), (Str.ofString "_law_mine"), (Str.ofString "_law_its")], [(Str.ofString "_law_got"), (Str.ofString "_law_due")], f__law_same⟩
def d__law_row_right : Dn := ⟨(Str.ofString "_law_row_right"), topS 49, [(Str.ofString "_law_box_here"), (Str.ofString "_law_size_so"), (Str.ofString "_law_tag_so"), (Str.ofString "_law_pool"), (Str.ofString "_law_a"), (Str.ofString "_law_dash"), (Str.ofString "_law_bare"), (Str.ofString "_law_signed"), (Str.ofString "_law_told"), (Str.ofString "_law_due"), (Str.ofString "_law_k"), (Str.ofString "_law_own")], [(Str.ofString "_law_box_here")], f__law_row_right⟩
def d__law_beside_right : Dn := ⟨(Str.ofString "_law_beside_right"), topS 50, [(Str.ofString "_law_box_here"), (Str.ofString "_law_sign"), (Str.ofString "_law_a"), (Str.ofString "_law_b"), (Str.ofString "_law_some"), (Str.ofString "_law_glued"), (Str.ofString "_law_apart_so"), (Str.ofString "_law_told"), (Str.ofString "_law_due")], [(Str.ofString "_law_box_here")], f__law_beside_right⟩
def d__law_jobs_right : Dn := ⟨(Str.ofString "_law_jobs_right"), topS 51, [(Str.ofString "_law_box_here"), (Str.ofString "_law_sign"), (Str.ofString "_law_a"), (Str.ofString "_law_one"), (Str.ofString "_law_two"), (Str.ofString "_law_scheme"), (Str.ofString "_law_told"), (Str.ofString "_law_due")], [(Str.ofString "_law_box_here")], f__law_jobs_right⟩
def d__law_right : Dn := ⟨(Str.ofString "_law_right"), topS 52, [(Str.ofString "_law_box_here")], [(Str.ofString "_law_box_here")], f__law_right⟩
def d_law : Dn := ⟨(Str.ofString "law"), topS 53, [(Str.ofString "_law_script"), (Str.ofString "_law_cells_here"), (Str.ofString "_law_k")], [(Str.ofString "_law_script")], f_law⟩
def dns : List Dn := [d_tupled, d_is_number, d_is_tuple, d_is_made_of, d_is_name, d_is_word, d_rises, d_are_names, d_is_literal, d_is_piece, d_is_template, d_do_begin, d_text_of, d_is_setting, d_is_job, d_is_plan, d_cases, d_job_row, d_values_of, d_key_text, d_prefix_texts, d_row_of, d_key_row, d_prefix_of, d_begun, d_accident, d_twins, d_held, d__law_box, d__law_take, d__law_cells, d__law_of, d__law_same, d__law_row_right, d__law_beside_right, d__law_jobs_right, d__law_right, d_law]
def fnm : List Str := [(Str.ofString "tupled"), (Str.ofString "is_number"), (Str.ofString "is_tuple"), (Str.ofString "is_made_of"), (Str.ofString "is_name"), (Str.ofString "is_word"), (Str.ofString "rises"), (Str.ofString "are_names"), (Str.ofString "is_literal"), (Str.ofString "is_piece"), (Str.ofString "is_template"), (Str.ofString "do_begin"), (Str.ofString "text_of"), (Str.ofString "is_setting"), (Str.ofString "is_job"), (Str.ofString "is_plan"), (Str.ofString "cases"), (Str.ofString "job_row"), (Str.ofString "values_of"), (Str.ofString "key_text"), (Str.ofString "prefix_texts"), (Str.ofString "row_of"), (Str.ofString "key_row"), (Str.ofString "prefix_of"), (Str.ofString "begun"), (Str.ofString "accident"), (Str.ofString "twins"), (Str.ofString "held"), (Str.ofString "_law_box"), (Str.ofString "_law_take"), (Str.ofString "_law_cells"), (Str.ofString "_law_of"), (Str.ofString "_law_same"), (Str.ofString "_law_row_right"), (Str.ofString "_law_beside_right"), (Str.ofString "_law_jobs_right"), (Str.ofString "_law_right"), (Str.ofString "law")]
def gls : List (Str × PyData) := [((Str.ofString "LETTERS"), (.str ⟨#[97, 98, 99, 100, 101, 102, 103, 104, 105, 106, 107, 108, 109, 110, 111, 112, 113, 114, 115, 116, 117, 118, 119, 120, 121, 122]⟩)), ((Str.ofString "DIGITS"), (.str ⟨#[48, 49, 50, 51, 52, 53, 54, 55, 56, 57]⟩)), ((Str.ofString "MOST_NAME"), (.int (8))), ((Str.ofString "MOST_WORD"), (.int (3))), ((Str.ofString "TEXT"), (.str ⟨#[116, 101, 120, 116]⟩)), ((Str.ofString "FIELD"), (.str ⟨#[102, 105, 101, 108, 100]⟩)), ((Str.ofString "SIGNS"), (.str ⟨#[97, 98, 99, 100, 101, 102, 103, 104, 105, 106, 107, 108, 109, 110, 111, 112, 113, 114, 115, 116, 117, 118, 119, 120, 121, 122, 48, 49, 50, 51, 52, 53, 54, 55, 56, 57, 45, 46]⟩)), ((Str.ofString "PAIR"), (.int (2))), ((Str.ofString "TRIPLE"), (.int (3))), ((Str.ofString "JOB_PARTS"), (.int (4)))]
theorem g_tupled : d_tupled.good prog fnm gls = true := by kernel_rfl
theorem g_is_number : d_is_number.good prog fnm gls = true := by kernel_rfl
theorem g_is_tuple : d_is_tuple.good prog fnm gls = true := by kernel_rfl
theorem g_is_made_of : d_is_made_of.good prog fnm gls = true := by kernel_rfl
theorem g_is_name : d_is_name.good prog fnm gls = true := by kernel_rfl
theorem g_is_word : d_is_word.good prog fnm gls = true := by kernel_rfl
theorem g_rises : d_rises.good prog fnm gls = true := by kernel_rfl
theorem g_are_names : d_are_names.good prog fnm gls = true := by kernel_rfl
theorem g_is_literal : d_is_literal.good prog fnm gls = true := by kernel_rfl
theorem g_is_piece : d_is_piece.good prog fnm gls = true := by kernel_rfl
theorem g_is_template : d_is_template.good prog fnm gls = true := by kernel_rfl
theorem g_do_begin : d_do_begin.good prog fnm gls = true := by kernel_rfl
theorem g_text_of : d_text_of.good prog fnm gls = true := by kernel_rfl
theorem g_is_setting : d_is_setting.good prog fnm gls = true := by kernel_rfl
theorem g_is_job : d_is_job.good prog fnm gls = true := by kernel_rfl
theorem g_is_plan : d_is_plan.good prog fnm gls = true := by kernel_rfl
theorem g_cases : d_cases.good prog fnm gls = true := by kernel_rfl
theorem g_job_row : d_job_row.good prog fnm gls = true := by kernel_rfl
theorem g_values_of : d_values_of.good prog fnm gls = true := by kernel_rfl
theorem g_key_text : d_key_text.good prog fnm gls = true := by kernel_rfl
theorem g_prefix_texts : d_prefix_texts.good prog fnm gls = true := by kernel_rfl
theorem g_row_of : d_row_of.good prog fnm gls = true := by kernel_rfl
theorem g_key_row : d_key_row.good prog fnm gls = true := by kernel_rfl
theorem g_prefix_of : d_prefix_of.good prog fnm gls = true := by kernel_rfl
theorem g_begun : d_begun.good prog fnm gls = true := by kernel_rfl
theorem g_accident : d_accident.good prog fnm gls = true := by kernel_rfl
theorem g_twins : d_twins.good prog fnm gls = true := by kernel_rfl
theorem g_held : d_held.good prog fnm gls = true := by kernel_rfl
theorem g__law_box : d__law_box.good prog fnm gls = true := by kernel_rfl
theorem g__law_take : d__law_take.good prog fnm gls = true := by kernel_rfl
theorem g__law_cells : d__law_cells.good prog fnm gls = true := by kernel_rfl
theorem g__law_of : d__law_of.good prog fnm gls = true := by kernel_rfl
theorem g__law_same : d__law_same.good prog fnm gls = true := by kernel_rfl
theorem g__law_row_right : d__law_row_right.good prog fnm gls = true := by kernel_rfl
theorem g__law_beside_right : d__law_beside_right.good prog fnm gls = true := by kernel_rfl
theorem g__law_jobs_right : d__law_jobs_right.good prog fnm gls = true := by kernel_rfl
theorem g__law_right : d__law_right.good prog fnm gls = true := by kernel_rfl
theorem g_law : d_law.good prog fnm gls = true := by kernel_rfl
theorem g_all : ∀ d ∈ dns, d.good prog fnm gls = true := by
  unfold dns
  simp only [List.forall_mem_cons]
  exact ⟨g_tupled, g_is_number, g_is_tuple, g_is_made_of, g_is_name, g_is_word, g_rises, g_are_names, g_is_literal, g_is_piece, g_is_template, g_do_begin, g_text_of, g_is_setting, g_is_job, g_is_plan, g_cases, g_job_row, g_values_of, g_key_text, g_prefix_texts, g_row_of, g_key_row, g_prefix_of, g_begun, g_accident, g_twins, g_held, g__law_box, g__law_take, g__law_cells, g__law_of, g__law_same, g__law_row_right, g__law_beside_right, g__law_jobs_right, g__law_right, g_law, by simp⟩
theorem fn_all : ∀ x ∈ fnm, ∃ d ∈ dns, d.x = x := by
  intro x hx
  have e : fnm = dns.map (·.x) := rfl
  rw [e] at hx
  obtain ⟨d, h1, h2⟩ := List.mem_map.mp hx
  exact ⟨d, h1, h2⟩
end En
namespace En
open PySem L2 PyProof.Rows
theorem all_mk {l : PySem.W.OpenLaw} {w : World} {K : PySem.W.Frag} {h : Heap} {mg : Str → Option Value} {fa : Addr} (hk : K.In h) (G : h.Ns mainGlobals mg) (hfa : mg "law" = some (.ref fa))
    {f0 : Addr} {od0 an0 : Option Addr} {sl0 : Array (Option Value)} {oc0 kV0 dc0 pm0 cd0 ct0 : Value} (a0 : PySem.W.nsIn K mainGlobals (Str.ofString "tupled") = some (some (.ref f0))) (l0 : K.lookup f0 = some ⟨oc0, od0, .func (PySem.W.fnOf (Str.ofString "tupled") (Str.ofString "tupled") (defArgs (topS 8)) (defBody (topS 8)) (defScope (topS 8)) .none kV0 dc0 pm0 an0 cd0 ct0), sl0⟩) (c0 : PySem.W.codeIn K cd0 (Str.ofString "tupled") = true) (k0 : PySem.W.keepIn K (.ref f0) = true)
    {f1 : Addr} {od1 an1 : Option Addr} {sl1 : Array (Option Value)} {oc1 kV1 dc1 pm1 cd1 ct1 : Value} (a1 : PySem.W.nsIn K mainGlobals (Str.ofString "is_number") = some (some (.ref f1))) (l1 : K.lookup f1 = some ⟨oc1, od1, .func (PySem.W.fnOf (Str.ofString "is_number") (Str.ofString "is_number") (defArgs (topS 9)) (defBody (topS 9)) (defScope (topS 9)) .none kV1 dc1 pm1 an1 cd1 ct1), sl1⟩) (c1 : PySem.W.codeIn K cd1 (Str.ofString "is_number") = true) (k1 : PySem.W.keepIn K (.ref f1) = true)
    {f2 : Addr} {od2 an2 : Option Addr} {sl2 : Array (Option Value)} {oc2 kV2 dc2 pm2 cd2 ct2 : Value} (a2 : PySem.W.nsIn K mainGlobals (Str.ofString "is_tuple") = some (some (.ref f2))) (l2 : K.lookup f2 = some ⟨oc2, od2, .func (PySem.W.fnOf (Str.ofString "is_tuple") (Str.ofString "is_tuple") (defArgs (topS 10)) (defBody (topS 10)) (defScope (topS 10)) .none kV2 dc2 pm2 an2 cd2 ct2), sl2⟩) (c2 : PySem.W.codeIn K cd2 (Str.ofString "is_tuple") = true) (k2 : PySem.W.keepIn K (.ref f2) = true)
    {f3 : Addr} {od3 an3 : Option Addr} {sl3 : Array (Option Value)} {oc3 kV3 dc3 pm3 cd3 ct3 : Value} (a3 : PySem.W.nsIn K mainGlobals (Str.ofString "is_made_of") = some (some (.ref f3))) (l3 : K.lookup f3 = some ⟨oc3, od3, .func (PySem.W.fnOf (Str.ofString "is_made_of") (Str.ofString "is_made_of") (defArgs (topS 11)) (defBody (topS 11)) (defScope (topS 11)) .none kV3 dc3 pm3 an3 cd3 ct3), sl3⟩) (c3 : PySem.W.codeIn K cd3 (Str.ofString "is_made_of") = true) (k3 : PySem.W.keepIn K (.ref f3) = true)
    {f4 : Addr} {od4 an4 : Option Addr} {sl4 : Array (Option Value)} {oc4 kV4 dc4 pm4 cd4 ct4 : Value} (a4 : PySem.W.nsIn K mainGlobals (Str.ofString "is_name") = some (some (.ref f4))) (l4 : K.lookup f4 = some ⟨oc4, od4, .func (PySem.W.fnOf (Str.ofString "is_name") (Str.ofString "is_name") (defArgs (topS 12)) (defBody (topS 12)) (defScope (topS 12)) .none kV4 dc4 pm4 an4 cd4 ct4), sl4⟩) (c4 : PySem.W.codeIn K cd4 (Str.ofString "is_name") = true) (k4 : PySem.W.keepIn K (.ref f4) = true)
    {f5 : Addr} {od5 an5 : Option Addr} {sl5 : Array (Option Value)} {oc5 kV5 dc5 pm5 cd5 ct5 : Value} (a5 : PySem.W.nsIn K mainGlobals (Str.ofString "is_word") = some (some (.ref f5))) (l5 : K.lookup f5 = some ⟨oc5, od5, .func (PySem.W.fnOf (Str.ofString "is_word") (Str.ofString "is_word") (defArgs (topS 13)) (defBody (topS 13)) (defScope (topS 13)) .none kV5 dc5 pm5 an5 cd5 ct5), sl5⟩) (c5 : PySem.W.codeIn K cd5 (Str.ofString "is_word") = true) (k5 : PySem.W.keepIn K (.ref f5) = true)
    {f6 : Addr} {od6 an6 : Option Addr} {sl6 : Array (Option Value)} {oc6 kV6 dc6 pm6 cd6 ct6 : Value} (a6 : PySem.W.nsIn K mainGlobals (Str.ofString "rises") = some (some (.ref f6))) (l6 : K.lookup f6 = some ⟨oc6, od6, .func (PySem.W.fnOf (Str.ofString "rises") (Str.ofString "rises") (defArgs (topS 14)) (defBody (topS 14)) (defScope (topS 14)) .none kV6 dc6 pm6 an6 cd6 ct6), sl6⟩) (c6 : PySem.W.codeIn K cd6 (Str.ofString "rises") = true) (k6 : PySem.W.keepIn K (.ref f6) = true)
    {f7 : Addr} {od7 an7 : Option Addr} {sl7 : Array (Option Value)} {oc7 kV7 dc7 pm7 cd7 ct7 : Value} (a7 : PySem.W.nsIn K mainGlobals (Str.ofString "are_names") = some (some (.ref f7))) (l7 : K.lookup f7 = some ⟨oc7, od7, .func (PySem.W.fnOf (Str.ofString "are_names") (Str.ofString "are_names") (defArgs (topS 15)) (defBody (topS 15)) (defScope (topS 15)) .none kV7 dc7 pm7 an7 cd7 ct7), sl7⟩) (c7 : PySem.W.codeIn K cd7 (Str.ofString "are_names") = true) (k7 : PySem.W.keepIn K (.ref f7) = true)
    {f8 : Addr} {od8 an8 : Option Addr} {sl8 : Array (Option Value)} {oc8 kV8 dc8 pm8 cd8 ct8 : Value} (a8 : PySem.W.nsIn K mainGlobals (Str.ofString "is_literal") = some (some (.ref f8))) (l8 : K.lookup f8 = some ⟨oc8, od8, .func (PySem.W.fnOf (Str.ofString "is_literal") (Str.ofString "is_literal") (defArgs (topS 23)) (defBody (topS 23)) (defScope (topS 23)) .none kV8 dc8 pm8 an8 cd8 ct8), sl8⟩) (c8 : PySem.W.codeIn K cd8 (Str.ofString "is_literal") = true) (k8 : PySem.W.keepIn K (.ref f8) = true)
    {f9 : Addr} {od9 an9 : Option Addr} {sl9 : Array (Option Value)} {oc9 kV9 dc9 pm9 cd9 ct9 : Value} (a9 : PySem.W.nsIn K mainGlobals (Str.ofString "is_piece") = some (some (.ref f9))) (l9 : K.lookup f9 = some ⟨oc9, od9, .func (PySem.W.fnOf (Str.ofString "is_piece") (Str.ofString "is_piece") (defArgs (topS 24)) (defBody (topS 24)) (defScope (topS 24)) .none kV9 dc9 pm9 an9 cd9 ct9), sl9⟩) (c9 : PySem.W.codeIn K cd9 (Str.ofString "is_piece") = true) (k9 : PySem.W.keepIn K (.ref f9) = true)
    {f10 : Addr} {od10 an10 : Option Addr} {sl10 : Array (Option Value)} {oc10 kV10 dc10 pm10 cd10 ct10 : Value} (a10 : PySem.W.nsIn K mainGlobals (Str.ofString "is_template") = some (some (.ref f10))) (l10 : K.lookup f10 = some ⟨oc10, od10, .func (PySem.W.fnOf (Str.ofString "is_template") (Str.ofString "is_template") (defArgs (topS 25)) (defBody (topS 25)) (defScope (topS 25)) .none kV10 dc10 pm10 an10 cd10 ct10), sl10⟩) (c10 : PySem.W.codeIn K cd10 (Str.ofString "is_template") = true) (k10 : PySem.W.keepIn K (.ref f10) = true)
    {f11 : Addr} {od11 an11 : Option Addr} {sl11 : Array (Option Value)} {oc11 kV11 dc11 pm11 cd11 ct11 : Value} (a11 : PySem.W.nsIn K mainGlobals (Str.ofString "do_begin") = some (some (.ref f11))) (l11 : K.lookup f11 = some ⟨oc11, od11, .func (PySem.W.fnOf (Str.ofString "do_begin") (Str.ofString "do_begin") (defArgs (topS 26)) (defBody (topS 26)) (defScope (topS 26)) .none kV11 dc11 pm11 an11 cd11 ct11), sl11⟩) (c11 : PySem.W.codeIn K cd11 (Str.ofString "do_begin") = true) (k11 : PySem.W.keepIn K (.ref f11) = true)
    {f12 : Addr} {od12 an12 : Option Addr} {sl12 : Array (Option Value)} {oc12 kV12 dc12 pm12 cd12 ct12 : Value} (a12 : PySem.W.nsIn K mainGlobals (Str.ofString "text_of") = some (some (.ref f12))) (l12 : K.lookup f12 = some ⟨oc12, od12, .func (PySem.W.fnOf (Str.ofString "text_of") (Str.ofString "text_of") (defArgs (topS 27)) (defBody (topS 27)) (defScope (topS 27)) .none kV12 dc12 pm12 an12 cd12 ct12), sl12⟩) (c12 : PySem.W.codeIn K cd12 (Str.ofString "text_of") = true) (k12 : PySem.W.keepIn K (.ref f12) = true)
    {f13 : Addr} {od13 an13 : Option Addr} {sl13 : Array (Option Value)} {oc13 kV13 dc13 pm13 cd13 ct13 : Value} (a13 : PySem.W.nsIn K mainGlobals (Str.ofString "is_setting") = some (some (.ref f13))) (l13 : K.lookup f13 = some ⟨oc13, od13, .func (PySem.W.fnOf (Str.ofString "is_setting") (Str.ofString "is_setting") (defArgs (topS 28)) (defBody (topS 28)) (defScope (topS 28)) .none kV13 dc13 pm13 an13 cd13 ct13), sl13⟩) (c13 : PySem.W.codeIn K cd13 (Str.ofString "is_setting") = true) (k13 : PySem.W.keepIn K (.ref f13) = true)
    {f14 : Addr} {od14 an14 : Option Addr} {sl14 : Array (Option Value)} {oc14 kV14 dc14 pm14 cd14 ct14 : Value} (a14 : PySem.W.nsIn K mainGlobals (Str.ofString "is_job") = some (some (.ref f14))) (l14 : K.lookup f14 = some ⟨oc14, od14, .func (PySem.W.fnOf (Str.ofString "is_job") (Str.ofString "is_job") (defArgs (topS 29)) (defBody (topS 29)) (defScope (topS 29)) .none kV14 dc14 pm14 an14 cd14 ct14), sl14⟩) (c14 : PySem.W.codeIn K cd14 (Str.ofString "is_job") = true) (k14 : PySem.W.keepIn K (.ref f14) = true)
    {f15 : Addr} {od15 an15 : Option Addr} {sl15 : Array (Option Value)} {oc15 kV15 dc15 pm15 cd15 ct15 : Value} (a15 : PySem.W.nsIn K mainGlobals (Str.ofString "is_plan") = some (some (.ref f15))) (l15 : K.lookup f15 = some ⟨oc15, od15, .func (PySem.W.fnOf (Str.ofString "is_plan") (Str.ofString "is_plan") (defArgs (topS 30)) (defBody (topS 30)) (defScope (topS 30)) .none kV15 dc15 pm15 an15 cd15 ct15), sl15⟩) (c15 : PySem.W.codeIn K cd15 (Str.ofString "is_plan") = true) (k15 : PySem.W.keepIn K (.ref f15) = true)
    {f16 : Addr} {od16 an16 : Option Addr} {sl16 : Array (Option Value)} {oc16 kV16 dc16 pm16 cd16 ct16 : Value} (a16 : PySem.W.nsIn K mainGlobals (Str.ofString "cases") = some (some (.ref f16))) (l16 : K.lookup f16 = some ⟨oc16, od16, .func (PySem.W.fnOf (Str.ofString "cases") (Str.ofString "cases") (defArgs (topS 31)) (defBody (topS 31)) (defScope (topS 31)) .none kV16 dc16 pm16 an16 cd16 ct16), sl16⟩) (c16 : PySem.W.codeIn K cd16 (Str.ofString "cases") = true) (k16 : PySem.W.keepIn K (.ref f16) = true)
    {f17 : Addr} {od17 an17 : Option Addr} {sl17 : Array (Option Value)} {oc17 kV17 dc17 pm17 cd17 ct17 : Value} (a17 : PySem.W.nsIn K mainGlobals (Str.ofString "job_row") = some (some (.ref f17))) (l17 : K.lookup f17 = some ⟨oc17, od17, .func (PySem.W.fnOf (Str.ofString "job_row") (Str.ofString "job_row") (defArgs (topS 32)) (defBody (topS 32)) (defScope (topS 32)) .none kV17 dc17 pm17 an17 cd17 ct17), sl17⟩) (c17 : PySem.W.codeIn K cd17 (Str.ofString "job_row") = true) (k17 : PySem.W.keepIn K (.ref f17) = true)
    {f18 : Addr} {od18 an18 : Option Addr} {sl18 : Array (Option Value)} {oc18 kV18 dc18 pm18 cd18 ct18 : Value} (a18 : PySem.W.nsIn K mainGlobals (Str.ofString "values_of") = some (some (.ref f18))) (l18 : K.lookup f18 = some ⟨oc18, od18, .func (PySem.W.fnOf (Str.ofString "values_of") (Str.ofString "values_of") (defArgs (topS 33)) (defBody (topS 33)) (defScope (topS 33)) .none kV18 dc18 pm18 an18 cd18 ct18), sl18⟩) (c18 : PySem.W.codeIn K cd18 (Str.ofString "values_of") = true) (k18 : PySem.W.keepIn K (.ref f18) = true)
    {f19 : Addr} {od19 an19 : Option Addr} {sl19 : Array (Option Value)} {oc19 kV19 dc19 pm19 cd19 ct19 : Value} (a19 : PySem.W.nsIn K mainGlobals (Str.ofString "key_text") = some (some (.ref f19))) (l19 : K.lookup f19 = some ⟨oc19, od19, .func (PySem.W.fnOf (Str.ofString "key_text") (Str.ofString "key_text") (defArgs (topS 34)) (defBody (topS 34)) (defScope (topS 34)) .none kV19 dc19 pm19 an19 cd19 ct19), sl19⟩) (c19 : PySem.W.codeIn K cd19 (Str.ofString "key_text") = true) (k19 : PySem.W.keepIn K (.ref f19) = true)
    {f20 : Addr} {od20 an20 : Option Addr} {sl20 : Array (Option Value)} {oc20 kV20 dc20 pm20 cd20 ct20 : Value} (a20 : PySem.W.nsIn K mainGlobals (Str.ofString "prefix_texts") = some (some (.ref f20))) (l20 : K.lookup f20 = some ⟨oc20, od20, .func (PySem.W.fnOf (Str.ofString "prefix_texts") (Str.ofString "prefix_texts") (defArgs (topS 35)) (defBody (topS 35)) (defScope (topS 35)) .none kV20 dc20 pm20 an20 cd20 ct20), sl20⟩) (c20 : PySem.W.codeIn K cd20 (Str.ofString "prefix_texts") = true) (k20 : PySem.W.keepIn K (.ref f20) = true)
    {f21 : Addr} {od21 an21 : Option Addr} {sl21 : Array (Option Value)} {oc21 kV21 dc21 pm21 cd21 ct21 : Value} (a21 : PySem.W.nsIn K mainGlobals (Str.ofString "row_of") = some (some (.ref f21))) (l21 : K.lookup f21 = some ⟨oc21, od21, .func (PySem.W.fnOf (Str.ofString "row_of") (Str.ofString "row_of") (defArgs (topS 36)) (defBody (topS 36)) (defScope (topS 36)) .none kV21 dc21 pm21 an21 cd21 ct21), sl21⟩) (c21 : PySem.W.codeIn K cd21 (Str.ofString "row_of") = true) (k21 : PySem.W.keepIn K (.ref f21) = true)
    {f22 : Addr} {od22 an22 : Option Addr} {sl22 : Array (Option Value)} {oc22 kV22 dc22 pm22 cd22 ct22 : Value} (a22 : PySem.W.nsIn K mainGlobals (Str.ofString "key_row") = some (some (.ref f22))) (l22 : K.lookup f22 = some ⟨oc22, od22, .func (PySem.W.fnOf (Str.ofString "key_row") (Str.ofString "key_row") (defArgs (topS 37)) (defBody (topS 37)) (defScope (topS 37)) .none kV22 dc22 pm22 an22 cd22 ct22), sl22⟩) (c22 : PySem.W.codeIn K cd22 (Str.ofString "key_row") = true) (k22 : PySem.W.keepIn K (.ref f22) = true)
    {f23 : Addr} {od23 an23 : Option Addr} {sl23 : Array (Option Value)} {oc23 kV23 dc23 pm23 cd23 ct23 : Value} (a23 : PySem.W.nsIn K mainGlobals (Str.ofString "prefix_of") = some (some (.ref f23))) (l23 : K.lookup f23 = some ⟨oc23, od23, .func (PySem.W.fnOf (Str.ofString "prefix_of") (Str.ofString "prefix_of") (defArgs (topS 38)) (defBody (topS 38)) (defScope (topS 38)) .none kV23 dc23 pm23 an23 cd23 ct23), sl23⟩) (c23 : PySem.W.codeIn K cd23 (Str.ofString "prefix_of") = true) (k23 : PySem.W.keepIn K (.ref f23) = true)
    {f24 : Addr} {od24 an24 : Option Addr} {sl24 : Array (Option Value)} {oc24 kV24 dc24 pm24 cd24 ct24 : Value} (a24 : PySem.W.nsIn K mainGlobals (Str.ofString "begun") = some (some (.ref f24))) (l24 : K.lookup f24 = some ⟨oc24, od24, .func (PySem.W.fnOf (Str.ofString "begun") (Str.ofString "begun") (defArgs (topS 39)) (defBody (topS 39)) (defScope (topS 39)) .none kV24 dc24 pm24 an24 cd24 ct24), sl24⟩) (c24 : PySem.W.codeIn K cd24 (Str.ofString "begun") = true) (k24 : PySem.W.keepIn K (.ref f24) = true)
    {f25 : Addr} {od25 an25 : Option Addr} {sl25 : Array (Option Value)} {oc25 kV25 dc25 pm25 cd25 ct25 : Value} (a25 : PySem.W.nsIn K mainGlobals (Str.ofString "accident") = some (some (.ref f25))) (l25 : K.lookup f25 = some ⟨oc25, od25, .func (PySem.W.fnOf (Str.ofString "accident") (Str.ofString "accident") (defArgs (topS 40)) (defBody (topS 40)) (defScope (topS 40)) .none kV25 dc25 pm25 an25 cd25 ct25), sl25⟩) (c25 : PySem.W.codeIn K cd25 (Str.ofString "accident") = true) (k25 : PySem.W.keepIn K (.ref f25) = true)
    {f26 : Addr} {od26 an26 : Option Addr} {sl26 : Array (Option Value)} {oc26 kV26 dc26 pm26 cd26 ct26 : Value} (a26 : PySem.W.nsIn K mainGlobals (Str.ofString "twins") = some (some (.ref f26))) (l26 : K.lookup f26 = some ⟨oc26, od26, .func (PySem.W.fnOf (Str.ofString "twins") (Str.ofString "twins") (defArgs (topS 41)) (defBody (topS 41)) (defScope (topS 41)) .none kV26 dc26 pm26 an26 cd26 ct26), sl26⟩) (c26 : PySem.W.codeIn K cd26 (Str.ofString "twins") = true) (k26 : PySem.W.keepIn K (.ref f26) = true)
    {f27 : Addr} {od27 an27 : Option Addr} {sl27 : Array (Option Value)} {oc27 kV27 dc27 pm27 cd27 ct27 : Value} (a27 : PySem.W.nsIn K mainGlobals (Str.ofString "held") = some (some (.ref f27))) (l27 : K.lookup f27 = some ⟨oc27, od27, .func (PySem.W.fnOf (Str.ofString "held") (Str.ofString "held") (defArgs (topS 42)) (defBody (topS 42)) (defScope (topS 42)) .none kV27 dc27 pm27 an27 cd27 ct27), sl27⟩) (c27 : PySem.W.codeIn K cd27 (Str.ofString "held") = true) (k27 : PySem.W.keepIn K (.ref f27) = true)
    {f28 : Addr} {od28 an28 : Option Addr} {sl28 : Array (Option Value)} {oc28 kV28 dc28 pm28 cd28 ct28 : Value} (a28 : PySem.W.nsIn K mainGlobals (Str.ofString "_law_box") = some (some (.ref f28))) (l28 : K.lookup f28 = some ⟨oc28, od28, .func (PySem.W.fnOf (Str.ofString "_law_box") (Str.ofString "_law_box") (defArgs (topS 44)) (defBody (topS 44)) (defScope (topS 44)) .none kV28 dc28 pm28 an28 cd28 ct28), sl28⟩) (c28 : PySem.W.codeIn K cd28 (Str.ofString "_law_box") = true) (k28 : PySem.W.keepIn K (.ref f28) = true)
    {f29 : Addr} {od29 an29 : Option Addr} {sl29 : Array (Option Value)} {oc29 kV29 dc29 pm29 cd29 ct29 : Value} (a29 : PySem.W.nsIn K mainGlobals (Str.ofString "_law_take") = some (some (.ref f29))) (l29 : K.lookup f29 = some ⟨oc29, od29, .func (PySem.W.fnOf (Str.ofString "_law_take") (Str.ofString "_law_take") (defArgs (topS 45)) (defBody (topS 45)) (defScope (topS 45)) .none kV29 dc29 pm29 an29 cd29 ct29), sl29⟩) (c29 : PySem.W.codeIn K cd29 (Str.ofString "_law_take") = true) (k29 : PySem.W.keepIn K (.ref f29) = true)
    {f30 : Addr} {od30 an30 : Option Addr} {sl30 : Array (Option Value)} {oc30 kV30 dc30 pm30 cd30 ct30 : Value} (a30 : PySem.W.nsIn K mainGlobals (Str.ofString "_law_cells") = some (some (.ref f30))) (l30 : K.lookup f30 = some ⟨oc30, od30, .func (PySem.W.fnOf (Str.ofString "_law_cells") (Str.ofString "_law_cells") (defArgs (topS 46)) (defBody (topS 46)) (defScope (topS 46)) .none kV30 dc30 pm30 an30 cd30 ct30), sl30⟩) (c30 : PySem.W.codeIn K cd30 (Str.ofString "_law_cells") = true) (k30 : PySem.W.keepIn K (.ref f30) = true)
    {f31 : Addr} {od31 an31 : Option Addr} {sl31 : Array (Option Value)} {oc31 kV31 dc31 pm31 cd31 ct31 : Value} (a31 : PySem.W.nsIn K mainGlobals (Str.ofString "_law_of") = some (some (.ref f31))) (l31 : K.lookup f31 = some ⟨oc31, od31, .func (PySem.W.fnOf (Str.ofString "_law_of") (Str.ofString "_law_of") (defArgs (topS 47)) (defBody (topS 47)) (defScope (topS 47)) .none kV31 dc31 pm31 an31 cd31 ct31), sl31⟩) (c31 : PySem.W.codeIn K cd31 (Str.ofString "_law_of") = true) (k31 : PySem.W.keepIn K (.ref f31) = true)
    {f32 : Addr} {od32 an32 : Option Addr} {sl32 : Array (Option Value)} {oc32 kV32 dc32 pm32 cd32 ct32 : Value} (a32 : PySem.W.nsIn K mainGlobals (Str.ofString "_law_same") = some (some (.ref f32))) (l32 : K.lookup f32 = some ⟨oc32, od32, .func (PySem.W.fnOf (Str.ofString "_law_same") (Str.ofString "_law_same") (defArgs (topS 48)) (defBody (topS 48)) (defScope (topS 48)) .none kV32 dc32 pm32 an32 cd32 ct32), sl32⟩) (c32 : PySem.W.codeIn K cd32 (Str.ofString "_law_same") = true) (k32 : PySem.W.keepIn K (.ref f32) = true)
    {f33 : Addr} {od33 an33 : Option Addr} {sl33 : Array (Option Value)} {oc33 kV33 dc33 pm33 cd33 ct33 : Value} (a33 : PySem.W.nsIn K mainGlobals (Str.ofString "_law_row_right") = some (some (.ref f33))) (l33 : K.lookup f33 = some ⟨oc33, od33, .func (PySem.W.fnOf (Str.ofString "_law_row_right") (Str.ofString "_law_row_right") (defArgs (topS 49)) (defBody (topS 49)) (defScope (topS 49)) .none kV33 dc33 pm33 an33 cd33 ct33), sl33⟩) (c33 : PySem.W.codeIn K cd33 (Str.ofString "_law_row_right") = true) (k33 : PySem.W.keepIn K (.ref f33) = true)
    {f34 : Addr} {od34 an34 : Option Addr} {sl34 : Array (Option Value)} {oc34 kV34 dc34 pm34 cd34 ct34 : Value} (a34 : PySem.W.nsIn K mainGlobals (Str.ofString "_law_beside_right") = some (some (.ref f34))) (l34 : K.lookup f34 = some ⟨oc34, od34, .func (PySem.W.fnOf (Str.ofString "_law_beside_right") (Str.ofString "_law_beside_right") (defArgs (topS 50)) (defBody (topS 50)) (defScope (topS 50)) .none kV34 dc34 pm34 an34 cd34 ct34), sl34⟩) (c34 : PySem.W.codeIn K cd34 (Str.ofString "_law_beside_right") = true) (k34 : PySem.W.keepIn K (.ref f34) = true)
    {f35 : Addr} {od35 an35 : Option Addr} {sl35 : Array (Option Value)} {oc35 kV35 dc35 pm35 cd35 ct35 : Value} (a35 : PySem.W.nsIn K mainGlobals (Str.ofString "_law_jobs_right") = some (some (.ref f35))) (l35 : K.lookup f35 = some ⟨oc35, od35, .func (PySem.W.fnOf (Str.ofString "_law_jobs_right") (Str.ofString "_law_jobs_right") (defArgs (topS 51)) (defBody (topS 51)) (defScope (topS 51)) .none kV35 dc35 pm35 an35 cd35 ct35), sl35⟩) (c35 : PySem.W.codeIn K cd35 (Str.ofString "_law_jobs_right") = true) (k35 : PySem.W.keepIn K (.ref f35) = true)
    {f36 : Addr} {od36 an36 : Option Addr} {sl36 : Array (Option Value)} {oc36 kV36 dc36 pm36 cd36 ct36 : Value} (a36 : PySem.W.nsIn K mainGlobals (Str.ofString "_law_right") = some (some (.ref f36))) (l36 : K.lookup f36 = some ⟨oc36, od36, .func (PySem.W.fnOf (Str.ofString "_law_right") (Str.ofString "_law_right") (defArgs (topS 52)) (defBody (topS 52)) (defScope (topS 52)) .none kV36 dc36 pm36 an36 cd36 ct36), sl36⟩) (c36 : PySem.W.codeIn K cd36 (Str.ofString "_law_right") = true) (k36 : PySem.W.keepIn K (.ref f36) = true)
    {f37 : Addr} {od37 an37 : Option Addr} {sl37 : Array (Option Value)} {oc37 kV37 dc37 pm37 cd37 ct37 : Value} (a37 : PySem.W.nsIn K mainGlobals (Str.ofString "law") = some (some (.ref f37))) (l37 : K.lookup f37 = some ⟨oc37, od37, .func (PySem.W.fnOf (Str.ofString "law") (Str.ofString "law") (defArgs (topS 53)) (defBody (topS 53)) (defScope (topS 53)) .none kV37 dc37 pm37 an37 cd37 ct37), sl37⟩) (c37 : PySem.W.codeIn K cd37 (Str.ofString "law") = true) (k37 : PySem.W.keepIn K (.ref f37) = true)
    (z0 : PySem.W.nsIn K mainGlobals (Str.ofString "abs") = some none)
    (z1 : PySem.W.nsIn K mainGlobals (Str.ofString "int") = some none)
    (z2 : PySem.W.nsIn K mainGlobals (Str.ofString "len") = some none)
    (z3 : PySem.W.nsIn K mainGlobals (Str.ofString "tuple") = some none)
    (z4 : PySem.W.nsIn K mainGlobals (Str.ofString "list") = some none)
    (z5 : PySem.W.nsIn K mainGlobals (Str.ofString "all") = some none)
    (z6 : PySem.W.nsIn K mainGlobals (Str.ofString "any") = some none)
    (z7 : PySem.W.nsIn K mainGlobals (Str.ofString "isinstance") = some none)
    (z8 : PySem.W.nsIn K mainGlobals (Str.ofString "bool") = some none)
    (z9 : PySem.W.nsIn K mainGlobals (Str.ofString "str") = some none)
    (z10 : PySem.W.nsIn K mainGlobals (Str.ofString "dict") = some none)
    (z11 : PySem.W.nsIn K mainGlobals (Str.ofString "enumerate") = some none)
    (z12 : PySem.W.nsIn K mainGlobals (Str.ofString "zip") = some none)
    (z13 : PySem.W.nsIn K mainGlobals (Str.ofString "range") = some none)
    {t0 : Tok} (q0 : PySem.W.nsIn K mainGlobals (Str.ofString "LETTERS") = some (some (.str ⟨#[97, 98, 99, 100, 101, 102, 103, 104, 105, 106, 107, 108, 109, 110, 111, 112, 113, 114, 115, 116, 117, 118, 119, 120, 121, 122]⟩ t0)))
    {t1 : Tok} (q1 : PySem.W.nsIn K mainGlobals (Str.ofString "DIGITS") = some (some (.str ⟨#[48, 49, 50, 51, 52, 53, 54, 55, 56, 57]⟩ t1)))
    {t2 : Tok} (q2 : PySem.W.nsIn K mainGlobals (Str.ofString "MOST_NAME") = some (some (.int (8) t2)))
    {t3 : Tok} (q3 : PySem.W.nsIn K mainGlobals (Str.ofString "MOST_WORD") = some (some (.int (3) t3)))
    {t4 : Tok} (q4 : PySem.W.nsIn K mainGlobals (Str.ofString "TEXT") = some (some (.str ⟨#[116, 101, 120, 116]⟩ t4)))
    {t5 : Tok} (q5 : PySem.W.nsIn K mainGlobals (Str.ofString "FIELD") = some (some (.str ⟨#[102, 105, 101, 108, 100]⟩ t5)))
    {t6 : Tok} (q6 : PySem.W.nsIn K mainGlobals (Str.ofString "SIGNS") = some (some (.str ⟨#[97, 98, 99, 100, 101, 102, 103, 104, 105, 106, 107, 108, 109, 110, 111, 112, 113, 114, 115, 116, 117, 118, 119, 120, 121, 122, 48, 49, 50, 51, 52, 53, 54, 55, 56, 57, 45, 46]⟩ t6)))
    {t7 : Tok} (q7 : PySem.W.nsIn K mainGlobals (Str.ofString "PAIR") = some (some (.int (2) t7)))
    {t8 : Tok} (q8 : PySem.W.nsIn K mainGlobals (Str.ofString "TRIPLE") = some (some (.int (3) t8)))
    {t9 : Tok} (q9 : PySem.W.nsIn K mainGlobals (Str.ofString "JOB_PARTS") = some (some (.int (4) t9)))
    (law : ∀ ns : List Int, ns.length ≤ 63 → ∃ h2, callN prog 40 (Str.ofString "law") [.scr ns] [] = .ok (.d (.bool true)) h2) :
    ∃ fd : FuncData, (∀ (s : Shared) (v : Value), BindsTo s fd ⟨[v], []⟩ [((Str.ofString "_law_script"), v)]) ∧ ∀ base : Heap, K.In base → base.Ns mainGlobals mg → FnOk l.prog w K mg base CX0 40 fa fd [(Str.ofString "_law_script")] (spL K 63) := by
  letI : Wd := ⟨w⟩
  have e := hfa.symm.trans (PySem.W.mg_of hk G a37)
  cases e
  have F0 := fun_mk (st := topS 8) l0 c0 k0
  have A0 : d_tupled.At K mg prog f0 _ := ⟨F0, PySem.W.mg_of hk G a0, F0.binds (ps := [(Str.ofString "thing")]) fun _ _ _ _ _ _ us hl => match us, hl with | [_], _ => rfl, by rfl⟩
  have F1 := fun_mk (st := topS 9) l1 c1 k1
  have A1 : d_is_number.At K mg prog f1 _ := ⟨F1, PySem.W.mg_of hk G a1, F1.binds (ps := [(Str.ofString "thing"), (Str.ofString "bottom")]) fun _ _ _ _ _ _ us hl => match us, hl with | [_, _], _ => rfl, by rfl⟩
  have F2 := fun_mk (st := topS 10) l2 c2 k2
  have A2 : d_is_tuple.At K mg prog f2 _ := ⟨F2, PySem.W.mg_of hk G a2, F2.binds (ps := [(Str.ofString "thing"), (Str.ofString "many")]) fun _ _ _ _ _ _ us hl => match us, hl with | [_, _], _ => rfl, by rfl⟩
  have F3 := fun_mk (st := topS 11) l3 c3 k3
  have A3 : d_is_made_of.At K mg prog f3 _ := ⟨F3, PySem.W.mg_of hk G a3, F3.binds (ps := [(Str.ofString "thing"), (Str.ofString "signs"), (Str.ofString "most")]) fun _ _ _ _ _ _ us hl => match us, hl with | [_, _, _], _ => rfl, by rfl⟩
  have F4 := fun_mk (st := topS 12) l4 c4 k4
  have A4 : d_is_name.At K mg prog f4 _ := ⟨F4, PySem.W.mg_of hk G a4, F4.binds (ps := [(Str.ofString "thing")]) fun _ _ _ _ _ _ us hl => match us, hl with | [_], _ => rfl, by rfl⟩
  have F5 := fun_mk (st := topS 13) l5 c5 k5
  have A5 : d_is_word.At K mg prog f5 _ := ⟨F5, PySem.W.mg_of hk G a5, F5.binds (ps := [(Str.ofString "thing")]) fun _ _ _ _ _ _ us hl => match us, hl with | [_], _ => rfl, by rfl⟩
  have F6 := fun_mk (st := topS 14) l6 c6 k6
  have A6 : d_rises.At K mg prog f6 _ := ⟨F6, PySem.W.mg_of hk G a6, F6.binds (ps := [(Str.ofString "some")]) fun _ _ _ _ _ _ us hl => match us, hl with | [_], _ => rfl, by rfl⟩
  have F7 := fun_mk (st := topS 15) l7 c7 k7
  have A7 : d_are_names.At K mg prog f7 _ := ⟨F7, PySem.W.mg_of hk G a7, F7.binds (ps := [(Str.ofString "thing")]) fun _ _ _ _ _ _ us hl => match us, hl with | [_], _ => rfl, by rfl⟩
  have F8 := fun_mk (st := topS 23) l8 c8 k8
  have A8 : d_is_literal.At K mg prog f8 _ := ⟨F8, PySem.W.mg_of hk G a8, F8.binds (ps := [(Str.ofString "thing")]) fun _ _ _ _ _ _ us hl => match us, hl with | [_], _ => rfl, by rfl⟩
  have F9 := fun_mk (st := topS 24) l9 c9 k9
  have A9 : d_is_piece.At K mg prog f9 _ := ⟨F9, PySem.W.mg_of hk G a9, F9.binds (ps := [(Str.ofString "thing")]) fun _ _ _ _ _ _ us hl => match us, hl with | [_], _ => rfl, by rfl⟩
  have F10 := fun_mk (st := topS 25) l10 c10 k10
  have A10 : d_is_template.At K mg prog f10 _ := ⟨F10, PySem.W.mg_of hk G a10, F10.binds (ps := [(Str.ofString "thing")]) fun _ _ _ _ _ _ us hl => match us, hl with | [_], _ => rfl, by rfl⟩
  have F11 := fun_mk (st := topS 26) l11 c11 k11
  have A11 : d_do_begin.At K mg prog f11 _ := ⟨F11, PySem.W.mg_of hk G a11, F11.binds (ps := [(Str.ofString "some"), (Str.ofString "others")]) fun _ _ _ _ _ _ us hl => match us, hl with | [_, _], _ => rfl, by rfl⟩
  have F12 := fun_mk (st := topS 27) l12 c12 k12
  have A12 : d_text_of.At K mg prog f12 _ := ⟨F12, PySem.W.mg_of hk G a12, F12.binds (ps := [(Str.ofString "template"), (Str.ofString "values")]) fun _ _ _ _ _ _ us hl => match us, hl with | [_, _], _ => rfl, by rfl⟩
  have F13 := fun_mk (st := topS 28) l13 c13 k13
  have A13 : d_is_setting.At K mg prog f13 _ := ⟨F13, PySem.W.mg_of hk G a13, F13.binds (ps := [(Str.ofString "thing"), (Str.ofString "many")]) fun _ _ _ _ _ _ us hl => match us, hl with | [_, _], _ => rfl, by rfl⟩
  have F14 := fun_mk (st := topS 29) l14 c14 k14
  have A14 : d_is_job.At K mg prog f14 _ := ⟨F14, PySem.W.mg_of hk G a14, F14.binds (ps := [(Str.ofString "thing"), (Str.ofString "fields")]) fun _ _ _ _ _ _ us hl => match us, hl with | [_, _], _ => rfl, by rfl⟩
  have F15 := fun_mk (st := topS 30) l15 c15 k15
  have A15 : d_is_plan.At K mg prog f15 _ := ⟨F15, PySem.W.mg_of hk G a15, F15.binds (ps := [(Str.ofString "thing")]) fun _ _ _ _ _ _ us hl => match us, hl with | [_], _ => rfl, by rfl⟩
  have F16 := fun_mk (st := topS 31) l16 c16 k16
  have A16 : d_cases.At K mg prog f16 _ := ⟨F16, PySem.W.mg_of hk G a16, F16.binds (ps := [(Str.ofString "plan")]) fun _ _ _ _ _ _ us hl => match us, hl with | [_], _ => rfl, by rfl⟩
  have F17 := fun_mk (st := topS 32) l17 c17 k17
  have A17 : d_job_row.At K mg prog f17 _ := ⟨F17, PySem.W.mg_of hk G a17, F17.binds (ps := [(Str.ofString "plan"), (Str.ofString "name")]) fun _ _ _ _ _ _ us hl => match us, hl with | [_, _], _ => rfl, by rfl⟩
  have F18 := fun_mk (st := topS 33) l18 c18 k18
  have A18 : d_values_of.At K mg prog f18 _ := ⟨F18, PySem.W.mg_of hk G a18, F18.binds (ps := [(Str.ofString "plan"), (Str.ofString "setting")]) fun _ _ _ _ _ _ us hl => match us, hl with | [_, _], _ => rfl, by rfl⟩
  have F19 := fun_mk (st := topS 34) l19 c19 k19
  have A19 : d_key_text.At K mg prog f19 _ := ⟨F19, PySem.W.mg_of hk G a19, F19.binds (ps := [(Str.ofString "plan"), (Str.ofString "case")]) fun _ _ _ _ _ _ us hl => match us, hl with | [_, _], _ => rfl, by rfl⟩
  have F20 := fun_mk (st := topS 35) l20 c20 k20
  have A20 : d_prefix_texts.At K mg prog f20 _ := ⟨F20, PySem.W.mg_of hk G a20, F20.binds (ps := [(Str.ofString "plan"), (Str.ofString "case")]) fun _ _ _ _ _ _ us hl => match us, hl with | [_, _], _ => rfl, by rfl⟩
  have F21 := fun_mk (st := topS 36) l21 c21 k21
  have A21 : d_row_of.At K mg prog f21 _ := ⟨F21, PySem.W.mg_of hk G a21, F21.binds (ps := [(Str.ofString "template"), (Str.ofString "values")]) fun _ _ _ _ _ _ us hl => match us, hl with | [_, _], _ => rfl, by rfl⟩
  have F22 := fun_mk (st := topS 37) l22 c22 k22
  have A22 : d_key_row.At K mg prog f22 _ := ⟨F22, PySem.W.mg_of hk G a22, F22.binds (ps := [(Str.ofString "plan"), (Str.ofString "case")]) fun _ _ _ _ _ _ us hl => match us, hl with | [_, _], _ => rfl, by rfl⟩
  have F23 := fun_mk (st := topS 38) l23 c23 k23
  have A23 : d_prefix_of.At K mg prog f23 _ := ⟨F23, PySem.W.mg_of hk G a23, F23.binds (ps := [(Str.ofString "plan"), (Str.ofString "name"), (Str.ofString "number")]) fun _ _ _ _ _ _ us hl => match us, hl with | [_, _, _], _ => rfl, by rfl⟩
  have F24 := fun_mk (st := topS 39) l24 c24 k24
  have A24 : d_begun.At K mg prog f24 _ := ⟨F24, PySem.W.mg_of hk G a24, F24.binds (ps := [(Str.ofString "plan"), (Str.ofString "job"), (Str.ofString "number")]) fun _ _ _ _ _ _ us hl => match us, hl with | [_, _, _], _ => rfl, by rfl⟩
  have F25 := fun_mk (st := topS 40) l25 c25 k25
  have A25 : d_accident.At K mg prog f25 _ := ⟨F25, PySem.W.mg_of hk G a25, F25.binds (ps := [(Str.ofString "plan"), (Str.ofString "job"), (Str.ofString "number")]) fun _ _ _ _ _ _ us hl => match us, hl with | [_, _, _], _ => rfl, by rfl⟩
  have F26 := fun_mk (st := topS 41) l26 c26 k26
  have A26 : d_twins.At K mg prog f26 _ := ⟨F26, PySem.W.mg_of hk G a26, F26.binds (ps := [(Str.ofString "plan")]) fun _ _ _ _ _ _ us hl => match us, hl with | [_], _ => rfl, by rfl⟩
  have F27 := fun_mk (st := topS 42) l27 c27 k27
  have A27 : d_held.At K mg prog f27 _ := ⟨F27, PySem.W.mg_of hk G a27, F27.binds (ps := [(Str.ofString "plan"), (Str.ofString "job"), (Str.ofString "number")]) fun _ _ _ _ _ _ us hl => match us, hl with | [_, _, _], _ => rfl, by rfl⟩
  have F28 := fun_mk (st := topS 44) l28 c28 k28
  have A28 : d__law_box.At K mg prog f28 _ := ⟨F28, PySem.W.mg_of hk G a28, F28.binds (ps := [(Str.ofString "_law_script"), (Str.ofString "_law_k")]) fun _ _ _ _ _ _ us hl => match us, hl with | [_, _], _ => rfl, by rfl⟩
  have F29 := fun_mk (st := topS 45) l29 c29 k29
  have A29 : d__law_take.At K mg prog f29 _ := ⟨F29, PySem.W.mg_of hk G a29, F29.binds (ps := [(Str.ofString "_law_box_here"), (Str.ofString "_law_below")]) fun _ _ _ _ _ _ us hl => match us, hl with | [_, _], _ => rfl, by rfl⟩
  have F30 := fun_mk (st := topS 46) l30 c30 k30
  have A30 : d__law_cells.At K mg prog f30 _ := ⟨F30, PySem.W.mg_of hk G a30, F30.binds (ps := [(Str.ofString "_law_script"), (Str.ofString "_law_most")]) fun _ _ _ _ _ _ us hl => match us, hl with | [_, _], _ => rfl, by rfl⟩
  have F31 := fun_mk (st := topS 47) l31 c31 k31
  have A31 : d__law_of.At K mg prog f31 _ := ⟨F31, PySem.W.mg_of hk G a31, F31.binds (ps := [(Str.ofString "_law_box_here"), (Str.ofString "_law_some")]) fun _ _ _ _ _ _ us hl => match us, hl with | [_, _], _ => rfl, by rfl⟩
  have F32 := fun_mk (st := topS 48) l32 c32 k32
  have A32 : d__law_same.At K mg prog f32 _ := ⟨F32, PySem.W.mg_of hk G a32, F32.binds (ps := [(Str.ofString "_law_got"), (Str.ofString "_law_due")]) fun _ _ _ _ _ _ us hl => match us, hl with | [_, _], _ => rfl, by rfl⟩
  have F33 := fun_mk (st := topS 49) l33 c33 k33
  have A33 : d__law_row_right.At K mg prog f33 _ := ⟨F33, PySem.W.mg_of hk G a33, F33.binds (ps := [(Str.ofString "_law_box_here")]) fun _ _ _ _ _ _ us hl => match us, hl with | [_], _ => rfl, by rfl⟩
  have F34 := fun_mk (st := topS 50) l34 c34 k34
  have A34 : d__law_beside_right.At K mg prog f34 _ := ⟨F34, PySem.W.mg_of hk G a34, F34.binds (ps := [(Str.ofString "_law_box_here")]) fun _ _ _ _ _ _ us hl => match us, hl with | [_], _ => rfl, by rfl⟩
  have F35 := fun_mk (st := topS 51) l35 c35 k35
  have A35 : d__law_jobs_right.At K mg prog f35 _ := ⟨F35, PySem.W.mg_of hk G a35, F35.binds (ps := [(Str.ofString "_law_box_here")]) fun _ _ _ _ _ _ us hl => match us, hl with | [_], _ => rfl, by rfl⟩
  have F36 := fun_mk (st := topS 52) l36 c36 k36
  have A36 : d__law_right.At K mg prog f36 _ := ⟨F36, PySem.W.mg_of hk G a36, F36.binds (ps := [(Str.ofString "_law_box_here")]) fun _ _ _ _ _ _ us hl => match us, hl with | [_], _ => rfl, by rfl⟩
  have F37 := fun_mk (st := topS 53) l37 c37 k37
  have A37 : d_law.At K mg prog fa _ := ⟨F37, PySem.W.mg_of hk G a37, F37.binds (ps := [(Str.ofString "_law_script")]) fun _ _ _ _ _ _ us hl => match us, hl with | [_], _ => rfl, by rfl⟩
  refine ⟨_, fun s v => ?_, fun base _ _ => law_ok (ps := [(Str.ofString "_law_script")]) (x := (Str.ofString "law")) rfl (levels rfl dns ?_ g_all fn_all ?_ ?_ 40 d_law (by unfold dns; simp only [List.mem_cons, true_or, or_true]) fa _ A37) law⟩
  · exact .of_eq rfl
  · unfold dns
    simp only [List.forall_mem_cons]
    exact ⟨⟨_, _, A0⟩, ⟨_, _, A1⟩, ⟨_, _, A2⟩, ⟨_, _, A3⟩, ⟨_, _, A4⟩, ⟨_, _, A5⟩, ⟨_, _, A6⟩, ⟨_, _, A7⟩, ⟨_, _, A8⟩, ⟨_, _, A9⟩, ⟨_, _, A10⟩, ⟨_, _, A11⟩, ⟨_, _, A12⟩, ⟨_, _, A13⟩, ⟨_, _, A14⟩, ⟨_, _, A15⟩, ⟨_, _, A16⟩, ⟨_, _, A17⟩, ⟨_, _, A18⟩, ⟨_, _, A19⟩, ⟨_, _, A20⟩, ⟨_, _, A21⟩, ⟨_, _, A22⟩, ⟨_, _, A23⟩, ⟨_, _, A24⟩, ⟨_, _, A25⟩, ⟨_, _, A26⟩, ⟨_, _, A27⟩, ⟨_, _, A28⟩, ⟨_, _, A29⟩, ⟨_, _, A30⟩, ⟨_, _, A31⟩, ⟨_, _, A32⟩, ⟨_, _, A33⟩, ⟨_, _, A34⟩, ⟨_, _, A35⟩, ⟨_, _, A36⟩, ⟨_, _, A37⟩, by simp⟩
  · unfold bnames
    simp only [List.forall_mem_cons]
    exact ⟨PySem.W.mg_none_of hk G z0, PySem.W.mg_none_of hk G z1, PySem.W.mg_none_of hk G z2, PySem.W.mg_none_of hk G z3, PySem.W.mg_none_of hk G z4, PySem.W.mg_none_of hk G z5, PySem.W.mg_none_of hk G z6, PySem.W.mg_none_of hk G z7, PySem.W.mg_none_of hk G z8, PySem.W.mg_none_of hk G z9, PySem.W.mg_none_of hk G z10, PySem.W.mg_none_of hk G z11, PySem.W.mg_none_of hk G z12, PySem.W.mg_none_of hk G z13, by simp⟩
  · refine gl_all ?_
    unfold gls
    simp only [List.forall_mem_cons]
    exact ⟨⟨_, .str _, PySem.W.mg_of hk G q0, ⟨_, rfl⟩, fun _ => .str _⟩, ⟨_, .str _, PySem.W.mg_of hk G q1, ⟨_, rfl⟩, fun _ => .str _⟩, ⟨_, .int _, PySem.W.mg_of hk G q2, ⟨_, rfl⟩, fun _ => .int _⟩, ⟨_, .int _, PySem.W.mg_of hk G q3, ⟨_, rfl⟩, fun _ => .int _⟩, ⟨_, .str _, PySem.W.mg_of hk G q4, ⟨_, rfl⟩, fun _ => .str _⟩, ⟨_, .str _, PySem.W.mg_of hk G q5, ⟨_, rfl⟩, fun _ => .str _⟩, ⟨_, .str _, PySem.W.mg_of hk G q6, ⟨_, rfl⟩, fun _ => .str _⟩, ⟨_, .int _, PySem.W.mg_of hk G q7, ⟨_, rfl⟩, fun _ => .int _⟩, ⟨_, .int _, PySem.W.mg_of hk G q8, ⟨_, rfl⟩, fun _ => .int _⟩, ⟨_, .int _, PySem.W.mg_of hk G q9, ⟨_, rfl⟩, fun _ => .int _⟩, by simp⟩
end En
namespace En
open PySem L2
theorem cn {P : Prog} {k : Nat} {x : Str} {fn : Fn} (hl : P.lookup x = some fn) (ds : List D) (h : Hs) : callN P (k + 1) x ds h = runF (callN P k) fn ds h := by
  show (match P.lookup x with | some fn => runF (callN P k) fn ds h | none => .no) = _
  rw [hl]
theorem look_take : prog.lookup (Str.ofString "_law_take") = some f__law_take := by kernel_rfl
theorem look_of : prog.lookup (Str.ofString "_law_of") = some f__law_of := by kernel_rfl
theorem look_box : prog.lookup (Str.ofString "_law_box") = some f__law_box := by kernel_rfl
theorem look_cells : prog.lookup (Str.ofString "_law_cells") = some f__law_cells := by kernel_rfl
/-- draws by the program -/
theorem draw {k : Nat} {a b c m : Int} (hm : 0 < m) (hm2 : m < 1073741824) (hc : 0 ≤ c) (hc2 : c < 999999) : ∃ (r a' c' : Int), 0 ≤ r ∧ r < m ∧ 0 ≤ c' ∧ c' ≤ c + 1 ∧
    callN prog (k + 1) (Str.ofString "_law_take") [.cel 0, .d (.int m)] [.lst [.int a, .int b, .int c]] = .ok (.d (.int r)) [.lst [.int a', .int b, .int c']] := by
  obtain ⟨r, a', c', h1, h2, h3, h4, e⟩ := take_ok (callN prog k) (n := 0) (h := [.lst [.int a, .int b, .int c]]) (a := a) (b := b) (c := c) (m := m) rfl hm hm2 hc hc2
  exact ⟨r, a', c', h1, h2, h3, h4, by rw [cn look_take]; exact e⟩
theorem pick {k : Nat} {a b c : Int} (xs : List PyData) (h0 : 0 < xs.length) (hx : xs.length < 1000) (hc : 0 ≤ c) (hc2 : c < 999999) : ∃ (r : Nat) (v : PyData) (a' c' : Int), xs[r]? = some v ∧ 0 ≤ c' ∧ c' ≤ c + 1 ∧
    callN prog (k + 2) (Str.ofString "_law_of") [.cel 0, .d (.list xs)] [.lst [.int a, .int b, .int c]] = .ok (.d v) [.lst [.int a', .int b, .int c']] := by
  obtain ⟨r, a', c', h1, h2, h3, h4, e⟩ := draw (k := k) (a := a) (b := b) (c := c) (m := (xs.length : Int)) (by omega) (by omega) hc hc2
  obtain ⟨j, rfl⟩ := Int.eq_ofNat_of_zero_le h1
  have hj : j < xs.length := by omega
  refine ⟨j, xs[j], a', c', List.getElem?_eq_getElem hj, h3, h4, ?_⟩
  rw [cn look_of]
  exact of_ok (callN prog (k + 1)) e (List.getElem?_eq_getElem hj) rfl
def rest1 (s : S) : S := match s with
  | .seq _ r => r
  | _ => .nil
abbrev endB (r : R (Fl × Env)) : R D := r.bind fun p h1 => match p.1 with
  | .rt x => leave true 1 x h1
  | .nx => leave true 1 (.d .none) h1
  | _ => .no
abbrev no9 : List (Option D) := [none, none, none, none, none, none, none, none, none]
theorem row_1 (a b c : Int) : endB (run (callN prog 37) (rest1 f__law_row_right.body) ([some (.cel 0), some (.d (.int 2)), some (.d (.str ⟨#[97]⟩))] ++ no9) [.lst [.int a, .int b, .int c]]) = .ok (.d (.bool true)) [.lst [.int a, .int b, .int c]] := by kernel_rfl
theorem row_2 (a b c : Int) : endB (run (callN prog 37) (rest1 f__law_row_right.body) ([some (.cel 0), some (.d (.int 2)), some (.d (.str ⟨#[108, 111, 99, 107]⟩))] ++ no9) [.lst [.int a, .int b, .int c]]) = .ok (.d (.bool true)) [.lst [.int a, .int b, .int c]] := by kernel_rfl
theorem row_3 (a b c : Int) : endB (run (callN prog 37) (rest1 f__law_row_right.body) ([some (.cel 0), some (.d (.int 2)), some (.d (.str ⟨#[119, 101, 101, 107]⟩))] ++ no9) [.lst [.int a, .int b, .int c]]) = .ok (.d (.bool true)) [.lst [.int a, .int b, .int c]] := by kernel_rfl
theorem row_4 (a b c : Int) : endB (run (callN prog 37) (rest1 f__law_row_right.body) ([some (.cel 0), some (.d (.int 3)), some (.d (.str ⟨#[97]⟩))] ++ no9) [.lst [.int a, .int b, .int c]]) = .ok (.d (.bool true)) [.lst [.int a, .int b, .int c]] := by kernel_rfl
theorem row_5 (a b c : Int) : endB (run (callN prog 37) (rest1 f__law_row_right.body) ([some (.cel 0), some (.d (.int 3)), some (.d (.str ⟨#[108, 111, 99, 107]⟩))] ++ no9) [.lst [.int a, .int b, .int c]]) = .ok (.d (.bool true)) [.lst [.int a, .int b, .int c]] := by kernel_rfl
theorem row_6 (a b c : Int) : endB (run (callN prog 37) (rest1 f__law_row_right.body) ([some (.cel 0), some (.d (.int 3)), some (.d (.str ⟨#[119, 101, 101, 107]⟩))] ++ no9) [.lst [.int a, .int b, .int c]]) = .ok (.d (.bool true)) [.lst [.int a, .int b, .int c]] := by kernel_rfl
theorem row_ok {a b c : Int} (hc : 0 ≤ c) (hc2 : c < 1000) : ∃ a' c' : Int, 0 ≤ c' ∧ c' ≤ c + 2 ∧ callN prog 38 (Str.ofString "_law_row_right") [.cel 0] [.lst [.int a, .int b, .int c]] = .ok (.d (.bool true)) [.lst [.int a', .int b, .int c']] := by
  obtain ⟨r1, a1, c1, h1, h2, h3, h4, e1⟩ := draw (k := 36) (a := a) (b := b) (c := c) (m := 2) (by omega) (by omega) hc (by omega)
  obtain ⟨r2, v, a2, c2, h5, h6, h7, e2⟩ := pick (k := 35) (a := a1) (b := b) (c := c1) [.str ⟨#[97]⟩, .str ⟨#[108, 111, 99, 107]⟩, .str ⟨#[119, 101, 101, 107]⟩] (by simp) (by simp) h3 (by omega)
  refine ⟨a2, c2, h6, by omega, ?_⟩
  rw [cn (fn := f__law_row_right) (by kernel_rfl)]
  have es : run (callN prog 37) f__law_row_right.body (startE f__law_row_right [.cel 0]) [.lst [.int a, .int b, .int c]] = run (callN prog 37) (rest1 f__law_row_right.body) ([some (.cel 0), some (.d (.int (2 + r1))), some (.d v)] ++ no9) [.lst [.int a2, .int b, .int c2]] := by
    show (((((callN prog 37 (Str.ofString "_law_take") [.cel 0, .d (.int 2)] [.lst [.int a, .int b, .int c]]).bind fun y h2 => binD .Add false (.d (.int 2)) y h2).bind fun x h1 => (callN prog 37 (Str.ofString "_law_of") [.cel 0, .d (.list [.str ⟨#[97]⟩, .str ⟨#[108, 111, 99, 107]⟩, .str ⟨#[119, 101, 101, 107]⟩])] h1).bind fun y h2 => R.ok (Fl.nx, [some (.cel 0), some x, some y] ++ no9) h2)).bind fun p h1 => match p.1 with
      | .nx => run (callN prog 37) (rest1 f__law_row_right.body) p.2 h1
      | f => .ok (f, p.2) h1) = _
    rw [e1]
    simp only [R.bind, binD, arI]
    rw [e2]
  have er : runF (callN prog 37) f__law_row_right [.cel 0] [.lst [.int a, .int b, .int c]] = endB (run (callN prog 37) f__law_row_right.body (startE f__law_row_right [.cel 0]) [.lst [.int a, .int b, .int c]]) := rfl
  rw [er, es]
  have hr1 : r1 = 0 ∨ r1 = 1 := by omega
  have hr2 : r2 < 3 := (List.getElem?_eq_some_iff.mp h5).1
  rcases hr1 with rfl | rfl
  · match r2, hr2 with
    | 0, _ => cases h5; exact row_1 a2 b c2
    | 1, _ => cases h5; exact row_2 a2 b c2
    | 2, _ => cases h5; exact row_3 a2 b c2
  · match r2, hr2 with
    | 0, _ => cases h5; exact row_4 a2 b c2
    | 1, _ => cases h5; exact row_5 a2 b c2
    | 2, _ => cases h5; exact row_6 a2 b c2
theorem bes_1 (a b c : Int) : endB (run (callN prog 37) (rest1 f__law_beside_right.body) (startE f__law_beside_right [.cel 0, .d (.str ⟨#[45]⟩)]) [.lst [.int a, .int b, .int c]]) = .ok (.d (.bool true)) [.lst [.int a, .int b, .int c]] := by kernel_rfl
theorem bes_2 (a b c : Int) : endB (run (callN prog 37) (rest1 f__law_beside_right.body) (startE f__law_beside_right [.cel 0, .d (.str ⟨#[46]⟩)]) [.lst [.int a, .int b, .int c]]) = .ok (.d (.bool true)) [.lst [.int a, .int b, .int c]] := by kernel_rfl
theorem job_1 (a b c : Int) : endB (run (callN prog 37) (rest1 f__law_jobs_right.body) (startE f__law_jobs_right [.cel 0, .d (.str ⟨#[45]⟩)]) [.lst [.int a, .int b, .int c]]) = .ok (.d (.bool true)) [.lst [.int a, .int b, .int c]] := by kernel_rfl
theorem job_2 (a b c : Int) : endB (run (callN prog 37) (rest1 f__law_jobs_right.body) (startE f__law_jobs_right [.cel 0, .d (.str ⟨#[46]⟩)]) [.lst [.int a, .int b, .int c]]) = .ok (.d (.bool true)) [.lst [.int a, .int b, .int c]] := by kernel_rfl
theorem two_ok {fn : Fn} {x : Str} (hl : prog.lookup x = some fn) (hb : ∀ h, run (callN prog 37) fn.body (startE fn [.cel 0]) h = ((callN prog 37 (Str.ofString "_law_of") [.cel 0, .d (.list [.str ⟨#[45]⟩, .str ⟨#[46]⟩])] h).bind fun y h2 => R.ok (Fl.nx, startE fn [.cel 0, y]) h2).bind fun p h1 => match p.1 with
      | .nx => run (callN prog 37) (rest1 fn.body) p.2 h1
      | f => .ok (f, p.2) h1) (hr : ∀ h : Hs, runF (callN prog 37) fn [.cel 0] h = (run (callN prog 37) fn.body (startE fn [.cel 0]) h).bind fun p h1 => match p.1 with
      | .rt x => leave true h.length x h1
      | .nx => leave true h.length (.d .none) h1
      | _ => .no)
    (r1 : ∀ a b c : Int, endB (run (callN prog 37) (rest1 fn.body) (startE fn [.cel 0, .d (.str ⟨#[45]⟩)]) [.lst [.int a, .int b, .int c]]) = .ok (.d (.bool true)) [.lst [.int a, .int b, .int c]])
    (r2 : ∀ a b c : Int, endB (run (callN prog 37) (rest1 fn.body) (startE fn [.cel 0, .d (.str ⟨#[46]⟩)]) [.lst [.int a, .int b, .int c]]) = .ok (.d (.bool true)) [.lst [.int a, .int b, .int c]])
    {a b c : Int} (hc : 0 ≤ c) (hc2 : c < 1000) : ∃ a' c' : Int, 0 ≤ c' ∧ c' ≤ c + 1 ∧ callN prog 38 x [.cel 0] [.lst [.int a, .int b, .int c]] = .ok (.d (.bool true)) [.lst [.int a', .int b, .int c']] := by
  obtain ⟨r, v, a2, c2, h5, h6, h7, e2⟩ := pick (k := 35) (a := a) (b := b) (c := c) [.str ⟨#[45]⟩, .str ⟨#[46]⟩] (by simp) (by simp) hc (by omega)
  refine ⟨a2, c2, h6, by omega, ?_⟩
  rw [cn hl, hr, hb, e2]
  have hr2 : r < 2 := (List.getElem?_eq_some_iff.mp h5).1
  match r, hr2 with
  | 0, _ => cases h5; exact r1 a2 b c2
  | 1, _ => cases h5; exact r2 a2 b c2
theorem right_ok {a b : Int} : ∃ h2, callN prog 39 (Str.ofString "_law_right") [.cel 0] [.lst [.int a, .int b, .int 0]] = .ok (.d (.bool true)) h2 := by
  obtain ⟨a1, c1, h1, h2, e1⟩ := row_ok (a := a) (b := b) (c := 0) (by omega) (by omega)
  obtain ⟨a2, c2, h3, h4, e2⟩ := two_ok (fn := f__law_beside_right) (x := Str.ofString "_law_beside_right") (by kernel_rfl) (fun h => rfl) (fun h => rfl) bes_1 bes_2 (a := a1) (b := b) (c := c1) h1 (by omega)
  obtain ⟨a3, c3, h5, h6, e3⟩ := two_ok (fn := f__law_jobs_right) (x := Str.ofString "_law_jobs_right") (by kernel_rfl) (fun h => rfl) (fun h => rfl) job_1 job_2 (a := a2) (b := b) (c := c2) h3 (by omega)
  refine ⟨[.lst [.int a3, .int b, .int c3]], ?_⟩
  rw [cn (fn := f__law_right) (by kernel_rfl)]
  simp [f__law_right, runF, startE, run, sem, mkV, mkT, smCons, smNil, R.bind, e1, e2, e3, truD, sel, leave]
end En
namespace En
open PySem L2
theorem lw1 (ns : List Int) (hl : ns.length ≤ 63) : ∃ c : Int, callN prog 39 (Str.ofString "_law_cells") [.scr ns, .d (.int 1)] [] = .ok (.d (.list [.int c])) [] := by
  obtain ⟨cs, h1, h2, e1⟩ := cells_ok (callN prog 38) (ns := ns) (m := 1) (h := []) (by omega) hl
  rw [cn look_cells]
  match cs, h1, h2 with
  | [c], _, _ => exact ⟨c, e1⟩
theorem lw2 (c : Int) : ∃ a b : Int, callN prog 39 (Str.ofString "_law_box") [.d (.list [.int c]), .d (.int 0)] [] = .ok (.cel 0) [.lst [.int a, .int b, .int 0]] := by
  obtain ⟨a, b, e2⟩ := box_ok (callN prog 38) (cs := [c]) (k := 0) (h := []) (by simp) (by simp)
  rw [cn look_box]
  exact ⟨a, b, e2⟩
theorem lw3 {C : Str → List D → Hs → R D} {ns : List Int} {c a b : Int} {h4 : Hs} (e1 : C (Str.ofString "_law_cells") [.scr ns, .d (.int 1)] [] = .ok (.d (.list [.int c])) []) (e2 : C (Str.ofString "_law_box") [.d (.list [.int c]), .d (.int 0)] [] = .ok (.cel 0) [.lst [.int a, .int b, .int 0]])
    (e3 : C (Str.ofString "_law_right") [.cel 0] [.lst [.int a, .int b, .int 0]] = .ok (.d (.bool true)) h4) : runF C f_law [.scr ns] [] = .ok (.d (.bool true)) [] := by
  have hz : sizeLine = 16777216 := sizeLine_eq
  simp [f_law, runF, startE, run, sem, mkV, mkT, mkI, smCons, smNil, R.bind, e1, lenD, vw, biD, rngW, rngP, compL, turn, bindTg, wipeE, e2, e3, some1, plain1, mkL, boolsOf, leave, hz]
theorem law_math : ∀ ns : List Int, ns.length ≤ 63 → ∃ h2, callN prog 40 (Str.ofString "law") [.scr ns] [] = .ok (.d (.bool true)) h2 := by
  intro ns hl
  obtain ⟨c, e1⟩ := lw1 ns hl
  obtain ⟨a, b, e2⟩ := lw2 c
  obtain ⟨h4, e3⟩ := right_ok (a := a) (b := b)
  exact ⟨[], (cn (fn := f_law) (by kernel_rfl) _ _).trans (lw3 e1 e2 e3)⟩
end En
open PySem PySem.W PyProof.Rows
set_option maxHeartbeats 0 in
theorem PySem.Challenge.cw_prefixkeys_k13_whole_known_plans_holds : PySem.Challenge.rw_prefixkeys_k13_whole_known_plans.Holds := by
  w_on; o_law; k_head; (case hw => w_witness2)
  k_fill
  refine L2.walk_of (l := PySem.Challenge.rw_prefixkeys_k13_whole_known_plans) (n := 63) (k := 40) (x := Str.ofString "_law_script") (CX := fun _ => L2.CX0) (sp := fun w => En.spL _ 63) rfl (by decide) rfl ⟨rfl, by decide, by decide⟩ (fun w h Y => PySem.W.kIn_of Y) ?F (fun _ _ a ns hl _ hS => ⟨a, ns, rfl, hS, hl, fun _ => rfl⟩) (fun _ _ _ _ _ h => h)
  case F =>
    intro w mg fa h KX Gn hmg
    refine' En.all_mk KX Gn hmg ?a0 ?l0 ?c0 ?k0 ?a1 ?l1 ?c1 ?k1 ?a2 ?l2 ?c2 ?k2 ?a3 ?l3 ?c3 ?k3 ?a4 ?l4 ?c4 ?k4 ?a5 ?l5 ?c5 ?k5 ?a6 ?l6 ?c6 ?k6 ?a7 ?l7 ?c7 ?k7 ?a8 ?l8 ?c8 ?k8 ?a9 ?l9 ?c9 ?k9 ?a10 ?l10 ?c10 ?k10 ?a11 ?l11 ?c11 ?k11 ?a12 ?l12 ?c12 ?k12 ?a13 ?l13 ?c13 ?k13 ?a14 ?l14 ?c14 ?k14 ?a15 ?l15 ?c15 ?k15 ?a16 ?l16 ?c16 ?k16 ?a17 ?l17 ?c17 ?k17 ?a18 ?l18 ?c18 ?k18 ?a19 ?l19 ?c19 ?k19 ?a20 ?l20 ?c20 ?k20 ?a21 ?l21 ?c21 ?k21 ?a22 ?l22 ?c22 ?k22 ?a23 ?l23 ?c23 ?k23 ?a24 ?l24 ?c24 ?k24 ?a25 ?l25 ?c25 ?k25 ?a26 ?l26 ?c26 ?k26 ?a27 ?l27 ?c27 ?k27 ?a28 ?l28 ?c28 ?k28 ?a29 ?l29 ?c29 ?k29 ?a30 ?l30 ?c30 ?k30 ?a31 ?l31 ?c31 ?k31 ?a32 ?l32 ?c32 ?k32 ?a33 ?l33 ?c33 ?k33 ?a34 ?l34 ?c34 ?k34 ?a35 ?l35 ?c35 ?k35 ?a36 ?l36 ?c36 ?k36 ?a37 ?l37 ?c37 ?k37 ?z0 ?z1 ?z2 ?z3 ?z4 ?z5 ?z6 ?z7 ?z8 ?z9 ?z10 ?z11 ?z12 ?z13 ?q0 ?q1 ?q2 ?q3 ?q4 ?q5 ?q6 ?q7 ?q8 ?q9 En.law_math
    (case a0 => k_is); (case l0 => k_is); (case c0 => k_is); (case k0 => k_is); (case a1 => k_is); (case l1 => k_is); (case c1 => k_is); (case k1 => k_is); (case a2 => k_is); (case l2 => k_is); (case c2 => k_is); (case k2 => k_is)
    (case a3 => k_is); (case l3 => k_is); (case c3 => k_is); (case k3 => k_is); (case a4 => k_is); (case l4 => k_is); (case c4 => k_is); (case k4 => k_is); (case a5 => k_is); (case l5 => k_is); (case c5 => k_is); (case k5 => k_is)
    (case a6 => k_is); (case l6 => k_is); (case c6 => k_is); (case k6 => k_is); (case a7 => k_is); (case l7 => k_is); (case c7 => k_is); (case k7 => k_is); (case a8 => k_is); (case l8 => k_is); (case c8 => k_is); (case k8 => k_is)
    (case a9 => k_is); (case l9 => k_is); (case c9 => k_is); (case k9 => k_is); (case a10 => k_is); (case l10 => k_is); (case c10 => k_is); (case k10 => k_is); (case a11 => k_is); (case l11 => k_is); (case c11 => k_is); (case k11 => k_is)
    (case a12 => k_is); (case l12 => k_is); (case c12 => k_is); (case k12 => k_is); (case a13 => k_is); (case l13 => k_is); (case c13 => k_is); (case k13 => k_is); (case a14 => k_is); (case l14 => k_is); (case c14 => k_is); (case k14 => k_is)
    (case a15 => k_is); (case l15 => k_is); (case c15 => k_is); (case k15 => k_is); (case a16 => k_is); (case l16 => k_is); (case c16 => k_is); (case k16 => k_is); (case a17 => k_is); (case l17 => k_is); (case c17 => k_is); (case k17 => k_is)
    (case a18 => k_is); (case l18 => k_is); (case c18 => k_is); (case k18 => k_is); (case a19 => k_is); (case l19 => k_is); (case c19 => k_is); (case k19 => k_is); (case a20 => k_is); (case l20 => k_is); (case c20 => k_is); (case k20 => k_is)
    (case a21 => k_is); (case l21 => k_is); (case c21 => k_is); (case k21 => k_is); (case a22 => k_is); (case l22 => k_is); (case c22 => k_is); (case k22 => k_is); (case a23 => k_is); (case l23 => k_is); (case c23 => k_is); (case k23 => k_is)
    (case a24 => k_is); (case l24 => k_is); (case c24 => k_is); (case k24 => k_is); (case a25 => k_is); (case l25 => k_is); (case c25 => k_is); (case k25 => k_is); (case a26 => k_is); (case l26 => k_is); (case c26 => k_is); (case k26 => k_is)
    (case a27 => k_is); (case l27 => k_is); (case c27 => k_is); (case k27 => k_is); (case a28 => k_is); (case l28 => k_is); (case c28 => k_is); (case k28 => k_is); (case a29 => k_is); (case l29 => k_is); (case c29 => k_is); (case k29 => k_is)
    (case a30 => k_is); (case l30 => k_is); (case c30 => k_is); (case k30 => k_is); (case a31 => k_is); (case l31 => k_is); (case c31 => k_is); (case k31 => k_is); (case a32 => k_is); (case l32 => k_is); (case c32 => k_is); (case k32 => k_is)
    (case a33 => k_is); (case l33 => k_is); (case c33 => k_is); (case k33 => k_is); (case a34 => k_is); (case l34 => k_is); (case c34 => k_is); (case k34 => k_is); (case a35 => k_is); (case l35 => k_is); (case c35 => k_is); (case k35 => k_is)
    (case a36 => k_is); (case l36 => k_is); (case c36 => k_is); (case k36 => k_is); (case a37 => k_is); (case l37 => k_is); (case c37 => k_is); (case k37 => k_is); (case z0 => k_is); (case z1 => k_is); (case z2 => k_is); (case z3 => k_is)
    (case z4 => k_is); (case z5 => k_is); (case z6 => k_is); (case z7 => k_is); (case z8 => k_is); (case z9 => k_is); (case z10 => k_is); (case z11 => k_is); (case z12 => k_is); (case z13 => k_is); (case q0 => k_is); (case q1 => k_is)
    (case q2 => k_is); (case q3 => k_is); (case q4 => k_is); (case q5 => k_is); (case q6 => k_is); (case q7 => k_is); (case q8 => k_is); (case q9 => k_is)
