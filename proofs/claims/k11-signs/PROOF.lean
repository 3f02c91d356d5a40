import PyProof.Rows.All
import Wide.All
import OpenK.AllK
import Wide.FinOn
import HandS.ForMost
import HandS.Walk
import HandS.Zip
import HandS.Flow
import HandS.IsInst
import HandS.TupAny
import HandS.Star
import HandS.Style
import HandS.Wide
import HandS.DictComp
import HandS.ForExc
import HandS.Slots
import HandS.SlotsOwn
import KE.DataCmp
import KE.DataEq
import KE.DataAny
import KE.DataIsa
import KE.KDictKeyed
import KE.KeyNested
import HandS.Strs
import KE.SortData
import HandS.TryMany
import HandS.CallSlots
import HandS.ExcInit
import HandS.ExcIs
import KE.KTryMore
import KE.GoesMore
import KE.GoesEnum
import KE.KDictZip
import KE.KDictPairs
import HandS.CallRecv
import HandS.HeadWalk
import HandS.Codes
import PySem.Challenge.RW_prefixkeys_k11_whole_signs_behind_fields
set_option Elab.async false
set_option linter.all false
set_option maxRecDepth 100000
set_option maxHeartbeats 4000000
/-! En: the values, the small language, its evaluator -/
namespace En
open PySem

/-- the world -/
class Wd where
  w : World
  mg : Str → Option Value
structure Xn where
  cls : Str
  fs : List (Str × PyData)
inductive D where
  | d (x : PyData)
  | ty (n : String)
  | scr (ns : List Int)
  | cel (n : Nat)
  | dic (kvs : List (PyData × PyData))
  | dit (kvs : List (PyData × PyData))
  | mix (ds : List D)
  | exc (x : Xn)
  | ins (c : Str) (fs : List PyData)
  | wtp (xs : List PyData)

inductive Cell where
  | lst (xs : List PyData)
  | ins (c : Str) (fs : List (Option PyData))
  | frz (xs : List PyData)
  | dead
/-- a cell that holds a list -/
def lstC : Option Cell → Option (List PyData)
  | some (.lst xs) => some xs
  | some (.frz xs) => some xs
  | _ => none

abbrev Hs := List Cell
abbrev Env := List (Option D)

inductive R (α : Type) where
  | ok (a : α) (h : Hs)
  | ex (x : Xn) (h : Hs)
  | no

@[reducible, inline] def R.bind {α β : Type} (r : R α) (f : α → Hs → R β) : R β :=
  match r with
  | .ok a h => f a h
  | .ex x h => .ex x h
  | .no => .no

/-- no exception is let out here -/
def noX {α : Type} (r : R α) : R α := match r with
  | .ok a h => .ok a h
  | _ => .no
@[simp] theorem noX_ok {α : Type} (a : α) (h : Hs) : noX (.ok a h) = .ok a h := rfl
@[simp] theorem noX_no {α : Type} : noX (.no : R α) = .no := rfl

inductive Ty where
  | bool | int | str | list | tuple | dict
inductive Bi where
  | abs | int | len | tuple | list | all | any | min | max | sorted
inductive Mt where
  | append | extend | join | startswith | pop | index
inductive Tg where
  | nm (i : Nat)
  | tp (is : List Nat)

inductive E where
  | nil
  | cons (a r : E)
  | star (a r : E)
  | fz (a : E)
  | var (i : Nat)
  | glo (x : Str) (v : PyData)
  | cst (v : PyData)
  | bin (o : Operator) (m : Bool) (a b : E)
  | neg (a : E)
  | cmp (o : CmpOp) (a b : E)
  | chn (o p : CmpOp) (a b c : E)
  | bop (o : BoolOp) (es : E)
  | not (a : E)
  | ife (c a b : E)
  | tup (es : E)
  | lst (m : Bool) (es : E)
  | ix (a i : E)
  | sl (a lo hi : E)
  | call (f : Str) (m : Bool) (es : E)
  | callk (f : Str) (m : Bool) (es : E) (ks : List Str) (ord : List Nat) (kes : E)
  | isx (a : E) (c : Str) (tab : List (Str × Bool))
  | fld (a : E) (f : Str)
  | make (c g : Str) (es : E)
  | mcl (c m g : Str) (o es : E)
  | mclk (c m g : Str) (o es : E) (ks : List Str) (ord : List Nat) (kes : E)
  | slt (c f : Str) (i : Nat) (a : E)
  | eqo (n : Bool) (c g : Str) (a b : E)
  | ino (c g : Str) (a b : E)
  | isc (a : E) (c : Str)
  | bi (b : Bi) (m : Bool) (es : E)
  | isi (a : E) (ts : List Ty) (t : Bool)
  | mth (m : Mt) (o : E) (es : E)
  | dz (a b : E)
  | lc (m : Bool) (own : List Nat) (tg : Tg) (it ifs elt : E)
  | lc2 (own vs1 : List Nat) (tg : Tg) (it ifs : E) (tg1 : Tg) (it1 ifs1 elt : E)
  | dc (own : List Nat) (tg : Tg) (it ifs k v : E)
  | enu (a : E)
  | zip (a b : E)
  | rng (a : E)
  | rng2 (a b : E)

inductive S where
  | nil
  | seq (s r : S)
  | asg (i : Nat) (e : E)
  | unp (is : List Nat) (e : E)
  | par (i j : Nat) (a b : E)
  | sto (o i e : E)
  | sfl (c f : Str) (i : Nat) (o e : E)
  | exp (e : E)
  | ret (e : E)
  | retN
  | ite (c : E) (a b : S)
  | for_ (tg : Tg) (it : E) (b : S)
  | whl (c : E) (b : S)
  | rai
  | rais (c : Str) (f : Str) (e : E)
  | try_ (b : S) (cs : List (Str × List (Str × Bool))) (i j : Nat)
  | par3 (i j k : Nat) (a b c : E)
  | pass
  | brk
  | cnt

inductive Fl where
  | nx | bk | ct
  | rt (d : D)
  | xc (x : Xn)

/-! ### data -/
def plainL : List D → Option (List PyData)
  | [] => some []
  | .d x :: r => (plainL r).map (x :: ·)
  | _ :: _ => none
/-- a sequence of plain things: is it a tuple, its items -/
def vw (v : D) (h : Hs) : Option (Bool × List PyData) :=
  match v with
  | .d (.list xs) => some (false, xs)
  | .d (.tuple xs) => some (true, xs)
  | .scr ns => some (false, ns.map .int)
  | .cel n => match lstC h[n]? with
    | some xs => some (false, xs)
    | _ => none
  | _ => none
def tupD (ds : List D) (h : Hs) : R D :=
  if ds.length ≤ sizeLine then
    match plainL ds with
    | some xs => .ok (.d (.tuple xs)) h
    | none => .ok (.mix ds) h
  else .no
/-- a new list: a cell of its own, or never changed -/
def mkL (m : Bool) (xs : List PyData) (h : Hs) : R D :=
  if xs.length ≤ sizeLine then
    if m then .ok (.cel h.length) (h ++ [.lst xs]) else .ok (.d (.list xs)) h
  else .no
def lstD (m : Bool) (ds : List D) (h : Hs) : R D :=
  match plainL ds with
  | some xs => mkL m xs h
  | none => .no

def cmul (i j : Int) : Bool := decide ((-(2 ^ 64) < i ∧ i < 2 ^ 64) ∨ (-(2 ^ 64) < j ∧ j < 2 ^ 64))

/-- a list that is tracked -/
def vwL (v : D) (h : Hs) : Option (List PyData) :=
  match v with
  | .d (.list xs) => some xs
  | .cel n => lstC h[n]?
  | _ => none
def arI (o : Operator) (i j : Int) (h : Hs) : R D :=
  match o with
  | .Add => .ok (.d (.int (i + j))) h
  | .Sub => .ok (.d (.int (i - j))) h
  | .Mult => if cmul i j then .ok (.d (.int (i * j))) h else .no
  | .FloorDiv => if decide (0 < j ∧ j < 1073741824) then .ok (.d (.int (i / j))) h else .no
  | .Mod => if decide (0 < j) then .ok (.d (.int (i % j))) h else .no
  | .Pow => if decide (0 ≤ j ∧ j ≤ 1000 ∧ i.natAbs < 2 ^ 64) then .ok (.d (.int (i ^ j.toNat))) h else .no
  | _ => .no
def catD (m : Bool) (x y : D) (h : Hs) : R D :=
  match vwL x h, vwL y h with
  | some a, some b => mkL m (a ++ b) h
  | _, _ => .no
def mulD (m : Bool) (x : D) (j : Int) (h : Hs) : R D :=
  match vwL x h with
  | some a => if decide (-(2 ^ 63) ≤ j ∧ j < 2 ^ 63 ∧ a.length * j.toNat ≤ sizeLine) then mkL m (List.replicate j.toNat a).flatten h else .no
  | none => .no
def binD (o : Operator) (m : Bool) (x y : D) (h : Hs) : R D :=
  match x, y with
  | .d (.int i), .d (.int j) => arI o i j h
  | .d (.str a), .d (.str b) => (match o with
    | .Add => if a.length + b.length ≤ sizeLine then .ok (.d (.str (a ++ b))) h else .no
    | _ => .no)
  | .d (.tuple a), .d (.tuple b) => (match o with
    | .Add => if a.length + b.length ≤ sizeLine then .ok (.d (.tuple (a ++ b))) h else .no
    | _ => .no)
  | .d (.str a), .d (.int j) => (match o with
    | .Mult => if decide (0 ≤ j ∧ j < 2 ^ 63 ∧ a.length * j.toNat ≤ 100000) then .ok (.d (.str (Txt.mul a j))) h else .no
    | _ => .no)
  | x, .d (.int j) => (match o with
    | .Mult => mulD m x j h
    | _ => .no)
  | x, y => (match o with
    | .Add => catD m x y h
    | _ => .no)

def shal (x y : PyData) : Bool := x.plain && y.plain && decide (min x.depth y.depth ≤ 64)
def ordOk (x y : PyData) : Bool := PySem.W.alike x y && (match x with | .none => false | _ => true) && decide (min x.depth y.depth ≤ 64)

mutual
/-- what may be a key: None, ints, texts, tuples of such -/
def nk : PyData → Option NestedKey
  | .none => some .none
  | .int i => some (.num i)
  | .str x => some (.text x)
  | .tuple xs => (nks xs).map .tup
  | .bool _ => none
  | .list _ => none
  | .dict _ => none
def nks : List PyData → Option (List NestedKey)
  | [] => some []
  | x :: xs => match nk x, nks xs with
    | some a, some b => some (a :: b)
    | _, _ => none
end
def keyEq (a b : PyData) : Bool := match nk a, nk b with
  | some x, some y => NestedKey.beq x y
  | _, _ => false
def tupKey (a : PyData) : Bool := match nk a with
  | some (.tup ks) => decide ((NestedKey.tup ks).depth ≤ 8)
  | _ => false
def dicGet (kvs : List (PyData × PyData)) (k : PyData) : Option PyData := (kvs.find? fun p => keyEq p.1 k).map (·.2)
def dicPut (kvs : List (PyData × PyData)) (k v : PyData) : List (PyData × PyData) :=
  if (kvs.any fun p => keyEq p.1 k) then kvs.map (fun p => if keyEq p.1 k then (p.1, v) else p) else kvs ++ [(k, v)]

def isNoneP : PyData → Bool
  | .none => true
  | _ => false
/-- plain data as it stands now -/
def snp (x : D) (h : Hs) : Option PyData := match x with
  | .d a => some a
  | .cel n => match lstC h[n]? with
    | some xs => some (.list xs)
    | _ => none
  | _ => none
def cmpP (o : CmpOp) (a b : PyData) (h : Hs) : R D :=
  match o, a, b with
  | .Eq, a, b => if shal a b then .ok (.d (.bool (PyData.eqv a b))) h else .no
  | .NotEq, a, b => if shal a b then .ok (.d (.bool (!PyData.eqv a b))) h else .no
  | .Lt, a, b => if ordOk a b then .ok (.d (.bool (PySem.W.dataLt a b))) h else .no
  | .Gt, a, b => if ordOk a b then .ok (.d (.bool (PySem.W.dataLt b a))) h else .no
  | .LtE, a, b => if ordOk a b then .ok (.d (.bool (!PySem.W.dataLt b a))) h else .no
  | .GtE, a, b => if ordOk a b then .ok (.d (.bool (!PySem.W.dataLt a b))) h else .no
  | .In, .str a, .str b => .ok (.d (.bool (!(Builtin.Str.occurrences b a 0 b.length 1).isEmpty))) h
  | .NotIn, .str a, .str b => .ok (.d (.bool (!(!(Builtin.Str.occurrences b a 0 b.length 1).isEmpty)))) h
  | .In, a, .list b => if shal a (.list b) then .ok (.d (.bool (b.any fun z => PyData.eqv z a))) h else .no
  | .NotIn, a, .list b => if shal a (.list b) then .ok (.d (.bool (!b.any fun z => PyData.eqv z a))) h else .no
  | .In, a, .tuple b => if shal a (.tuple b) then .ok (.d (.bool (b.any fun z => PyData.eqv z a))) h else .no
  | .NotIn, a, .tuple b => if shal a (.tuple b) then .ok (.d (.bool (!b.any fun z => PyData.eqv z a))) h else .no
  | .Is, a, .none => .ok (.d (.bool (isNoneP a))) h
  | .IsNot, a, .none => .ok (.d (.bool (!isNoneP a))) h
  | _, _, _ => .no
def cmpX (o : CmpOp) (x y : D) (h : Hs) : R D :=
  match o, x, y with
  | .In, .d (.str a), .dic kvs => .ok (.d (.bool (dicGet kvs (.str a)).isSome)) h
  | .NotIn, .d (.str a), .dic kvs => .ok (.d (.bool (!(dicGet kvs (.str a)).isSome))) h
  | .Is, .exc _, .d .none => .ok (.d (.bool false)) h
  | .IsNot, .exc _, .d .none => .ok (.d (.bool true)) h
  | _, _, _ => .no
def cmpD (o : CmpOp) (x y : D) (h : Hs) : R D :=
  match snp x h, snp y h with
  | some a, some b => cmpP o a b h
  | _, _ => cmpX o x y h

def truD (x : D) (h : Hs) : R Bool :=
  match x with
  | .d .none => .ok false h
  | .d (.bool b) => .ok b h
  | .d (.int i) => .ok (i != 0) h
  | .d (.str s) => if s.length ≤ sizeLine then .ok ((s.length : Int) != 0) h else .no
  | .d (.list xs) => .ok (!xs.isEmpty) h
  | .d (.tuple xs) => .ok (!xs.isEmpty) h
  | .cel n => match lstC h[n]? with
    | some xs => .ok (!xs.isEmpty) h
    | _ => .no
  | _ => .no

def dicIx (kvs : List (PyData × PyData)) (i : D) (h : Hs) : R D :=
  match i with
  | .d (.str a) => (match dicGet kvs (.str a) with | some v => .ok (.d v) h | none => .no)
  | _ => .no
def ditIx (kvs : List (PyData × PyData)) (i : D) (h : Hs) : R D :=
  match i with
  | .d a => if tupKey a then (match dicGet kvs a with | some v => .ok (.d v) h | none => .no) else .no
  | _ => .no
def seqIx (x i : D) (h : Hs) : R D :=
  match x, i with
  | .d (.str s), .d (.int j) => if s.length ≤ sizeLine then (match L2.atI s.cps.toList j with | some c => .ok (.d (.str ⟨#[c]⟩)) h | none => .no) else .no
  | x, .d (.int j) => match vw x h with
    | some (_, xs) => (match L2.atI xs j with | some v => .ok (.d v) h | none => .no)
    | none => (match x with
      | .mix ds => (match L2.atI ds j with | some v => .ok v h | none => .no)
      | _ => .no)
  | _, _ => .no
def ixD (x i : D) (h : Hs) : R D := match x with
  | .dic kvs => dicIx kvs i h
  | .dit kvs => ditIx kvs i h
  | x => seqIx x i h

def cutP {α : Type} (xs : List α) (lo hi : Option Int) : List α :=
  (xs.drop (HT.sIx xs.length 0 lo)).take (HT.sIx xs.length xs.length hi - HT.sIx xs.length 0 lo)
def bnd : Option D → Option (Option Int)
  | none => some none
  | some (.d (.int i)) => some (some i)
  | _ => none
def slD (x : D) (lo hi : Option D) (h : Hs) : R D :=
  match bnd lo, bnd hi with
  | some a, some b =>
    (match x with
    | .d (.str s) => if s.length ≤ sizeLine then .ok (.d (.str (L2.cutS s a b))) h else .no
    | x => match vw x h with
      | some (true, xs) => .ok (.d (.tuple (cutP xs a b))) h
      | some (false, xs) => .ok (.d (.list (cutP xs a b))) h
      | none => .no)
  | _, _ => .no

def lenD (x : D) (h : Hs) : Option Nat :=
  match x with
  | .d (.str s) => if s.length ≤ sizeLine then some s.length else none
  | .dic kvs => some kvs.length
  | .mix ds => some ds.length
  | x => (vw x h).map (·.2.length)
def boolsOf : List PyData → Option (List Bool)
  | [] => some []
  | .bool b :: r => (boolsOf r).map (b :: ·)
  | _ :: _ => none
def strsOf : List PyData → Option (List Str)
  | [] => some []
  | .str b :: r => (strsOf r).map (b :: ·)
  | _ :: _ => none

/-! ### sorted -/
def tupCons : PyData → Bool
  | .tuple (_ :: _) => true
  | _ => false
def notTupN : PyData → Bool
  | .none => false
  | .tuple _ => false
  | _ => true
def sortOk (xs : List PyData) : Bool :=
  xs.all (fun x => (nk x).isSome && decide (x.depth ≤ 64)) && xs.all (fun x => xs.all fun y => PySem.W.alike x y) && (xs.all tupCons || xs.all notTupN)
def insP (x : PyData) : List PyData → List PyData
  | [] => [x]
  | y :: r => if PySem.W.dataLt y x then y :: insP x r else x :: y :: r
def sortP : List PyData → List PyData
  | [] => []
  | x :: r => insP x (sortP r)
def idxS (y : Str) : List Str → Option Nat
  | [] => none
  | x :: r => if x = y then some 0 else (idxS y r).map (· + 1)

def biD (b : Bi) (m : Bool) (ds : List D) (h : Hs) : R D :=
  match b, ds with
  | .abs, [.d (.int i)] => .ok (.d (.int (if i < 0 then -i else i))) h
  | .int, [.d (.int i)] => .ok (.d (.int i)) h
  | .int, [.d (.bool b)] => .ok (.d (.int (if b then 1 else 0))) h
  | .len, [x] => (match lenD x h with | some n => .ok (.d (.int (n : Int))) h | none => .no)
  | .tuple, [x] => (match vw x h with | some (_, xs) => .ok (.d (.tuple xs)) h | none => .no)
  | .list, [x] => (match vw x h with | some (_, xs) => mkL m xs h | none => .no)
  | .all, [x] => (match vw x h with | some (false, xs) => (match boolsOf xs with | some bs => .ok (.d (.bool (bs.all id))) h | none => .no) | _ => .no)
  | .any, [x] => (match vw x h with | some (false, xs) => (match boolsOf xs with | some bs => .ok (.d (.bool (bs.any id))) h | none => .no) | _ => .no)
  | .min, [.d (.int i), .d (.int j)] => .ok (.d (.int (if j < i then j else i))) h
  | .max, [.d (.int i), .d (.int j)] => .ok (.d (.int (if j > i then j else i))) h
  | .sorted, [x] => (match vwL x h with | some xs => if sortOk xs then mkL m (sortP xs) h else .no | none => .no)
  | _, _ => .no

def tyD (x : D) : Option Ty :=
  match x with
  | .d (.bool _) => some .bool
  | .d (.int _) => some .int
  | .d (.str _) => some .str
  | .d (.list _) => some .list
  | .d (.tuple _) => some .tuple
  | .mix _ => some .tuple
  | .scr _ => some .list
  | .cel _ => some .list
  | .dic _ => some .dict
  | _ => none
/-- is a thing of the kind a one of b -/
def subTy : Ty → Ty → Bool
  | .bool, .bool => true
  | .bool, .int => true
  | .int, .int => true
  | .str, .str => true
  | .list, .list => true
  | .tuple, .tuple => true
  | .dict, .dict => true
  | _, _ => false
def isNoneD : D → Bool
  | .d .none => true
  | _ => false
/-- no cell that has gone -/
def liveD (x : D) (h : Hs) : Bool := match x with
  | .cel n => (lstC h[n]?).isSome
  | _ => true
def isiD (x : D) (ts : List Ty) (h : Hs) : Option Bool :=
  if isNoneD x then some false else if liveD x h then (tyD x).map fun t => ts.any (subTy t) else none

def mthD (m : Mt) (o : D) (ds : List D) (h : Hs) : R D :=
  match m, o, ds with
  | .append, .cel n, [.d x] => (match h[n]? with
    | some (.lst xs) => if xs.length < sizeLine then .ok (.d .none) (h.set n (.lst (xs ++ [x]))) else .no
    | _ => .no)
  | .extend, .cel n, [.d (.list ys)] => (match h[n]? with
    | some (.lst xs) => if xs.length + ys.length ≤ sizeLine then .ok (.d .none) (h.set n (.lst (xs ++ ys))) else .no
    | _ => .no)
  | .join, .d (.str s), [x] => (match vw x h with
    | some (_, xs) => (match strsOf xs with
      | some ys => if (ys.map (·.length)).sum + ys.length * s.length ≤ 16777216 then .ok (.d (.str (Txt.join s ys))) h else .no
      | none => .no)
    | none => .no)
  | .startswith, .d (.str a), [.d (.str b)] => .ok (.d (.bool (Txt.startswith a b))) h
  | .pop, .cel n, [.d (.int i)] => (match h[n]? with
    | some (.lst xs) => if xs.length ≤ sizeLine then (match L2.ixN xs.length i with
      | some k => (match xs[k]? with
        | some v => .ok (.d v) (h.set n (.lst (xs.eraseIdx k)))
        | none => .no)
      | none => .no) else .no
    | _ => .no)
  | .index, .d (.tuple xs), [.d (.str y)] => (match strsOf xs with
    | some ys => (match idxS y ys with
      | some k => .ok (.d (.int (k : Int))) h
      | none => .no)
    | none => .no)
  | _, _, _ => .no

/-- the receiver of a method -/
def rcvOk (m : Mt) (x : D) (h : Hs) : Bool := match m with
  | .append => (vwL x h).isSome
  | .extend => (vwL x h).isSome
  | .join => (match x with | .d (.str _) => true | _ => false)
  | .startswith => (match x with | .d (.str _) => true | _ => false)
  | .pop => (vwL x h).isSome
  | .index => (match x with | .d (.tuple _) => true | _ => false)
/-- what is walked -/
def seqD (x : D) : Option (List D) :=
  match x with
  | .d (.list xs) => some (xs.map .d)
  | .d (.tuple xs) => some (xs.map .d)
  | .d (.str s) => some (s.cps.toList.map fun c => .d (.str ⟨#[c]⟩))
  | .scr ns => some (ns.map fun n => .d (.int n))
  | _ => none
def vwF (x : D) : Option (Bool × List PyData) :=
  match x with
  | .d (.list xs) => some (false, xs)
  | .d (.tuple xs) => some (true, xs)
  | .scr ns => some (false, ns.map .int)
  | _ => none
def enumP : Nat → List PyData → List D
  | _, [] => []
  | n, x :: r => .wtp [.int (n : Int), x] :: enumP (n + 1) r
def rngP : Int → Nat → List D
  | _, 0 => []
  | i, n + 1 => .d (.int i) :: rngP (i + 1) n

def setAll : List Nat → List D → Env → Option Env
  | [], [], σ => some σ
  | i :: is, x :: xs, σ => setAll is xs (σ.set i (some x))
  | _, _, _ => none
def tupItems : D → Option (List D)
  | .d (.tuple xs) => some (xs.map .d)
  | .mix ds => some ds
  | .wtp xs => some (xs.map .d)
  | _ => none
def bindTg (t : Tg) (x : D) (σ : Env) : Option Env :=
  match t with
  | .nm i => some (σ.set i (some x))
  | .tp is => match tupItems x with
    | some ds => if ds.length = is.length then setAll is ds σ else none
    | none => none
def wipeE (σ : Env) : List Nat → Env
  | [] => σ
  | v :: vs => (wipeE σ vs).set v none

/-- a comprehension's walk: each turn's own cells go -/
def compL (n : Nat) (f : D → Hs → R (Option PyData)) : List D → Hs → R (List PyData)
  | [], h => .ok [] h
  | x :: r, h => (f x h).bind fun o h1 => (compL n f r (h1.take n)).bind fun ys h2 => .ok (o.toList ++ ys) h2
def plain1 : D → Option PyData
  | .d x => some x
  | _ => none
def some1 (r : R D) : R (Option PyData) := r.bind fun x h => match plain1 x with
  | some y => .ok (some y) h
  | none => .no

/-- what a piece of the language means: as a value, a row of values, a part that may be left out, in a chain of and, or; as a test; as what is walked -/
structure Sm where
  nil : Bool
  v : Env → Hs → R D
  l : Env → Hs → R (List D)
  o : Env → Hs → R (Option D)
  b : BoolOp → Env → Hs → R D
  t : Env → Hs → R Bool
  tb : BoolOp → Env → Hs → R Bool
  ts : Env → Hs → R Bool
  it : Env → Hs → R (List D)

/-- and, or: go on, or stay -/
def sel {α : Type} (op : BoolOp) (t : Bool) (go stay : R α) : R α := match op, t with
  | .And, true => go
  | .And, false => stay
  | .Or, true => stay
  | .Or, false => go
abbrev No {α : Type} : Env → Hs → R α := fun _ _ => .no
def seqR (x : D) (h : Hs) : R (List D) := match seqD x with
  | some ds => .ok ds h
  | none => .no
/-- a value -/
def mkV (v : Env → Hs → R D) : Sm := ⟨false, v, No, No, fun _ => No, fun σ h => (v σ h).bind fun x h1 => noX (truD x h1), fun _ => No, No, fun σ h => (v σ h).bind fun x h1 => noX (seqR x h1)⟩
/-- a value with a test of its own -/
def mkT (v : Env → Hs → R D) (t : Env → Hs → R Bool) : Sm := ⟨false, v, No, No, fun _ => No, t, fun _ => No, No, fun σ h => (v σ h).bind fun x h1 => noX (seqR x h1)⟩
/-- only walked -/
def mkI (i : Env → Hs → R (List D)) : Sm := ⟨false, No, No, No, fun _ => No, No, fun _ => No, No, i⟩
def smNil : Sm := ⟨true, No, fun _ h => .ok [] h, fun _ h => .ok none h, fun _ => No, No, fun _ => No, fun _ h => .ok true h, No⟩
def smCons (a r : Sm) : Sm where
  nil := false
  v := No
  l := fun σ h => (a.v σ h).bind fun x h1 => (r.l σ h1).bind fun xs h2 => .ok (x :: xs) h2
  o := fun σ h => if r.nil then (a.v σ h).bind fun x h1 => .ok (some x) h1 else .no
  b := fun o σ h => if r.nil then a.v σ h else (a.v σ h).bind fun x h1 => (noX (truD x h1)).bind fun t h2 => sel o t (r.b o σ h2) (.ok x h2)
  t := No
  tb := fun o σ h => if r.nil then a.t σ h else (a.t σ h).bind fun t h2 => sel o t (r.tb o σ h2) (.ok t h2)
  ts := fun σ h => if r.nil then a.t σ h else .no
  it := No
def smStar (a r : Sm) : Sm where
  nil := false
  v := No
  l := fun σ h => (a.v σ h).bind fun x h1 => match vwF x with
    | some (_, ys) => (r.l σ h1).bind fun xs h2 => .ok (ys.map .d ++ xs) h2
    | none => .no
  o := No
  b := fun _ => No
  t := No
  tb := fun _ => No
  ts := No
  it := No
def unL : PyData → List PyData
  | .list l => l
  | _ => []
def turn (own : List Nat) (tg : Tg) (ifs : Sm) (k : Env → Hs → R (Option PyData)) (σ : Env) (x : D) (h : Hs) : R (Option PyData) :=
  match bindTg tg x (wipeE σ own) with
  | some σ2 => noX ((ifs.ts σ2 h).bind fun b h3 => if b then k σ2 h3 else .ok none h3)
  | none => .no
def in2 (mi1 : Env → Hs → R (List D)) (vs1 : List Nat) (t1 : Tg) (ifs1 : Sm) (me : Env → Hs → R D) : Env → Hs → R (Option PyData) := fun σ2 h3 =>
  (mi1 σ2 h3).bind fun ds1 h4 => (compL h4.length (turn vs1 t1 ifs1 (fun σ3 h6 => some1 (me σ3 h6)) σ2) ds1 h4).bind fun ys h5 => .ok (some (.list ys)) h5
def dcPut (m : List (PyData × PyData)) (p : PyData) : List (PyData × PyData) := match p with
  | .tuple [a, b] => dicPut m a b
  | _ => m
def strP (p : PyData) : Bool := match p with
  | .tuple [.str _, _] => true
  | _ => false
def tupP (p : PyData) : Bool := match p with
  | .tuple [a, _] => tupKey a
  | _ => false
def dcR (ys : List PyData) (h : Hs) : R D :=
  if ys.length ≤ 100000 then (if ys.all strP then .ok (.dic (ys.foldl dcPut [])) h else if ys.all tupP then .ok (.dit (ys.foldl dcPut [])) h else .no) else .no
def pairR (kx vx : D) (h : Hs) : R (Option PyData) := match plain1 kx, plain1 vx with
  | some kk, some vv => .ok (some (.tuple [kk, vv])) h
  | _, _ => .no
def zipD (x y : D) (h : Hs) : R D := match vwF x, vwF y with
  | some (true, xs), some (true, ys) => (match strsOf xs with
    | some ks => if xs.length ≤ 1000 then .ok (.dic ((ks.zip ys).foldl (fun m p => dicPut m (.str p.1) p.2) [])) h else .no
    | none => .no)
  | _, _ => .no
def negD (x : D) (h : Hs) : R D := match x with
  | .d (.int i) => .ok (.d (.int (-i))) h
  | _ => .no
def isiR (x : D) (ts : List Ty) (h : Hs) : R D := match isiD x ts h with
  | some b => .ok (.d (.bool b)) h
  | none => .no
def zipW (x y : D) (h : Hs) : R (List D) := match vwF x, vwF y with
  | some (a, xs), some (b, ys) => if a = b then   .ok ((xs.zip ys).map fun p => .wtp [p.1, p.2]) h else .no
  | _, _ => .no
def enuW (x : D) (h : Hs) : R (List D) := match vwF x with
  | some (_, xs) => .ok (enumP 0 xs) h
  | none => .no
def rng2W (x y : D) (h : Hs) : R (List D) := match x, y with
  | .d (.int i), .d (.int j) => if decide (-(2 ^ 30) < i ∧ i < 2 ^ 30 ∧ -(2 ^ 30) < j ∧ j < 2 ^ 30) then .ok (rngP i (j - i).toNat) h else .no
  | _, _ => .no
def isxD (x : D) (tab : List (Str × Bool)) (h : Hs) : R D := match x with
  | .exc x => (match tab.lookup x.cls with
    | some b => .ok (.d (.bool b)) h
    | none => .no)
  | _ => .no
def fldD (x : D) (f : Str) (h : Hs) : R D := match x with
  | .exc x => (match x.fs.lookup f with
    | some v => .ok (.d v) h
    | none => .no)
  | _ => .no
def rngW (x : D) (h : Hs) : R (List D) := match x with
  | .d (.int n) => if decide (-(2 ^ 30) < n ∧ n < 2 ^ 30) then .ok (rngP 0 n.toNat) h else .no
  | _ => .no

def allS : List (Option PyData) → Option (List PyData)
  | [] => some []
  | some x :: r => (allS r).map (x :: ·)
  | none :: _ => none
/-- a new instance is ready: it will not change again -/
def rdyI (c : Str) (n : Nat) (h : Hs) : R D := match h[n]? with
  | some (.ins d fs) => if d = c then (match allS fs with
    | some (x :: xs) => .ok (.ins c (x :: xs)) (h.set n .dead)
    | _ => .no) else .no
  | _ => .no
def sltD (c : Str) (i : Nat) (x : D) (h : Hs) : R D := match x with
  | .ins d fs => if d = c then (match fs[i]? with
    | some v => .ok (.d v) h
    | none => .no) else .no
  | _ => .no
def insOf (c : Str) (x : D) : Bool := match x with
  | .ins d _ => decide (d = c)
  | _ => false
/-- isinstance of a class of one's own -/
def iscD (c : Str) (x : D) (h : Hs) : R D := match x with
  | .ins d _ => if d = c then .ok (.d (.bool true)) h else .no
  | _ => .no
def putO (i : Nat) (v : PyData) (fs : List (Option PyData)) : List (Option PyData) := (fs ++ List.replicate (i + 1 - fs.length) none).set i (some v)
def sflD (c : Str) (i : Nat) (o x : D) (h : Hs) : Option Hs := match o, x with
  | .cel n, .d y => (match h[n]? with
    | some (.ins d fs) => if d = c then some (h.set n (.ins d (putO i y fs))) else none
    | _ => none)
  | _, _ => none
def negB (n : Bool) (x : D) (h : Hs) : R D := match x with
  | .d (.bool b) => .ok (.d (.bool (if n then !b else b))) h
  | _ => .no

/-- a list that will not change again -/
def fzD (x : D) (h : Hs) : R D := match x with
  | .cel n => (match h[n]? with
    | some (.lst xs) => .ok (.d (.list xs)) (h.set n (.frz xs))
    | some (.frz xs) => .ok (.d (.list xs)) h
    | _ => .no)
  | x => .ok x h

/-- a call's new list: of one's own, or never changed again -/
def keepR (m : Bool) (x : D) (h : Hs) : R D := if m then .ok x h else fzD x h
def pickO (ds : List D) : List Nat → Option (List D)
  | [] => some []
  | i :: r => match ds[i]?, pickO ds r with
    | some x, some xs => some (x :: xs)
    | _, _ => none
def sem (C : Str → List D → Hs → R D) : E → Sm
  | .nil => smNil
  | .cons a r => smCons (sem C a) (sem C r)
  | .star a r => smStar (sem C a) (sem C r)
  | .var i => mkV fun σ h => match σ[i]? with
    | some (some x) => .ok x h
    | _ => .no
  | .fz a => mkV fun σ h => ((sem C a).v σ h).bind fun x h1 => noX (fzD x h1)
  | .glo _ v => mkV fun _ h => .ok (.d v) h
  | .cst v => mkV fun _ h => .ok (.d v) h
  | .bin o m a b => mkV fun σ h => ((sem C a).v σ h).bind fun x h1 => ((sem C b).v σ h1).bind fun y h2 => noX (binD o m x y h2)
  | .neg a => mkV fun σ h => ((sem C a).v σ h).bind fun x h1 => noX (negD x h1)
  | .cmp o a b => mkV fun σ h => ((sem C a).v σ h).bind fun x h1 => ((sem C b).v σ h1).bind fun y h2 => noX (cmpD o x y h2)
  | .chn o p a b c => mkV fun σ h => ((sem C a).v σ h).bind fun x h1 => ((sem C b).v σ h1).bind fun y h2 => (noX (cmpD o x y h2)).bind fun t h3 => (noX (truD t h3)).bind fun k h4 =>
      if k then ((sem C c).v σ h4).bind fun z h5 => noX (cmpD p y z h5) else .ok (.d (.bool false)) h4
  | .bop o es => mkT (fun σ h => (sem C es).b o σ h) (fun σ h => (sem C es).tb o σ h)
  | .not a => mkT (fun σ h => ((sem C a).v σ h).bind fun x h1 => (noX (truD x h1)).bind fun b h2 => .ok (.d (.bool (!b))) h2) (fun σ h => ((sem C a).t σ h).bind fun b h1 => .ok (!b) h1)
  | .ife c a b => mkT (fun σ h => ((sem C c).t σ h).bind fun t h1 => if t then (sem C a).v σ h1 else (sem C b).v σ h1) No
  | .tup es => mkV fun σ h => ((sem C es).l σ h).bind fun ds h1 => noX (tupD ds h1)
  | .lst m es => mkV fun σ h => ((sem C es).l σ h).bind fun ds h1 => noX (lstD m ds h1)
  | .ix a i => mkV fun σ h => ((sem C a).v σ h).bind fun x h1 => ((sem C i).v σ h1).bind fun y h2 => noX (ixD x y h2)
  | .sl a lo hi => mkV fun σ h => ((sem C a).v σ h).bind fun x h1 => (noX ((sem C lo).o σ h1)).bind fun y h2 => (noX ((sem C hi).o σ h2)).bind fun z h3 => noX (slD x y z h3)
  | .call f m es => mkV fun σ h => ((sem C es).l σ h).bind fun ds h1 => (C f ds h1).bind fun x h2 => noX (keepR m x h2)
  | .callk f m _ kn ord kes => mkV fun σ h => ((sem C kes).l σ h).bind fun ks h2 => if ks.length = kn.length then (match pickO ks ord with
    | some as => (C f as h2).bind fun x h3 => noX (keepR m x h3)
    | none => .no) else .no
  | .isx a _ tab => mkV fun σ h => ((sem C a).v σ h).bind fun x h1 => noX (isxD x tab h1)
  | .fld a f => mkV fun σ h => ((sem C a).v σ h).bind fun x h1 => noX (fldD x f h1)
  | .make c g es => mkV fun σ h => ((sem C es).l σ h).bind fun ds h1 => (C g (.cel (h1.length + 1) :: ds) (h1 ++ [.dead, .ins c []])).bind fun r h2 => if isNoneD r then noX (rdyI c (h1.length + 1) h2) else .no
  | .mcl c _ g o es => mkV fun σ h => ((sem C o).v σ h).bind fun x h1 => if insOf c x then ((sem C es).l σ h1).bind (fun ds h2 => (C g (x :: ds) h2).bind fun y h3 => noX (fzD y h3)) else .no
  | .mclk c _ g o _ kn ord kes => mkV fun σ h => ((sem C o).v σ h).bind fun x h1 => if insOf c x then ((sem C kes).l σ h1).bind (fun ks h3 => if ks.length = kn.length then (match pickO ks ord with
    | some as => (C g (x :: as) h3).bind fun y h4 => noX (fzD y h4)
    | none => .no) else .no) else .no
  | .slt c _ i a => mkV fun σ h => ((sem C a).v σ h).bind fun x h1 => noX (sltD c i x h1)
  | .eqo n c g a b => mkT (fun σ h => ((sem C a).v σ h).bind fun x h1 => ((sem C b).v σ h1).bind fun y h2 => if insOf c x && insOf c y then (noX (C g [x, y] h2)).bind fun z h3 => noX (negB n z h3) else .no) No
  | .ino c g a b => mkV fun σ h => ((sem C a).v σ h).bind fun x h1 => ((sem C b).v σ h1).bind fun y h2 => if insOf c y then (noX (C g [y, x] h2)).bind fun z h3 => noX (negB false z h3) else .no
  | .isc a c => mkV fun σ h => ((sem C a).v σ h).bind fun x h1 => noX (iscD c x h1)
  | .bi b m es => mkV fun σ h => ((sem C es).l σ h).bind fun ds h1 => noX (biD b m ds h1)
  | .isi a ts _ => mkV fun σ h => ((sem C a).v σ h).bind fun x h1 => noX (isiR x ts h1)
  | .mth m o es => mkV fun σ h => ((sem C o).v σ h).bind fun x h1 => if rcvOk m x h1 then ((sem C es).l σ h1).bind (fun ds h2 => noX (mthD m x ds h2)) else .no
  | .dz a b => mkV fun σ h => ((sem C a).v σ h).bind fun x h1 => ((sem C b).v σ h1).bind fun y h2 => noX (zipD x y h2)
  | .lc m own tg it ifs elt => mkV fun σ h => ((sem C it).it σ h).bind fun ds h1 =>
      (compL h1.length (turn own tg (sem C ifs) (fun σ2 h3 => some1 ((sem C elt).v σ2 h3)) σ) ds h1).bind fun ys h2 => noX (mkL m ys h2)
  | .lc2 own vs1 tg it ifs tg1 it1 ifs1 elt => mkV fun σ h => ((sem C it).it σ h).bind fun ds h1 =>
      (compL h1.length (turn own tg (sem C ifs) (in2 (sem C it1).it vs1 tg1 (sem C ifs1) (sem C elt).v) σ) ds h1).bind fun yss h2 => noX (mkL false (yss.flatMap unL) h2)
  | .dc own tg it ifs k v => mkV fun σ h => ((sem C it).it σ h).bind fun ds h1 =>
      (compL h1.length (turn own tg (sem C ifs) (fun σ2 h3 => ((sem C k).v σ2 h3).bind fun kx h4 => ((sem C v).v σ2 h4).bind fun vx h5 => pairR kx vx h5) σ) ds h1).bind fun ys h2 => noX (dcR ys h2)
  | .enu a => mkI fun σ h => ((sem C a).v σ h).bind fun x h1 => noX (enuW x h1)
  | .zip a b => mkI fun σ h => ((sem C a).v σ h).bind fun x h1 => ((sem C b).v σ h1).bind fun y h2 => noX (zipW x y h2)
  | .rng a => mkI fun σ h => ((sem C a).v σ h).bind fun x h1 => noX (rngW x h1)
  | .rng2 a b => mkI fun σ h => ((sem C a).v σ h).bind fun x h1 => ((sem C b).v σ h1).bind fun y h2 => noX (rng2W x y h2)

def loopF (f : D → Env → Hs → R (Fl × Env)) : List D → Env → Hs → R (Fl × Env)
  | [], σ, h => .ok (.nx, σ) h
  | x :: r, σ, h => (f x σ h).bind fun p h1 => match p.1 with
    | .nx => loopF f r p.2 h1
    | .ct => loopF f r p.2 h1
    | .bk => .ok (.nx, p.2) h1
    | .rt y => .ok (.rt y, p.2) h1
    | .xc x => .ok (.xc x, p.2) h1
/-- an exception is a way for a statement to end -/
def bindS {α : Type} (r : R α) (σ : Env) (f : α → Hs → R (Fl × Env)) : R (Fl × Env) := match r with
  | .ok a h => f a h
  | .ex x h => .ok (.xc x, σ) h
  | .no => .no
def whlF (t : Env → Hs → R Bool) (f : Env → Hs → R (Fl × Env)) : Nat → Env → Hs → R (Fl × Env)
  | 0, _, _ => .no
  | n + 1, σ, h => bindS (t σ h) σ fun b h1 => if b then (f σ h1).bind fun p h2 => (match p.1 with
    | .nx => whlF t f n p.2 h2
    | .ct => whlF t f n p.2 h2
    | .bk => .ok (.nx, p.2) h2
    | .rt y => .ok (.rt y, p.2) h2
    | .xc x => .ok (.xc x, p.2) h2) else .ok (.nx, σ) h1

/-- the most turns of a while -/
def fuel : Nat := 1000000
def stoD (o i x : D) (h : Hs) : Option Hs := match o, i, x with
  | .cel n, .d (.int j), .d y => (match h[n]? with
    | some (.lst xs) => (match L2.ixN xs.length j with
      | some k => some (h.set n (.lst (xs.set k y)))
      | none => none)
    | _ => none)
  | _, _, _ => none
/-- the first clause that takes it -/
def takesX (x : Xn) : List (Str × List (Str × Bool)) → Option Bool
  | [] => some false
  | (_, tab) :: r => match tab.lookup x.cls with
    | some true => some true
    | some false => takesX x r
    | none => none

def run (C : Str → List D → Hs → R D) : S → Env → Hs → R (Fl × Env)
  | .nil, σ, h => .ok (.nx, σ) h
  | .seq s r, σ, h => (run C s σ h).bind fun p h1 => match p.1 with
    | .nx => run C r p.2 h1
    | f => .ok (f, p.2) h1
  | .asg i e, σ, h => bindS ((sem C e).v σ h) σ fun x h1 => .ok (.nx, σ.set i (some x)) h1
  | .unp is e, σ, h => bindS ((sem C e).v σ h) σ fun x h1 => match bindTg (.tp is) x σ with
    | some σ1 => .ok (.nx, σ1) h1
    | none => .no
  | .par i j a b, σ, h => bindS (((sem C a).v σ h).bind fun x h1 => ((sem C b).v σ h1).bind fun y h2 => .ok (x, y) h2) σ fun p h2 => .ok (.nx, (σ.set i (some p.1)).set j (some p.2)) h2
  | .par3 i j k a b c, σ, h => bindS (((sem C a).v σ h).bind fun x h1 => ((sem C b).v σ h1).bind fun y h2 => ((sem C c).v σ h2).bind fun z h3 => .ok (x, y, z) h3) σ fun p h2 => .ok (.nx, ((σ.set i (some p.1)).set j (some p.2.1)).set k (some p.2.2)) h2
  | .sto o i e, σ, h => bindS (((sem C e).v σ h).bind fun x h1 => ((sem C o).v σ h1).bind fun y h2 => ((sem C i).v σ h2).bind fun z h3 => match stoD y z x h3 with
    | some h4 => .ok () h4
    | none => .no) σ fun _ h4 => .ok (.nx, σ) h4
  | .sfl c _ i o e, σ, h => bindS (((sem C e).v σ h).bind fun x h1 => ((sem C o).v σ h1).bind fun y h2 => match sflD c i y x h2 with
    | some h3 => .ok () h3
    | none => .no) σ fun _ h3 => .ok (.nx, σ) h3
  | .exp e, σ, h => bindS ((sem C e).v σ h) σ fun _ h1 => .ok (.nx, σ) h1
  | .ret e, σ, h => bindS ((sem C e).v σ h) σ fun x h1 => .ok (.rt x, σ) h1
  | .retN, σ, h => .ok (.rt (.d .none), σ) h
  | .ite c a b, σ, h => bindS ((sem C c).t σ h) σ fun t h1 => if t then run C a σ h1 else run C b σ h1
  | .for_ tg it b, σ, h => bindS ((sem C it).it σ h) σ fun ds h1 => loopF (fun x σ1 h2 => match bindTg tg x σ1 with
    | some σ2 => run C b σ2 h2
    | none => .no) ds σ h1
  | .whl c b, σ, h => whlF (sem C c).t (run C b) fuel σ h
  | .rai, _, _ => .no
  | .rais c f e, σ, h => bindS ((sem C e).v σ h) σ fun x h1 => match plain1 x with
    | some v => .ok (.xc ⟨c, [(f, v)]⟩, σ) h1
    | none => .no
  | .try_ b cs i j, σ, h => (run C b σ h).bind fun p h1 => match p.1 with
    | .xc x => (match takesX x cs with
      | some true => .ok (.nx, (p.2.set j (some (.exc x))).set i none) h1
      | some false => .ok (.xc x, p.2) h1
      | none => .no)
    | f => .ok (f, p.2) h1
  | .pass, σ, h => .ok (.nx, σ) h
  | .brk, σ, h => .ok (.bk, σ) h
  | .cnt, σ, h => .ok (.ct, σ) h

structure Fn where
  np : Nat
  nn : Nat
  body : S

/-- behind a def: its own cells go; a new list that it hands back is a cell of the caller's -/
def leave (n : Nat) (x : D) (h : Hs) : R D := match x with
  | .cel m => if m < n then .ok x (h.take n) else (match h[m]? with
    | some (.lst xs) => .ok (.cel (h.take n).length) (h.take n ++ [.lst xs])
    | some (.frz xs) => .ok (.d (.list xs)) (h.take n)
    | _ => .no)
  | .mix _ => .no
  | x => .ok x (h.take n)
def startE (fn : Fn) (ds : List D) : Env := ds.map some ++ List.replicate (fn.nn - ds.length) none
def runF (C : Str → List D → Hs → R D) (fn : Fn) (ds : List D) (h : Hs) : R D :=
  if ds.length = fn.np then (noX (run C fn.body (startE fn ds) h)).bind fun p h1 => match p.1 with
    | .rt x => leave h.length x h1
    | .nx => leave h.length (.d .none) h1
    | .xc x => .ex x (h1.take h.length)
    | _ => .no
  else .no
abbrev Prog := List (Str × Fn)
def callN (P : Prog) : Nat → Str → List D → Hs → R D
  | 0, _, _, _ => .no
  | k + 1, f, ds, h => match P.lookup f with
    | some fn => runF (callN P k) fn ds h
    | none => .no
end En
/-! En: what stands for what -/
namespace En
open PySem L2
open SlX (SlO Slt slH putS SCls Slot1)
variable [Wd]

/-- a tuple of which the object is known: nothing stands behind it -/
abbrev tupO (its : List Value) : Obj := { cls := .type "tuple", data := .seq its.toArray }
def SqX (F : Hp) (a : Addr) (vs : List V) : Prop := ∃ its, F a = some (.frz (tupO its) (.tup vs)) ∧ Vals vs its
theorem SqX.sqT {K : PySem.W.Frag} {F : Hp} {a : Addr} {vs : List V} (h : SqX F a vs) : SqT K F a vs := let ⟨its, e, _⟩ := h; .inl (.inr ⟨tupO its, e⟩)
theorem SqX.mono {F F' : Hp} (s : Same F F') {a : Addr} {vs : List V} (h : SqX F a vs) : SqX F' a vs := let ⟨ob, e, d⟩ := h; ⟨ob, s _ _ e, d⟩
mutual
inductive Dq (K : PySem.W.Frag) (F : Hp) : V → PyData → Prop
  | non : Dq K F .non .none
  | bl (b : Bool) : Dq K F (.bl b) (.bool b)
  | int (i : Int) : Dq K F (.int i) (.int i)
  | str (x : Str) : Dq K F (.str x) (.str x)
  | lst {a : Addr} {vs : List V} {xs : List PyData} : F a = some (.lst vs) → DqA K F vs xs → Dq K F (.ref a) (.list xs)
  | tup {a : Addr} {vs : List V} {xs : List PyData} : SqX F a vs → DqA K F vs xs → Dq K F (.ref a) (.tuple xs)
inductive DqA (K : PySem.W.Frag) (F : Hp) : List V → List PyData → Prop
  | nil : DqA K F [] []
  | cons {v : V} {vs : List V} {x : PyData} {xs : List PyData} : Dq K F v x → DqA K F vs xs → DqA K F (v :: vs) (x :: xs)
end

section
variable {K : PySem.W.Frag} {F F' H : Hp}
theorem sqT_mono (s : Same F F') {a : Addr} {vs : List V} (h : SqT K F a vs) : SqT K F' a vs := by
  rcases h with (h | ⟨o, h⟩) | h
  · exact .inl (.inl (s _ _ h))
  · exact .inl (.inr ⟨o, s _ _ h⟩)
  · exact .inr h
theorem sqL_mono (s : Same F F') {a : Addr} {vs : List V} (h : SqL K F a vs) : SqL K F' a vs := s.seq h
mutual
theorem Dq.mono (s : Same F F') : ∀ (x : PyData) (v : V), Dq K F v x → Dq K F' v x
  | .none, _, h => by cases h; exact .non
  | .bool b, _, h => by cases h; exact .bl b
  | .int b, _, h => by cases h; exact .int b
  | .str b, _, h => by cases h; exact .str b
  | .list xs, _, h => by
    cases h with
    | lst h1 h2 => exact .lst (s _ _ h1) (DqA.mono s xs _ h2)
  | .tuple xs, _, h => by
    cases h with
    | tup h1 h2 => exact .tup (h1.mono s) (DqA.mono s xs _ h2)
  | .dict _, _, h => by cases h
theorem DqA.mono (s : Same F F') : ∀ (xs : List PyData) (vs : List V), DqA K F vs xs → DqA K F' vs xs
  | [], _, h => by cases h; exact .nil
  | x :: xs, _, h => by
    cases h with
    | cons h1 h2 => exact .cons (Dq.mono s x _ h1) (DqA.mono s xs _ h2)
end
mutual
theorem Dq.dp (s : Same F H) : ∀ (x : PyData) (v : V), Dq K F v x → Dp K H v x
  | .none, _, h => by cases h; exact .non
  | .bool b, _, h => by cases h; exact .bl b
  | .int b, _, h => by cases h; exact .int b
  | .str b, _, h => by cases h; exact .str b
  | .list xs, _, h => by
    cases h with
    | lst h1 h2 => exact .lst (.inl (.inl (s _ _ h1))) (DqA.dp s xs _ h2)
  | .tuple xs, _, h => by
    cases h with
    | tup h1 h2 => exact .tup (sqT_mono s h1.sqT) (DqA.dp s xs _ h2)
  | .dict _, _, h => by cases h
theorem DqA.dp (s : Same F H) : ∀ (xs : List PyData) (vs : List V), DqA K F vs xs → DpAll K H vs xs
  | [], _, h => by cases h; exact .nil
  | x :: xs, _, h => by
    cases h with
    | cons h1 h2 => exact .cons (Dq.dp s x _ h1) (DqA.dp s xs _ h2)
end
theorem DqA.len : ∀ {xs : List PyData} {vs : List V}, DqA K F vs xs → vs.length = xs.length
  | [], _, h => by cases h; rfl
  | x :: xs, _, h => by
    cases h with
    | cons _ h2 => exact congrArg (· + 1) (DqA.len h2)
theorem DqA.app : ∀ {xs : List PyData} {vs : List V} {ys : List PyData} {ws : List V}, DqA K F vs xs → DqA K F ws ys → DqA K F (vs ++ ws) (xs ++ ys)
  | [], _, _, _, h, g => by cases h; exact g
  | x :: xs, _, _, _, h, g => by
    cases h with
    | cons h1 h2 => exact .cons h1 (DqA.app h2 g)
theorem DqA.drop : ∀ {xs : List PyData} {vs : List V} (n : Nat), DqA K F vs xs → DqA K F (vs.drop n) (xs.drop n)
  | _, _, 0, h => h
  | [], _, n + 1, h => by cases h; exact .nil
  | x :: xs, _, n + 1, h => by
    cases h with
    | cons h1 h2 => exact DqA.drop n h2
theorem DqA.take : ∀ {xs : List PyData} {vs : List V} (n : Nat), DqA K F vs xs → DqA K F (vs.take n) (xs.take n)
  | _, _, 0, _ => by simp only [List.take_zero]; exact .nil
  | [], _, n + 1, h => by cases h; exact .nil
  | x :: xs, _, n + 1, h => by
    cases h with
    | cons h1 h2 => exact .cons h1 (DqA.take n h2)
theorem DqA.get : ∀ {xs : List PyData} {vs : List V} {i : Nat} {x : PyData}, DqA K F vs xs → xs[i]? = some x → ∃ v, vs[i]? = some v ∧ Dq K F v x
  | [], _, _, _, _, e => by simp at e
  | y :: ys, _, 0, x, h, e => by
    cases h with
    | cons h1 h2 =>
      simp only [List.getElem?_cons_zero, Option.some.injEq] at e
      subst e
      exact ⟨_, rfl, h1⟩
  | y :: ys, _, i + 1, x, h, e => by
    cases h with
    | cons h1 h2 =>
      simp only [List.getElem?_cons_succ] at e ⊢
      exact DqA.get h2 e
theorem DqA.put : ∀ {xs : List PyData} {vs : List V} {x : PyData} {v : V} (i : Nat), DqA K F vs xs → Dq K F v x → DqA K F (vs.set i v) (xs.set i x)
  | [], _, _, _, _, h, _ => by cases h; exact .nil
  | y :: ys, _, _, _, 0, h, g => by
    cases h with
    | cons h1 h2 => exact .cons g h2
  | y :: ys, _, _, _, i + 1, h, g => by
    cases h with
    | cons h1 h2 => exact .cons h1 (DqA.put i h2 g)
theorem DqA.erase : ∀ {xs : List PyData} {vs : List V} (n : Nat), DqA K F vs xs → DqA K F (vs.eraseIdx n) (xs.eraseIdx n)
  | [], _, _, h => by cases h; exact .nil
  | x :: xs, _, 0, h => by
    cases h with
    | cons h1 h2 => exact h2
  | x :: xs, _, n + 1, h => by
    cases h with
    | cons h1 h2 => exact .cons h1 (DqA.erase n h2)
theorem DqA.rep {xs : List PyData} {vs : List V} (h : DqA K F vs xs) : ∀ n : Nat, DqA K F (List.replicate n vs).flatten (List.replicate n xs).flatten
  | 0 => .nil
  | n + 1 => by
    rw [List.replicate_succ, List.replicate_succ, List.flatten_cons, List.flatten_cons]
    exact h.app (DqA.rep h n)
theorem dq_ints (ns : List Int) : DqA K F (ns.map V.int) (ns.map PyData.int) := by
  induction ns with
  | nil => exact .nil
  | cons n ns ih => exact .cons (.int n) ih
theorem dq_strs : ∀ {xs : List PyData} {vs : List V} {ys : List Str}, DqA K F vs xs → strsOf xs = some ys → vs = ys.map V.str
  | [], _, _, h, e => by cases h; cases e; rfl
  | .str b :: xs, _, ys, h, e => by
    cases h with
    | cons h1 h2 =>
      cases h1
      simp only [strsOf] at e
      obtain ⟨zs, e1, e2⟩ := Option.map_eq_some_iff.mp e
      subst e2
      rw [dq_strs h2 e1]
      rfl
  | .none :: _, _, _, _, e => by cases e
  | .bool _ :: _, _, _, _, e => by cases e
  | .int _ :: _, _, _, _, e => by cases e
  | .list _ :: _, _, _, _, e => by cases e
  | .tuple _ :: _, _, _, _, e => by cases e
  | .dict _ :: _, _, _, _, e => by cases e
theorem dq_bools : ∀ {xs : List PyData} {vs : List V} {ys : List Bool}, DqA K F vs xs → boolsOf xs = some ys → vs = ys.map V.bl
  | [], _, _, h, e => by cases h; cases e; rfl
  | .bool b :: xs, _, ys, h, e => by
    cases h with
    | cons h1 h2 =>
      cases h1
      simp only [boolsOf] at e
      obtain ⟨zs, e1, e2⟩ := Option.map_eq_some_iff.mp e
      subst e2
      rw [dq_bools h2 e1]
      rfl
  | .none :: _, _, _, _, e => by cases e
  | .str _ :: _, _, _, _, e => by cases e
  | .int _ :: _, _, _, _, e => by cases e
  | .list _ :: _, _, _, _, e => by cases e
  | .tuple _ :: _, _, _, _, e => by cases e
  | .dict _ :: _, _, _, _, e => by cases e
end

/-- a dict that never changes: its keys are texts -/
inductive DicA (K : PySem.W.Frag) (F : Hp) : List (Key × V) → List (PyData × PyData) → Prop
  | nil : DicA K F [] []
  | cons {k : Str} {v : V} {x : PyData} {kvs : List (Key × V)} {ps : List (PyData × PyData)} : Dq K F v x → DicA K F kvs ps → DicA K F ((.inr k, v) :: kvs) ((.str k, x) :: ps)
def DicO (K : PySem.W.Frag) (F : Hp) (a : Addr) (ps : List (PyData × PyData)) : Prop := ∃ kvs, F a = some (.dK kvs) ∧ DicA K F kvs ps

/-- the one object of a dict whose keys are tuples -/
def kdx (xs : List (NestedKey × Addr × Value)) (a : Addr) (h : Heap) : Prop :=
  ∃ o es ep, h.get? a = some o ∧ o.ExactDict ∧ o.data = .dict es ep ∧ es.toList = xs.map (fun x => ⟨NestedKey.hash Wd.w x.1, .ref x.2.1, x.2.2⟩) ∧ (xs.map (·.1)).Nodup
inductive DicT (K : PySem.W.Frag) (F : Hp) : List (NestedKey × Addr × Value) → List (PyData × PyData) → Prop
  | nil : DicT K F [] []
  | cons {k : NestedKey} {b : Addr} {u : Value} {v : V} {a x : PyData} {xs : List (NestedKey × Addr × Value)} {ps : List (PyData × PyData)} : nk a = some k → tupKey a = true → Dq K F (.ref b) a → RelV v u → Dq K F v x → DicT K F xs ps → DicT K F ((k, b, u) :: xs) ((a, x) :: ps)

/-- an exception's object: its class, its dict -/
def exo (C : Addr) (d : Option Addr) (a : Addr) (h : Heap) : Prop := ∃ oe vs, h.get? a = some oe ∧ oe.cls = .ref C ∧ oe.dict = d ∧ oe.data = .fields vs
inductive XdA (K : PySem.W.Frag) (F : Hp) : List (Str × V) → List (Str × PyData) → Prop
  | nil : XdA K F [] []
  | cons {k : Str} {v : V} {x : PyData} {kvs : List (Str × V)} {ps : List (Str × PyData)} : Dq K F v x → XdA K F kvs ps → XdA K F ((k, v) :: kvs) ((k, x) :: ps)
/-- the fields of an exception -/
def FsOk (K : PySem.W.Frag) (F : Hp) (fs : List (Str × PyData)) : Option Addr → Prop
  | none => fs = []
  | some d => ∃ ws, F d = some (.xd ws) ∧ XdA K F ws fs
/-- what is raised -/
def RepX (K : PySem.W.Frag) (F : Hp) (x : Xn) (cls : Value) (d : Option Addr) : Prop := ∃ C, cls = .ref C ∧ Wd.mg x.cls = some (.ref C) ∧ FsOk K F x.fs d
/-- the slots of an instance -/
def InsA (K : PySem.W.Frag) (F : Hp) (vs : List (Option V)) (fs : List (Option PyData)) : Prop := ∀ (i : Nat) (x : PyData), fs[i]? = some (some x) → ∃ v, vs[i]? = some (some v) ∧ Dq K F v x
theorem InsA.mono {K : PySem.W.Frag} {F F' : Hp} (s : Same F F') {vs : List (Option V)} {fs : List (Option PyData)} (h : InsA K F vs fs) : InsA K F' vs fs := fun i x e => by
  obtain ⟨v, h1, h2⟩ := h i x e
  exact ⟨v, h1, Dq.mono s _ _ h2⟩
mutual
def Rep (K : PySem.W.Frag) (F : Hp) (ρ : List Addr) : D → V → Prop
  | .d x, v => Dq K F v x
  | .ty n, v => v = .ty n
  | .scr ns, v => ∃ a, v = .ref a ∧ SqL K F a (ns.map V.int)
  | .cel n, v => ∃ a, ρ[n]? = some a ∧ v = .ref a
  | .dic ps, v => ∃ a, v = .ref a ∧ DicO K F a ps
  | .dit ps, v => ∃ a, v = .ref a ∧ ∃ xs, F a = some (.ext (kdx xs a)) ∧ DicT K F xs ps
  | .mix ds, v => ∃ a vs, v = .ref a ∧ SqT K F a vs ∧ RepL K F ρ ds vs
  | .exc x, v => ∃ a C d, v = .ref a ∧ F a = some (.ext (exo C d a)) ∧ RepX K F x (.ref C) d
  | .wtp xs, v => ∃ a vs, v = .ref a ∧ SqT K F a vs ∧ DqA K F vs xs
  | .ins c fs, v => ∃ a C dx vs, v = .ref a ∧ Wd.mg c = some (.ref C) ∧ F a = some (SlO a C dx vs) ∧ F dx = some (.xd []) ∧ InsA K F vs (fs.map some)
def RepL (K : PySem.W.Frag) (F : Hp) (ρ : List Addr) : List D → List V → Prop
  | [], vs => vs = []
  | x :: xs, vs => ∃ v r, vs = v :: r ∧ Rep K F ρ x v ∧ RepL K F ρ xs r
end

/-- more stands behind: what never changes stays, cells keep their numbers -/
structure Ext (F : Hp) (ρ : List Addr) (F' : Hp) (ρ' : List Addr) : Prop where
  f : Same F F'
  r : ρ <+: ρ'
theorem Ext.refl (F : Hp) (ρ : List Addr) : Ext F ρ F ρ := ⟨Same.refl F, List.prefix_refl ρ⟩
theorem Ext.trans {F F1 F2 : Hp} {ρ ρ1 ρ2 : List Addr} (a : Ext F ρ F1 ρ1) (b : Ext F1 ρ1 F2 ρ2) : Ext F ρ F2 ρ2 := ⟨a.f.trans b.f, a.r.trans b.r⟩
theorem Ext.get {F F' : Hp} {ρ ρ' : List Addr} (e : Ext F ρ F' ρ') {n : Nat} {a : Addr} (h : ρ[n]? = some a) : ρ'[n]? = some a := by
  obtain ⟨t, rfl⟩ := e.r
  have hn : n < ρ.length := (List.getElem?_eq_some_iff.mp h).1
  rw [List.getElem?_append_left hn]
  exact h

/-- .. and all that is tracked stays, but for the cells; new cells stand where nothing stood -/
structure Exh (F : Hp) (ρ : List Addr) (H F' : Hp) (ρ' : List Addr) (H' : Hp) : Prop extends Ext F ρ F' ρ' where
  k : ∀ (b : Addr) (o : HO), H b = some o → b ∉ ρ → H' b = some o
  n : ∀ b ∈ ρ', b ∈ ρ ∨ H b = none
  m : ∀ (b : Addr) (o : HO), H b = some o → b ∉ ρ → F b = none → F' b = none
theorem Exh.refl (F : Hp) (ρ : List Addr) (H : Hp) : Exh F ρ H F ρ H := ⟨Ext.refl F ρ, fun _ _ e _ => e, fun _ e => .inl e, fun _ _ _ _ e => e⟩
theorem Exh.trans {F F1 F2 H H1 H2 : Hp} {ρ ρ1 ρ2 : List Addr} (a : Exh F ρ H F1 ρ1 H1) (b : Exh F1 ρ1 H1 F2 ρ2 H2) : Exh F ρ H F2 ρ2 H2 := by
  have off : ∀ c o, H c = some o → c ∉ ρ → c ∉ ρ1 := fun c o e hc hm => by
    rcases a.n c hm with z | z
    · exact hc z
    · rw [e] at z; cases z
  refine ⟨a.toExt.trans b.toExt, fun c o e hc => b.k c o (a.k c o e hc) (off c o e hc), fun c hc => ?_, fun c o e hc f => b.m c o (a.k c o e hc) (off c o e hc) (a.m c o e hc f)⟩
  · rcases b.n c hc with z | z
    · exact a.n c z
    · by_cases hm : c ∈ ρ
      · exact .inl hm
      · cases q : H c with
        | none => exact .inr rfl
        | some o =>
          have := a.k c o q hm
          rw [z] at this; cases this
theorem exh_new {F H : Hp} {ρ : List Addr} {p : Addr} {o : HO} (hp : H p = none) (sm : Same F (upd F p o)) : Exh F ρ H (upd F p o) ρ (upd H p o) :=
  ⟨⟨sm, List.prefix_refl ρ⟩, fun b u e _ => by rw [upd_ne (ne_of_none e hp)]; exact e, fun _ e => .inl e, fun b u e _ f => by rw [upd_ne (ne_of_none e hp)]; exact f⟩

theorem exh_more {F H : Hp} {ρ : List Addr} {p : Addr} {o : HO} (hp : H p = none) : Exh F ρ H F ρ (upd H p o) :=
  ⟨Ext.refl F ρ, fun b u e _ => by rw [upd_ne (ne_of_none e hp)]; exact e, fun _ e => .inl e, fun _ _ _ _ e => e⟩
theorem exh_put {F H : Hp} {ρ : List Addr} {n : Nat} {a : Addr} {o : HO} (e : ρ[n]? = some a) : Exh F ρ H F ρ (upd H a o) :=
  ⟨Ext.refl F ρ, fun b u e' hb => by rw [upd_ne (fun z => hb (by rw [z]; exact List.mem_of_getElem? e))]; exact e', fun _ e => .inl e, fun _ _ _ _ e => e⟩

section
variable {K : PySem.W.Frag} {F F' : Hp} {ρ ρ' : List Addr}
theorem DicA.mono (s : Same F F') : ∀ {kvs : List (Key × V)} {ps : List (PyData × PyData)}, DicA K F kvs ps → DicA K F' kvs ps
  | _, _, .nil => .nil
  | _, _, .cons h t => .cons (Dq.mono s _ _ h) (DicA.mono s t)
theorem DicT.mono (s : Same F F') : ∀ {xs : List (NestedKey × Addr × Value)} {ps : List (PyData × PyData)}, DicT K F xs ps → DicT K F' xs ps
  | _, _, .nil => .nil
  | _, _, .cons h1 h2 h3 h4 h5 t => .cons h1 h2 (Dq.mono s _ _ h3) h4 (Dq.mono s _ _ h5) (DicT.mono s t)
theorem XdA.mono (s : Same F F') : ∀ {kvs : List (Str × V)} {ps : List (Str × PyData)}, XdA K F kvs ps → XdA K F' kvs ps
  | _, _, .nil => .nil
  | _, _, .cons h t => .cons (Dq.mono s _ _ h) (XdA.mono s t)
theorem FsOk.mono (s : Same F F') {fs : List (Str × PyData)} {d : Option Addr} (h : FsOk K F fs d) : FsOk K F' fs d := by
  cases d with
  | none => exact h
  | some d =>
    obtain ⟨ws, h1, h2⟩ := h
    exact ⟨ws, s _ _ h1, h2.mono s⟩
theorem RepX.mono (s : Same F F') {x : Xn} {cls : Value} {d : Option Addr} (h : RepX K F x cls d) : RepX K F' x cls d := by
  obtain ⟨C, h1, h2, h3⟩ := h
  exact ⟨C, h1, h2, h3.mono s⟩
mutual
theorem Rep.mono (e : Ext F ρ F' ρ') : ∀ (d : D) (v : V), Rep K F ρ d v → Rep K F' ρ' d v
  | .d x, _, h => Dq.mono e.f x _ h
  | .ty _, _, h => h
  | .scr _, _, h => by
    obtain ⟨a, h1, h2⟩ := h
    exact ⟨a, h1, sqL_mono e.f h2⟩
  | .cel _, _, h => by
    obtain ⟨a, h1, h2⟩ := h
    exact ⟨a, e.get h1, h2⟩
  | .dic _, _, h => by
    obtain ⟨a, h1, kvs, h2, h3⟩ := h
    exact ⟨a, h1, kvs, e.f _ _ h2, h3.mono e.f⟩
  | .dit _, _, h => by
    obtain ⟨a, h1, xs, h2, h3⟩ := h
    exact ⟨a, h1, xs, e.f _ _ h2, h3.mono e.f⟩
  | .mix ds, _, h => by
    obtain ⟨a, vs, h1, h2, h3⟩ := h
    exact ⟨a, vs, h1, sqT_mono e.f h2, RepL.mono e ds vs h3⟩
  | .exc x, _, h => by
    obtain ⟨a, C, d, h1, h2, h3⟩ := h
    exact ⟨a, C, d, h1, e.f _ _ h2, h3.mono e.f⟩
  | .wtp _, _, h => by
    obtain ⟨a, vs, h1, h2, h3⟩ := h
    exact ⟨a, vs, h1, sqT_mono e.f h2, DqA.mono e.f _ _ h3⟩
  | .ins _ _, _, h => by
    obtain ⟨a, C, dx, vs, h1, h2, h3, h4, h5⟩ := h
    exact ⟨a, C, dx, vs, h1, h2, e.f _ _ h3, e.f _ _ h4, h5.mono e.f⟩
theorem RepL.mono (e : Ext F ρ F' ρ') : ∀ (ds : List D) (vs : List V), RepL K F ρ ds vs → RepL K F' ρ' ds vs
  | [], _, h => h
  | x :: xs, _, h => by
    obtain ⟨v, r, h1, h2, h3⟩ := h
    exact ⟨v, r, h1, Rep.mono e x v h2, RepL.mono e xs r h3⟩
end
theorem RepL.len : ∀ {ds : List D} {vs : List V}, RepL K F ρ ds vs → vs.length = ds.length
  | [], _, h => by
    have h' : _ = [] := h
    rw [h']; rfl
  | x :: xs, _, h => by
    obtain ⟨v, r, rfl, _, h3⟩ := h
    simp [RepL.len h3]
theorem repL_plain : ∀ {ds : List D} {vs : List V} {xs : List PyData}, RepL K F ρ ds vs → plainL ds = some xs → DqA K F vs xs
  | [], _, _, h, e => by
    have h' : _ = [] := h
    cases e; rw [h']; exact .nil
  | .d x :: ds, _, xs, h, e => by
    obtain ⟨v, r, rfl, h2, h3⟩ := h
    simp only [plainL] at e
    obtain ⟨ys, e1, e2⟩ := Option.map_eq_some_iff.mp e
    subst e2
    exact .cons h2 (repL_plain h3 e1)
  | .ty _ :: _, _, _, _, e => by cases e
  | .scr _ :: _, _, _, _, e => by cases e
  | .cel _ :: _, _, _, _, e => by cases e
  | .dic _ :: _, _, _, _, e => by cases e
  | .dit _ :: _, _, _, _, e => by cases e
  | .mix _ :: _, _, _, _, e => by cases e
  | .exc _ :: _, _, _, _, e => by cases e
  | .ins _ _ :: _, _, _, _, e => by cases e
  | .wtp _ :: _, _, _, _, e => by cases e
theorem repL_d : ∀ {xs : List PyData} {vs : List V}, DqA K F vs xs → RepL K F ρ (xs.map .d) vs
  | [], _, h => by cases h; rfl
  | x :: xs, _, h => by
    cases h with
    | cons h1 h2 => exact ⟨_, _, rfl, h1, repL_d h2⟩
theorem RepL.app : ∀ {ds : List D} {vs : List V} {es : List D} {ws : List V}, RepL K F ρ ds vs → RepL K F ρ es ws → RepL K F ρ (ds ++ es) (vs ++ ws)
  | [], _, _, _, h, g => by
    have h' : _ = [] := h
    rw [h']; exact g
  | x :: xs, _, _, _, h, g => by
    obtain ⟨v, r, rfl, h2, h3⟩ := h
    exact ⟨v, _, rfl, h2, RepL.app h3 g⟩
theorem RepL.get : ∀ {ds : List D} {vs : List V} {i : Nat} {x : D}, RepL K F ρ ds vs → ds[i]? = some x → ∃ v, vs[i]? = some v ∧ Rep K F ρ x v
  | [], _, _, _, _, e => by simp at e
  | y :: ys, _, 0, x, h, e => by
    obtain ⟨v, r, rfl, h2, h3⟩ := h
    simp only [List.getElem?_cons_zero, Option.some.injEq] at e
    subst e
    exact ⟨v, rfl, h2⟩
  | y :: ys, _, i + 1, x, h, e => by
    obtain ⟨v, r, rfl, h2, h3⟩ := h
    simp only [List.getElem?_cons_succ] at e ⊢
    exact RepL.get h3 e
end

def CellOk (K : PySem.W.Frag) (F : Hp) (ρ : List Addr) (H : Hp) (n : Nat) (a : Addr) : Cell → Prop
  | .lst xs => F a = none ∧ ∃ vs, H a = some (.lst vs) ∧ DqA K F vs xs
  | .ins c fs => F a = none ∧ ∃ m C dx vs, n = m + 1 ∧ ρ[m]? = some dx ∧ F dx = none ∧ dx ≠ a ∧ Wd.mg c = some (.ref C) ∧ Slt H a C dx vs ∧ (H dx = some (.own a) ∨ H dx = some (.xd [])) ∧ InsA K F vs fs
  | .frz xs => ∃ vs, F a = some (.lst vs) ∧ DqA K F vs xs
  | .dead => True
theorem slt_off {H : Hp} {a C dx p : Addr} {vs : List (Option V)} {o : HO} (h : Slt H a C dx vs) (h1 : a ≠ p) (h2 : dx ≠ p) : Slt (upd H p o) a C dx vs := by
  rcases h with ⟨q, e⟩ | ⟨q, e⟩
  · exact .inl ⟨by rw [upd_ne h1]; exact q, e⟩
  · exact .inr ⟨by rw [upd_ne h1]; exact q, by rw [upd_ne h2]; exact e⟩
theorem slt_a {H : Hp} {a C dx : Addr} {vs : List (Option V)} (h : Slt H a C dx vs) : ∃ o, H a = some o ∧ (∀ xs, o ≠ .lst xs) := by
  rcases h with ⟨q, e⟩ | ⟨q, e⟩
  · exact ⟨_, q, fun xs z => by cases z⟩
  · exact ⟨_, q, fun xs z => by cases z⟩
theorem CellOk.off {K : PySem.W.Frag} {F H : Hp} {ρ : List Addr} {n : Nat} {a p : Addr} {c : Cell} {o : HO} (ne : a ≠ p) (nd : ∀ m, n = m + 1 → ρ[m]? ≠ some p) (q : CellOk K F ρ H n a c) : CellOk K F ρ (upd H p o) n a c := by
  cases c with
  | dead => trivial
  | frz xs => exact q
  | lst xs =>
    obtain ⟨f0, vs, h1, h2⟩ := q
    exact ⟨f0, vs, by rw [upd_ne ne]; exact h1, h2⟩
  | ins c fs =>
    obtain ⟨f0, m, C, dx, vs, h1, h2, h3, h4, h5, h6, h7, h8⟩ := q
    have nx : dx ≠ p := fun z => nd m h1 (by rw [← z]; exact h2)
    exact ⟨f0, m, C, dx, vs, h1, h2, h3, h4, h5, slt_off h6 ne nx, by rw [upd_ne nx]; exact h7, h8⟩
theorem CellOk.monoF {K : PySem.W.Frag} {F F' H : Hp} {ρ : List Addr} {n : Nat} {a : Addr} {c : Cell} (sm : Same F F') (f : F a = none → F' a = none) (g : ∀ m dx, n = m + 1 → ρ[m]? = some dx → F dx = none → F' dx = none) (q : CellOk K F ρ H n a c) : CellOk K F' ρ H n a c := by
  cases c with
  | dead => trivial
  | frz xs =>
    obtain ⟨vs, h1, h2⟩ := q
    exact ⟨vs, sm _ _ h1, DqA.mono sm _ _ h2⟩
  | lst xs =>
    obtain ⟨f0, vs, h1, h2⟩ := q
    exact ⟨f f0, vs, h1, DqA.mono sm _ _ h2⟩
  | ins c fs =>
    obtain ⟨f0, m, C, dx, vs, h1, h2, h3, h4, h5, h6, h7, h8⟩ := q
    exact ⟨f f0, m, C, dx, vs, h1, h2, g m dx h1 h2 h3, h4, h5, h6, h7, h8.mono sm⟩
theorem CellOk.rho {K : PySem.W.Frag} {F H : Hp} {ρ ρ' : List Addr} {n : Nat} {a : Addr} {c : Cell} (e : ∀ m dx, n = m + 1 → ρ[m]? = some dx → ρ'[m]? = some dx) (q : CellOk K F ρ H n a c) : CellOk K F ρ' H n a c := by
  cases c with
  | dead => trivial
  | frz xs => exact q
  | lst xs => exact q
  | ins c fs =>
    obtain ⟨f0, m, C, dx, vs, h1, h2, h3, h4, h5, h6, h7, h8⟩ := q
    exact ⟨f0, m, C, dx, vs, h1, e m dx h1 h2, h3, h4, h5, h6, h7, h8⟩
theorem nodup_at {α : Type} : ∀ {l : List α} {i j : Nat} {a : α}, l.Nodup → l[i]? = some a → l[j]? = some a → i = j
  | [], _, _, _, _, h, _ => by simp at h
  | x :: l, 0, 0, _, _, _, _ => rfl
  | x :: l, 0, j + 1, a, nd, h1, h2 => by
    simp only [List.getElem?_cons_zero, Option.some.injEq] at h1
    simp only [List.getElem?_cons_succ] at h2
    subst h1
    exact absurd (List.mem_of_getElem? h2) (List.nodup_cons.mp nd).1
  | x :: l, i + 1, 0, a, nd, h1, h2 => by
    simp only [List.getElem?_cons_zero, Option.some.injEq] at h2
    simp only [List.getElem?_cons_succ] at h1
    subst h2
    exact absurd (List.mem_of_getElem? h1) (List.nodup_cons.mp nd).1
  | x :: l, i + 1, j + 1, a, nd, h1, h2 => by
    simp only [List.getElem?_cons_succ] at h1 h2
    rw [nodup_at (List.nodup_cons.mp nd).2 h1 h2]
/-- the state as it is meant -/
structure Stt (K : PySem.W.Frag) (F : Hp) (ρ : List Addr) (h : Hs) (H : Hp) : Prop where
  same : Same F H
  len : ρ.length = h.length
  nd : ρ.Nodup
  cell : ∀ (n : Nat) (a : Addr) (c : Cell), ρ[n]? = some a → h[n]? = some c → CellOk K F ρ H n a c ∧ ∃ o, H a = some o

theorem Stt.trk {K : PySem.W.Frag} {F : Hp} {ρ : List Addr} {h : Hs} {H : Hp} (s : Stt K F ρ h H) {n : Nat} {a : Addr} (e : ρ[n]? = some a) : ∃ o, H a = some o := by
  have hl : n < h.length := by rw [← s.len]; exact (List.getElem?_eq_some_iff.mp e).1
  exact (s.cell n a _ e (List.getElem?_eq_getElem hl)).2
/-- the names' values -/
structure EnvOk (K : PySem.W.Frag) (F : Hp) (ρ : List Addr) (σ : Env) (τ : St) : Prop where
  len : σ.length = τ.length
  get : ∀ (i : Nat) (x : D), σ[i]? = some (some x) → ∃ v, τ[i]? = some (some v) ∧ Rep K F ρ x v
section
variable {K : PySem.W.Frag} {F F' H : Hp} {ρ ρ' : List Addr} {σ : Env} {τ : St} {h : Hs}
theorem EnvOk.mono (e : Ext F ρ F' ρ') (x : EnvOk K F ρ σ τ) : EnvOk K F' ρ' σ τ := ⟨x.len, fun i d q => by
  obtain ⟨v, h1, h2⟩ := x.get i d q
  exact ⟨v, h1, Rep.mono e _ _ h2⟩⟩
theorem EnvOk.put (x : EnvOk K F ρ σ τ) (i : Nat) {d : D} {v : V} (r : Rep K F ρ d v) : EnvOk K F ρ (σ.set i (some d)) (τ.set i (some v)) := by
  refine ⟨by rw [List.length_set, List.length_set]; exact x.len, fun j d' q => ?_⟩
  by_cases hj : i = j
  · subst hj
    have hi : i < σ.length := by
      have := (List.getElem?_eq_some_iff.mp q).1
      rwa [List.length_set] at this
    rw [List.getElem?_set_self hi] at q
    cases q
    exact ⟨v, List.getElem?_set_self (by rw [← x.len]; exact hi), r⟩
  · rw [List.getElem?_set_ne hj] at q
    obtain ⟨v', h1, h2⟩ := x.get j d' q
    exact ⟨v', by rw [List.getElem?_set_ne hj]; exact h1, h2⟩
theorem EnvOk.wipe (x : EnvOk K F ρ σ τ) : ∀ vs : List Nat, EnvOk K F ρ (wipeE σ vs) (L2.wipe τ vs)
  | [] => x
  | v :: vs => by
    have ih := EnvOk.wipe x vs
    refine ⟨by unfold wipeE L2.wipe; rw [List.length_set, List.length_set]; exact ih.len, fun j d q => ?_⟩
    unfold wipeE at q
    unfold L2.wipe
    by_cases hj : v = j
    · subst hj
      have hi : v < (wipeE σ vs).length := by
        have := (List.getElem?_eq_some_iff.mp q).1
        rwa [List.length_set] at this
      rw [List.getElem?_set_self hi] at q
      cases q
    · rw [List.getElem?_set_ne hj] at q
      obtain ⟨v', h1, h2⟩ := ih.get j d q
      exact ⟨v', by rw [List.getElem?_set_ne hj]; exact h1, h2⟩

/-- the same heap but for what is not tracked by F or the cells -/
theorem Stt.more (s : Stt K F ρ h H) {p : Addr} {o : HO} (hp : H p = none) : Stt K F ρ h (upd H p o) := by
  refine ⟨fun b u q => ?_, s.len, s.nd, fun n a c q1 q2 => ?_⟩
  · have := s.same b u q
    rw [upd_ne (ne_of_none this hp)]
    exact this
  · obtain ⟨q, u, hu⟩ := s.cell n a c q1 q2
    have ne : a ≠ p := ne_of_none hu hp
    exact ⟨q.off ne (fun m _ e => by obtain ⟨o', ho⟩ := s.trk e; rw [hp] at ho; cases ho), u, by rw [upd_ne ne]; exact hu⟩
/-- a new thing that never changes -/
theorem Stt.new (s : Stt K F ρ h H) {p : Addr} {o : HO} (hp : H p = none) : Stt K (upd F p o) ρ h (upd H p o) ∧ Same F (upd F p o) ∧ F p = none := by
  have fp : F p = none := by
    cases q : F p with
    | none => rfl
    | some u =>
      have := s.same p u q
      rw [hp] at this; cases this
  have sm : Same F (upd F p o) := fun b u q => by
    rw [upd_ne (ne_of_none q fp)]
    exact q
  refine ⟨⟨fun b u q => ?_, s.len, s.nd, fun n a c q1 q2 => ?_⟩, sm, fp⟩
  · by_cases hb : b = p
    · subst hb
      rw [upd_same] at q ⊢
      exact q
    · rw [upd_ne hb] at q ⊢
      exact s.same b u q
  · obtain ⟨q, u, hu⟩ := s.cell n a c q1 q2
    have ne : a ≠ p := ne_of_none hu hp
    have nd : ∀ m, n = m + 1 → ρ[m]? ≠ some p := fun m _ e => by obtain ⟨o', ho⟩ := s.trk e; rw [hp] at ho; cases ho
    exact ⟨(q.off ne nd).monoF sm (fun f0 => by rw [upd_ne ne]; exact f0) (fun m dx e1 e2 f0 => by rw [upd_ne (fun z => nd m e1 (by rw [← z]; exact e2))]; exact f0), u, by rw [upd_ne ne]; exact hu⟩
/-- a new cell -/
theorem Stt.cellNew (s : Stt K F ρ h H) {p : Addr} {vs : List V} {xs : List PyData} (hp : H p = none) (q : DqA K F vs xs) : Stt K F (ρ ++ [p]) (h ++ [.lst xs]) (upd H p (.lst vs)) := by
  have fp : F p = none := by
    cases q : F p with
    | none => rfl
    | some u =>
      have := s.same p u q
      rw [hp] at this; cases this
  have t := s.more (o := .lst vs) hp
  have np : p ∉ ρ := fun hm => by
    obtain ⟨n, hn⟩ := List.getElem?_of_mem hm
    have hl : n < h.length := by rw [← s.len]; exact (List.getElem?_eq_some_iff.mp hn).1
    obtain ⟨_, u, hu⟩ := s.cell n p _ hn (List.getElem?_eq_getElem hl)
    rw [hp] at hu; cases hu
  refine ⟨t.same, by simp [s.len], ?_, fun n a c q1 q2 => ?_⟩
  · rw [List.nodup_append]
    refine ⟨s.nd, List.nodup_cons.mpr ⟨by simp, List.nodup_nil⟩, fun x hx y hy => ?_⟩
    rw [List.mem_singleton] at hy
    subst hy
    rintro rfl
    exact np hx
  · by_cases hn : n < ρ.length
    · rw [List.getElem?_append_left hn] at q1
      rw [List.getElem?_append_left (by rw [← s.len]; exact hn)] at q2
      obtain ⟨y1, y2⟩ := t.cell n a c q1 q2
      exact ⟨y1.rho fun m dx e1 e2 => by rw [List.getElem?_append_left (by omega)]; exact e2, y2⟩
    · have e1 : n = ρ.length := by
        have := (List.getElem?_eq_some_iff.mp q1).1
        rw [List.length_append, List.length_singleton] at this
        omega
      subst e1
      rw [List.getElem?_append_right (Nat.le_refl _), Nat.sub_self] at q1
      rw [s.len, List.getElem?_append_right (Nat.le_refl _), Nat.sub_self] at q2
      cases q1; cases q2
      exact ⟨⟨fp, vs, upd_same, q⟩, _, upd_same⟩
/-- a cell's list is changed -/
theorem Stt.cellPut (s : Stt K F ρ h H) {n : Nat} {a : Addr} {xs ys : List PyData} {ws : List V} (e1 : ρ[n]? = some a) (e2 : h[n]? = some (.lst xs)) (q : DqA K F ws ys) : Stt K F ρ (h.set n (.lst ys)) (upd H a (.lst ws)) := by
  obtain ⟨⟨f0, vs, h1, h2⟩, _⟩ := s.cell n a _ e1 e2
  refine ⟨fun b u r => ?_, by rw [List.length_set]; exact s.len, s.nd, fun m b c r1 r2 => ?_⟩
  · have ne : b ≠ a := fun z => by subst z; rw [f0] at r; cases r
    rw [upd_ne ne]
    exact s.same b u r
  · by_cases hm : n = m
    · subst hm
      rw [e1] at r1; cases r1
      have hl : n < h.length := (List.getElem?_eq_some_iff.mp e2).1
      rw [List.getElem?_set_self hl] at r2
      cases r2
      exact ⟨⟨f0, ws, upd_same, q⟩, _, upd_same⟩
    · rw [List.getElem?_set_ne hm] at r2
      obtain ⟨r, u, hu⟩ := s.cell m b c r1 r2
      have ne : b ≠ a := fun z => by
        subst z
        exact hm (nodup_at s.nd e1 r1)
      have nx : CellOk K F ρ (upd H a (.lst ws)) m b c := by
        cases c with
        | dead => trivial
        | frz xs => exact r
        | lst zs =>
          obtain ⟨g0, us, y1, y2⟩ := r
          exact ⟨g0, us, by rw [upd_ne ne]; exact y1, y2⟩
        | ins d fs =>
          obtain ⟨g0, j, C, dx, us, y1, y2, y3, y4, y5, y6, y7, y8⟩ := r
          have nd : dx ≠ a := fun z => by
            subst z
            rcases y7 with w | w <;> rw [w] at h1 <;> cases h1
          exact ⟨g0, j, C, dx, us, y1, y2, y3, y4, y5, slt_off y6 ne nd, by rw [upd_ne nd]; exact y7, y8⟩
      exact ⟨nx, u, by rw [upd_ne ne]; exact hu⟩
/-- a cell that will not change again -/
theorem Stt.freeze (s : Stt K F ρ h H) {n : Nat} {a : Addr} {xs : List PyData} (e1 : ρ[n]? = some a) (e2 : h[n]? = some (.lst xs)) :
    ∃ F', Same F F' ∧ (∀ b, b ≠ a → F b = none → F' b = none) ∧ Stt K F' ρ (h.set n (.frz xs)) H ∧ Dq K F' (.ref a) (.list xs) := by
  obtain ⟨⟨f0, vs, h1, h2⟩, _⟩ := s.cell n a _ e1 e2
  have sm : Same F (upd F a (.lst vs)) := fun b u q => by
    rw [upd_ne (ne_of_none q f0)]
    exact q
  refine ⟨upd F a (.lst vs), sm, fun b ne e => by rw [upd_ne ne]; exact e, ⟨fun b u r => ?_, by rw [List.length_set]; exact s.len, s.nd, fun m b c r1 r2 => ?_⟩, .lst upd_same (DqA.mono sm _ _ h2)⟩
  · by_cases hb : b = a
    · subst hb
      rw [upd_same] at r
      cases r
      exact h1
    · rw [upd_ne hb] at r
      exact s.same b u r
  · by_cases hm : n = m
    · subst hm
      rw [e1] at r1; cases r1
      have hl : n < h.length := (List.getElem?_eq_some_iff.mp e2).1
      rw [List.getElem?_set_self hl] at r2
      cases r2
      exact ⟨⟨vs, upd_same, DqA.mono sm _ _ h2⟩, _, h1⟩
    · rw [List.getElem?_set_ne hm] at r2
      obtain ⟨r, u, hu⟩ := s.cell m b c r1 r2
      have ne : b ≠ a := fun z => by
        subst z
        exact hm (nodup_at s.nd e1 r1)
      have nx : CellOk K (upd F a (.lst vs)) ρ H m b c := by
        cases c with
        | dead => trivial
        | frz xs =>
          obtain ⟨us, y1, y2⟩ := r
          exact ⟨us, sm _ _ y1, DqA.mono sm _ _ y2⟩
        | lst zs =>
          obtain ⟨g0, us, y1, y2⟩ := r
          exact ⟨by rw [upd_ne ne]; exact g0, us, y1, DqA.mono sm _ _ y2⟩
        | ins d fs =>
          obtain ⟨g0, j, C, dx, us, y1, y2, y3, y4, y5, y6, y7, y8⟩ := r
          have nd : dx ≠ a := fun z => by
            subst z
            rcases y7 with w | w <;> rw [w] at h1 <;> cases h1
          exact ⟨by rw [upd_ne ne]; exact g0, j, C, dx, us, y1, y2, by rw [upd_ne nd]; exact y3, y4, y5, y6, y7, y8.mono sm⟩
      exact ⟨nx, u, hu⟩
/-- the younger cells go -/
theorem Stt.cut (s : Stt K F ρ h H) (n : Nat) : Stt K F (ρ.take n) (h.take n) H := by
  refine ⟨s.same, by rw [List.length_take, List.length_take, s.len], s.nd.sublist (List.take_sublist _ _), fun m a c r1 r2 => ?_⟩
  have h1 : ρ[m]? = some a := by
    rw [List.getElem?_take] at r1
    split at r1
    · exact r1
    · cases r1
  have h2 : h[m]? = some c := by
    rw [List.getElem?_take] at r2
    split at r2
    · exact r2
    · cases r2
  have hm : m < n := by
    rw [List.getElem?_take] at r1
    split at r1
    · assumption
    · cases r1
  obtain ⟨y1, y2⟩ := s.cell m a c h1 h2
  exact ⟨y1.rho fun j dx e1 e2 => by rw [List.getElem?_take, if_pos (by omega)]; exact e2, y2⟩
theorem take_pre {ρ0 : List Addr} (p : ρ0 <+: ρ) : ρ.take ρ0.length = ρ0 := by
  obtain ⟨t, rfl⟩ := p
  simp

/-- a cell's list -/
theorem lst_ok (s : Stt K F ρ h H) {n : Nat} {a : Addr} {xs : List PyData} (e : ρ[n]? = some a) (q : lstC h[n]? = some xs) : ∃ vs, H a = some (.lst vs) ∧ DqA K F vs xs := by
  cases hc : h[n]? with
  | none => rw [hc] at q; cases q
  | some c =>
    rw [hc] at q
    obtain ⟨y, _⟩ := s.cell n a c e hc
    cases c with
    | lst ys =>
      cases q
      obtain ⟨_, vs, h1, h2⟩ := y
      exact ⟨vs, h1, h2⟩
    | frz ys =>
      cases q
      obtain ⟨vs, h1, h2⟩ := y
      exact ⟨vs, s.same _ _ h1, h2⟩
    | _ => cases q
/-- what is seen of a sequence -/
theorem vw_ok (s : Stt K F ρ h H) {x : D} {v : V} {t : Bool} {xs : List PyData} (r : Rep K F ρ x v) (e : vw x h = some (t, xs)) :
    ∃ a vs, v = .ref a ∧ DqA K F vs xs ∧ (if t = true then SqT K H a vs else SqL K H a vs) := by
  cases x with
  | d x =>
    cases x with
    | list ys =>
      cases e
      cases r with
      | lst h1 h2 => exact ⟨_, _, rfl, h2, by simpa using (SqL.of (s.same _ _ h1))⟩
    | tuple ys =>
      cases e
      cases r with
      | tup h1 h2 => exact ⟨_, _, rfl, h2, by simpa using sqT_mono s.same h1.sqT⟩
    | _ => cases e
  | scr ns =>
    cases e
    obtain ⟨a, rfl, h1⟩ := r
    exact ⟨a, _, rfl, dq_ints ns, by simpa using sqL_mono s.same h1⟩
  | cel n =>
    obtain ⟨a, h1, rfl⟩ := r
    simp only [vw] at e
    split at e
    · rename_i ys hh
      cases e
      obtain ⟨vs, q1, q2⟩ := lst_ok s h1 hh
      exact ⟨a, vs, rfl, q2, by simpa using SqL.of q1⟩
    · cases e
  | _ => cases e
theorem vwL_ok (s : Stt K F ρ h H) {x : D} {v : V} {xs : List PyData} (r : Rep K F ρ x v) (e : vwL x h = some xs) :
    ∃ a vs, v = .ref a ∧ DqA K F vs xs ∧ H a = some (.lst vs) := by
  cases x with
  | d x =>
    cases x with
    | list ys =>
      cases e
      cases r with
      | lst h1 h2 => exact ⟨_, _, rfl, h2, s.same _ _ h1⟩
    | _ => cases e
  | cel n =>
    obtain ⟨a, h1, rfl⟩ := r
    obtain ⟨vs, q1, q2⟩ := lst_ok s h1 e
    exact ⟨a, vs, rfl, q2, q1⟩
  | _ => cases e
theorem vwF_ok {x : D} {v : V} {t : Bool} {xs : List PyData} (r : Rep K F ρ x v) (e : vwF x = some (t, xs)) :
    ∃ a vs, v = .ref a ∧ DqA K F vs xs ∧ (if t = true then SqT K F a vs else SqL K F a vs) := by
  cases x with
  | d x =>
    cases x with
    | list ys =>
      cases e
      cases r with
      | lst h1 h2 => exact ⟨_, _, rfl, h2, by simpa using (SqL.of h1)⟩
    | tuple ys =>
      cases e
      cases r with
      | tup h1 h2 => exact ⟨_, _, rfl, h2, by simpa using h1.sqT⟩
    | _ => cases e
  | scr ns =>
    cases e
    obtain ⟨a, rfl, h1⟩ := r
    exact ⟨a, _, rfl, dq_ints ns, by simpa using h1⟩
  | _ => cases e
end
end En
/-! En: tuples of which the object is known -/
namespace En
open PySem PySem.Spec PyProof.Rows L2
section
variable {X : Cx}
/-- a new tuple -/
abbrev NewT (H : Hp) (vs : List V) (Q : VK) : Prop := ∀ (p : Addr) (its : List Value), H p = none → Vals vs its → Q (.ref p) (upd H p (.frz (tupO its) (.tup vs)))
theorem op_catX : OpR X (binaryOp .Add) (fun x y H Q => ∃ a b xs ys, x = .ref a ∧ y = .ref b ∧ SqT X.K H a xs ∧ SqT X.K H b ys ∧ xs.length + ys.length ≤ sizeLine ∧
  (xs = [] → Q (.ref b) H) ∧ (xs ≠ [] → ys = [] → Q (.ref a) H) ∧ (xs ≠ [] → ys ≠ [] → NewT H (xs ++ ys) Q)) := by
  intro pins s σ H x y v u Q I rx ry h
  obtain ⟨a, b, xs, ys, rfl, rfl, ha, hb, hz, q0, q1, q2⟩ := h
  cases rx
  cases ry
  obtain ⟨its, r1, p1, _⟩ := I.tuple ha
  obtain ⟨its2, r2, p2, _⟩ := I.tuple hb
  by_cases hx : xs = []
  · subst hx
    cases r1
    exact cat_tup0 p1 p2 ⟨.ref b, H, I, rfl, q0 rfl⟩
  · have n1 : its ≠ [] := fun z => hx (by subst z; cases r1; rfl)
    refine HT.cat_tup p1 p2 n1 (fun z => ⟨.ref a, H, I, rfl, q1 hx (by subst z; cases r2; rfl)⟩) (fun z => ?_) (by rw [← r1.length, ← r2.length]; exact hz)
    have n2 : ys ≠ [] := fun w => z (by subst w; cases r2; rfl)
    have hg : (s.heap.push { cls := .type "tuple", data := .seq (its ++ its2).toArray }).get? s.heap.objs.size = some { cls := .type "tuple", data := .seq (its ++ its2).toArray } := Heap.get?_push_size _ rfl
    refine ⟨.ref s.heap.objs.size, _, I.laid (t' := s.toks) (o := .frz { cls := .type "tuple", data := .seq (its ++ its2).toArray } (.tup (xs ++ ys))) (fun b ob q => Heap.get?_push_of_some _ q) (Nat.le_refl _) ?_, rfl, q2 hx n2 _ _ (I.hok.fresh (Nat.le_refl _)) (r1.append r2)⟩
    exact ⟨hg, by rw [List.length_append]; exact hz, _, r1.append r2, IsTup.new _ _⟩
theorem sl_tupX : SlR X (fun x lo hi H Q => ∃ a xs, x = .ref a ∧ SqT X.K H a xs ∧
  (HT.sIx xs.length 0 lo = 0 ∧ HT.sIx xs.length xs.length hi = xs.length → Q (.ref a) H) ∧ (¬ (HT.sIx xs.length 0 lo = 0 ∧ HT.sIx xs.length xs.length hi = xs.length) → NewT H (cutV xs lo hi) Q)) := by
  intro pins s σ H x v vl vu lo hi sl Q I rx hs pl pu h
  obtain ⟨a, xs, rfl, hx, q1, q2⟩ := h
  cases rx
  obtain ⟨its, r, ht, hz⟩ := I.tuple hx
  have hlen : its.toArray.size = xs.length := by rw [List.size_toArray]; exact r.length.symm
  refine ⟨"tuple", _, PyProof.Rows.slot_tuple_getitem.lookup, ht.typeIs, ?_⟩
  by_cases hw : HT.sIx xs.length 0 lo = 0 ∧ HT.sIx xs.length xs.length hi = xs.length
  · exact getItem_tuple_whole ht hs pl pu (by rw [hlen]; exact hw) ⟨.ref a, H, I, rfl, q1 hw⟩
  · refine HT.getItem_tuple_cut ht hs pl pu (by rw [hlen]; exact hw) ?_ (by rw [hlen]; exact hz)
    rw [hlen]
    refine ⟨.ref s.heap.objs.size, _, I.laid (t' := s.toks) (o := .frz { cls := .type "tuple", data := .seq ((its.drop (HT.sIx xs.length 0 lo)).take (HT.sIx xs.length xs.length hi - HT.sIx xs.length 0 lo)).toArray } (.tup (cutV xs lo hi))) (fun b ob q => Heap.get?_push_of_some _ q) (Nat.le_refl _) ?_, rfl, q2 hw _ _ (I.hok.fresh (Nat.le_refl _)) ((r.drop (HT.sIx xs.length 0 lo)).take (HT.sIx xs.length xs.length hi - HT.sIx xs.length 0 lo))⟩
    exact ⟨Heap.get?_push_size _ rfl, Nat.le_trans (cutV_length xs lo hi) hz, _, (r.drop (HT.sIx xs.length 0 lo)).take (HT.sIx xs.length xs.length hi - HT.sIx xs.length 0 lo), IsTup.new _ _⟩
theorem call_tupleX : CallR X (.type "tuple") (fun xs H Q => ∃ p ys, xs = [.ref p] ∧ ((SqL X.K H p ys ∧ NewT H ys Q) ∨ (SqT X.K H p ys ∧ Q (.ref p) H))) := by
  intro pins s σ H xs us Q I r h
  obtain ⟨p, ys, rfl, h⟩ := h
  obtain ⟨u, rfl, rx⟩ := vals1 r
  cases rx
  rcases h with ⟨hq, q⟩ | ⟨hq, q⟩
  · obtain ⟨its, r', pl, hz⟩ := I.list hq
    have hlen := r'.length
    refine call_tuple_list pl.isList (fun h' kp => ?_) (by simp only [List.size_toArray] <;> omega)
    have I1 : Inv X pins σ H { s with heap := h' } := I.kept (t' := s.toks) kp
    have I2 : Inv X pins σ (upd H h'.objs.size (.frz { cls := .type "tuple", data := .seq its.toArray } (.tup ys))) { s with heap := h'.push { cls := .type "tuple", data := .seq its.toArray } } :=
      I1.laid (t' := s.toks) (fun b o e => Heap.get?_push_of_some _ e) (Nat.le_refl _) (show ObjOk X.prog X.w _ _ _ (.frz _ (.tup ys)) from ⟨Heap.get?_push_size _ rfl, hz, its, r', IsTup.new _ _⟩)
    exact ⟨.ref h'.objs.size, _, I2, rfl, q _ _ (I1.hok.fresh (Nat.le_refl _)) r'⟩
  · obtain ⟨its, r', pl, hz⟩ := I.tuple hq
    exact call_tuple_same pl ⟨.ref p, H, I, rfl, q⟩
def tTupX (t : TA) : TE := fun σ H Q => t σ H fun xs H1 => xs.length ≤ sizeLine ∧ NewT H1 xs Q
theorem pe_tupX {es : List Expr} {t : TA} {pos : Pos} {x1} (h : PA X es t) : PE X (.Tuple es x1 pos) (tTupX t) := by
  refine ⟨fun pins s σ H Q I hq => ?_⟩
  refine wpAny_Tuple_spliced (thn (h.run pos pins s σ H _ I hq) fun us s1 ⟨xs, H1, I1, r, z, q⟩ => ⟨by rw [← r.length]; exact z, ?_⟩)
  have hf : H1 s1.heap.objs.size = none := I1.hok.fresh (Nat.le_refl _)
  refine ⟨.ref s1.heap.objs.size, _, I1.laid (t' := s1.toks) (o := .frz { cls := .type "tuple", data := .seq us.toArray } (.tup xs)) (fun b u e => Heap.get?_push_of_some _ e) (Nat.le_refl _) ?_, rfl, q _ _ hf r⟩
  exact ⟨Heap.get?_push_size _ rfl, z, us, r, ⟨_, Heap.get?_push_size _ rfl, rfl, _, rfl⟩⟩
def tBMX (r : V → List V → Hp → VK → Prop) (to : TE) (t : TA) : TE := fun σ H Q => to σ H fun x H1 => (∃ a vs, x = .ref a ∧ SqX H1 a vs) ∧ t σ H1 fun xs H2 => r x xs H2 Q
theorem pe_bmX {o e : Expr} {es : List Expr} {to : TE} {t : TA} {name : Str} {apos cpos : Pos} {id : String} {r : V → List V → Hp → VK → Prop} (slot : Slot "tuple" name id) (hty : typeOf (.builtin id) = pure (.type "method_descriptor")) (hm : MtR X id r) (ho : PE X o to) (ha : PA X (e :: es) t)
    (hbase : attributeBase o name X.env (eval o X.env) = eval o X.env)
    (hfew : ((backTo cpos (starEach (e :: es) X.env)).all (fun x => !x.1) && (backToKw cpos (keywordEach [] X.env)).all (fun x => x.1.isSome)
      && decide ((e :: es).length + ([] : List Keyword).length + (if ([] : List Keyword).isEmpty then 0 else 1) < 30)) = true)
    (hline : (apos.endLine == cpos.line) = true) (hs : starEach (e :: es) X.env = (false, eval e X.env) :: starEach es X.env) (hplain : (backTo cpos (starEach es X.env)).any (·.1) = false) :
    PE X (.Call (.Attribute o name apos) (e :: es) [] cpos) (tBMX r to t) := by
  refine ⟨fun pins s σ H Q I h => ?_⟩
  refine wpAny_Call_method_late hbase hfew hline rfl (thn (ho.run pins s σ H _ I h) fun v s1 ⟨x, H1, I1, r1, ⟨a, vs, ex, its0, e1, e2⟩, q1⟩ => ?_)
  subst ex
  cases r1
  obtain ⟨hg, hz, its, rr, o', ho', hc', n, hd'⟩ := I1.hok a _ e1
  rw [hg] at ho'
  cases ho'
  refine ⟨"tuple", id, PySem.F.plainAttrs_tuple, slot, hty, ⟨_, hg, rfl⟩, fun b e => by cases e; exact ⟨_, hg, rfl⟩, ?_⟩
  have hA := ha.run cpos pins s1 σ H1 _ I1 q1
  rw [hs] at hA ⊢
  refine Calls.callWith_builtin (by show (false || (backTo cpos (starEach es X.env)).any (·.1)) = false; rw [hplain] <;> rfl) (Calls.evalArgs_plain ?_)
  exact thn hA fun us s2 ⟨ws, H2, I2, r2, q2⟩ => hm pins s2 σ H2 (.ref a) ws _ us Q I2 rfl r2 q2
end
end En
/-! En: the readings, the operations by values -/
namespace En
open PySem L2
variable [Wd]

/-- an exception and what is wanted of it -/
def FinX (K : PySem.W.Frag) (F : Hp) (ρ : List Addr) (H : Hp) (x : Xn) (h' : Hs) (E : XK) : Prop := ∀ (F' : Hp) (ρ' : List Addr) (H' : Hp) (cls : Value) (d : Option Addr), Exh F ρ H F' ρ' H' → Stt K F' ρ' h' H' → RepX K F' x cls d → E cls d H'
/-- a result and what is wanted behind it -/
def Fin (K : PySem.W.Frag) (F : Hp) (ρ : List Addr) (H : Hp) (r : R D) (Q : VK) (E : XK) : Prop := match r with
  | .ok x h' => ∀ (F' : Hp) (ρ' : List Addr) (H' : Hp) (v : V), Exh F ρ H F' ρ' H' → Stt K F' ρ' h' H' → Rep K F' ρ' x v → Q v H'
  | .ex x h' => FinX K F ρ H x h' E
  | .no => False
def FinL (K : PySem.W.Frag) (F : Hp) (ρ : List Addr) (H : Hp) (r : R (List D)) (Q : List V → Hp → Prop) (E : XK) : Prop := match r with
  | .ok x h' => ∀ (F' : Hp) (ρ' : List Addr) (H' : Hp) (v : List V), Exh F ρ H F' ρ' H' → Stt K F' ρ' h' H' → RepL K F' ρ' x v → Q v H'
  | .ex x h' => FinX K F ρ H x h' E
  | .no => False
def FinB (K : PySem.W.Frag) (F : Hp) (ρ : List Addr) (H : Hp) (r : R Bool) (Q : Bool → Hp → Prop) (E : XK) : Prop := match r with
  | .ok x h' => ∀ (F' : Hp) (ρ' : List Addr) (H' : Hp), Exh F ρ H F' ρ' H' → Stt K F' ρ' h' H' → Q x H'
  | .ex x h' => FinX K F ρ H x h' E
  | .no => False
/-- .. of an operation, which raises nothing -/
def FinO (K : PySem.W.Frag) (F : Hp) (ρ : List Addr) (H : Hp) (r : R D) (Q : VK) : Prop := match r with
  | .ok x h' => ∀ (F' : Hp) (ρ' : List Addr) (H' : Hp) (v : V), Exh F ρ H F' ρ' H' → Stt K F' ρ' h' H' → Rep K F' ρ' x v → Q v H'
  | _ => False
/-- what is wanted of an exception, the names being so -/
abbrev wt (W : WX) (τ : St) : XK := fun cls d H => W cls d τ H
abbrev noW : WX := fun _ _ _ _ => False
def rV (K : PySem.W.Frag) (W : WX) (m : Env → Hs → R D) : TE := fun τ H Q => ∃ F ρ σ h, Stt K F ρ h H ∧ EnvOk K F ρ σ τ ∧ Fin K F ρ H (m σ h) Q (wt W τ)
def rL (K : PySem.W.Frag) (W : WX) (m : Env → Hs → R (List D)) : TA := fun τ H Q => ∃ F ρ σ h, Stt K F ρ h H ∧ EnvOk K F ρ σ τ ∧ FinL K F ρ H (m σ h) Q (wt W τ)
def rT (K : PySem.W.Frag) (W : WX) (m : Env → Hs → R Bool) : TT := fun τ H Q => ∃ F ρ σ h, Stt K F ρ h H ∧ EnvOk K F ρ σ τ ∧ FinB K F ρ H (m σ h) Q (wt W τ)
/-- operations by values -/
def rD1 (K : PySem.W.Frag) (g : D → Hs → R D) : V → Hp → VK → Prop := fun x H Q => ∃ F ρ h a, Stt K F ρ h H ∧ Rep K F ρ a x ∧ FinO K F ρ H (g a h) Q
def rD2 (K : PySem.W.Frag) (g : D → D → Hs → R D) : R2 := fun x y H Q => ∃ F ρ h a b, Stt K F ρ h H ∧ Rep K F ρ a x ∧ Rep K F ρ b y ∧ FinO K F ρ H (g a b h) Q
def rDL (K : PySem.W.Frag) (g : List D → Hs → R D) : List V → Hp → VK → Prop := fun vs H Q => ∃ F ρ h ds, Stt K F ρ h H ∧ RepL K F ρ ds vs ∧ FinO K F ρ H (g ds h) Q
def rDM (K : PySem.W.Frag) (g : D → List D → Hs → R D) : V → List V → Hp → VK → Prop := fun x vs H Q => ∃ F ρ h a ds, Stt K F ρ h H ∧ Rep K F ρ a x ∧ RepL K F ρ ds vs ∧ FinO K F ρ H (g a ds h) Q

section
variable {K : PySem.W.Frag} {F F' H H' : Hp} {ρ ρ' : List Addr} {h : Hs} {Q : VK} {E : XK}
theorem FinX.mono {x : Xn} {h' : Hs} (e : Exh F ρ H F' ρ' H') (q : FinX K F ρ H x h' E) : FinX K F' ρ' H' x h' E := fun F2 ρ2 H2 c d e2 st rp => q F2 ρ2 H2 c d (e.trans e2) st rp
theorem Fin.mono {r : R D} (e : Exh F ρ H F' ρ' H') (q : Fin K F ρ H r Q E) : Fin K F' ρ' H' r Q E := by
  cases r with
  | ok x h' => exact fun F2 ρ2 H2 v e2 st rp => q F2 ρ2 H2 v (e.trans e2) st rp
  | ex _ _ => exact FinX.mono e q
  | no => exact q
theorem FinO.mono {r : R D} (e : Exh F ρ H F' ρ' H') (q : FinO K F ρ H r Q) : FinO K F' ρ' H' r Q := by
  cases r with
  | ok x h' => exact fun F2 ρ2 H2 v e2 st rp => q F2 ρ2 H2 v (e.trans e2) st rp
  | ex _ _ => exact q
  | no => exact q
theorem FinL.mono {r : R (List D)} {Q : List V → Hp → Prop} (e : Exh F ρ H F' ρ' H') (q : FinL K F ρ H r Q E) : FinL K F' ρ' H' r Q E := by
  cases r with
  | ok x h' => exact fun F2 ρ2 H2 v e2 st rp => q F2 ρ2 H2 v (e.trans e2) st rp
  | ex _ _ => exact FinX.mono e q
  | no => exact q
theorem FinB.mono {r : R Bool} {Q : Bool → Hp → Prop} (e : Exh F ρ H F' ρ' H') (q : FinB K F ρ H r Q E) : FinB K F' ρ' H' r Q E := by
  cases r with
  | ok x h' => exact fun F2 ρ2 H2 e2 st => q F2 ρ2 H2 (e.trans e2) st
  | ex _ _ => exact FinX.mono e q
  | no => exact q
/-- an operation -/
theorem Fin.op {r : R D} (q : Fin K F ρ H (noX r) Q E) : FinO K F ρ H r Q := by
  cases r with
  | ok x h' => exact q
  | ex _ _ => exact q
  | no => exact q
theorem FinO.up {r : R D} (q : FinO K F ρ H r Q) : Fin K F ρ H r Q E := by
  cases r with
  | ok x h' => exact q
  | ex _ _ => exact q.elim
  | no => exact q
theorem noX_inv {α : Type} {r : R α} {a : α} {h : Hs} (e : noX r = .ok a h) : r = .ok a h := by
  cases r with
  | ok x h' => exact e
  | ex _ _ => cases e
  | no => cases e
theorem noX_ne {α : Type} {r : R α} {x : Xn} {h : Hs} (e : noX r = .ex x h) : False := by
  cases r <;> cases e
theorem fin_val {x : D} {v : V} (st : Stt K F ρ h H) (q : FinO K F ρ H (.ok x h) Q) (r : Rep K F ρ x v) : Q v H := q F ρ H v (Exh.refl F ρ H) st r
theorem fin_val' {x : D} {v : V} (st : Stt K F ρ h H) (q : Fin K F ρ H (.ok x h) Q E) (r : Rep K F ρ x v) : Q v H := q F ρ H v (Exh.refl F ρ H) st r
theorem fin_tup {vs : List V} {xs : List PyData} (st : Stt K F ρ h H) (q : FinO K F ρ H (.ok (.d (.tuple xs)) h) Q) (r : DqA K F vs xs) : NewT H vs Q := fun p its hp hd => by
  obtain ⟨s2, sm, fp⟩ := st.new (o := .frz (tupO its) (.tup vs)) hp
  exact q _ ρ _ _ (exh_new hp sm) s2 (.tup ⟨its, upd_same, hd⟩ (DqA.mono sm _ _ r))
theorem fin_lst {m : Bool} {vs : List V} {xs : List PyData} (st : Stt K F ρ h H) (q : FinO K F ρ H (mkL m xs h) Q) (r : DqA K F vs xs) : vs.length ≤ sizeLine ∧ ∀ p, H p = none → Q (.ref p) (upd H p (.lst vs)) := by
  unfold mkL at q
  split at q
  · rename_i hz
    refine ⟨by rw [r.len]; exact hz, fun p hp => ?_⟩
    cases m with
    | true =>
      have s2 := st.cellNew hp r
      refine q F (ρ ++ [p]) _ _ ⟨⟨Same.refl F, List.prefix_append ρ [p]⟩, fun b u e _ => by rw [upd_ne (ne_of_none e hp)]; exact e, fun b hb => ?_, fun _ _ _ _ e => e⟩ s2 ⟨p, ?_, rfl⟩
      · rcases List.mem_append.mp hb with z | z
        · exact .inl z
        · rw [List.mem_singleton] at z
          rw [z]
          exact .inr hp
      · rw [← st.len, List.getElem?_append_right (Nat.le_refl _), Nat.sub_self]
        rfl
    | false =>
      obtain ⟨s2, sm, fp⟩ := st.new (o := .lst vs) hp
      exact q _ ρ _ _ (exh_new hp sm) s2 (.lst upd_same (DqA.mono sm _ _ r))
  · exact q.elim
end

/-! ### weaker readings -/
section
variable {X : Cx}
theorem PE.imp {e : Expr} {t t' : TE} (h : PE X e t) (i : ∀ τ H Q, t' τ H Q → t τ H Q) : PE X e t' := ⟨fun pins s τ H Q I q => h.run pins s τ H Q I (i τ H Q q)⟩
theorem PT.imp {e : Expr} {t t' : TT} (h : PT X e t) (i : ∀ τ H Q, t' τ H Q → t τ H Q) : PT X e t' := ⟨fun pins s τ H Q I q => h.run pins s τ H Q I (i τ H Q q)⟩
theorem PW.imp {e : Expr} {t t' : TT} (h : PW X e t) (i : ∀ τ H Q, t' τ H Q → t τ H Q) : PW X e t' := ⟨fun wh pins s τ H Q I q => h.run wh pins s τ H Q I (i τ H Q q)⟩
theorem PA.imp {e : List Expr} {t t' : TA} (h : PA X e t) (i : ∀ τ H Q, t' τ H Q → t τ H Q) : PA X e t' := ⟨fun ps pins s τ H Q I q => h.run ps pins s τ H Q I (i τ H Q q)⟩
theorem PS.imp {e : Stmt} {t t' : TS} (h : PS X e t) (i : ∀ D τ H, t' D τ H → t D τ H) : PS X e t' := ⟨fun pins s τ H D I q => h.run pins s τ H D I (i D τ H q)⟩
theorem PSs.imp {e : List Stmt} {t t' : TS} (h : PSs X e t) (i : ∀ D τ H, t' D τ H → t D τ H) : PSs X e t' := ⟨fun pins s τ H D I q => h.run pins s τ H D I (i D τ H q)⟩
theorem PE.or {e : Expr} {t t' : TE} (h : PE X e t) (h' : PE X e t') : PE X e (fun τ H Q => t τ H Q ∨ t' τ H Q) := ⟨fun pins s τ H Q I q => by
  rcases q with q | q
  · exact h.run pins s τ H Q I q
  · exact h'.run pins s τ H Q I q⟩
theorem OpR.imp {f : Value → Value → Sem Value} {r r' : R2} (h : OpR X f r) (i : ∀ x y H Q, r' x y H Q → r x y H Q) : OpR X f r' := fun pins s τ H x y v u Q I rx ry q => h pins s τ H x y v u Q I rx ry (i x y H Q q)

/-! ### two values -/
variable {K : PySem.W.Frag} {W : WX}
theorem seq2 {ma mb : Env → Hs → R D} {g : D → D → Hs → R D} {τ : St} {H : Hp} {Q : VK} (q : rV K W (fun σ h => (ma σ h).bind fun x h1 => (mb σ h1).bind fun y h2 => noX (g x y h2)) τ H Q) :
    tOp (rD2 K g) (rV K W ma) (rV K W mb) τ H Q := by
  obtain ⟨F, ρ, σ, h, st, eo, fin⟩ := q
  dsimp only at fin
  refine ⟨F, ρ, σ, h, st, eo, ?_⟩
  cases ea : ma σ h with
  | ok x h1 =>
    rw [ea] at fin
    intro F1 ρ1 H1 v e1 st1 r1
    refine ⟨F1, ρ1, σ, h1, st1, eo.mono e1.toExt, ?_⟩
    have fin : Fin K F ρ H ((mb σ h1).bind fun y h2 => noX (g x y h2)) Q _ := fin
    cases eb : mb σ h1 with
    | ok y h2 =>
      rw [eb] at fin
      intro F2 ρ2 H2 u e2 st2 r2
      exact ⟨F2, ρ2, h2, x, y, st2, Rep.mono e2.toExt _ _ r1, r2, FinO.mono (e1.trans e2) (Fin.op fin)⟩
    | ex _ _ => rw [eb] at fin; exact FinX.mono e1 fin
    | no => rw [eb] at fin; exact fin
  | ex _ _ => rw [ea] at fin; exact fin
  | no => rw [ea] at fin; exact fin
theorem seq1 {ma : Env → Hs → R D} {g : D → Hs → R D} {τ : St} {H : Hp} {Q : VK} (q : rV K W (fun σ h => (ma σ h).bind fun x h1 => noX (g x h1)) τ H Q) : tUn (rD1 K g) (rV K W ma) τ H Q := by
  obtain ⟨F, ρ, σ, h, st, eo, fin⟩ := q
  dsimp only at fin
  refine ⟨F, ρ, σ, h, st, eo, ?_⟩
  cases ea : ma σ h with
  | ok x h1 =>
    rw [ea] at fin
    intro F1 ρ1 H1 v e1 st1 r1
    exact ⟨F1, ρ1, h1, x, st1, r1, FinO.mono e1 (Fin.op fin)⟩
  | ex _ _ => rw [ea] at fin; exact fin
  | no => rw [ea] at fin; exact fin
theorem seqL {ma : Env → Hs → R (List D)} {g : List D → Hs → R D} {τ : St} {H : Hp} {Q : VK} (q : rV K W (fun σ h => (ma σ h).bind fun x h1 => noX (g x h1)) τ H Q) : rL K W ma τ H fun vs H1 => rDL K g vs H1 Q := by
  obtain ⟨F, ρ, σ, h, st, eo, fin⟩ := q
  dsimp only at fin
  refine ⟨F, ρ, σ, h, st, eo, ?_⟩
  cases ea : ma σ h with
  | ok x h1 =>
    rw [ea] at fin
    intro F1 ρ1 H1 v e1 st1 r1
    exact ⟨F1, ρ1, h1, x, st1, r1, FinO.mono e1 (Fin.op fin)⟩
  | ex _ _ => rw [ea] at fin; exact fin
  | no => rw [ea] at fin; exact fin
theorem seqM {ma : Env → Hs → R D} {mb : Env → Hs → R (List D)} {g : D → List D → Hs → R D} {c : D → Hs → Bool} {τ : St} {H : Hp} {Q : VK} (q : rV K W (fun σ h => (ma σ h).bind fun x h1 => if c x h1 then (mb σ h1).bind (fun ds h2 => noX (g x ds h2)) else .no) τ H Q) :
    rV K W ma τ H fun v H1 => (∃ F ρ h x, Stt K F ρ h H1 ∧ Rep K F ρ x v ∧ c x h = true) ∧ rL K W mb τ H1 fun vs H2 => rDM K g v vs H2 Q := by
  obtain ⟨F, ρ, σ, h, st, eo, fin⟩ := q
  dsimp only at fin
  refine ⟨F, ρ, σ, h, st, eo, ?_⟩
  cases ea : ma σ h with
  | ok x h1 =>
    rw [ea] at fin
    intro F1 ρ1 H1 v e1 st1 r1
    have fin : Fin K F ρ H (if c x h1 then (mb σ h1).bind (fun ds h2 => noX (g x ds h2)) else .no) Q _ := fin
    cases hc : c x h1 with
    | false => rw [hc] at fin; exact fin.elim
    | true =>
    rw [hc] at fin
    have fin : Fin K F ρ H ((mb σ h1).bind (fun ds h2 => noX (g x ds h2))) Q _ := fin
    refine ⟨⟨F1, ρ1, h1, x, st1, r1, hc⟩, F1, ρ1, σ, h1, st1, eo.mono e1.toExt, ?_⟩
    cases eb : mb σ h1 with
    | ok y h2 =>
      rw [eb] at fin
      intro F2 ρ2 H2 u e2 st2 r2
      exact ⟨F2, ρ2, h2, x, y, st2, Rep.mono e2.toExt _ _ r1, r2, FinO.mono (e1.trans e2) (Fin.op fin)⟩
    | ex _ _ => rw [eb] at fin; exact FinX.mono e1 fin
    | no => rw [eb] at fin; exact fin
  | ex _ _ => rw [ea] at fin; exact fin
  | no => rw [ea] at fin; exact fin
end

/-! ### operators -/
section
variable {X : Cx}
theorem ar_ok (o : Operator) : OpR X (binaryOp o) (fun x y H Q => ∃ F ρ h i j, Stt X.K F ρ h H ∧ x = .int i ∧ y = .int j ∧ FinO X.K F ρ H (arI o i j h) Q) := by
  intro pins s τ H x y v u Q I rx ry q
  obtain ⟨F, ρ, h, i, j, st, rfl, rfl, fin⟩ := q
  cases o with
  | Add => exact op_add pins s τ H _ _ v u Q I rx ry ⟨i, j, rfl, rfl, fin_val st fin (.int _)⟩
  | Sub => exact op_sub pins s τ H _ _ v u Q I rx ry ⟨i, j, rfl, rfl, fin_val st fin (.int _)⟩
  | Mult =>
    unfold arI at fin
    dsimp only at fin
    split at fin
    · rename_i hc
      unfold cmul at hc
      have z := of_decide_eq_true hc
      exact op_mul pins s τ H _ _ v u Q I rx ry ⟨i, j, rfl, rfl, z, fin_val st fin (.int _)⟩
    · exact fin.elim
  | FloorDiv =>
    unfold arI at fin
    dsimp only at fin
    split at fin
    · rename_i hc
      have z := of_decide_eq_true hc
      exact op_fdiv pins s τ H _ _ v u Q I rx ry ⟨i, j, rfl, rfl, z, fin_val st fin (.int _)⟩
    · exact fin.elim
  | Mod =>
    unfold arI at fin
    dsimp only at fin
    split at fin
    · rename_i hc
      exact op_mod pins s τ H _ _ v u Q I rx ry ⟨i, j, rfl, rfl, of_decide_eq_true hc, fin_val st fin (.int _)⟩
    · exact fin.elim
  | Pow =>
    unfold arI at fin
    dsimp only at fin
    split at fin
    · rename_i hc
      obtain ⟨c1, c2, c3⟩ := of_decide_eq_true hc
      exact op_pow pins s τ H _ _ v u Q I rx ry ⟨i, j, rfl, rfl, ⟨c1, by omega, c3⟩, fin_val st fin (.int _)⟩
    · exact fin.elim
  | _ => exact fin.elim
theorem mul_ok' {a : Str} {j : Int} (h0 : 0 ≤ j) (h1 : j < 2 ^ 63) (h2 : a.length * j.toNat ≤ 100000) : MulOk a j := by
  refine ⟨by simp; omega, fun hn hx => ?_, fun hn hx => ?_⟩
  · have h3 : (a.length : Int) * j ≤ 100000 := by
      have h4 : ((a.length * j.toNat : Nat) : Int) ≤ 100000 := by omega
      rw [Int.natCast_mul, Int.toNat_of_nonneg h0] at h4
      exact h4
    have h5 : (0 : Int) < j := by omega
    have h6 : (a.length : Int) ≤ (2 ^ 63 - 1) / j := by
      rw [Int.le_ediv_iff_mul_le h5]
      omega
    omega
  · unfold Builtin.Str.tooLong
    have : sizeLine = 16777216 := sizeLine_eq
    simp
    omega
theorem op_mulS : OpR X (binaryOp .Mult) (fun x y H Q => ∃ a j, x = .str a ∧ y = .int j ∧ MulOk a j ∧ Q (.str (Txt.mul a j)) H) := by
  intro pins s τ H x y v u Q I rx ry q
  obtain ⟨a, j, rfl, rfl, ok, q⟩ := q
  obtain ⟨t, rfl⟩ := rx
  obtain ⟨t', rfl⟩ := ry
  exact SB.mul ok fun t2 k => ⟨.str _, H, I.tok k, ⟨t2, rfl⟩, q⟩
theorem cat_ok (m : Bool) : OpR X (binaryOp .Add) (rD2 X.K (catD m)) := by
  refine OpR.imp op_cat fun x y H Q q => ?_
  obtain ⟨F, ρ, h, a, b, st, ra, rb, fin⟩ := q
  unfold catD at fin
  split at fin
  · rename_i xs ys h1 h2
    obtain ⟨l, vs, rfl, q1, e1⟩ := vwL_ok st ra h1
    obtain ⟨l', ws, rfl, q2, e2⟩ := vwL_ok st rb h2
    obtain ⟨z, k⟩ := fin_lst st fin (q1.app q2)
    exact ⟨l, l', vs, ws, rfl, rfl, e1, e2, by rw [← List.length_append]; exact z, k⟩
  · exact fin.elim
theorem rep_ok (m : Bool) : OpR X (binaryOp .Mult) (fun x y H Q => ∃ F ρ h a j, Stt X.K F ρ h H ∧ Rep X.K F ρ a x ∧ y = .int j ∧ FinO X.K F ρ H (mulD m a j h) Q) := by
  refine OpR.imp op_rep fun x y H Q q => ?_
  obtain ⟨F, ρ, h, a, j, st, ra, rfl, fin⟩ := q
  unfold mulD at fin
  split at fin
  · rename_i xs h1
    split at fin
    · rename_i hc
      obtain ⟨c1, c2, c3⟩ := of_decide_eq_true hc
      obtain ⟨l, vs, rfl, q1, e1⟩ := vwL_ok st ra h1
      obtain ⟨z, k⟩ := fin_lst st fin (q1.rep j.toNat)
      exact ⟨l, j, vs, rfl, rfl, e1, c1, c2, by rw [q1.len]; exact c3, k⟩
    · exact fin.elim
  · exact fin.elim
theorem bin_ok (o : Operator) (m : Bool) : OpR X (binaryOp o) (rD2 X.K (binD o m)) := by
  intro pins s τ H x y v u Q I rx ry q
  obtain ⟨F, ρ, h, a, b, st, ra, rb, fin⟩ := q
  have cat : o = .Add → FinO X.K F ρ H (catD m a b h) Q → wpAny (model X.prog X.w) X.A (binaryOp o v u) (EP X pins τ Q) X.xe s := fun e f => by
    subst e
    exact cat_ok m pins s τ H x y v u Q I rx ry ⟨F, ρ, h, a, b, st, ra, rb, f⟩
  have rep : ∀ j, o = .Mult → b = .d (.int j) → FinO X.K F ρ H (mulD m a j h) Q → wpAny (model X.prog X.w) X.A (binaryOp o v u) (EP X pins τ Q) X.xe s := fun j e eb f => by
    subst e eb
    cases rb
    exact rep_ok m pins s τ H x _ v u Q I rx ry ⟨F, ρ, h, a, j, st, ra, rfl, f⟩
  unfold binD at fin
  split at fin
  · cases ra; cases rb
    exact ar_ok o pins s τ H _ _ v u Q I rx ry ⟨F, ρ, h, _, _, st, rfl, rfl, fin⟩
  · rename_i s1 s2
    cases ra; cases rb
    split at fin
    · split at fin
      · rename_i hz
        exact op_add_str pins s τ H _ _ v u Q I rx ry ⟨s1, s2, rfl, rfl, hz, fin_val st fin (.str _)⟩
      · exact fin.elim
    · exact fin.elim
  · rename_i xs ys
    split at fin
    · split at fin
      · rename_i hz
        cases ra with
        | tup a1 a2 =>
          cases rb with
          | tup b1 b2 =>
            have hz' := hz
            rw [← a2.len, ← b2.len] at hz'
            refine op_catX pins s τ H _ _ v u Q I rx ry ⟨_, _, _, _, rfl, rfl, sqT_mono st.same a1.sqT, sqT_mono st.same b1.sqT, hz', fun e => ?_, fun _ e => ?_, fun _ _ => fin_tup st fin (a2.app b2)⟩
            · subst e
              cases a2
              exact fin_val st fin (.tup b1 b2)
            · subst e
              cases b2
              rw [List.append_nil] at fin
              exact fin_val st fin (.tup a1 a2)
      · exact fin.elim
    · exact fin.elim
  · rename_i s1 j
    cases ra; cases rb
    split at fin
    · split at fin
      · rename_i hc
        obtain ⟨c1, c2, c3⟩ := of_decide_eq_true hc
        exact op_mulS pins s τ H _ _ v u Q I rx ry ⟨s1, j, rfl, rfl, mul_ok' c1 c2 c3, fin_val st fin (.str _)⟩
      · exact fin.elim
    · exact fin.elim
  · split at fin
    · exact rep _ rfl rfl fin
    · exact fin.elim
  · split at fin
    · exact cat rfl fin
    · exact fin.elim
theorem neg_ok : UnR X (unaryOp .USub) (rD1 X.K negD) := by
  intro pins s τ H x v Q I rx q
  obtain ⟨F, ρ, h, a, st, ra, fin⟩ := q
  unfold negD at fin
  split at fin
  · cases ra
    exact un_neg pins s τ H _ v Q I rx ⟨_, rfl, fin_val st fin (.int _)⟩
  · exact fin.elim

/-! ### comparisons -/
theorem dq_reads {pins : List (Addr × Obj)} {τ : St} {H F : Hp} {s : Shared} {ρ : List Addr} {h : Hs} (I : Inv X pins τ H s) (st : Stt X.K F ρ h H) {x : PyData} {v : V} {u : Value} (q : Dq X.K F v x) (r : RelV v u) : ∃ as, Reads s.heap u x as :=
  Dp.reads I x v u (Dq.dp st.same x v q) r
theorem shal_of {x y : PyData} (h : shal x y = true) : x.plain = true ∧ y.plain = true ∧ min x.depth y.depth ≤ 64 := by
  unfold shal at h
  simp only [Bool.and_eq_true, decide_eq_true_eq] at h
  exact ⟨h.1.1, h.1.2, h.2⟩
theorem ord_of {x y : PyData} (h : ordOk x y = true) : PySem.W.alike x y = true ∧ x ≠ .none ∧ min x.depth y.depth ≤ 64 := by
  unfold ordOk at h
  simp only [Bool.and_eq_true, decide_eq_true_eq] at h
  refine ⟨h.1.1, fun e => ?_, h.2⟩
  subst e
  simp at h
theorem isn_of {F : Hp} {K : PySem.W.Frag} {x : V} {a : PyData} (q : Dq K F x a) : isNoneP a = decide (x = V.non) := by
  cases q <;> simp [isNoneP]
theorem valV_dic {K : PySem.W.Frag} {F : Hp} (k : Str) : ∀ {kvs : List (Key × V)} {ps : List (PyData × PyData)}, DicA K F kvs ps →
    (∀ x, dicGet ps (.str k) = some x → ∃ v, valV kvs (.inr k) = some v ∧ Dq K F v x) ∧ (dicGet ps (.str k) = none → valV kvs (.inr k) = none)
  | _, _, .nil => ⟨(fun x e => by simp [dicGet] at e), (fun _ => rfl)⟩
  | _, _, .cons (k := j) (v := v) (x := x) h t => by
    obtain ⟨i1, i2⟩ := valV_dic k t
    by_cases e : j = k
    · subst e
      have e1 : keyEq (.str j) (.str j) = true := by simp [keyEq, nk, NestedKey.beq]
      refine ⟨fun y q => ⟨v, valV_pos rfl, ?_⟩, fun q => ?_⟩
      · simp only [dicGet, List.find?_cons, e1, Option.map_some, Option.some.injEq] at q
        subst q
        exact h
      · simp only [dicGet, List.find?_cons, e1, Option.map_some] at q
        cases q
    · have e1 : keyEq (.str j) (.str k) = false := by simp [keyEq, nk, NestedKey.beq, e]
      have e2 : ¬ ((Sum.inr j : Key) = Sum.inr k) := fun z => e (Sum.inr.inj z)
      refine ⟨fun y q => ?_, fun q => ?_⟩
      · simp only [dicGet, List.find?_cons, e1] at q
        obtain ⟨u, u1, u2⟩ := i1 y q
        exact ⟨u, (valV_neg e2).trans u1, u2⟩
      · simp only [dicGet, List.find?_cons, e1] at q
        exact (valV_neg e2).trans (i2 q)
theorem dget_dic {K : PySem.W.Frag} {F H : Hp} {ρ : List Addr} {h : Hs} (st : Stt K F ρ h H) {a : Addr} {ps : List (PyData × PyData)} (d : DicO K F a ps) (k : Str) :
    ∃ o, DGet H a (.str k) o ∧ o.isSome = (dicGet ps (.str k)).isSome ∧ ∀ x, dicGet ps (.str k) = some x → ∃ v, o = some v ∧ Dq K F v x := by
  obtain ⟨kvs, e, d⟩ := d
  obtain ⟨i1, i2⟩ := valV_dic k d
  refine ⟨valV kvs (.inr k), DGet.k (k := .inr k) (st.same _ _ e), ?_, fun x q => i1 x q⟩
  cases q : dicGet ps (.str k) with
  | none => rw [i2 q]; rfl
  | some x =>
    obtain ⟨v, e1, _⟩ := i1 x q
    rw [e1]; rfl
theorem snp_ok {F : Hp} {ρ : List Addr} {h : Hs} {K : PySem.W.Frag} {H : Hp} (st : Stt K F ρ h H) {x : D} {v : V} {a : PyData} (r : Rep K F ρ x v) (e : snp x h = some a) : Dp K H v a := by
  unfold snp at e
  split at e
  · cases e
    exact Dq.dp st.same _ _ r
  · rename_i n
    split at e
    · rename_i xs hh
      cases e
      obtain ⟨a, h1, rfl⟩ := r
      obtain ⟨vs, q1, q2⟩ := lst_ok st h1 hh
      exact .lst (.inl (.inl q1)) (DqA.dp st.same _ _ q2)
    · cases e
  · cases e
theorem snp_reads {pins : List (Addr × Obj)} {τ : St} {H F : Hp} {s : Shared} {ρ : List Addr} {h : Hs} (I : Inv X pins τ H s) (st : Stt X.K F ρ h H) {x : D} {a : PyData} {v : V} {u : Value} (q : Rep X.K F ρ x v) (e : snp x h = some a) (r : RelV v u) : ∃ as, Reads s.heap u a as :=
  Dp.reads I a v u (snp_ok st q e) r
theorem isn_dp {K : PySem.W.Frag} {H : Hp} {x : V} {a : PyData} (q : Dp K H x a) : isNoneP a = decide (x = V.non) := by
  cases q <;> simp [isNoneP]
theorem cmpP_ok (hu : X.A.units + 100 < cLine) {o : CmpOp} {pins : List (Addr × Obj)} {s : Shared} {τ : St} {H : Hp} {x y : V} {v u : Value} {Q : VK} {F : Hp} {ρ : List Addr} {h : Hs} {a b : PyData} (I : Inv X pins τ H s) (rx : RelV x v) (ry : RelV y u) (st : Stt X.K F ρ h H) (ra : Dp X.K H x a) (rb : Dp X.K H y b)
    (fin : FinO X.K F ρ H (cmpP o a b h) Q) : wpAny (model X.prog X.w) X.A (compareOp o v u) (fun z s' => ∃ w H', Inv X pins τ H' s' ∧ RelV w z ∧ Q w H') X.xe s := by
  obtain ⟨as, r1⟩ := Dp.reads I _ _ _ ra rx
  obtain ⟨bs, r2⟩ := Dp.reads I _ _ _ rb ry
  unfold cmpP at fin
  split at fin
  · split at fin
    · rename_i hs
      obtain ⟨p1, p2, p3⟩ := shal_of hs
      exact SeqAt.eq_plain r1 r2 p1 p2 (by omega) ⟨.bl _, H, I, rfl, fin_val st fin (.bl _)⟩
    · exact fin.elim
  · split at fin
    · rename_i hs
      obtain ⟨p1, p2, p3⟩ := shal_of hs
      exact SeqAt.ne_plain r1 r2 p1 p2 (by omega) ⟨.bl _, H, I, rfl, fin_val st fin (.bl _)⟩
    · exact fin.elim
  · split at fin
    · rename_i hs
      obtain ⟨p1, p2, p3⟩ := ord_of hs
      exact PySem.W.lt_data r1 r2 p1 p2 (by omega) ⟨.bl _, H, I, rfl, fin_val st fin (.bl _)⟩
    · exact fin.elim
  · split at fin
    · rename_i hs
      obtain ⟨p1, p2, p3⟩ := ord_of hs
      exact PySem.W.gt_data r1 r2 p1 p2 (by omega) ⟨.bl _, H, I, rfl, fin_val st fin (.bl _)⟩
    · exact fin.elim
  · split at fin
    · rename_i hs
      obtain ⟨p1, p2, p3⟩ := ord_of hs
      exact PySem.W.le_data r1 r2 p1 p2 (by omega) ⟨.bl _, H, I, rfl, fin_val st fin (.bl _)⟩
    · exact fin.elim
  · split at fin
    · rename_i hs
      obtain ⟨p1, p2, p3⟩ := ord_of hs
      exact PySem.W.ge_data r1 r2 p1 p2 (by omega) ⟨.bl _, H, I, rfl, fin_val st fin (.bl _)⟩
    · exact fin.elim
  · cases ra; cases rb
    exact op_in_str pins s τ H _ _ v u Q I rx ry ⟨_, _, rfl, rfl, fin_val st fin (.bl _)⟩
  · cases ra; cases rb
    exact op_notin_str pins s τ H _ _ v u Q I rx ry ⟨_, _, rfl, rfl, fin_val st fin (.bl _)⟩
  · rename_i db
    split at fin
    · rename_i hs
      obtain ⟨p1, p2, p3⟩ := shal_of hs
      have p2' : PyData.plainAll db = true := p2
      have p3' : min a.depth (PyData.depthAll db + 1) ≤ 64 := p3
      exact SeqAt.in_list_data r2 r1 p2' p1 (by omega) ⟨.bl _, H, I, rfl, fin_val st fin (.bl _)⟩
    · exact fin.elim
  · rename_i db
    split at fin
    · rename_i hs
      obtain ⟨p1, p2, p3⟩ := shal_of hs
      have p2' : PyData.plainAll db = true := p2
      have p3' : min a.depth (PyData.depthAll db + 1) ≤ 64 := p3
      exact SeqAt.notIn_list_data r2 r1 p2' p1 (by omega) ⟨.bl _, H, I, rfl, fin_val st fin (.bl _)⟩
    · exact fin.elim
  · rename_i db
    split at fin
    · rename_i hs
      obtain ⟨p1, p2, p3⟩ := shal_of hs
      have p2' : PyData.plainAll db = true := p2
      have p3' : min a.depth (PyData.depthAll db + 1) ≤ 64 := p3
      exact SeqAt.in_tuple_data r2 r1 p2' p1 (by omega) ⟨.bl _, H, I, rfl, fin_val st fin (.bl _)⟩
    · exact fin.elim
  · rename_i db
    split at fin
    · rename_i hs
      obtain ⟨p1, p2, p3⟩ := shal_of hs
      have p2' : PyData.plainAll db = true := p2
      have p3' : min a.depth (PyData.depthAll db + 1) ≤ 64 := p3
      exact SeqAt.notIn_tuple_data r2 r1 p2' p1 (by omega) ⟨.bl _, H, I, rfl, fin_val st fin (.bl _)⟩
    · exact fin.elim
  · cases rb
    exact op_isN pins s τ H _ _ v u Q I rx ry ⟨rfl, by rw [← isn_dp ra]; exact fin_val st fin (.bl _)⟩
  · cases rb
    exact op_notN pins s τ H _ _ v u Q I rx ry ⟨rfl, by rw [← isn_dp ra]; exact fin_val st fin (.bl _)⟩
  · exact fin.elim
theorem cmp_ok (hu : X.A.units + 100 < cLine) (o : CmpOp) : OpR X (compareOp o) (rD2 X.K (cmpD o)) := by
  intro pins s τ H x y v u Q I rx ry q
  obtain ⟨F, ρ, h, a, b, st, ra, rb, fin⟩ := q
  unfold cmpD at fin
  split at fin
  · rename_i da db ea eb
    exact cmpP_ok hu I rx ry st (snp_ok st ra ea) (snp_ok st rb eb) fin
  unfold cmpX at fin
  split at fin
  · rename_i k ps _
    cases ra
    obtain ⟨a, rfl, d⟩ := rb
    obtain ⟨o, g, e, _⟩ := dget_dic st d k
    cases ry
    exact d_in (by omega) I g rx fun s' I' => ⟨.bl _, H, I', rfl, by rw [e]; exact fin_val st fin (.bl _)⟩
  · rename_i k ps _
    cases ra
    obtain ⟨a, rfl, d⟩ := rb
    obtain ⟨o, g, e, _⟩ := dget_dic st d k
    cases ry
    exact d_notIn (by omega) I g rx fun s' I' => ⟨.bl _, H, I', rfl, by rw [e]; exact fin_val st fin (.bl _)⟩
  · cases rb
    obtain ⟨a, C, d, rfl, _⟩ := ra
    exact op_isN pins s τ H _ _ v u Q I rx ry ⟨rfl, by simpa using fin_val st fin (.bl _)⟩
  · cases rb
    obtain ⟨a, C, d, rfl, _⟩ := ra
    exact op_notN pins s τ H _ _ v u Q I rx ry ⟨rfl, by simpa using fin_val st fin (.bl _)⟩
  · exact fin.elim

/-! ### truth -/
theorem tru_rep {K : PySem.W.Frag} {F H : Hp} {ρ : List Addr} {h h' : Hs} {x : D} {v : V} {b : Bool} (st : Stt K F ρ h H) (r : Rep K F ρ x v) (e : truD x h = .ok b h') : h' = h ∧ TruV K v H b := by
  unfold truD at e
  split at e
  · cases r; cases e; exact ⟨rfl, rfl⟩
  · cases r; cases e; exact ⟨rfl, rfl⟩
  · cases r; cases e; exact ⟨rfl, rfl⟩
  · cases r
    split at e
    · rename_i hz
      cases e
      exact ⟨rfl, hz, rfl⟩
    · cases e
  · cases e
    cases r with
    | lst h1 h2 =>
      refine ⟨rfl, .inl ⟨_, .inl (.inl (st.same _ _ h1)), ?_⟩⟩
      cases h2 <;> rfl
  · cases e
    cases r with
    | tup h1 h2 =>
      refine ⟨rfl, .inr (.inl ⟨_, sqT_mono st.same h1.sqT, ?_⟩)⟩
      cases h2 <;> rfl
  · rename_i n
    split at e
    · rename_i xs hh
      cases e
      obtain ⟨a, h1, rfl⟩ := r
      obtain ⟨vs, q1, q2⟩ := lst_ok st h1 hh
      refine ⟨rfl, .inl ⟨vs, .inl (.inl q1), ?_⟩⟩
      cases q2 <;> rfl
    · cases e
  · cases e
end
end En
/-! En: subscripts, slices, calls of built-ins, methods -/
namespace En
open PySem L2
variable [Wd]
section
variable {X : Cx}
theorem cutP_dq {K : PySem.W.Frag} {F : Hp} {vs : List V} {xs : List PyData} (q : DqA K F vs xs) (lo hi : Option Int) : DqA K F (cutV vs lo hi) (cutP xs lo hi) := by
  unfold cutV cutP
  rw [q.len]
  exact (q.drop _).take _
theorem atI_dq {K : PySem.W.Frag} {F : Hp} {vs : List V} {xs : List PyData} (q : DqA K F vs xs) {i : Int} {x : PyData} (e : atI xs i = some x) : ∃ v, atI vs i = some v ∧ Dq K F v x := by
  unfold atI at e ⊢
  rw [q.len]
  cases h : ixN xs.length i with
  | none => rw [h] at e; cases e
  | some j =>
    rw [h] at e
    exact q.get e
theorem atI_rep {K : PySem.W.Frag} {F : Hp} {ρ : List Addr} {vs : List V} {xs : List D} (q : RepL K F ρ xs vs) {i : Int} {x : D} (e : atI xs i = some x) : ∃ v, atI vs i = some v ∧ Rep K F ρ x v := by
  unfold atI at e ⊢
  rw [q.len]
  cases h : ixN xs.length i with
  | none => rw [h] at e; cases e
  | some j =>
    rw [h] at e
    exact q.get e

/-- a[b]: a sequence, or a dict -/
def isDic : D → Bool
  | .dic _ => true
  | .dit _ => true
  | _ => false
theorem ixS_ok : IxR X (fun x y H Q => ∃ F ρ h a b, Stt X.K F ρ h H ∧ isDic a = false ∧ Rep X.K F ρ a x ∧ Rep X.K F ρ b y ∧ FinO X.K F ρ H (ixD a b h) Q) := by
  intro value slice pins s τ H x y v u Q I rx ry q hs
  obtain ⟨F, ρ, h, a, b, st, nd, ra, rb, fin⟩ := q
  unfold ixD at fin
  split at fin
  · cases nd
  · cases nd
  unfold seqIx at fin
  split at fin
  · rename_i z j _ _
    split at fin
    · rename_i hz
      split at fin
      · rename_i c hc
        cases ra; cases rb
        exact ix_str value slice pins s τ H _ _ v u Q I rx ry ⟨z, j, c, rfl, rfl, hz, hc, fin_val st fin (.str _)⟩ hs
      · exact fin.elim
    · exact fin.elim
  · rename_i j hx1
    cases rb
    split at fin
    · rename_i t xs hw
      split at fin
      · rename_i e he
        obtain ⟨p, vs, rfl, q1, q2⟩ := vw_ok st ra hw
        obtain ⟨w', e1, e2⟩ := atI_dq q1 he
        cases t with
        | true => exact ix_tup value slice pins s τ H _ _ v u Q I rx ry ⟨p, vs, j, w', rfl, rfl, by simpa using q2, e1, fin_val st fin e2⟩ hs
        | false => exact ix_list value slice pins s τ H _ _ v u Q I rx ry ⟨p, vs, j, w', rfl, rfl, by simpa using q2, e1, fin_val st fin e2⟩ hs
      · exact fin.elim
    · split at fin
      · rename_i ds hw
        split at fin
        · rename_i e he
          obtain ⟨p, vs, rfl, q1, q2⟩ := ra
          obtain ⟨w', e1, e2⟩ := atI_rep q2 he
          exact ix_tup value slice pins s τ H _ _ v u Q I rx ry ⟨p, vs, j, w', rfl, rfl, sqT_mono st.same q1, e1, fin_val st fin e2⟩ hs
        · exact fin.elim
      · exact fin.elim
  · exact fin.elim

/-! ### slices -/
theorem sl_ok : SlR X (fun x lo hi H Q => ∃ (F : Hp) (ρ : List Addr) (h : Hs) (a : D) (l u : Option D), Stt X.K F ρ h H ∧ Rep X.K F ρ a x ∧ bnd l = some lo ∧ bnd u = some hi ∧ FinO X.K F ρ H (slD a l u h) Q) := by
  intro pins s τ H x v vl vu lo hi sl Q I rx hs pl pu q
  obtain ⟨F, ρ, h, a, l, u, st, ra, b1, b2, fin⟩ := q
  unfold slD at fin
  rw [b1, b2] at fin
  dsimp only at fin
  split at fin
  · split at fin
    · rename_i z hz
      cases ra
      exact sl_str pins s τ H _ v vl vu lo hi sl Q I rx hs pl pu ⟨z, rfl, hz, fin_val st fin (.str _)⟩
    · exact fin.elim
  · split at fin
    · rename_i xs hw
      obtain ⟨p, vs, rfl, q1, q2⟩ := vw_ok st ra hw
      have q2 : SqT X.K H p vs := by simpa using q2
      refine sl_tupX pins s τ H _ v vl vu lo hi sl Q I rx hs pl pu ⟨p, vs, rfl, q2, fun e => ?_, fun _ => fin_tup st fin (cutP_dq q1 lo hi)⟩
      have e2 : cutP xs lo hi = xs := by
        unfold cutP
        rw [← q1.len, e.1, e.2, List.drop_zero, Nat.sub_zero, q1.len, List.take_length]
      rw [e2] at fin
      cases a with
      | d d =>
        cases d with
        | tuple ys =>
          cases hw
          exact fin_val st fin ra
        | _ => cases hw
      | cel n =>
        simp only [vw] at hw
        split at hw <;> cases hw
      | _ => cases hw
    · rename_i xs hw
      obtain ⟨p, vs, rfl, q1, q2⟩ := vw_ok st ra hw
      have q2 : SqL X.K H p vs := by simpa using q2
      have hl : (cutP xs lo hi).length ≤ sizeLine := by
        obtain ⟨its, _, _, hz⟩ := I.list q2
        rw [← (cutP_dq q1 lo hi).len]
        exact Nat.le_trans (cutV_length vs lo hi) hz
      have fin : FinO X.K F ρ H (mkL false (cutP xs lo hi) h) Q := by
        unfold mkL
        rw [if_pos hl]
        exact fin
      exact sl_list pins s τ H _ v vl vu lo hi sl Q I rx hs pl pu ⟨p, vs, rfl, q2, (fin_lst st fin (cutP_dq q1 lo hi)).2⟩
    · exact fin.elim

/-! ### built-ins -/
theorem repL1 {K : PySem.W.Frag} {F : Hp} {ρ : List Addr} {x : D} {vs : List V} (r : RepL K F ρ [x] vs) : ∃ v, vs = [v] ∧ Rep K F ρ x v := by
  obtain ⟨v, t, rfl, r1, r2⟩ := r
  have r2 : t = [] := r2
  exact ⟨v, by rw [r2], r1⟩
theorem call_absD (m : Bool) : CallR X (.builtin "abs") (rDL X.K (biD .abs m)) := by
  intro pins s τ H xs us Q I r q
  obtain ⟨F, ρ, h, ds, st, rd, fin⟩ := q
  unfold biD at fin
  split at fin <;> first | exact fin.elim | skip
  all_goals first | contradiction | skip
  · obtain ⟨v, rfl, r1⟩ := repL1 rd
    cases r1
    exact call_abs pins s τ H _ us Q I r ⟨_, rfl, fin_val st fin (.int _)⟩
theorem call_intD (m : Bool) : CallR X (.type "int") (rDL X.K (biD .int m)) := by
  intro pins s τ H xs us Q I r q
  obtain ⟨F, ρ, h, ds, st, rd, fin⟩ := q
  unfold biD at fin
  split at fin <;> first | exact fin.elim | skip
  all_goals first | contradiction | skip
  · obtain ⟨v, rfl, r1⟩ := repL1 rd
    cases r1
    exact call_int1 pins s τ H _ us Q I r (.inl ⟨_, rfl, fin_val st fin (.int _)⟩)
  · obtain ⟨v, rfl, r1⟩ := repL1 rd
    cases r1
    exact call_int1 pins s τ H _ us Q I r (.inr ⟨_, rfl, fin_val st fin (.int _)⟩)
theorem call_lenDD (m : Bool) : CallR X (.builtin "len") (rDL X.K (biD .len m)) := by
  intro pins s τ H xs us Q I r q
  obtain ⟨F, ρ, h, ds, st, rd, fin⟩ := q
  unfold biD at fin
  split at fin <;> first | exact fin.elim | skip
  all_goals first | contradiction | skip
  · rename_i x _
    obtain ⟨v, rfl, r1⟩ := repL1 rd
    split at fin
    · rename_i n hn
      unfold lenD at hn
      split at hn
      · rename_i z
        split at hn
        · rename_i hz
          cases hn
          cases r1
          exact call_len pins s τ H _ us Q I r ⟨_, _, rfl, ⟨hz, rfl⟩, fin_val st fin (.int _)⟩
        · cases hn
      · rename_i ps
        cases hn
        obtain ⟨a, rfl, kvs, e1, e2⟩ := r1
        have hl : kvs.length = ps.length := by
          clear fin r e1 rd
          induction e2 with
          | nil => rfl
          | cons _ _ ih => simp [ih]
        refine call_lenD pins s τ H _ us Q I r ⟨a, kvs, rfl, st.same _ _ e1, ?_⟩
        rw [hl]
        exact fin_val st fin (.int _)
      · rename_i ds'
        cases hn
        obtain ⟨a, vs, rfl, e1, e2⟩ := r1
        refine call_len pins s τ H _ us Q I r ⟨_, _, rfl, .inr ⟨vs, sqT_mono st.same e1, rfl⟩, ?_⟩
        rw [e2.len]
        exact fin_val st fin (.int _)
      · obtain ⟨⟨t, ys⟩, hw, e⟩ := Option.map_eq_some_iff.mp hn
        obtain ⟨p, vs, rfl, q1, q2⟩ := vw_ok st r1 hw
        subst e
        refine call_len pins s τ H _ us Q I r ⟨_, vs.length, rfl, ?_, ?_⟩
        · cases t with
          | true => exact .inr ⟨vs, by simpa using q2, rfl⟩
          | false => exact .inl ⟨vs, by simpa using q2, rfl⟩
        · rw [q1.len]
          exact fin_val st fin (.int _)
    · exact fin.elim
theorem call_tupleD (m : Bool) : CallR X (.type "tuple") (rDL X.K (biD .tuple m)) := by
  intro pins s τ H xs us Q I r q
  obtain ⟨F, ρ, h, ds, st, rd, fin⟩ := q
  unfold biD at fin
  split at fin <;> first | exact fin.elim | skip
  all_goals first | contradiction | skip
  · rename_i x _
    obtain ⟨v, rfl, r1⟩ := repL1 rd
    split at fin
    · rename_i t ys hw
      obtain ⟨p, vs, rfl, q1, q2⟩ := vw_ok st r1 hw
      cases t with
      | true =>
        refine call_tupleX pins s τ H _ us Q I r ⟨p, vs, rfl, .inr ⟨by simpa using q2, ?_⟩⟩
        cases x with
        | d d =>
          cases d with
          | tuple zs => cases hw; exact fin_val st fin r1
          | _ => cases hw
        | cel n =>
          simp only [vw] at hw
          split at hw <;> cases hw
        | _ => cases hw
      | false => exact call_tupleX pins s τ H _ us Q I r ⟨p, vs, rfl, .inl ⟨by simpa using q2, fin_tup st fin q1⟩⟩
    · exact fin.elim
theorem call_listD (m : Bool) : CallR X (.type "list") (rDL X.K (biD .list m)) := by
  intro pins s τ H xs us Q I r q
  obtain ⟨F, ρ, h, ds, st, rd, fin⟩ := q
  unfold biD at fin
  split at fin <;> first | exact fin.elim | skip
  all_goals first | contradiction | skip
  · rename_i x _
    obtain ⟨v, rfl, r1⟩ := repL1 rd
    split at fin
    · rename_i t ys hw
      obtain ⟨p, vs, rfl, q1, q2⟩ := vw_ok st r1 hw
      refine call_list_of pins s τ H _ us Q I r ⟨p, vs, rfl, ?_, (fin_lst st fin q1).2⟩
      cases t with
      | true => exact .inr (by simpa using q2)
      | false => exact .inl (by simpa using q2)
    · exact fin.elim
theorem call_allD (hc : X.calm = true) (m : Bool) : CallR X (.builtin "all") (rDL X.K (biD .all m)) := by
  intro pins s τ H xs us Q I r q
  obtain ⟨F, ρ, h, ds, st, rd, fin⟩ := q
  unfold biD at fin
  split at fin <;> first | exact fin.elim | skip
  all_goals first | contradiction | skip
  · rename_i x _
    obtain ⟨v, rfl, r1⟩ := repL1 rd
    split at fin
    · rename_i ys hw
      split at fin
      · rename_i bs hb
        obtain ⟨p, vs, rfl, q1, q2⟩ := vw_ok st r1 hw
        have e := dq_bools q1 hb
        subst e
        exact cr_all hc pins s τ H _ us Q I r ⟨p, bs, rfl, by simpa using q2, fin_val st fin (.bl _)⟩
      · exact fin.elim
    · exact fin.elim
theorem call_anyD (hc : X.calm = true) (m : Bool) : CallR X (.builtin "any") (rDL X.K (biD .any m)) := by
  intro pins s τ H xs us Q I r q
  obtain ⟨F, ρ, h, ds, st, rd, fin⟩ := q
  unfold biD at fin
  split at fin <;> first | exact fin.elim | skip
  all_goals first | contradiction | skip
  · rename_i x _
    obtain ⟨v, rfl, r1⟩ := repL1 rd
    split at fin
    · rename_i ys hw
      split at fin
      · rename_i bs hb
        obtain ⟨p, vs, rfl, q1, q2⟩ := vw_ok st r1 hw
        have e := dq_bools q1 hb
        subst e
        exact cr_any hc pins s τ H _ us Q I r ⟨p, bs, rfl, by simpa using q2, fin_val st fin (.bl _)⟩
      · exact fin.elim
    · exact fin.elim

/-! ### isinstance -/
def nmTy : Ty → String
  | .bool => "bool"
  | .int => "int"
  | .str => "str"
  | .list => "list"
  | .tuple => "tuple"
  | .dict => "dict"
theorem kit_ok (a b : Ty) : kitB (nmTy a) (nmTy b) = some (subTy a b) := by
  cases a <;> cases b <;> decide +kernel
theorem kit_none (b : Ty) : kitB "NoneType" (nmTy b) = some false := by
  cases b <;> decide +kernel
theorem sqT_ty {K : PySem.W.Frag} {H : Hp} {a : Addr} {vs : List V} (h : SqT K H a vs) : TyX K H (.ref a) (.type "tuple") := by
  rcases h with (h | ⟨o, h⟩) | ⟨o, its, n, h1, h2, _⟩
  · exact .base (.tup h)
  · exact .fTuple h
  · exact .kTuple h1 h2
theorem sqL_ty {K : PySem.W.Frag} {H : Hp} {a : Addr} {vs : List V} (h : SqL K H a vs) : TyX K H (.ref a) (.type "list") := by
  rcases h with (h | ⟨o, h⟩) | ⟨o, its, n, h1, h2, _⟩
  · exact .base (.lst h)
  · exact .base (.frz h)
  · exact .kList h1 h2
theorem ty_rep {K : PySem.W.Frag} {F H : Hp} {ρ : List Addr} {h : Hs} {x : D} {v : V} {t : Ty} (st : Stt K F ρ h H) (r : Rep K F ρ x v) (e : tyD x = some t) (hl : ∀ n, x = .cel n → ∃ xs, lstC h[n]? = some xs) : TyX K H v (.type (nmTy t)) := by
  cases x with
  | d d =>
    cases d with
    | none => cases e
    | bool b => cases e; cases r; exact .base (.bl b)
    | int b => cases e; cases r; exact .base (.int b)
    | str b => cases e; cases r; exact .base (.str b)
    | list xs =>
      cases e
      cases r with
      | lst h1 h2 => exact .base (.lst (st.same _ _ h1))
    | tuple xs =>
      cases e
      cases r with
      | tup h1 h2 => exact sqT_ty (sqT_mono st.same h1.sqT)
    | dict _ => cases e
  | ty n => cases e
  | scr ns =>
    cases e
    obtain ⟨a, rfl, h1⟩ := r
    exact sqL_ty (sqL_mono st.same h1)
  | cel n =>
    cases e
    obtain ⟨a, h1, rfl⟩ := r
    obtain ⟨xs, hx⟩ := hl n rfl
    obtain ⟨vs, q1, q2⟩ := lst_ok st h1 hx
    exact .base (.lst q1)
  | dic ps =>
    cases e
    obtain ⟨a, rfl, kvs, e1, e2⟩ := r
    exact .base (.dK (st.same _ _ e1))
  | dit _ => cases e
  | mix ds =>
    cases e
    obtain ⟨a, vs, rfl, e1, e2⟩ := r
    exact sqT_ty (sqT_mono st.same e1)
  | exc _ => cases e
  | ins _ _ => cases e
  | wtp _ => cases e
theorem kitAny_ok {K : PySem.W.Frag} (t : Ty) : ∀ ts : List Ty, PySem.W.kitAny K (.type (nmTy t)) (ts.map fun b => .type (nmTy b)) = some (ts.any (subTy t))
  | [] => rfl
  | b :: ts => by
    refine kitAny_cons (kit_ty (kit_ok t b)) (fun e => ?_) (fun e => ?_)
    · rw [kitAny_ok t ts, List.any_cons, e]; rfl
    · rw [List.any_cons, e]; rfl
theorem kitAnyN_ok {K : PySem.W.Frag} : ∀ ts : List Ty, PySem.W.kitAny K (.type "NoneType") (ts.map fun b => .type (nmTy b)) = some false
  | [] => rfl
  | b :: ts => by
    refine kitAny_cons (kit_ty (kit_none b)) (fun e => ?_) (fun e => ?_)
    · exact kitAnyN_ok ts
    · cases e

/-! ### min, max, sorted -/
theorem repL2 {K : PySem.W.Frag} {F : Hp} {ρ : List Addr} {x y : D} {vs : List V} (r : RepL K F ρ [x, y] vs) : ∃ v u, vs = [v, u] ∧ Rep K F ρ x v ∧ Rep K F ρ y u := by
  obtain ⟨v, r1, rfl, h1, u, r2, rfl, h2, h3⟩ := r
  have h3' : r2 = [] := h3
  subst h3'
  exact ⟨v, u, rfl, h1, h2⟩
theorem call_minD (hc : X.calm = true) (m : Bool) : CallR X (.builtin "min") (rDL X.K (biD .min m)) := by
  intro pins s τ H vs us Q I r q
  obtain ⟨F, ρ, h, ds, st, rd, fin⟩ := q
  unfold biD at fin
  split at fin <;> first | exact fin.elim | skip
  all_goals first | contradiction | skip
  obtain ⟨v, u, rfl, r1, r2⟩ := repL2 rd
  cases r1; cases r2
  exact call_min2 hc pins s τ H _ us Q I r ⟨_, _, rfl, fin_val st fin (.int _)⟩
theorem call_maxD (hc : X.calm = true) (m : Bool) : CallR X (.builtin "max") (rDL X.K (biD .max m)) := by
  intro pins s τ H vs us Q I r q
  obtain ⟨F, ρ, h, ds, st, rd, fin⟩ := q
  unfold biD at fin
  split at fin <;> first | exact fin.elim | skip
  all_goals first | contradiction | skip
  obtain ⟨v, u, rfl, r1, r2⟩ := repL2 rd
  cases r1; cases r2
  exact call_max2 hc pins s τ H _ us Q I r ⟨_, _, rfl, fin_val st fin (.int _)⟩
section
open PySem.W PyProof.Rows
abbrev leD : PyData → PyData → Bool := dataLe false (fun b => b)
theorem leD_eq (a b : PyData) : leD a b = !dataLt b a := by
  show dataLe false (fun b => b) a b = _
  rw [dataLe_eq]
  rfl
theorem leD_total : TotalLe leD := sortLe_total _ _ _
theorem insP_mem (x : PyData) : ∀ (l : List PyData) (z : PyData), z ∈ insP x l → z = x ∨ z ∈ l
  | [], z, h => by simp only [insP, List.mem_singleton] at h; exact .inl h
  | y :: r, z, h => by
    unfold insP at h
    split at h
    · rcases List.mem_cons.mp h with h | h
      · exact .inr (by rw [h]; exact List.mem_cons_self)
      · rcases insP_mem x r z h with h | h
        · exact .inl h
        · exact .inr (List.mem_cons_of_mem _ h)
    · rcases List.mem_cons.mp h with h | h
      · exact .inl h
      · exact .inr h
theorem insP_pw (x : PyData) : ∀ l : List PyData, l.Pairwise (fun a b => leD a b = true) → (insP x l).Pairwise (fun a b => leD a b = true)
  | [], _ => List.pairwise_cons.mpr ⟨by simp, List.Pairwise.nil⟩
  | y :: r, h => by
    obtain ⟨h1, h2⟩ := List.pairwise_cons.mp h
    unfold insP
    split
    · rename_i hl
      refine List.pairwise_cons.mpr ⟨fun z hz => ?_, insP_pw x r h2⟩
      rcases insP_mem x r z hz with e | e
      · subst e
        rcases leD_total.total y z with q | q
        · exact q
        · rw [leD_eq, hl] at q; cases q
      · exact h1 z e
    · rename_i hl
      have hxy : leD x y = true := by rw [leD_eq]; simpa using hl
      refine List.pairwise_cons.mpr ⟨fun z hz => ?_, h⟩
      rcases List.mem_cons.mp hz with e | e
      · rw [e]; exact hxy
      · exact leD_total.trans x y z hxy (h1 z e)
theorem insP_filter (x c : PyData) : ∀ l : List PyData, (insP x l).filter (sameRank leD c) = (x :: l).filter (sameRank leD c)
  | [] => rfl
  | y :: r => by
    unfold insP
    split
    · rename_i hl
      rw [List.filter_cons, insP_filter x c r]
      cases hy : sameRank leD c y with
      | false => simp [List.filter_cons, hy]
      | true =>
        have hx : sameRank leD c x = false := by
          cases q : sameRank leD c x with
          | false => rfl
          | true =>
            unfold sameRank at hy q
            simp only [Bool.and_eq_true] at hy q
            have := leD_total.trans x c y q.2 hy.1
            rw [leD_eq, hl] at this
            cases this
        simp [List.filter_cons, hy, hx]
    · rfl
theorem sortP_pw : ∀ l : List PyData, (sortP l).Pairwise (fun a b => leD a b = true)
  | [] => List.Pairwise.nil
  | x :: r => insP_pw x _ (sortP_pw r)
theorem sortP_filter (c : PyData) : ∀ l : List PyData, (sortP l).filter (sameRank leD c) = l.filter (sameRank leD c)
  | [] => rfl
  | x :: r => by
    show (insP x (sortP r)).filter _ = _
    rw [insP_filter, List.filter_cons, List.filter_cons, sortP_filter c r]
theorem sortP_eq (l : List PyData) : sortP l = l.mergeSort leD := sort_unique leD_total (sortP_pw l) fun c => sortP_filter c l
theorem sortP_len (l : List PyData) : (sortP l).length = l.length := by rw [sortP_eq, List.length_mergeSort]
/-- what an item stands for -/
def ItD (K : PySem.W.Frag) (F : Hp) : Value → PyData → Prop := fun u b => ∃ w, RelV w u ∧ Dq K F w b
theorem each_of {K : PySem.W.Frag} {F : Hp} : ∀ {xs : List PyData} {vs : List V} {us : List Value}, DqA K F vs xs → Vals vs us → EachIs (ItD K F) us xs
  | [], _, _, h, r => by cases h; cases r; exact .nil
  | x :: xs, _, _, h, r => by
    cases h with
    | cons h1 h2 =>
      cases r with
      | cons r1 r2 => exact .cons ⟨_, r1, h1⟩ (each_of h2 r2)
theorem of_each {K : PySem.W.Frag} {F : Hp} : ∀ {xs : List PyData} {us : List Value}, EachIs (ItD K F) us xs → ∃ vs, Vals vs us ∧ DqA K F vs xs
  | _, _, .nil => ⟨[], .nil, .nil⟩
  | _, _, .cons ⟨w, h1, h2⟩ t => by
    obtain ⟨vs, a, b⟩ := of_each t
    exact ⟨w :: vs, .cons h1 a, .cons h2 b⟩
theorem each_enc {R : Value → PyData → Prop} : ∀ {us : List Value} {xs : List PyData}, EachIs R us xs → EachIs R us xs := fun h => h
end
theorem call_sortD (hu : X.A.units + 100 < cLine) (m : Bool) : CallR X (.builtin "sorted") (rDL X.K (biD .sorted m)) := by
  intro pins s τ H vs us Q I r q
  obtain ⟨F, ρ, h, ds, st, rd, fin⟩ := q
  unfold biD at fin
  split at fin <;> first | exact fin.elim | skip
  all_goals first | contradiction | skip
  rename_i x _
  obtain ⟨v, rfl, r1⟩ := repL1 rd
  split at fin
  · rename_i xs hx
    split at fin
    · rename_i hs
      obtain ⟨a, ws, rfl, dq, hH⟩ := vwL_ok st r1 hx
      obtain ⟨its, rv, hl, _⟩ := I.list (SqL.of (K := X.K) hH)
      rw [Vals.ref1 r]
      unfold sortOk at hs
      simp only [Bool.and_eq_true, Bool.or_eq_true, List.all_eq_true, decide_eq_true_eq] at hs
      obtain ⟨⟨s1, s2⟩, s3⟩ := hs
      have hsz : xs.length ≤ sizeLine := by
        unfold mkL at fin
        split at fin
        · rename_i hz; rw [sortP_len] at hz; exact hz
        · exact fin.elim
      have em : (fun b : PyData => b) = id := rfl
      have er : PySem.W.EachIs (fun v b => ∃ as, Reads s.heap v ((fun b : PyData => b) b) as) its xs := (each_of dq rv).mono fun u b ⟨w, e1, e2⟩ => Dp.reads I b w u (Dq.dp st.same b w e2) e1
      refine PySem.W.sorted_data (enc := fun b => b) hl.isList (each_of dq rv) er ?_ ?_ hsz (fun b hb => ?_) fun out ho eo => ?_
      · rw [List.map_id']
        exact fun d hd d' hd' => s2 d hd d' hd'
      · rw [List.map_id']
        rcases s3 with s3 | s3
        · refine .inl fun d hd => ?_
          have := s3 d hd
          unfold tupCons at this
          split at this
          · exact ⟨_, _, rfl⟩
          · cases this
        · refine .inr fun d hd => ?_
          have := s3 d hd
          unfold notTupN at this
          refine ⟨fun e => ?_, fun ys e => ?_⟩ <;> (subst e; simp at this)
      · have := (s1 b hb).2
        omega
      · rw [← sortP_eq] at eo
        obtain ⟨zs, z1, z2⟩ := of_each eo
        obtain ⟨hq1, hq2⟩ := fin_lst st fin z2
        obtain ⟨ep, he'⟩ := PyProof.Rows.sortedAll_at s.heap its out.toArray
        have hp : H (s.heap.objs.size + 1) = none := I.hok.fresh (Nat.le_succ _)
        exact ⟨.ref _, upd H (s.heap.objs.size + 1) (.lst zs), I.laid (t' := s.toks) (fun _ _ => PyProof.Rows.sortedAll_old) (Nat.le_succ _) ⟨hq1, out, ep, z1, he'⟩, rfl, hq2 _ hp⟩
    · exact fin.elim
  · exact fin.elim

/-! ### methods -/
theorem mt_appendD : MtR X "list.append" (rDM X.K (mthD .append)) := by
  intro pins s τ H x xs v us Q I rx rs q
  obtain ⟨F, ρ, h, a, ds, st, ra, rd, fin⟩ := q
  unfold mthD at fin
  split at fin <;> first | exact fin.elim | skip
  all_goals first | contradiction | skip
  · rename_i n y _
    obtain ⟨w', rfl, r1⟩ := repL1 rd
    split at fin
    · rename_i zs hn
      split at fin
      · rename_i hz
        obtain ⟨l, e1, rfl⟩ := ra
        obtain ⟨⟨_, vs, q1, q2⟩, _⟩ := st.cell n l _ e1 hn
        refine mt_append pins s τ H _ _ v us Q I rx rs ⟨l, vs, w', rfl, rfl, q1, by rw [q2.len]; exact hz, ?_⟩
        exact fin F ρ _ _ (exh_put e1) (st.cellPut e1 hn (q2.app (.cons r1 .nil))) .non
      · exact fin.elim
    · exact fin.elim
theorem mt_extendD : MtR X "list.extend" (rDM X.K (mthD .extend)) := by
  intro pins s τ H x xs v us Q I rx rs q
  obtain ⟨F, ρ, h, a, ds, st, ra, rd, fin⟩ := q
  unfold mthD at fin
  split at fin <;> first | exact fin.elim | skip
  all_goals first | contradiction | skip
  · rename_i n ys _
    obtain ⟨w', rfl, r1⟩ := repL1 rd
    split at fin
    · rename_i zs hn
      split at fin
      · rename_i hz
        obtain ⟨l, e1, rfl⟩ := ra
        obtain ⟨⟨_, vs, q1, q2⟩, _⟩ := st.cell n l _ e1 hn
        cases r1 with
        | lst h1 h2 =>
          refine mt_extend pins s τ H _ _ v us Q I rx rs ⟨l, _, vs, _, rfl, rfl, q1, st.same _ _ h1, by rw [q2.len, h2.len]; exact hz, ?_⟩
          exact fin F ρ _ _ (exh_put e1) (st.cellPut e1 hn (q2.app h2)) .non
      · exact fin.elim
    · exact fin.elim
theorem mt_joinD : MtR X "str.join" (rDM X.K (mthD .join)) := by
  intro pins s τ H x xs v us Q I rx rs q
  obtain ⟨F, ρ, h, a, ds, st, ra, rd, fin⟩ := q
  unfold mthD at fin
  split at fin <;> first | exact fin.elim | skip
  all_goals first | contradiction | skip
  · rename_i z y _
    obtain ⟨w', rfl, r1⟩ := repL1 rd
    split at fin
    · rename_i t zs hw
      split at fin
      · rename_i ys hy
        split at fin
        · rename_i hz
          obtain ⟨p, vs, rfl, q1, q2⟩ := vw_ok st r1 hw
          have e := dq_strs q1 hy
          subst e
          cases ra
          refine mt_join pins s τ H _ _ v us Q I rx rs ⟨z, p, ys, rfl, rfl, ?_, hz, fin_val st fin (.str _)⟩
          cases t with
          | true => exact .inr (by simpa using q2)
          | false => exact .inl (by simpa using q2)
        · exact fin.elim
      · exact fin.elim
    · exact fin.elim
theorem mt_startsD : MtR X "str.startswith" (rDM X.K (mthD .startswith)) := by
  intro pins s τ H x xs v us Q I rx rs q
  obtain ⟨F, ρ, h, a, ds, st, ra, rd, fin⟩ := q
  unfold mthD at fin
  split at fin <;> first | exact fin.elim | skip
  all_goals first | contradiction | skip
  · obtain ⟨w', rfl, r1⟩ := repL1 rd
    cases ra; cases r1
    exact mt_startswith pins s τ H _ _ v us Q I rx rs ⟨_, _, rfl, rfl, fin_val st fin (.bl _)⟩
theorem mt_popD : MtR X "list.pop" (rDM X.K (mthD .pop)) := by
  intro pins s τ H x xs v us Q I rx rs q
  obtain ⟨F, ρ, h, a, ds, st, ra, rd, fin⟩ := q
  unfold mthD at fin
  split at fin <;> first | exact fin.elim | skip
  all_goals first | contradiction | skip
  · rename_i n i _
    obtain ⟨w', rfl, r1⟩ := repL1 rd
    split at fin
    · rename_i zs hn
      split at fin
      · rename_i hz
        split at fin
        · rename_i k hk
          split at fin
          · rename_i y hy
            obtain ⟨l, e1, rfl⟩ := ra
            obtain ⟨⟨_, vs, q1, q2⟩, _⟩ := st.cell n l _ e1 hn
            obtain ⟨u, g1, g2⟩ := q2.get hy
            cases r1
            obtain ⟨k1, k2, k3, k4⟩ := ixN_seq hk
            have hzz : zs.length ≤ 16777216 := by rw [← sizeLine_eq]; exact hz
            refine mt_popAt pins s τ H _ _ v us Q I rx rs ⟨l, vs, i, k, u, rfl, rfl, q1, by omega, by omega, by rw [q2.len]; exact k1, g1, ?_⟩
            exact fin F ρ _ _ (exh_put e1) (st.cellPut e1 hn (q2.erase k)) g2
          · exact fin.elim
        · exact fin.elim
      · exact fin.elim
    · exact fin.elim
theorem idxS_ok {y : Str} : ∀ {ys : List Str} {k : Nat}, idxS y ys = some k → ys[k]? = some y ∧ ∀ m, m < k → ys[m]? ≠ some y
  | [], _, h => by cases h
  | x :: r, k, h => by
    unfold idxS at h
    split at h
    · rename_i e
      cases h
      exact ⟨by rw [e]; rfl, fun m hm => absurd hm (Nat.not_lt_zero m)⟩
    · rename_i ne
      obtain ⟨j, e1, e2⟩ := Option.map_eq_some_iff.mp h
      subst e2
      obtain ⟨i1, i2⟩ := idxS_ok e1
      refine ⟨by simpa using i1, fun m hm => ?_⟩
      cases m with
      | zero => simpa using ne
      | succ m => simpa using i2 m (by omega)
theorem mt_indexD : MtR X "tuple.index" (rDM X.K (mthD .index)) := by
  intro pins s τ H x xs v us Q I rx rs q
  obtain ⟨F, ρ, h, a, ds, st, ra, rd, fin⟩ := q
  unfold mthD at fin
  split at fin <;> first | exact fin.elim | skip
  all_goals first | contradiction | skip
  · rename_i zs y _
    obtain ⟨w', rfl, r1⟩ := repL1 rd
    split at fin
    · rename_i ys hy
      split at fin
      · rename_i k hk
        cases r1
        cases ra with
        | tup h1 h2 =>
          have e := dq_strs h2 hy
          subst e
          obtain ⟨i1, i2⟩ := idxS_ok hk
          exact mt_tup_index pins s τ H _ _ v us Q I rx rs ⟨_, ys, y, k, rfl, rfl, sqT_mono st.same h1.sqT, i1, i2, fin_val st fin (.int _)⟩
      · exact fin.elim
    · exact fin.elim
end
end En
/-! En: what is walked, comprehensions, loops -/
namespace En
open PySem L2
variable [Wd]

/-- an iterator gives the things ds, as long as what never changes stands -/
structure WalkD (K : PySem.W.Frag) (F : Hp) (ρ : List Addr) (J : It) (ds : List D) : Prop where
  goes : ∀ (i : Nat) (H : Hp), i < ds.length → Same F H → J.go i H
  stops : ∀ H : Hp, Same F H → J.stop ds.length H
  yields : ∀ (i : Nat) (H : Hp) (x : V) (H' : Hp) (d : D), ds[i]? = some d → Same F H → J.yld i H x H' →
    (H' = H ∧ Rep K F ρ d x) ∨ ∃ T vs xs, H T = none ∧ H' = upd H T (.tup vs) ∧ x = .ref T ∧ d = .wtp xs ∧ DqA K F vs xs
theorem WalkD.next {K : PySem.W.Frag} {F F1 H H' : Hp} {ρ ρ1 : List Addr} {J : It} {ds : List D} {h : Hs} {i : Nat} {x : V} {d : D} (w : WalkD K F ρ J ds) (e : Ext F ρ F1 ρ1) (st : Stt K F1 ρ1 h H) (hi : ds[i]? = some d) (y : J.yld i H x H') :
    ∃ F2, Exh F1 ρ1 H F2 ρ1 H' ∧ Stt K F2 ρ1 h H' ∧ Rep K F2 ρ1 d x := by
  rcases w.yields i H x H' d hi (e.f.trans st.same) y with ⟨rfl, r⟩ | ⟨T, vs, xs, hT, rfl, rfl, rfl, q⟩
  · exact ⟨F1, Exh.refl F1 ρ1 _, st, Rep.mono e _ _ r⟩
  · obtain ⟨s2, sm, fp⟩ := st.new (o := .tup vs) hT
    exact ⟨_, exh_new hT sm, s2, ⟨T, vs, rfl, .inl (.inl upd_same), DqA.mono sm _ _ (DqA.mono e.f _ _ q)⟩⟩
def FinI (K : PySem.W.Frag) (F : Hp) (ρ : List Addr) (H : Hp) (r : R (List D)) (Q : It → Hp → Prop) (E : XK) : Prop := match r with
  | .ok ds h' => ∀ (F' : Hp) (ρ' : List Addr) (H' : Hp) (J : It), Exh F ρ H F' ρ' H' → Stt K F' ρ' h' H' → WalkD K F' ρ' J ds → Q J H'
  | .ex x h' => FinX K F ρ H x h' E
  | .no => False
def rI (K : PySem.W.Frag) (W : WX) (m : Env → Hs → R (List D)) : TI := fun τ H Q => ∃ F ρ σ h, Stt K F ρ h H ∧ EnvOk K F ρ σ τ ∧ FinI K F ρ H (m σ h) Q (wt W τ)

section
variable {K : PySem.W.Frag} {F : Hp} {ρ : List Addr} {a b : Addr} {vs ws : List V} {xs ys : List PyData}
theorem map_get {f : PyData → D} {xs : List PyData} {i : Nat} {d : D} (e : (xs.map f)[i]? = some d) : ∃ x, xs[i]? = some x ∧ f x = d := by
  rw [List.getElem?_map] at e
  obtain ⟨x, h1, h2⟩ := Option.map_eq_some_iff.mp e
  exact ⟨x, h1, h2⟩
theorem wd_list (h : SqL K F a vs) (q : DqA K F vs xs) : WalkD K F ρ (Itl K a) (xs.map .d) := by
  have w := walk_list (K := K) (a := a) (xs := vs)
  have el : (xs.map D.d).length = vs.length := by rw [List.length_map, q.len]
  refine ⟨fun i H hi s => w.goes i H (by rw [← el]; exact hi) (sqL_mono s h), fun H s => by rw [el]; exact w.stops H (sqL_mono s h), fun i H x H' d hd s y => ?_⟩
  obtain ⟨e1, e2⟩ := w.yields i H x H' (by rw [← el]; exact (List.getElem?_eq_some_iff.mp hd).1) (sqL_mono s h) y
  obtain ⟨z, h1, rfl⟩ := map_get hd
  obtain ⟨v, h2, h3⟩ := q.get h1
  rw [h2] at e2
  cases e2
  exact .inl ⟨e1, h3⟩
theorem wd_tup (h : SqT K F a vs) (q : DqA K F vs xs) : WalkD K F ρ (Itt K a) (xs.map .d) := by
  have w := walk_tup (K := K) (a := a) (xs := vs)
  have el : (xs.map D.d).length = vs.length := by rw [List.length_map, q.len]
  refine ⟨fun i H hi s => w.goes i H (by rw [← el]; exact hi) (sqT_mono s h), fun H s => by rw [el]; exact w.stops H (sqT_mono s h), fun i H x H' d hd s y => ?_⟩
  obtain ⟨e1, e2⟩ := w.yields i H x H' (by rw [← el]; exact (List.getElem?_eq_some_iff.mp hd).1) (sqT_mono s h) y
  obtain ⟨z, h1, rfl⟩ := map_get hd
  obtain ⟨v, h2, h3⟩ := q.get h1
  rw [h2] at e2
  cases e2
  exact .inl ⟨e1, h3⟩
theorem wd_str (z : Str) : WalkD K F ρ (Its z) (z.cps.toList.map fun c => .d (.str ⟨#[c]⟩)) := by
  have w := walk_str (z := z)
  have el : (z.cps.toList.map fun c => D.d (.str ⟨#[c]⟩)).length = z.cps.size := by rw [List.length_map, Array.length_toList]
  refine ⟨fun i H hi s => w.goes i H (by rw [← el]; exact hi) trivial, fun H s => by rw [el]; exact w.stops H trivial, fun i H x H' d hd s y => ?_⟩
  obtain ⟨e1, c, e2, rfl⟩ := w.yields i H x H' (by rw [← el]; exact (List.getElem?_eq_some_iff.mp hd).1) trivial y
  rw [List.getElem?_map, Array.getElem?_toList, e2] at hd
  cases hd
  exact .inl ⟨e1, .str _⟩
theorem rngP_get : ∀ (n : Nat) (lo : Int) (i : Nat) (d : D), (rngP lo n)[i]? = some d → d = .d (.int (lo + i))
  | 0, _, _, _, e => by simp [rngP] at e
  | n + 1, lo, 0, d, e => by
    simp only [rngP, List.getElem?_cons_zero, Option.some.injEq] at e
    subst e
    simp
  | n + 1, lo, i + 1, d, e => by
    simp only [rngP, List.getElem?_cons_succ] at e
    rw [rngP_get n (lo + 1) i d e]
    congr 2
    omega
theorem rngP_len : ∀ (n : Nat) (lo : Int), (rngP lo n).length = n
  | 0, _ => rfl
  | n + 1, lo => by simp [rngP, rngP_len n]
theorem wd_rng (n : Nat) : WalkD K F ρ (Itr 0 n) (rngP 0 n) := by
  have w := walk_range (lo := 0) (n := n)
  refine ⟨fun i H hi s => w.goes i H (by rw [rngP_len] at hi; exact hi) trivial, fun H s => by rw [rngP_len]; exact w.stops H trivial, fun i H x H' d hd s y => ?_⟩
  obtain ⟨e1, rfl⟩ := w.yields i H x H' (by have := (List.getElem?_eq_some_iff.mp hd).1; rwa [rngP_len] at this) trivial y
  rw [rngP_get n 0 i d hd]
  exact .inl ⟨e1, .int _⟩
theorem zip_get {xs ys : List PyData} {i : Nat} {d : D} (e : ((xs.zip ys).map fun p => D.wtp [p.1, p.2])[i]? = some d) : ∃ x y, xs[i]? = some x ∧ ys[i]? = some y ∧ d = .wtp [x, y] := by
  rw [List.getElem?_map] at e
  obtain ⟨⟨x, y⟩, h1, h2⟩ := Option.map_eq_some_iff.mp e
  obtain ⟨e1, e2⟩ := List.getElem?_zip_eq_some.mp h1
  exact ⟨x, y, e1, e2, h2.symm⟩
theorem wd_zip (h : SqL K F a vs) (g : SqL K F b ws) (q : DqA K F vs xs) (r : DqA K F ws ys) : WalkD K F ρ (Itz K a b) ((xs.zip ys).map fun p => .wtp [p.1, p.2]) := by
  have el : ((xs.zip ys).map fun p => D.wtp [p.1, p.2]).length = min vs.length ws.length := by rw [List.length_map, List.length_zip, q.len, r.len]
  have w := walk_zip (K := K) (a := a) (b := b) (xs := vs) (ys := ws) rfl
  refine ⟨fun i H hi s => w.goes i H (by rw [← el]; exact hi) ⟨sqL_mono s h, sqL_mono s g⟩, fun H s => by rw [el]; exact w.stops H ⟨sqL_mono s h, sqL_mono s g⟩, fun i H x H' d hd s y => ?_⟩
  obtain ⟨T, x1, y1, e1, e2, e3, e4, e5⟩ := w.yields i H x H' (by rw [← el]; exact (List.getElem?_eq_some_iff.mp hd).1) ⟨sqL_mono s h, sqL_mono s g⟩ y
  obtain ⟨z1, z2, h1, h2, rfl⟩ := zip_get hd
  obtain ⟨v1, k1, k2⟩ := q.get h1
  obtain ⟨v2, k3, k4⟩ := r.get h2
  dsimp only at e4 e5
  rw [k1] at e4; cases e4
  rw [k3] at e5; cases e5
  exact .inr ⟨T, _, _, e2, e3, e1, rfl, .cons k2 (.cons k4 .nil)⟩
theorem wd_zipT (h : SqT K F a vs) (g : SqT K F b ws) (q : DqA K F vs xs) (r : DqA K F ws ys) : WalkD K F ρ (RZ.ItzT K a b) ((xs.zip ys).map fun p => .wtp [p.1, p.2]) := by
  have el : ((xs.zip ys).map fun p => D.wtp [p.1, p.2]).length = min vs.length ws.length := by rw [List.length_map, List.length_zip, q.len, r.len]
  refine ⟨fun i H hi s => ?_, fun H s => ⟨vs, ws, sqT_mono s h, sqT_mono s g, by rw [el]; omega⟩, fun i H x H' d hd s y => ?_⟩
  · rw [el] at hi
    have h1 : i < vs.length := by omega
    have h2 : i < ws.length := by omega
    exact ⟨vs, ws, vs[i], ws[i], sqT_mono s h, sqT_mono s g, List.getElem?_eq_getElem h1, List.getElem?_eq_getElem h2⟩
  · obtain ⟨T, x1, y1, e1, e2, e3, e4, e5⟩ := y
    have e4 := e4 _ (sqT_mono s h)
    have e5 := e5 _ (sqT_mono s g)
    obtain ⟨z1, z2, h1, h2, rfl⟩ := zip_get hd
    obtain ⟨v1, k1, k2⟩ := q.get h1
    obtain ⟨v2, k3, k4⟩ := r.get h2
    rw [k1] at e4; cases e4
    rw [k3] at e5; cases e5
    exact .inr ⟨T, _, _, e2, e3, e1, rfl, .cons k2 (.cons k4 .nil)⟩
theorem enumP_get : ∀ (xs : List PyData) (n i : Nat) (d : D), (enumP n xs)[i]? = some d → ∃ x, xs[i]? = some x ∧ d = .wtp [.int ((n + i : Nat) : Int), x]
  | [], _, _, _, e => by simp [enumP] at e
  | x :: xs, n, 0, d, e => by
    simp only [enumP, List.getElem?_cons_zero, Option.some.injEq] at e
    exact ⟨x, rfl, by rw [← e]; rfl⟩
  | x :: xs, n, i + 1, d, e => by
    simp only [enumP, List.getElem?_cons_succ] at e
    obtain ⟨y, h1, h2⟩ := enumP_get xs (n + 1) i d e
    exact ⟨y, by simpa using h1, by rw [h2]; congr 4; omega⟩
theorem enumP_len : ∀ (xs : List PyData) (n : Nat), (enumP n xs).length = xs.length
  | [], _ => rfl
  | x :: xs, n => by simp [enumP, enumP_len xs]
theorem wd_enu (h : SqL K F a vs) (q : DqA K F vs xs) : WalkD K F ρ (Ite K a) (enumP 0 xs) := by
  have el : (enumP 0 xs).length = vs.length := by rw [enumP_len, q.len]
  have w := walk_enum (K := K) (a := a) (xs := vs)
  refine ⟨fun i H hi s => w.goes i H (by rw [← el]; exact hi) (sqL_mono s h), fun H s => by rw [el]; exact w.stops H (sqL_mono s h), fun i H x H' d hd s y => ?_⟩
  obtain ⟨T, x1, y1, e1, e2, e3, e4, e5⟩ := w.yields i H x H' (by rw [← el]; exact (List.getElem?_eq_some_iff.mp hd).1) (sqL_mono s h) y
  obtain ⟨z, h1, rfl⟩ := enumP_get xs 0 i d hd
  obtain ⟨v1, k1, k2⟩ := q.get h1
  dsimp only at e4 e5
  rw [k1] at e5; cases e5
  cases e4
  refine .inr ⟨T, _, _, e2, e3, e1, rfl, .cons ?_ (.cons k2 .nil)⟩
  rw [Nat.zero_add]
  exact .int _
end

section
variable {X : Cx}
theorem PI.imp {tg e : Expr} {t t' : TI} (h : PI X tg e t) (i : ∀ τ H Q, t' τ H Q → t τ H Q) : PI X tg e t' := ⟨fun pins s τ H Q I q => h.run pins s τ H Q I (i τ H Q q)⟩
theorem PI.or {tg e : Expr} {t t' : TI} (h : PI X tg e t) (h' : PI X tg e t') : PI X tg e (fun τ H Q => t τ H Q ∨ t' τ H Q) := ⟨fun pins s τ H Q I q => by
  rcases q with q | q
  · exact h.run pins s τ H Q I q
  · exact h'.run pins s τ H Q I q⟩
/-- a value that is walked -/
theorem pi_val {W : WX} {tg e : Expr} {ma : Env → Hs → R D} (he : PE X e (rV X.K W ma)) : PI X tg e (rI X.K W fun σ h => (ma σ h).bind fun x h1 => noX (seqR x h1)) := by
  refine PI.imp (PI.or (pi_list he) (PI.or (pi_tup he) (pi_str he))) fun τ H Q q => ?_
  obtain ⟨F, ρ, σ, h, st, eo, fin⟩ := q
  dsimp only at fin
  cases ea : ma σ h with
  | ok x h1 =>
    rw [ea] at fin
    simp only [R.bind, seqR] at fin
    have fin : FinI X.K F ρ H (noX (match seqD x with | some ds => .ok ds h1 | none => .no)) Q (wt W τ) := fin
    cases es : seqD x with
    | none => rw [es] at fin; exact fin.elim
    | some ds =>
      rw [es] at fin
      unfold seqD at es
      split at es
      · rename_i xs
        cases es
        refine .inl ⟨F, ρ, σ, h, st, eo, ?_⟩
        rw [ea]
        intro F1 ρ1 H1 v e1 st1 r1
        cases r1 with
        | lst h1 h2 => exact ⟨_, rfl, ⟨_, SqL.of (st1.same _ _ h1)⟩, fin F1 ρ1 H1 _ e1 st1 (wd_list (SqL.of h1) h2)⟩
      · rename_i xs
        cases es
        refine .inr (.inl ⟨F, ρ, σ, h, st, eo, ?_⟩)
        rw [ea]
        intro F1 ρ1 H1 v e1 st1 r1
        cases r1 with
        | tup h1 h2 => exact ⟨_, rfl, ⟨_, sqT_mono st1.same h1.sqT⟩, fin F1 ρ1 H1 _ e1 st1 (wd_tup h1.sqT h2)⟩
      · rename_i z
        cases es
        refine .inr (.inr ⟨F, ρ, σ, h, st, eo, ?_⟩)
        rw [ea]
        intro F1 ρ1 H1 v e1 st1 r1
        cases r1
        exact ⟨z, rfl, fin F1 ρ1 H1 _ e1 st1 (wd_str z)⟩
      · rename_i ns
        cases es
        refine .inl ⟨F, ρ, σ, h, st, eo, ?_⟩
        rw [ea]
        intro F1 ρ1 H1 v e1 st1 r1
        obtain ⟨a, rfl, h1⟩ := r1
        refine ⟨_, rfl, ⟨_, sqL_mono st1.same h1⟩, fin F1 ρ1 H1 _ e1 st1 ?_⟩
        have := wd_list (ρ := ρ1) h1 (dq_ints ns)
        rwa [List.map_map] at this
      · cases es
  | ex x h1 =>
    rw [ea] at fin
    refine .inl ⟨F, ρ, σ, h, st, eo, ?_⟩
    rw [ea]
    exact fin
  | no => rw [ea] at fin; exact fin.elim

end
end En
/-! En: targets, comprehensions, loops -/
namespace En
open PySem L2
variable [Wd]

theorem wipe_get (τ : St) (j : Nat) : ∀ vs : List Nat, (L2.wipe τ vs)[j]? = if j ∈ vs then τ[j]?.map (fun _ => none) else τ[j]?
  | [] => by simp [L2.wipe]
  | v :: vs => by
    unfold L2.wipe
    rw [List.getElem?_set, wipe_get τ j vs, L2.wipe_length]
    by_cases h : v = j
    · subst h
      rw [if_pos rfl]
      by_cases hl : v < τ.length
      · rw [if_pos hl, if_pos List.mem_cons_self, List.getElem?_eq_getElem hl]
        rfl
      · rw [if_neg hl, if_pos List.mem_cons_self, List.getElem?_eq_none (by omega)]
        rfl
    · rw [if_neg h]
      by_cases hm : j ∈ vs
      · rw [if_pos hm, if_pos (List.mem_cons_of_mem _ hm)]
      · rw [if_neg hm, if_neg (by rw [List.mem_cons]; exact fun z => z.elim (fun e => h e.symm) hm)]
theorem wipe_set (τ : St) {i : Nat} {v : Option V} {vs : List Nat} (h : i ∈ vs) : L2.wipe (τ.set i v) vs = L2.wipe τ vs := by
  apply List.ext_getElem?
  intro j
  rw [wipe_get, wipe_get]
  by_cases hm : j ∈ vs
  · rw [if_pos hm, if_pos hm, List.getElem?_set]
    by_cases hj : i = j
    · subst hj
      rw [if_pos rfl]
      by_cases hl : i < τ.length
      · rw [if_pos hl, List.getElem?_eq_getElem hl]
        rfl
      · rw [if_neg hl, List.getElem?_eq_none (by omega)]
    · rw [if_neg hj]
  · have hj : i ≠ j := fun e => hm (e ▸ h)
    rw [if_neg hm, if_neg hm, List.getElem?_set_ne hj]
theorem wipe_wipe (τ τ' : St) (vs ws : List Nat) (h : L2.wipe τ vs = L2.wipe τ' vs) (hs : ∀ i ∈ vs, i ∈ ws) : L2.wipe τ ws = L2.wipe τ' ws := by
  apply List.ext_getElem?
  intro j
  have e := congrArg (fun l => l[j]?) h
  simp only [wipe_get] at e ⊢
  by_cases hm : j ∈ vs
  · rw [if_pos hm, if_pos hm] at e
    rw [if_pos (hs j hm), if_pos (hs j hm)]
    exact e
  · rw [if_neg hm, if_neg hm] at e
    rw [e]
theorem wipe_idem (τ : St) (vs : List Nat) : L2.wipe (L2.wipe τ vs) vs = L2.wipe τ vs := by
  apply List.ext_getElem?
  intro j
  rw [wipe_get, wipe_get]
  by_cases hm : j ∈ vs
  · rw [if_pos hm, if_pos hm]
    cases τ[j]? <;> rfl
  · rw [if_neg hm, if_neg hm]

def slots : Tg → List Nat
  | .nm i => [i]
  | .tp is => is
/-- a target is assigned -/
def gT (K : PySem.W.Frag) (t : Tg) : TG := fun v τ H Q => ∃ F ρ σ h x σ', Stt K F ρ h H ∧ EnvOk K F ρ σ τ ∧ Rep K F ρ x v ∧ bindTg t x σ = some σ' ∧
  ∀ τ' : St, EnvOk K F ρ σ' τ' → (∀ vs : List Nat, (∀ i ∈ slots t, i ∈ vs) → L2.wipe τ' vs = L2.wipe τ vs) → Q τ' H
def setV : List Nat → List V → St → St
  | i :: is, v :: vs, τ => setV is vs (τ.set i (some v))
  | _, _, τ => τ
def gNs : List Nat → TGs := fun is vs τ H Q => vs.length = is.length ∧ Q (setV is vs τ) H
theorem setV_wipe (ws : List Nat) : ∀ (is : List Nat) (vs : List V) (τ : St), (∀ i ∈ is, i ∈ ws) → L2.wipe (setV is vs τ) ws = L2.wipe τ ws
  | [], _, _, _ => by unfold setV; rfl
  | i :: is, [], _, _ => by unfold setV; rfl
  | i :: is, v :: vs, τ, h => by
    unfold setV
    rw [setV_wipe ws is vs _ (fun j hj => h j (List.mem_cons_of_mem _ hj)), wipe_set τ (h i List.mem_cons_self)]
theorem setAll_ok {K : PySem.W.Frag} {F : Hp} {ρ : List Addr} : ∀ (is : List Nat) (ds : List D) (vs : List V) (σ σ' : Env) (τ : St), EnvOk K F ρ σ τ → RepL K F ρ ds vs → setAll is ds σ = some σ' → EnvOk K F ρ σ' (setV is vs τ)
  | [], [], _, _, _, _, eo, r, e => by
    have r : _ = [] := r
    cases e
    rw [r]
    exact eo
  | i :: is, x :: xs, _, σ, σ', τ, eo, r, e => by
    obtain ⟨v, t, rfl, r1, r2⟩ := r
    unfold setV
    exact setAll_ok is xs t _ σ' _ (eo.put i r1) r2 e
  | [], _ :: _, _, _, _, _, _, _, e => by cases e
  | _ :: _, [], _, _, _, _, _, _, e => by cases e

/-- a name that the code at hand stores -/
def locB (sc : Scope) (fn : Str → Bool) (x : Str) : Bool := match sc.names.lookup x with
  | some .local => true
  | some .cell => fn x
  | _ => false
def ckNames (N : List Str) (sc : Scope) (fn : Str → Bool) : List Nat → List Expr → Bool
  | [], [] => true
  | i :: is, .Name x _ :: es => decide (N[i]? = some x) && locB sc fn x && ckNames N sc fn is es
  | _, _ => false
def ckTg (N : List Str) (sc : Scope) (fn : Str → Bool) : Tg → Expr → Bool
  | .nm i, .Name x _ => decide (N[i]? = some x) && locB sc fn x
  | .tp is, .Tuple es _ _ => ckNames N sc fn is es
  | _, _ => false
section
variable {X : Cx}
theorem locB_ok {sc : Scope} {fn : Str → Bool} {x : Str} (hs : X.env.scope = sc) (hf : X.fn = fn) (h : locB sc fn x = true) : Loc X.env.scope x ∧ (X.fn x = true ∨ X.env.scope.names.lookup x = some .local) := by
  unfold locB at h
  rw [hs, hf]
  split at h
  · rename_i e
    exact ⟨.inl e, .inr e⟩
  · rename_i e
    exact ⟨.inr e, .inl h⟩
  · cases h
theorem PG.imp {e : Expr} {t t' : TG} (h : PG X e t) (i : ∀ v τ H Q, t' v τ H Q → t v τ H Q) : PG X e t' := ⟨fun pins s τ H v u Q I r q => h.run pins s τ H v u Q I r (i v τ H Q q)⟩
theorem pgs_names {N : List Str} {sc : Scope} {fn : Str → Bool} (hN : X.N = N) (nd : X.N.Nodup) (hs : X.env.scope = sc) (hf : X.fn = fn) : ∀ (is : List Nat) (es : List Expr), ckNames N sc fn is es = true →
    PGs X es (gNs is) ∧ (assignEach es X.env).length = is.length ∧ (assignEach es X.env).findIdx? (·.1) = none
  | [], [], _ => ⟨⟨fun pins s τ H vs us Q I r q => by
      obtain ⟨e, q⟩ := q
      have e' : vs = [] := List.length_eq_zero_iff.mp e
      subst e'
      exact pgs_nil.run pins s τ H [] us Q I r ⟨rfl, q⟩⟩, rfl, rfl⟩
  | i :: is, .Name x p :: es, h => by
    unfold ckNames at h
    simp only [Bool.and_eq_true, decide_eq_true_eq] at h
    obtain ⟨⟨h1, h2⟩, h3⟩ := h
    obtain ⟨l1, l2⟩ := locB_ok hs hf h2
    obtain ⟨ih, e1, e2⟩ := pgs_names hN nd hs hf is es h3
    refine ⟨⟨fun pins s τ H vs us Q I r q => ?_⟩, congrArg (· + 1) e1, ?_⟩
    · obtain ⟨e, q⟩ := q
      cases vs with
      | nil => cases e
      | cons v vs =>
        refine (pgs_cons (pg_name (i := i) nd (by rw [hN]; exact h1) l1 l2) ih rfl).run pins s τ H (v :: vs) us Q I r ⟨v, vs, rfl, ?_⟩
        exact ⟨Nat.succ.inj e, q⟩
    · show ((false, assign (.Name x p) X.env) :: assignEach es X.env).findIdx? (·.1) = none
      rw [List.findIdx?_cons, e2]
      rfl
  | [], _ :: _, h => by cases h
  | _ :: _, [], h => by cases h
  | _ :: _, .BoolOp .. :: _, h => by cases h
  | _ :: _, .NamedExpr .. :: _, h => by cases h
  | _ :: _, .BinOp .. :: _, h => by cases h
  | _ :: _, .UnaryOp .. :: _, h => by cases h
  | _ :: _, .Lambda .. :: _, h => by cases h
  | _ :: _, .IfExp .. :: _, h => by cases h
  | _ :: _, .Dict .. :: _, h => by cases h
  | _ :: _, .Set .. :: _, h => by cases h
  | _ :: _, .ListComp .. :: _, h => by cases h
  | _ :: _, .SetComp .. :: _, h => by cases h
  | _ :: _, .DictComp .. :: _, h => by cases h
  | _ :: _, .GeneratorExp .. :: _, h => by cases h
  | _ :: _, .Await .. :: _, h => by cases h
  | _ :: _, .Yield .. :: _, h => by cases h
  | _ :: _, .YieldFrom .. :: _, h => by cases h
  | _ :: _, .Compare .. :: _, h => by cases h
  | _ :: _, .Call .. :: _, h => by cases h
  | _ :: _, .FormattedValue .. :: _, h => by cases h
  | _ :: _, .JoinedStr .. :: _, h => by cases h
  | _ :: _, .Constant .. :: _, h => by cases h
  | _ :: _, .Attribute .. :: _, h => by cases h
  | _ :: _, .Subscript .. :: _, h => by cases h
  | _ :: _, .Starred .. :: _, h => by cases h
  | _ :: _, .List .. :: _, h => by cases h
  | _ :: _, .Tuple .. :: _, h => by cases h
  | _ :: _, .Slice .. :: _, h => by cases h
theorem tupItems_ok {K : PySem.W.Frag} {F : Hp} {ρ : List Addr} {x : D} {v : V} {ds : List D} (r : Rep K F ρ x v) (e : tupItems x = some ds) : ∃ a vs, v = .ref a ∧ SqT K F a vs ∧ RepL K F ρ ds vs := by
  unfold tupItems at e
  split at e
  · cases e
    cases r with
    | tup h1 h2 => exact ⟨_, _, rfl, h1.sqT, repL_d h2⟩
  · cases e
    exact r
  · cases e
    obtain ⟨a, vs, h1, h2, h3⟩ := r
    exact ⟨a, vs, h1, h2, repL_d h3⟩
  · cases e
theorem pg_ok {N : List Str} {sc : Scope} {fn : Str → Bool} {t : Tg} {e : Expr} (hc : X.calm = true) (hN : X.N = N) (nd : X.N.Nodup) (hs : X.env.scope = sc) (hf : X.fn = fn) (h : ckTg N sc fn t e = true) : PG X e (gT X.K t) := by
  unfold ckTg at h
  split at h
  · rename_i i x p
    simp only [Bool.and_eq_true, decide_eq_true_eq] at h
    obtain ⟨l1, l2⟩ := locB_ok hs hf h.2
    refine PG.imp (pg_name (i := i) nd (by rw [hN]; exact h.1) l1 l2) fun v τ H Q q => ?_
    obtain ⟨F, ρ, σ, hh, x, σ', st, eo, r, e, k⟩ := q
    cases e
    exact k _ (eo.put i r) fun vs hv => wipe_set τ (hv i List.mem_cons_self)
  · rename_i is es k2 p
    obtain ⟨g, e1, e2⟩ := pgs_names hN nd hs hf is es h
    refine PG.imp (pg_tup hc g e1 e2) fun v τ H Q q => ?_
    obtain ⟨F, ρ, σ, hh, x, σ', st, eo, r, e, k⟩ := q
    unfold bindTg at e
    dsimp only at e
    split at e
    · rename_i ds hd
      split at e
      · rename_i hl
        obtain ⟨a, vs, rfl, q1, q2⟩ := tupItems_ok r hd
        have hv : vs.length = is.length := by rw [q2.len]; exact hl
        exact ⟨a, vs, rfl, sqT_mono st.same q1, hv, hv, k _ (setAll_ok is ds vs σ σ' τ eo q2 e) fun ws hw => setV_wipe ws is vs τ hw⟩
      · cases e
    · cases e
  · cases h
end
end En
/-! En: list comprehensions -/
namespace En
open PySem L2
variable [Wd]

/-- as Exh, but for the thing at p -/
structure Exd (p : Addr) (F : Hp) (ρ : List Addr) (H F' : Hp) (ρ' : List Addr) (H' : Hp) : Prop extends Ext F ρ F' ρ' where
  k : ∀ (b : Addr) (o : HO), b ≠ p → H b = some o → b ∉ ρ → H' b = some o
  n : ∀ b ∈ ρ', b ∈ ρ ∨ H b = none
  m : ∀ (b : Addr) (o : HO), b ≠ p → H b = some o → b ∉ ρ → F b = none → F' b = none
section
variable {p : Addr} {K : PySem.W.Frag} {F F1 F2 H H1 H2 : Hp} {ρ ρ1 ρ2 : List Addr} {h : Hs}
theorem Exd.refl (F : Hp) (ρ : List Addr) (H : Hp) : Exd p F ρ H F ρ H := ⟨Ext.refl F ρ, fun _ _ _ e _ => e, fun _ e => .inl e, fun _ _ _ _ _ e => e⟩
theorem Exh.exd (a : Exh F ρ H F1 ρ1 H1) : Exd p F ρ H F1 ρ1 H1 := ⟨a.toExt, fun b o _ e hb => a.k b o e hb, a.n, fun b o _ e hb f => a.m b o e hb f⟩
theorem Exd.trans {o : HO} (hp : H1 p = some o) (a : Exd p F ρ H F1 ρ1 H1) (b : Exd p F1 ρ1 H1 F2 ρ2 H2) (hp0 : ∃ u, H p = some u) : Exd p F ρ H F2 ρ2 H2 := by
  have off : ∀ c u, H c = some u → c ∉ ρ → c ∉ ρ1 := fun c u e hc hm => by
    rcases a.n c hm with z | z
    · exact hc z
    · rw [e] at z; cases z
  refine ⟨a.toExt.trans b.toExt, fun c u ne e hc => b.k c u ne (a.k c u ne e hc) (off c u e hc), fun c hc => ?_, fun c u ne e hc f => b.m c u ne (a.k c u ne e hc) (off c u e hc) (a.m c u ne e hc f)⟩
  rcases b.n c hc with z | z
  · exact a.n c z
  · by_cases hm : c ∈ ρ
    · exact .inl hm
    · cases q : H c with
      | none => exact .inr rfl
      | some u =>
        by_cases hcp : c = p
        · rw [hcp, hp] at z; cases z
        · have := a.k c u hcp q hm
          rw [z] at this; cases this
/-- what is tracked besides is changed -/
theorem Stt.off (s : Stt K F ρ h H) {o : HO} (f : F p = none) (np : p ∉ ρ) : Stt K F ρ h (upd H p o) := by
  refine ⟨fun b u q => ?_, s.len, s.nd, fun n a c q1 q2 => ?_⟩
  · have ne : b ≠ p := fun z => by rw [z, f] at q; cases q
    rw [upd_ne ne]
    exact s.same b u q
  · have ne : a ≠ p := fun z => np (by rw [← z]; exact List.mem_of_getElem? q1)
    obtain ⟨q, u, hu⟩ := s.cell n a c q1 q2
    exact ⟨q.off ne (fun m _ e => np (List.mem_of_getElem? e)), u, by rw [upd_ne ne]; exact hu⟩
/-- a slot of an instance is set -/
theorem Stt.sfl (s : Stt K F ρ h H) {n m : Nat} {a dx C : Addr} {c : Str} {fs gs : List (Option PyData)} {vs ws : List (Option V)} (e1 : ρ[n]? = some a) (e2 : h[n]? = some (.ins c fs)) (hm : n = m + 1) (e3 : ρ[m]? = some dx) (f0 : F a = none) (f1 : F dx = none) (ne : dx ≠ a)
    (sl : SlX.Slt H a C dx vs) (hd : H dx = some (.own a) ∨ H dx = some (.xd [])) (wm : Wd.mg c = some (.ref C)) (q : InsA K F ws gs) : Stt K F ρ (h.set n (.ins c gs)) (SlX.slH H a C dx ws) := by
  have off : ∀ {n' : Nat} {b : Addr}, ρ[n']? = some b → n' ≠ n → b ≠ a := fun {n' b} r hne z => hne (nodup_at s.nd (z ▸ r) e1)
  have ofd : ∀ {n' : Nat} {b : Addr}, ρ[n']? = some b → n' ≠ m → b ≠ dx := fun {n' b} r hne z => hne (nodup_at s.nd (z ▸ r) e3)
  refine ⟨fun b u r => ?_, by rw [List.length_set]; exact s.len, s.nd, fun n' b cc r1 r2 => ?_⟩
  · have h1 : b ≠ a := fun z => by rw [z, f0] at r; cases r
    have h2 : b ≠ dx := fun z => by rw [z, f1] at r; cases r
    rw [SlX.slH_ne h1 h2]
    exact s.same b u r
  · by_cases hn : n = n'
    · subst hn
      rw [e1] at r1; cases r1
      have hl : n < h.length := (List.getElem?_eq_some_iff.mp e2).1
      rw [List.getElem?_set_self hl] at r2
      cases r2
      refine ⟨⟨f0, m, C, dx, ws, hm, e3, f1, ne, wm, SlX.slH_slt ne, .inr ?_, q⟩, _, upd_same⟩
      unfold SlX.slH
      rw [upd_ne ne, upd_same]
    · rw [List.getElem?_set_ne hn] at r2
      obtain ⟨y, u, hu⟩ := s.cell n' b cc r1 r2
      have hb : b ≠ a := off r1 (fun z => hn z.symm)
      refine ⟨?_, ?_⟩
      · cases cc with
        | dead => trivial
        | frz xs => exact y
        | lst zs =>
          obtain ⟨g0, us, y1, y2⟩ := y
          have hbd : b ≠ dx := fun z => by
            subst z
            rcases hd with w | w <;> rw [w] at y1 <;> cases y1
          exact ⟨g0, us, by rw [SlX.slH_ne hb hbd]; exact y1, y2⟩
        | ins d fs' =>
          obtain ⟨g0, j, C', dx', us, y1, y2, y3, y4, y5, y6, y7, y8⟩ := y
          have hbd : b ≠ dx := fun z => by
            subst z
            rcases y6 with ⟨w1, _⟩ | ⟨w1, _⟩
            · rcases hd with w | w <;> rw [w] at w1 <;> cases w1
            · rcases hd with w | w <;> rw [w] at w1
              · cases w1
              · exact SlX.slO_not (Option.some.inj w1).symm
          have hda : dx' ≠ a := fun z => by
            subst z
            rcases sl with ⟨w1, _⟩ | ⟨w1, _⟩
            · rcases y7 with w | w <;> rw [w] at w1 <;> cases w1
            · rcases y7 with w | w <;> rw [w] at w1
              · cases w1
              · exact SlX.slO_not (Option.some.inj w1).symm
          have hdd : dx' ≠ dx := ofd y2 (by omega)
          refine ⟨g0, j, C', dx', us, y1, y2, y3, y4, y5, ?_, by rw [SlX.slH_ne hda hdd]; exact y7, y8⟩
          rcases y6 with ⟨w1, w2⟩ | ⟨w1, w2⟩
          · exact .inl ⟨by rw [SlX.slH_ne hb hbd]; exact w1, w2⟩
          · exact .inr ⟨by rw [SlX.slH_ne hb hbd]; exact w1, by rw [SlX.slH_ne hda hdd]; exact w2⟩
      · by_cases hbd : b = dx
        · subst hbd
          exact ⟨_, by unfold SlX.slH; rw [upd_ne ne, upd_same]⟩
        · exact ⟨u, by rw [SlX.slH_ne hb hbd]; exact hu⟩
theorem exd_put {o : HO} : Exd p F ρ H F ρ (upd H p o) := ⟨Ext.refl F ρ, fun b u ne e _ => by rw [upd_ne ne]; exact e, fun _ e => .inl e, fun _ _ _ _ _ e => e⟩
/-- .. becomes a cell -/
theorem Stt.adoptC (s : Stt K F ρ h H) {vs : List V} {xs : List PyData} (f : F p = none) (np : p ∉ ρ) (e : H p = some (.lst vs)) (q : DqA K F vs xs) : Stt K F (ρ ++ [p]) (h ++ [.lst xs]) H := by
  refine ⟨s.same, by simp [s.len], ?_, fun n a c q1 q2 => ?_⟩
  · rw [List.nodup_append]
    refine ⟨s.nd, List.nodup_cons.mpr ⟨by simp, List.nodup_nil⟩, fun x hx y hy => ?_⟩
    rw [List.mem_singleton] at hy
    subst hy
    rintro rfl
    exact np hx
  · by_cases hn : n < ρ.length
    · rw [List.getElem?_append_left hn] at q1
      rw [List.getElem?_append_left (by rw [← s.len]; exact hn)] at q2
      obtain ⟨y1, y2⟩ := s.cell n a c q1 q2
      exact ⟨y1.rho fun m dx e1 e2 => by rw [List.getElem?_append_left (by omega)]; exact e2, y2⟩
    · have e1 : n = ρ.length := by
        have := (List.getElem?_eq_some_iff.mp q1).1
        rw [List.length_append, List.length_singleton] at this
        omega
      subst e1
      rw [List.getElem?_append_right (Nat.le_refl _), Nat.sub_self] at q1
      rw [s.len, List.getElem?_append_right (Nat.le_refl _), Nat.sub_self] at q2
      cases q1; cases q2
      exact ⟨⟨f, vs, e, q⟩, _, e⟩
/-- .. never changes again -/
theorem Stt.adoptF (s : Stt K F ρ h H) {o : HO} (f : F p = none) (np : p ∉ ρ) (e : H p = some o) : Stt K (upd F p o) ρ h H ∧ Same F (upd F p o) := by
  have sm : Same F (upd F p o) := fun b u q => by
    rw [upd_ne (ne_of_none q f)]
    exact q
  refine ⟨⟨fun b u q => ?_, s.len, s.nd, fun n a c q1 q2 => ?_⟩, sm⟩
  · by_cases hb : b = p
    · subst hb
      rw [upd_same] at q
      rw [← q]
      exact e
    · rw [upd_ne hb] at q
      exact s.same b u q
  · have ne : a ≠ p := fun z => np (by rw [← z]; exact List.mem_of_getElem? q1)
    obtain ⟨q, u, hu⟩ := s.cell n a c q1 q2
    exact ⟨q.monoF sm (fun f0 => by rw [upd_ne ne]; exact f0) (fun m dx e1 e2 f0 => by rw [upd_ne (fun z => np (by rw [← z]; exact List.mem_of_getElem? e2))]; exact f0), u, hu⟩
end

/-- a comprehension's loop: its list at p -/
theorem comp_loop {K : PySem.W.Frag} {p : Addr} {F1 H1 : Hp} {ρ1 : List Addr} {J : It} {ds : List D} {h1 h2 : Hs} {f : D → Hs → R (Option PyData)} (it : PyData → List PyData) {TP : V → Hp → (Hp → Prop) → Prop} {Fn : Hp → Prop}
    {acc0 : List V} {done0 ys : List PyData} (wd : WalkD K F1 ρ1 J ds) (st1 : Stt K F1 ρ1 h1 H1) (hp : H1 p = some (.lst acc0)) (fp : F1 p = none) (np : p ∉ ρ1) (q0 : DqA K F1 acc0 done0)
    (hc : compL ρ1.length f ds h1 = .ok ys h2) (hz : (done0 ++ ys.flatMap it).length ≤ sizeLine)
    (fin : ∀ (F2 H2 : Hp) (acc : List V), Exd p F1 ρ1 H1 F2 ρ1 H2 → Stt K F2 ρ1 h2 H2 → F2 p = none → H2 p = some (.lst acc) → DqA K F2 acc (done0 ++ ys.flatMap it) → Fn H2)
    (turn : ∀ (d : D) (x : V) (F2 H' : Hp) (hh : Hs) (acc : List V) (done : List PyData) (o : Option PyData) (h3 : Hs) (Nx : Hp → Prop), f d hh = .ok o h3 → Exd p F1 ρ1 H1 F2 ρ1 H' → Stt K F2 ρ1 hh H' → Rep K F2 ρ1 d x → F2 p = none →
      H' p = some (.lst acc) → DqA K F2 acc done → (done ++ o.toList.flatMap it).length ≤ sizeLine →
      (∀ (F4 H4 : Hp) (acc' : List V), Exd p F1 ρ1 H1 F4 ρ1 H4 → Stt K F4 ρ1 (h3.take ρ1.length) H4 → F4 p = none → H4 p = some (.lst acc') → DqA K F4 acc' (done ++ o.toList.flatMap it) → Nx H4) → TP x H' Nx) :
    ∃ W : Nat → Nat → Hp → Prop, (∃ m, W 0 m H1) ∧ ∀ i m H, W i m H → (J.stop i H ∧ Fn H) ∨ (J.go i H ∧ ∃ Nx : Hp → Prop, (∀ H', Nx H' → ∃ m', m' < m ∧ W (i + 1) m' H') ∧ ∀ x H', J.yld i H x H' → TP x H' Nx) := by
  refine ⟨fun i m H => m = ds.length - i ∧ i ≤ ds.length ∧ ∃ (F2 : Hp) (hh : Hs) (acc : List V) (done rest : List PyData), Exd p F1 ρ1 H1 F2 ρ1 H ∧ Stt K F2 ρ1 hh H ∧ F2 p = none ∧ H p = some (.lst acc) ∧ DqA K F2 acc done ∧
    compL ρ1.length f (ds.drop i) hh = .ok rest h2 ∧ done ++ rest.flatMap it = done0 ++ ys.flatMap it, ⟨ds.length, by simp, Nat.zero_le _, F1, h1, acc0, done0, ys, Exd.refl F1 ρ1 H1, st1, fp, hp, q0, by rw [List.drop_zero]; exact hc, rfl⟩, ?_⟩
  rintro i m H ⟨rfl, hi, F2, hh, acc, done, rest, ex, st, f2, hH, q, hcl, hd⟩
  have sF : Same F1 H := ex.f.trans st.same
  by_cases hlt : i < ds.length
  · refine .inr ⟨wd.goes i H hlt sF, fun H' => ds.length - (i + 1) = ds.length - (i + 1) ∧ i + 1 ≤ ds.length ∧ ∃ (F2 : Hp) (hh : Hs) (acc : List V) (done rest : List PyData), Exd p F1 ρ1 H1 F2 ρ1 H' ∧ Stt K F2 ρ1 hh H' ∧ F2 p = none ∧ H' p = some (.lst acc) ∧ DqA K F2 acc done ∧
      compL ρ1.length f (ds.drop (i + 1)) hh = .ok rest h2 ∧ done ++ rest.flatMap it = done0 ++ ys.flatMap it, fun H' w => ⟨ds.length - (i + 1), by omega, w⟩, fun x H' y => ?_⟩
    have hdi : ds[i]? = some ds[i] := List.getElem?_eq_getElem hlt
    obtain ⟨F3, e3, st3, r3⟩ := wd.next ex.toExt st hdi y
    rw [List.drop_eq_getElem_cons hlt] at hcl
    unfold compL at hcl
    cases ef : f ds[i] hh with
    | ok o h3 =>
      rw [ef] at hcl
      have hcl : (compL ρ1.length f (ds.drop (i + 1)) (h3.take ρ1.length)).bind (fun zs h4 => R.ok (o.toList ++ zs) h4) = .ok rest h2 := hcl
      cases ec : compL ρ1.length f (ds.drop (i + 1)) (h3.take ρ1.length) with
      | ok zs h4 =>
        rw [ec] at hcl
        have hcl : R.ok (o.toList ++ zs) h4 = .ok rest h2 := hcl
        cases hcl
        have hH' : H' p = some (.lst acc) := e3.k p _ hH np
        have ex' : Exd p F1 ρ1 H1 F3 ρ1 H' := Exd.trans hH ex e3.exd ⟨_, hp⟩
        have hd' : (done ++ o.toList.flatMap it) ++ zs.flatMap it = done0 ++ ys.flatMap it := by
          rw [← hd, List.flatMap_append, List.append_assoc]
        refine turn ds[i] x F3 H' hh acc done o h3 _ ef ex' st3 r3 (e3.m p _ hH np f2) hH' (DqA.mono e3.f _ _ q) ?_ fun F4 H4 acc' a1 a2 a3 a4 a5 => ⟨rfl, hlt, F4, _, acc', _, zs, a1, a2, a3, a4, a5, ec, hd'⟩
        rw [← hd', List.length_append] at hz
        omega
      | ex _ _ => rw [ec] at hcl; cases hcl
      | no => rw [ec] at hcl; cases hcl
    | ex _ _ => rw [ef] at hcl; cases hcl
    | no => rw [ef] at hcl; cases hcl
  · have e : i = ds.length := by omega
    subst e
    rw [List.drop_length] at hcl
    unfold compL at hcl
    cases hcl
    rw [List.flatMap_nil, List.append_nil] at hd
    subst hd
    exact .inl ⟨wd.stops H sF, fin F2 H acc ex st f2 hH q⟩

theorem bind_ok {α β : Type} {r : R α} {f : α → Hs → R β} {y : β} {h : Hs} (e : r.bind f = .ok y h) : ∃ x h1, r = .ok x h1 ∧ f x h1 = .ok y h := by
  cases r with
  | ok x h1 => exact ⟨x, h1, rfl, e⟩
  | ex _ _ => cases e
  | no => cases e
theorem turn_inv {own : List Nat} {t : Tg} {ifs : Sm} {k : Env → Hs → R (Option PyData)} {σ : Env} {d : D} {h h3 : Hs} {o : Option PyData} (e : turn own t ifs k σ d h = .ok o h3) :
    ∃ σ2 b h2, bindTg t d (wipeE σ own) = some σ2 ∧ ifs.ts σ2 h = .ok b h2 ∧ (if b = true then k σ2 h2 = .ok o h3 else o = none ∧ h3 = h2) := by
  unfold turn at e
  split at e
  · rename_i σ2 hb
    obtain ⟨b, h2, e1, e2⟩ := bind_ok (noX_inv e)
    refine ⟨σ2, b, h2, hb, e1, ?_⟩
    cases b with
    | true => simpa using e2
    | false =>
      have e2 : R.ok none h2 = .ok o h3 := by simpa using e2
      cases e2
      simp
  · cases e
theorem some1_inv {r : R D} {o : Option PyData} {h : Hs} (e : some1 r = .ok o h) : ∃ y, r = .ok (.d y) h ∧ o = some y := by
  unfold some1 at e
  obtain ⟨x, h1, e1, e2⟩ := bind_ok e
  cases x with
  | d y =>
    have e2 : R.ok (some y) h1 = .ok o h := e2
    cases e2
    exact ⟨y, e1, rfl⟩
  | _ => cases e2
theorem turn_ne {own : List Nat} {t : Tg} {ifs : Sm} {k : Env → Hs → R (Option PyData)} {σ : Env} {d : D} {h h3 : Hs} {x : Xn} (e : turn own t ifs k σ d h = .ex x h3) : False := by
  unfold turn at e
  split at e
  · exact noX_ne e
  · cases e
theorem compL_ne {n : Nat} {f : D → Hs → R (Option PyData)} (hf : ∀ d h x h3, f d h = .ex x h3 → False) : ∀ (ds : List D) (h : Hs) (x : Xn) (h3 : Hs), compL n f ds h = .ex x h3 → False
  | [], _, _, _, e => by cases e
  | d :: ds, h, x, h3, e => by
    unfold compL at e
    cases ef : f d h with
    | ok o h1 =>
      rw [ef] at e
      have e : (compL n f ds (h1.take n)).bind (fun ys h2 => R.ok (o.toList ++ ys) h2) = .ex x h3 := e
      cases ec : compL n f ds (h1.take n) with
      | ok ys h2 => rw [ec] at e; cases e
      | ex y h2 => exact compL_ne hf ds _ _ _ ec
      | no => rw [ec] at e; cases e
    | ex y h1 => exact hf _ _ _ _ ef
    | no => rw [ef] at e; cases e
/-- one turn: a target, tests, a value that is appended -/
theorem turn1 {K : PySem.W.Frag} {p : Addr} {F1 H1 : Hp} {ρ1 : List Addr} {own : List Nat} {t : Tg} {ifs : Sm} {me : Env → Hs → R D} {σ : Env} {τ : St} (eo : EnvOk K F1 ρ1 σ τ) (hown : ∀ i ∈ slots t, i ∈ own) (np : p ∉ ρ1) (hp1 : ∃ u, H1 p = some u)
    (d : D) (x : V) (F2 H' : Hp) (hh : Hs) (acc : List V) (done : List PyData) (o : Option PyData) (h3 : Hs) (Nx : Hp → Prop) (ef : turn own t ifs (fun σ2 h3 => some1 (me σ2 h3)) σ d hh = .ok o h3) (ex : Exd p F1 ρ1 H1 F2 ρ1 H') (st : Stt K F2 ρ1 hh H')
    (r : Rep K F2 ρ1 d x) (f2 : F2 p = none) (hH : H' p = some (.lst acc)) (q : DqA K F2 acc done) (hz : (done ++ o.toList.flatMap fun y => [y]).length ≤ sizeLine)
    (nx : ∀ (F4 H4 : Hp) (acc' : List V), Exd p F1 ρ1 H1 F4 ρ1 H4 → Stt K F4 ρ1 (h3.take ρ1.length) H4 → F4 p = none → H4 p = some (.lst acc') → DqA K F4 acc' (done ++ o.toList.flatMap fun y => [y]) → Nx H4) :
    gT K t x (L2.wipe τ own) H' fun τ2 H2 => L2.wipe τ2 own = L2.wipe τ own ∧ rT K noW ifs.ts τ2 H2 fun b H3 =>
      if b = true then rV K noW me τ2 H3 fun y H4 => ∃ acc, H4 p = some (.lst acc) ∧ acc.length < sizeLine ∧ Nx (upd H4 p (.lst (acc ++ [y]))) else Nx H3 := by
  obtain ⟨σ2, b, h2, e1, e2, e3⟩ := turn_inv ef
  refine ⟨F2, ρ1, wipeE σ own, hh, d, σ2, st, (eo.mono ex.toExt).wipe own, r, e1, fun τ2 eo2 hw => ⟨(hw own hown).trans (wipe_idem τ own), F2, ρ1, σ2, hh, st, eo2, ?_⟩⟩
  rw [e2]
  intro F4 ρ4 H4 x4 st4
  have hH4 : H4 p = some (.lst acc) := x4.k p _ hH np
  have f4 : F4 p = none := x4.m p _ hH np f2
  have np4 : p ∉ ρ4 := fun z => by
    rcases x4.n p z with z | z
    · exact np z
    · rw [hH] at z; cases z
  have cutR : ρ4.take ρ1.length = ρ1 := take_pre x4.r
  have back : ∀ {F5 H5 : Hp} {ρ5 : List Addr} {h5 : Hs}, Exh F2 ρ1 H' F5 ρ5 H5 → Stt K F5 ρ5 h5 H5 → Stt K F5 ρ1 (h5.take ρ1.length) H5 ∧ Exd p F1 ρ1 H1 F5 ρ1 H5 := fun {F5 H5 ρ5 h5} x5 st5 => by
    have c := st5.cut ρ1.length
    rw [take_pre x5.r] at c
    refine ⟨c, Exd.trans hH ex ?_ hp1⟩
    exact ⟨⟨x5.f, List.prefix_refl ρ1⟩, fun b o _ e hb => x5.k b o e hb, fun _ e => .inl e, fun b o _ e hb f => x5.m b o e hb f⟩
  cases b with
  | false =>
    obtain ⟨rfl, rfl⟩ : o = none ∧ h3 = h2 := by simpa using e3
    simp only [Bool.false_eq_true, if_false]
    obtain ⟨c1, c2⟩ := back x4 st4
    exact nx F4 H4 acc c2 c1 f4 hH4 (by simpa using DqA.mono x4.f _ _ q)
  | true =>
    have e3 : some1 (me σ2 h2) = .ok o h3 := by simpa using e3
    obtain ⟨y, e4, rfl⟩ := some1_inv e3
    simp only [if_true]
    refine ⟨F4, ρ4, σ2, h2, st4, eo2.mono x4.toExt, ?_⟩
    rw [e4]
    intro F5 ρ5 H5 v x5 st5 r5
    have hH5 : H5 p = some (.lst acc) := x5.k p _ hH4 np4
    have f5 : F5 p = none := x5.m p _ hH4 np4 f4
    obtain ⟨c1, c2⟩ := back (x4.trans x5) st5
    have hl : done.length + 1 ≤ sizeLine := by simpa using hz
    refine ⟨acc, hH5, by rw [q.len]; exact hl, nx F5 _ (acc ++ [v]) (Exd.trans hH5 c2 exd_put hp1) (c1.off f5 np) f5 upd_same ?_⟩
    have := (DqA.mono (x4.trans x5).f _ _ q).app (.cons r5 .nil)
    simpa using this

section
variable {X : Cx}
theorem exd_exh {p : Addr} {F H F1 H1 H2 : Hp} {ρ : List Addr} {o u : HO} (hp : H p = none) (x : Exd p F ρ (upd H p o) F1 ρ H1) : Exh F ρ H F1 ρ H1 :=
  ⟨x.toExt, fun b u e hb => x.k b u (ne_of_none e hp) (by rw [upd_ne (ne_of_none e hp)]; exact e) hb, fun _ e => .inl e, fun b u e hb f => x.m b u (ne_of_none e hp) (by rw [upd_ne (ne_of_none e hp)]; exact e) hb f⟩
/-- the list is ready -/
theorem comp_done {K : PySem.W.Frag} {p : Addr} {F ρ H F1 ρ1 H1 F2 H2} {m : Bool} {xs : List PyData} {acc : List V} {h2 : Hs} {Q : VK} (e1 : Exh F ρ H F1 ρ1 H1) (hp : H1 p = none) (np : p ∉ ρ1) (x : Exd p F1 ρ1 (upd H1 p (.lst [])) F2 ρ1 H2) (st : Stt K F2 ρ1 h2 H2) (f2 : F2 p = none)
    (hH : H2 p = some (.lst acc)) (q : DqA K F2 acc xs) (fin : FinO K F ρ H (mkL m xs h2) Q) : Q (.ref p) H2 := by
  have e2 : Exh F1 ρ1 H1 F2 ρ1 H2 := exd_exh (H2 := H2) (u := .lst []) hp x
  have e3 := e1.trans e2
  have hp0 : H p = none := by
    cases z : H p with
    | none => rfl
    | some o =>
      by_cases hm : p ∈ ρ
      · exact absurd (e1.r.subset hm) np
      · have := e1.k p o z hm
        rw [hp] at this; cases this
  unfold mkL at fin
  split at fin
  · cases m with
    | true =>
      refine fin F2 (ρ1 ++ [p]) H2 _ ⟨⟨e3.f, e3.r.trans (List.prefix_append _ _)⟩, e3.k, fun b hb => ?_, e3.m⟩ (st.adoptC f2 np hH q) ⟨p, ?_, rfl⟩
      · rcases List.mem_append.mp hb with z | z
        · exact e3.n b z
        · rw [List.mem_singleton] at z
          rw [z]
          exact .inr hp0
      · rw [← st.len, List.getElem?_append_right (Nat.le_refl _), Nat.sub_self]
        rfl
    | false =>
      obtain ⟨s3, sm⟩ := st.adoptF f2 np hH
      refine fin _ ρ1 H2 _ ⟨⟨e3.f.trans sm, e3.r⟩, e3.k, e3.n, fun b o e hb f => ?_⟩ s3 (.lst upd_same (DqA.mono sm _ _ q))
      rw [upd_ne (ne_of_none e hp0)]
      exact e3.m b o e hb f
  · exact fin.elim
theorem lc_read {K : PySem.W.Frag} {W : WX} {mi : Env → Hs → R (List D)} {own : List Nat} {t : Tg} {ifs : Sm} {me : Env → Hs → R D} {m : Bool} (hown : ∀ i ∈ slots t, i ∈ own) {τ : St} {H : Hp} {Q : VK}
    (q : rV K W (fun σ h => (mi σ h).bind fun ds h1 => (compL h1.length (turn own t ifs (fun σ2 h3 => some1 (me σ2 h3)) σ) ds h1).bind fun ys h2 => noX (mkL m ys h2)) τ H Q) :
    tLc (rI K W mi) (gT K t) (rT K noW ifs.ts) (rV K noW me) own τ H Q := by
  obtain ⟨F, ρ, σ, h, st, eo, fin⟩ := q
  dsimp only at fin
  refine ⟨F, ρ, σ, h, st, eo, ?_⟩
  cases ei : mi σ h with
  | ok ds h1 =>
    rw [ei] at fin
    have fin : Fin K F ρ H ((compL h1.length (turn own t ifs (fun σ2 h3 => some1 (me σ2 h3)) σ) ds h1).bind fun ys h2 => noX (mkL m ys h2)) Q (wt W τ) := fin
    intro F1 ρ1 H1 J e1 st1 wd p hp
    cases ec : compL h1.length (turn own t ifs (fun σ2 h3 => some1 (me σ2 h3)) σ) ds h1 with
    | ok ys h2 =>
      rw [ec] at fin
      have fin : FinO K F ρ H (mkL m ys h2) Q := Fin.op fin
      have np : p ∉ ρ1 := fun hm => by
        obtain ⟨n, hn⟩ := List.getElem?_of_mem hm
        have hl : n < h1.length := by rw [← st1.len]; exact (List.getElem?_eq_some_iff.mp hn).1
        obtain ⟨_, u, hu⟩ := st1.cell n p _ hn (List.getElem?_eq_getElem hl)
        rw [hp] at hu; cases hu
      have fp : F1 p = none := by
        cases z : F1 p with
        | none => rfl
        | some u =>
          have := st1.same p u z
          rw [hp] at this; cases this
      have hz : ([] ++ ys.flatMap fun y => [y]).length ≤ sizeLine := by
        unfold mkL at fin
        split at fin
        · rename_i hz
          simpa using hz
        · exact fin.elim
      refine comp_loop (fun y => [y]) (acc0 := []) (done0 := []) wd (st1.more hp) upd_same fp np .nil (by rw [st1.len]; exact ec) hz (fun F2 H2 acc x2 st2 f2 hH2 q2 => ?_) fun d x F2 H' hh acc done o h3 Nx a1 a2 a3 a4 a5 a6 a7 a8 a9 => turn1 (eo.mono e1.toExt) hown np ⟨_, upd_same⟩ d x F2 H' hh acc done o h3 Nx a1 a2 a3 a4 a5 a6 a7 a8 a9
      exact comp_done e1 hp np x2 st2 f2 hH2 (by simpa using q2) fin
    | ex _ _ => exact (compL_ne (fun _ _ _ _ => turn_ne) _ _ _ _ ec).elim
    | no => rw [ec] at fin; exact fin.elim
  | ex _ _ => rw [ei] at fin; exact fin
  | no => rw [ei] at fin; exact fin
end
end En
/-! En: list comprehensions of two clauses -/
namespace En
open PySem L2
variable [Wd]
theorem lc2_read {K : PySem.W.Frag} {W : WX} {mi mi1 : Env → Hs → R (List D)} {own vs1 : List Nat} {t t1 : Tg} {ifs ifs1 : Sm} {me : Env → Hs → R D} (hown : ∀ i ∈ slots t, i ∈ own) (hown1 : ∀ i ∈ slots t1, i ∈ vs1) {τ : St} {H : Hp} {Q : VK}
    (q : rV K W (fun σ h => (mi σ h).bind fun ds h1 => (compL h1.length (turn own t ifs (in2 mi1 vs1 t1 ifs1 me) σ) ds h1).bind fun yss h2 => noX (mkL false (yss.flatMap unL) h2)) τ H Q) :
    tLc2 (rI K W mi) (gT K t) (rT K noW ifs.ts) (rI K noW mi1) (gT K t1) (rT K noW ifs1.ts) (rV K noW me) own vs1 τ H Q := by
  obtain ⟨F, ρ, σ, h, st, eo, fin⟩ := q
  dsimp only at fin
  refine ⟨F, ρ, σ, h, st, eo, ?_⟩
  cases ei : mi σ h with
  | ok ds h1 =>
    rw [ei] at fin
    have fin : Fin K F ρ H ((compL h1.length (turn own t ifs (in2 mi1 vs1 t1 ifs1 me) σ) ds h1).bind fun yss h2 => noX (mkL false (yss.flatMap unL) h2)) Q (wt W τ) := fin
    intro F1 ρ1 H1 J e1 st1 wd p hp
    cases ec : compL h1.length (turn own t ifs (in2 mi1 vs1 t1 ifs1 me) σ) ds h1 with
    | ok ys h2 =>
      rw [ec] at fin
      have fin : FinO K F ρ H (mkL false (ys.flatMap unL) h2) Q := Fin.op fin
      have np : p ∉ ρ1 := fun hm => by
        obtain ⟨n, hn⟩ := List.getElem?_of_mem hm
        have hl : n < h1.length := by rw [← st1.len]; exact (List.getElem?_eq_some_iff.mp hn).1
        obtain ⟨_, u, hu⟩ := st1.cell n p _ hn (List.getElem?_eq_getElem hl)
        rw [hp] at hu; cases hu
      have fp : F1 p = none := by
        cases z : F1 p with
        | none => rfl
        | some u =>
          have := st1.same p u z
          rw [hp] at this; cases this
      have hz : ([] ++ ys.flatMap unL).length ≤ sizeLine := by
        unfold mkL at fin
        split at fin
        · rename_i hz
          simpa using hz
        · exact fin.elim
      have hp1 : ∃ u, upd H1 p (.lst []) p = some u := ⟨_, upd_same⟩
      refine comp_loop unL (acc0 := []) (done0 := []) wd (st1.more hp) upd_same fp np .nil (by rw [st1.len]; exact ec) hz (fun F2 H2 acc x2 st2 f2 hH2 q2 => ?_) fun d x F2 H' hh acc done o h3 Nx ef ex st r f2 hH q hz nx => ?_
      · exact comp_done e1 hp np x2 st2 f2 hH2 (by simpa using q2) fin
      · obtain ⟨σ2, b, h3', a1, a2, a3⟩ := turn_inv ef
        refine ⟨F2, ρ1, wipeE σ own, hh, d, σ2, st, ((eo.mono e1.toExt).mono ex.toExt).wipe own, r, a1, fun τ2 eo2 hw => ⟨(hw own hown).trans (wipe_idem τ own), F2, ρ1, σ2, hh, st, eo2, ?_⟩⟩
        rw [a2]
        intro F4 ρ4 H4 x4 st4
        have hH4 : H4 p = some (.lst acc) := x4.k p _ hH np
        have f4 : F4 p = none := x4.m p _ hH np f2
        have back : ∀ {F5 H5 : Hp} {ρ5 : List Addr} {h5 : Hs}, Exd p F2 ρ1 H' F5 ρ5 H5 → Stt K F5 ρ5 h5 H5 → Stt K F5 ρ1 (h5.take ρ1.length) H5 ∧ Exd p F1 ρ1 (upd H1 p (.lst [])) F5 ρ1 H5 := fun {F5 H5 ρ5 h5} x5 st5 => by
          have c := st5.cut ρ1.length
          rw [take_pre x5.r] at c
          refine ⟨c, Exd.trans hH ex ?_ hp1⟩
          exact ⟨⟨x5.f, List.prefix_refl ρ1⟩, x5.k, fun _ e => .inl e, x5.m⟩
        cases b with
        | false =>
          obtain ⟨rfl, rfl⟩ : o = none ∧ h3 = h3' := by simpa using a3
          simp only [Bool.false_eq_true, if_false]
          obtain ⟨c1, c2⟩ := back x4.exd st4
          exact nx F4 H4 acc c2 c1 f4 hH4 (by simpa using DqA.mono x4.f _ _ q)
        | true =>
          have a3 : in2 mi1 vs1 t1 ifs1 me σ2 h3' = .ok o h3 := by simpa using a3
          unfold in2 at a3
          obtain ⟨ds1, h4, b1, b2⟩ := bind_ok a3
          obtain ⟨ys1, h5, b3, b4⟩ := bind_ok b2
          cases b4
          simp only [if_true]
          refine ⟨F4, ρ4, σ2, h3', st4, eo2.mono x4.toExt, ?_⟩
          rw [b1]
          intro F5 ρ5 H5 J1 x5 st5 wd1
          have np4 : p ∉ ρ4 := fun z => by
            rcases x4.n p z with z | z
            · exact np z
            · rw [hH] at z; cases z
          have hH5 : H5 p = some (.lst acc) := x5.k p _ hH4 np4
          have f5 : F5 p = none := x5.m p _ hH4 np4 f4
          have np5 : p ∉ ρ5 := fun z => by
            rcases x5.n p z with z | z
            · exact np4 z
            · rw [hH4] at z; cases z
          have x45 := x4.trans x5
          refine comp_loop (fun y => [y]) (acc0 := acc) (done0 := done) wd1 st5 hH5 f5 np5 (DqA.mono x45.f _ _ q) (by rw [st5.len]; exact b3) ?_ (fun F6 H6 acc6 x6 st6 f6 hH6 q6 => ?_) fun d x F2 H' hh acc done o h3 Nx a1 a2 a3 a4 a5 a6 a7 a8 a9 =>
            turn1 ((eo2.mono x4.toExt).mono x5.toExt) hown1 np5 ⟨_, hH5⟩ d x F2 H' hh acc done o h3 Nx a1 a2 a3 a4 a5 a6 a7 a8 a9
          · simpa [unL] using hz
          · obtain ⟨c1, c2⟩ := back (Exd.trans hH5 x45.exd x6 ⟨_, hH⟩) st6
            refine nx F6 H6 acc6 c2 c1 f6 hH6 ?_
            simpa [unL] using q6
    | ex _ _ => exact (compL_ne (fun _ _ _ _ => turn_ne) _ _ _ _ ec).elim
    | no => rw [ec] at fin; exact fin.elim
  | ex _ _ => rw [ei] at fin; exact fin
  | no => rw [ei] at fin; exact fin
end En
/-! En: the look at a text, and what it is worth -/
namespace En
open PySem L2
variable [Wd]

/-- a call with keywords: how many come ahead, their names, whence each parameter has its value -/
abbrev Kw := Str × Nat × List Str × List Nat
/-- a class with slots: its def of __init__, slots, methods, their calls with keywords -/
structure Kl where
  c : Str
  init : Str
  sl : List (Str × Nat)
  mt : List (Str × Str)
  kw : List Kw
structure Ck where
  N : List Str
  sc : Scope
  fn : Str → Bool
  fs : List Str
  G : List (Str × PyData)
  kw : List Kw
  cs : List Kl
  ix : List (Str × List (Str × Bool))
  xf : List (Str × Str)
def Ck.kl (ck : Ck) (c : Str) : Option Kl := ck.cs.find? fun k => decide (k.c = c)

def Ck.gl (ck : Ck) (x : Str) : Bool := match ck.sc.names.lookup x with
  | some .globalImplicit => true
  | _ => false
def Ck.vis (ck : Ck) (x : Str) : Bool := match ck.sc.names.lookup x with
  | some .local => true
  | some .cell => true
  | some .free => true
  | _ => false
def okNm (x : Str) : Bool := !(x == Str.ofString "__debug__") && !(x == Str.ofString "__classdict__") && !(x == Str.ofString "__name__")
def Ck.blk (ck : Ck) (scope : Scope) : Ck := { ck with sc := relS scope ck.sc, fn := fun x => scope.names.lookup x == some .cell }

def notStar : Expr → Bool
  | .Starred _ _ => false
  | _ => true
def noStars : List Expr → Bool
  | [] => true
  | e :: es => notStar e && noStars es
def notSet : Expr → Bool
  | .Set _ _ _ => false
  | _ => true
def notComp : Expr → Bool
  | .ListComp _ _ _ _ => false
  | .SetComp _ _ _ _ => false
  | .DictComp _ _ _ _ _ => false
  | _ => true
def notSlice : Expr → Bool
  | .Slice _ _ _ _ => false
  | _ => true
def notSuper : Expr → Bool
  | .Call (.Name _ _) [] [] _ => false
  | _ => true
def isNilE : E → Bool
  | .nil => true
  | _ => false
def cstOk : PyData → Const → Bool
  | .none, .none => true
  | .bool a, .bool b => a == b
  | .int a, .int b => a == b
  | .str a, .str b => a == b
  | _, _ => false
def cstEq : PyData → Option PyData → Bool
  | .int a, some (.int b) => a == b
  | .str a, some (.str b) => a == b
  | _, _ => false
def biNm : Bi → Str
  | .abs => Str.ofString "abs"
  | .int => Str.ofString "int"
  | .len => Str.ofString "len"
  | .tuple => Str.ofString "tuple"
  | .list => Str.ofString "list"
  | .all => Str.ofString "all"
  | .any => Str.ofString "any"
  | .min => Str.ofString "min"
  | .max => Str.ofString "max"
  | .sorted => Str.ofString "sorted"
def mtNm : Mt → Str
  | .append => Str.ofString "append"
  | .extend => Str.ofString "extend"
  | .join => Str.ofString "join"
  | .startswith => Str.ofString "startswith"
  | .pop => Str.ofString "pop"
  | .index => Str.ofString "index"
def tyNm (t : Ty) : Str := Str.ofString (nmTy t)
def bnames : List Str := [Str.ofString "abs", Str.ofString "int", Str.ofString "len", Str.ofString "tuple", Str.ofString "list", Str.ofString "all", Str.ofString "any", Str.ofString "isinstance", Str.ofString "bool",
  Str.ofString "str", Str.ofString "dict", Str.ofString "enumerate", Str.ofString "zip", Str.ofString "range", Str.ofString "min", Str.ofString "max", Str.ofString "sorted"]
def ownN (N : List Str) (own : List Nat) : List (Str × Nat) := own.map fun i => (N.getD i (Str.ofString ""), i)

structure Ch where
  e : Ck → Expr → Bool
  l : Ck → List Expr → Bool
  o : Ck → Option Expr → Bool
  i : Ck → Expr → Expr → Bool
def chV (e : Ck → Expr → Bool) : Ch := ⟨e, fun _ _ => false, fun _ _ => false, fun ck _ x => e ck x && notSet x⟩
def chI (i : Ck → Expr → Expr → Bool) : Ch := ⟨fun _ _ => false, fun _ _ => false, fun _ _ => false, i⟩
def ckTys (ck : Ck) : List Ty → List Expr → Bool
  | [], [] => true
  | t :: ts, .Name x _ :: es => decide (x = tyNm t) && ck.gl x && ckTys ck ts es
  | _, _ => false
def sub (xs ys : List Nat) : Bool := xs.all fun i => ys.contains i

def chk : E → Ch
  | .nil => ⟨fun _ _ => false, fun _ es => es.isEmpty, fun _ o => o.isNone, fun _ _ _ => false⟩
  | .cons a r => ⟨fun _ _ => false, fun ck es => match es with
      | x :: xs => notStar x && (chk a).e ck x && (chk r).l ck xs
      | [] => false, fun ck o => match o with
      | some x => (chk a).e ck x && isNilE r
      | none => false, fun _ _ _ => false⟩
  | .star a r => ⟨fun _ _ => false, fun ck es => match es with
      | .Starred x _ :: xs => (chk a).e ck x && (chk r).l ck xs
      | _ => false, fun _ _ => false, fun _ _ _ => false⟩
  | .fz a => chV fun ck e => (chk a).e ck e && (match e with | .Name _ _ => true | _ => false)
  | .var i => chV fun ck e => match e with
    | .Name x _ => decide (ck.N[i]? = some x) && ck.vis x && okNm x
    | _ => false
  | .glo y v => chV fun ck e => match e with
    | .Name x _ => decide (x = y) && ck.gl x && okNm x && cstEq v (ck.G.lookup x)
    | _ => false
  | .cst v => chV fun _ e => match e with
    | .Constant c _ _ => cstOk v c
    | _ => false
  | .bin o _ a b => chV fun ck e => match e with
    | .BinOp x p y _ => decide (o = p) && (chk a).e ck x && (chk b).e ck y
    | _ => false
  | .neg a => chV fun ck e => match e with
    | .UnaryOp .USub x _ => (chk a).e ck x
    | _ => false
  | .cmp o a b => chV fun ck e => match e with
    | .Compare x [p] [y] _ => decide (o = p) && (chk a).e ck x && (chk b).e ck y && !(behindInMarks p y)
    | _ => false
  | .chn o p a b c => chV fun ck e => match e with
    | .Compare x [o', p'] [y, z] _ => decide (o = o') && decide (p = p') && (chk a).e ck x && (chk b).e ck y && (chk c).e ck z && !(lastMarks [o', p'] [y, z])
    | _ => false
  | .bop o es => chV fun ck e => match e with
    | .BoolOp p (x :: xs) _ => decide (o = p) && (chk es).l ck (x :: xs)
    | _ => false
  | .not a => chV fun ck e => match e with
    | .UnaryOp .Not x _ => (chk a).e ck x
    | _ => false
  | .ife c a b => chV fun ck e => match e with
    | .IfExp x y z _ => (chk c).e ck x && (chk a).e ck y && (chk b).e ck z
    | _ => false
  | .tup es => chV fun ck e => match e with
    | .Tuple xs _ _ => (chk es).l ck xs
    | _ => false
  | .lst _ es => chV fun ck e => match e with
    | .List xs _ => (chk es).l ck xs
    | _ => false
  | .ix a i => chV fun ck e => match e with
    | .Subscript x y _ => (chk a).e ck x && (chk i).e ck y && notSlice y
    | _ => false
  | .sl a lo hi => chV fun ck e => match e with
    | .Subscript x (.Slice l u none _) _ => (chk a).e ck x && (chk lo).o ck l && (chk hi).o ck u
    | _ => false
  | .call f _ es => chV fun ck e => match e with
    | .Call (.Name x _) ys [] _ => decide (x = f) && ck.fs.contains f && ck.gl x && okNm x && (chk es).l ck ys && noStars ys
    | _ => false
  | .callk f _ es ks ord kes => chV fun ck e => match e with
    | .Call (.Name x _) ys kws _ => decide (x = f) && ck.fs.contains f && ck.kw.contains (f, 0, ks, ord) && ys.isEmpty && ck.gl x && okNm x && (chk es).l ck ys && noStars ys && decide (kws.map (·.arg) = ks.map some) && decide (ks ≠ []) && (chk kes).l ck (kws.map (·.value)) && noStars (kws.map (·.value))
    | _ => false
  | .isx a c tab => chV fun ck e => match e with
    | .Call (.Name x _) [y, .Name z _] [] _ => false && decide (x = Str.ofString "isinstance") && ck.gl x && notStar y && (chk a).e ck y && decide (z = c) && ck.gl z && okNm z && ck.ix.contains (c, tab)
    | _ => false
  | .fld a f => chV fun ck e => match e with
    | .Attribute y g _ => false && decide (g = f) && (chk a).e ck y && notSuper y && ck.xf.any (fun p => decide (p.2 = f))
    | _ => false
  | .make c g es => chV fun ck e => match e with
    | .Call (.Name x _) (y :: ys) [] _ => decide (x = c) && (match ck.kl c with | some k => decide (k.init = g) | none => false) && ck.gl x && okNm x && (chk es).l ck (y :: ys) && noStars (y :: ys)
    | _ => false
  | .mcl c m g o es => chV fun ck e => match e with
    | .Call (.Attribute x nm ap) ys [] cp => decide (nm = m) && (match ck.kl c with | some k => k.mt.contains (m, g) | none => false) && (chk o).e ck x && notSuper x && (ap.endLine == cp.line) && (chk es).l ck ys && noStars ys && decide (ys.length < 20)
    | _ => false
  | .mclk c m g o es ks ord kes => chV fun ck e => match e with
    | .Call (.Attribute x nm ap) ys kws cp => decide (nm = m) && (match ck.kl c with | some k => k.mt.contains (m, g) && k.kw.contains (g, 0, ks, ord) && ys.isEmpty | none => false) && (chk o).e ck x && notSuper x && (ap.endLine == cp.line) && (chk es).l ck ys && noStars ys && decide (ys.length + kws.length < 20) &&
        decide (kws.map (·.arg) = ks.map some) && decide (ks ≠ []) && (chk kes).l ck (kws.map (·.value)) && noStars (kws.map (·.value))
    | _ => false
  | .slt c f i a => chV fun ck e => match e with
    | .Attribute x nm _ => decide (nm = f) && (match ck.kl c with | some k => k.sl.contains (f, i) | none => false) && (chk a).e ck x && notSuper x
    | _ => false
  | .eqo n c g a b => chV fun ck e => match e with
    | .Compare x [p] [y] _ => !n && decide (p = CmpOp.Eq) && (match ck.kl c with | some k => k.mt.contains (Str.ofString "__eq__", g) | none => false) && (chk a).e ck x && (chk b).e ck y && !(behindInMarks p y)
    | _ => false
  | .ino c g a b => chV fun ck e => match e with
    | .Compare x [p] [y] _ => decide (p = CmpOp.In) && (match ck.kl c with | some k => k.mt.contains (Str.ofString "__contains__", g) | none => false) && (chk a).e ck x && (chk b).e ck y && !(behindInMarks p y)
    | _ => false
  | .isc a c => chV fun ck e => match e with
    | .Call (.Name x _) [y, .Name z _] [] _ => decide (x = Str.ofString "isinstance") && ck.gl x && notStar y && (chk a).e ck y && decide (z = c) && ck.gl z && okNm z && (ck.kl c).isSome
    | _ => false
  | .bi b _ es => chV fun ck e => match e with
    | .Call (.Name x _) (y :: ys) [] _ => decide (x = biNm b) && ck.gl x && (chk es).l ck (y :: ys) && noStars (y :: ys)
    | _ => false
  | .isi a ts t => chV fun ck e => match e with
    | .Call (.Name x _) [y, z] [] _ => decide (x = Str.ofString "isinstance") && ck.gl x && notStar y && (chk a).e ck y && (match t, z with
      | false, .Name n _ => (match ts with | [q] => decide (n = tyNm q) && ck.gl n | _ => false)
      | true, .Tuple es _ _ => ckTys ck ts es && decide (ts.length ≤ 100)
      | _, _ => false)
    | _ => false
  | .mth m o es => chV fun ck e => match e with
    | .Call (.Attribute x nm ap) (y :: ys) [] cp => decide (nm = mtNm m) && (chk o).e ck x && notSuper x && (ap.endLine == cp.line) && (chk es).l ck (y :: ys) && noStars (y :: ys) && decide ((y :: ys).length < 20)
    | _ => false
  | .dz a b => chV fun ck e => match e with
    | .Call (.Name x _) [.Call (.Name z _) [u, v] [] _] [] _ => decide (x = Str.ofString "dict") && decide (z = Str.ofString "zip") && ck.gl x && ck.gl z && notStar u && notStar v && (chk a).e ck u && (chk b).e ck v
    | _ => false
  | .lc _ own t it ifs elt => chV fun ck e => match e with
    | .ListComp x [⟨tg, iter, is, 0⟩] scope _ => (chk it).i ck tg iter && notSet iter && blkC ck.N ck.sc scope (ownN ck.N own) && ckTg (ck.blk scope).N (ck.blk scope).sc (ck.blk scope).fn t tg && (chk ifs).l (ck.blk scope) is && decide (is.length ≤ 1) &&
        (chk elt).e (ck.blk scope) x && sub (slots t) own
    | _ => false
  | .lc2 own vs1 t it ifs t1 it1 ifs1 elt => chV fun ck e => match e with
    | .ListComp x [⟨tg, iter, is, 0⟩, ⟨tg1, iter1, is1, 0⟩] scope _ => (chk it).i ck tg iter && notSet iter && notSet iter1 && blkC ck.N ck.sc scope (ownN ck.N own) && ckTg (ck.blk scope).N (ck.blk scope).sc (ck.blk scope).fn t tg && (chk ifs).l (ck.blk scope) is &&
        decide (is.length ≤ 1) && (chk it1).i (ck.blk scope) tg1 iter1 && ckTg (ck.blk scope).N (ck.blk scope).sc (ck.blk scope).fn t1 tg1 && (chk ifs1).l (ck.blk scope) is1 && decide (is1.length ≤ 1) && (chk elt).e (ck.blk scope) x && sub (slots t) own &&
        sub (slots t1) vs1 && sub vs1 own
    | _ => false
  | .dc own t it ifs k v => chV fun ck e => match e with
    | .DictComp x y [⟨tg, iter, is, 0⟩] scope _ => (chk it).i ck tg iter && notSet iter && blkC ck.N ck.sc scope (ownN ck.N own) && ckTg (ck.blk scope).N (ck.blk scope).sc (ck.blk scope).fn t tg && (chk ifs).l (ck.blk scope) is && decide (is.length ≤ 1) &&
        (chk k).e (ck.blk scope) x && (chk v).e (ck.blk scope) y && sub (slots t) own
    | _ => false
  | .enu a => chI fun ck tg e => match tg, e with
    | .Tuple _ _ _, .Call (.Name x _) [y] [] _ => decide (x = Str.ofString "enumerate") && ck.gl x && notStar y && (chk a).e ck y
    | _, _ => false
  | .zip a b => chI fun ck tg e => match tg, e with
    | .Tuple _ _ _, .Call (.Name x _) [y, z] [] _ => decide (x = Str.ofString "zip") && ck.gl x && notStar y && notStar z && (chk a).e ck y && (chk b).e ck z
    | _, _ => false
  | .rng a => chI fun ck _ e => match e with
    | .Call (.Name x _) [y] [] _ => decide (x = Str.ofString "range") && ck.gl x && notStar y && (chk a).e ck y
    | _ => false
  | .rng2 a b => chI fun ck _ e => match e with
    | .Call (.Name x _) [y, z] [] _ => decide (x = Str.ofString "range") && ck.gl x && notStar y && notStar z && (chk a).e ck y && (chk b).e ck z
    | _ => false
end En
/-! En: expressions keep to the evaluator -/
namespace En
open PySem L2
variable [Wd]
variable {W : WX}

theorem star_cons {e : Expr} {es : List Expr} {env : PySem.Env} (h : notStar e = true) : starEach (e :: es) env = (false, eval e env) :: starEach es env := by
  cases e <;> first | rfl | cases h
theorem star_any (pos : Pos) (env : PySem.Env) : ∀ es : List Expr, noStars es = true → (backTo pos (starEach es env)).any (·.1) = false ∧ (backTo pos (starEach es env)).all (fun x => !x.1) = true
  | [], _ => ⟨rfl, rfl⟩
  | e :: es, h => by
    unfold noStars at h
    simp only [Bool.and_eq_true] at h
    obtain ⟨i1, i2⟩ := star_any pos env es h.2
    rw [star_cons h.1]
    refine ⟨?_, ?_⟩
    · show (false || (backTo pos (starEach es env)).any (·.1)) = false
      rw [i1]; rfl
    · show (!false && (backTo pos (starEach es env)).all (fun x => !x.1)) = true
      rw [i2]; rfl
theorem fset_ok {e : Expr} (h : notSet e = true) (env : PySem.Env) (x : Value) : foldedSetIterable e env x = pure x := by
  cases e <;> first | rfl | cases h
theorem plain_ix {e : Expr} (h : notSlice e = true) : PlainIx e := by
  intro o i
  cases e <;> first | rfl | cases h
theorem base_ok {o : Expr} (h : notSuper o = true) (a : Str) (env : PySem.Env) (w : Sem Value) : attributeBase o a env w = w := by
  unfold attributeBase
  split
  · cases h
  · rfl

/-- a def's promise: what the evaluator gives -/
def spD (K : PySem.W.Frag) (n : Nat) (c : List D → Hs → R D) : Sp := fun vs H Q E => vs.length = n ∧ ∃ F ρ h ds, Stt K F ρ h H ∧ RepL K F ρ ds vs ∧ Fin K F ρ H (c ds h) Q E
abbrev CXp (X : Cx) : CXT := L2.CX X.prog X.w
/-- a def of the program: it stands at a -/
structure FnA (X : Cx) (C : Str → List D → Hs → R D) (k : Nat) (g : Str) (a : Addr) (fd : FuncData) (ps : List Str) : Prop where
  keep : PySem.W.keepIn X.K (.ref a) = true
  binds : Binds X.K fd ps []
  len : ∀ ds h, C g ds h ≠ .no → ds.length = ps.length
  ok : FnOk X.prog X.w X.K X.mg X.base (CXp X) k a fd ps (spD X.K ps.length (C g))
/-- the values in the parameters' order -/
def pick {α : Type} (xs : List α) (ord : List Nat) : List α := ord.filterMap fun i => xs[i]?
/-- a call with keywords binds so -/
def KwOk (K : PySem.W.Frag) (fd : FuncData) (ps : List Str) (pre n : Nat) (ks : List Str) (ord : List Nat) : Prop :=
  ∀ (s : Shared) (ss us ws : List Value), K.In s.heap → ss.length = pre → us.length = n → ws.length = ks.length → BindsTo s fd ⟨ss ++ us, ks.zip ws⟩ (ps.zip (ss ++ pick (us ++ ws) ord))
/-- a class with slots -/
structure KlA (X : Cx) (C : Str → List D → Hs → R D) (k : Nat) (kl : Kl) (A : Addr) : Prop where
  mg : X.mg kl.c = some (.ref A)
  wm : Wd.mg kl.c = some (.ref A)
  sc : SlX.SCls X.K A
  si : SlX.SIsi X.K A
  nf : PySem.W.notFirst X.K A (.ref A) = true
  kit : PySem.W.kitOne X.K (.ref A) (.ref A) = some true
  sl : ∀ f i, (f, i) ∈ kl.sl → ∃ p, SlX.Slot1 X.K A f p i
  init : ∃ a fd ps, Mk X.K A a ∧ FnA X C k kl.init a fd ps
  mt : ∀ m g, (m, g) ∈ kl.mt → ∃ a fd ps, Meth X.K A m a ∧ FnA X C k g a fd ps ∧ ∀ n ks ord, (g, n, ks, ord) ∈ kl.kw → KwOk X.K fd ps 1 n ks ord
  eq : ∀ g, (Str.ofString "__eq__", g) ∈ kl.mt → ∃ a fd ps, PySem.W.findIn X.K (.ref A) "__eq__" = some (some (.ref a)) ∧ PySem.W.isFn X.K (.ref a) = true ∧ FnA X C k g a fd ps
/-- a context in which a text of the language runs -/
structure Fit (X : Cx) (ck : Ck) (C : Str → List D → Hs → R D) (k : Nat) (W : WX) : Prop where
  N : X.N = ck.N
  nd : X.N.Nodup
  sc : X.env.scope = ck.sc
  fn : X.fn = ck.fn
  calm : X.calm = true
  wd : X.w = Wd.w
  room : Room (k + 2) X.A
  pass : PassesOwn (model X.prog X.w) X.A X.env X.xe
  tk : Takes X W
  blt : ∀ x ∈ bnames, X.mg x = none
  glo : ∀ x v, ck.G.lookup x = some v → ∃ u w, X.mg x = some u ∧ RelV w u ∧ ∀ F, Dq X.K F w v
  fns : ∀ f ∈ ck.fs, ∃ a fd ps, X.mg f = some (.ref a) ∧ FnA X C k f a fd ps ∧ ∀ n ks ord, (f, n, ks, ord) ∈ ck.kw → KwOk X.K fd ps 0 n ks ord
  cls : ∀ kl ∈ ck.cs, ∃ A, KlA X C k kl A
  ixs : ∀ c tab, (c, tab) ∈ ck.ix → ∃ u, (X.mg c = some u ∨ (X.mg c = none ∧ bootBuiltins c = some u ∧ c ≠ "__name__")) ∧ ∀ x b, tab.lookup x = some b → ∃ A, Wd.mg x = some (.ref A) ∧ PySem.W.kitOne X.K (.ref A) u = some b
section
variable {X : Cx} {ck : Ck} {C : Str → List D → Hs → R D} {k : Nat}
theorem Fit.room0 (f : Fit X ck C k W) : Room k X.A := f.room.mono (by omega)
theorem Fit.units (f : Fit X ck C k W) : X.A.units + 100 < cLine := by
  have := f.room.un
  omega
theorem Fit.gl (f : Fit X ck C k W) {x : Str} (h : ck.gl x = true) : Gl X x := by
  unfold Ck.gl at h
  unfold Gl PySem.Env.kindOf
  rw [f.sc]
  split at h
  · assumption
  · cases h
theorem Fit.vis (f : Fit X ck C k W) {x : Str} (h : ck.vis x = true) : Vis X.env.scope x := by
  unfold Ck.vis at h
  rw [f.sc]
  split at h
  · rename_i e; exact .inl e
  · rename_i e; exact .inr (.inl e)
  · rename_i e; exact .inr (.inr e)
  · cases h
theorem Fit.blk (f : Fit X ck C k W) (s : Shared) (H : Hp) (scope : Scope) (cl : List (Str × Addr)) (Ca : Addr) (fp : List Addr) : Fit (X.blk s H scope (compEnvC scope cl Ca X.env) fp) (ck.blk scope) C k noW where
  N := f.N
  nd := f.nd
  sc := by
    show relS scope X.env.scope = relS scope ck.sc
    rw [f.sc]
  fn := rfl
  calm := f.calm
  wd := f.wd
  room := f.room
  pass := PassesOwn.never
  tk := takes_none5
  blt := f.blt
  glo := f.glo
  fns := fun g hg => by
    obtain ⟨a, fd, ps, h1, h2, h3⟩ := f.fns g hg
    exact ⟨a, fd, ps, h1, ⟨h2.keep, h2.binds, h2.len, h2.ok⟩, h3⟩
  cls := fun kl hk => by
    obtain ⟨A, h⟩ := f.cls kl hk
    exact ⟨A, ⟨h.mg, h.wm, h.sc, h.si, h.nf, h.kit, h.sl, by
      obtain ⟨a, fd, ps, h1, h2⟩ := h.init
      exact ⟨a, fd, ps, h1, ⟨h2.keep, h2.binds, h2.len, h2.ok⟩⟩, fun m g hm => by
      obtain ⟨a, fd, ps, h1, h2, h3⟩ := h.mt m g hm
      exact ⟨a, fd, ps, h1, ⟨h2.keep, h2.binds, h2.len, h2.ok⟩, h3⟩, fun g hm => by
      obtain ⟨a, fd, ps, h1, h2, h3⟩ := h.eq g hm
      exact ⟨a, fd, ps, h1, h2, ⟨h3.keep, h3.binds, h3.len, h3.ok⟩⟩⟩⟩
  ixs := f.ixs

def FinP (K : PySem.W.Frag) (F : Hp) (ρ : List Addr) (H : Hp) (r : R (Option D)) (Q : Option Int → Hp → Prop) (E : XK) : Prop := match r with
  | .ok d h' => ∀ (F' : Hp) (ρ' : List Addr) (H' : Hp), Exh F ρ H F' ρ' H' → Stt K F' ρ' h' H' → ∃ o, bnd d = some o ∧ Q o H'
  | .ex x h' => FinX K F ρ H x h' E
  | .no => False
def rOp (K : PySem.W.Frag) (W : WX) (m : Env → Hs → R (Option D)) : TO := fun τ H Q => ∃ F ρ σ h, Stt K F ρ h H ∧ EnvOk K F ρ σ τ ∧ FinP K F ρ H (m σ h) Q (wt W τ)
theorem ff {P : Prop} (q : false = true) : P := by cases q
/-- all that is shown of a piece -/
structure Snd (X : Cx) (ck : Ck) (C : Str → List D → Hs → R D) (W : WX) (g : E) : Prop where
  e : ∀ x, (chk g).e ck x = true → PE X x (rV X.K W (sem C g).v)
  t : ∀ x, (chk g).e ck x = true → PT X x (rT X.K W (sem C g).t)
  l : ∀ xs, (chk g).l ck xs = true → PA X xs (rL X.K W (sem C g).l)
  o : ∀ x, (chk g).o ck x = true → PO X x (rOp X.K W (sem C g).o)
  b : ∀ op xs pos, xs ≠ [] → (chk g).l ck xs = true → PE X (.BoolOp op xs pos) (rV X.K W ((sem C g).b op))
  tb : ∀ op xs pos, xs ≠ [] → (chk g).l ck xs = true → PW X (.BoolOp op xs pos) (rT X.K W ((sem C g).tb op))
  ts : ∀ xs, xs.length ≤ 1 → (chk g).l ck xs = true → PTs X xs (rT X.K W (sem C g).ts)
  i : ∀ tg x, notSet x = true → (chk g).i ck tg x = true → PI X tg x (rI X.K W (sem C g).it)
  k : ∀ kws : List Keyword, (chk g).l ck (kws.map (·.value)) = true → noStars (kws.map (·.value)) = true → PK X kws (rL X.K W (sem C g).l)
theorem finB_tru {K : PySem.W.Frag} {ma : Env → Hs → R D} {τ : St} {H : Hp} {Q : Bool → Hp → Prop} (q : rT K W (fun σ h => (ma σ h).bind fun x h1 => noX (truD x h1)) τ H Q) : rV K W ma τ H fun x H1 => ∃ b, TruV K x H1 b ∧ Q b H1 := by
  obtain ⟨F, ρ, σ, h, st, eo, fin⟩ := q
  dsimp only at fin
  refine ⟨F, ρ, σ, h, st, eo, ?_⟩
  cases ea : ma σ h with
  | ok x h1 =>
    rw [ea] at fin
    replace fin : FinB K F ρ H (noX (truD x h1)) Q (wt W τ) := fin
    intro F1 ρ1 H1 v e1 st1 r1
    cases et : truD x h1 with
    | ok b h2 =>
      rw [et] at fin
      obtain ⟨rfl, t⟩ := tru_rep st1 r1 et
      exact ⟨b, t, fin F1 ρ1 H1 e1 st1⟩
    | ex _ _ => rw [et] at fin; exact fin.elim
    | no => rw [et] at fin; exact fin.elim
  | ex _ _ => rw [ea] at fin; exact fin
  | no => rw [ea] at fin; exact fin
/-- a test by truth -/
theorem pt_tru {x : Expr} {ma : Env → Hs → R D} (h : PE X x (rV X.K W ma)) (he : ∀ whole, isTrue x X.env whole = (do let v ← whole; standAt x.pos; holding [v] (truthy v))) : PT X x (rT X.K W fun σ h => (ma σ h).bind fun x h1 => noX (truD x h1)) :=
  PT.imp (pt_truth h he) fun τ H Q q => finB_tru q
/-- a value: what it is worth as a value and as a test -/
theorem Snd.val {e : E} {v : Env → Hs → R D} {c : Ck → Expr → Bool} (hs : sem C e = mkV v) (hc : chk e = chV c) (h : ∀ x, c ck x = true → PE X x (rV X.K W v) ∧ PT X x (rT X.K W fun σ h => (v σ h).bind fun x h1 => noX (truD x h1))) : Snd X ck C W e := by
  refine ⟨fun x q => ?_, fun x q => ?_, fun xs q => ?_, fun x q => ?_, fun op xs pos _ q => ?_, fun op xs pos _ q => ?_, fun xs _ q => ?_, fun tg x _ q => ?_, fun kws q _ => ?_⟩ <;> rw [hc] at q
  · rw [hs]; exact (h x q).1
  · rw [hs]; exact (h x q).2
  · cases q
  · cases q
  · cases q
  · cases q
  · cases q
  · have q : (c ck x && notSet x) = true := q
    simp only [Bool.and_eq_true] at q
    rw [hs]
    exact pi_val (h x q.1).1
  · cases q
theorem Snd.val2 {e : E} {v : Env → Hs → R D} {t : Env → Hs → R Bool} {c : Ck → Expr → Bool} (hs : sem C e = mkT v t) (hc : chk e = chV c) (h : ∀ x, c ck x = true → PE X x (rV X.K W v) ∧ PT X x (rT X.K W t)) : Snd X ck C W e := by
  refine ⟨fun x q => ?_, fun x q => ?_, fun xs q => ?_, fun x q => ?_, fun op xs pos _ q => ?_, fun op xs pos _ q => ?_, fun xs _ q => ?_, fun tg x _ q => ?_, fun kws q _ => ?_⟩ <;> rw [hc] at q
  · rw [hs]; exact (h x q).1
  · rw [hs]; exact (h x q).2
  · cases q
  · cases q
  · cases q
  · cases q
  · cases q
  · have q : (c ck x && notSet x) = true := q
    simp only [Bool.and_eq_true] at q
    rw [hs]
    exact pi_val (h x q.1).1
  · cases q
theorem Snd.itr {e : E} {w : Env → Hs → R (List D)} {c : Ck → Expr → Expr → Bool} (hs : sem C e = mkI w) (hc : chk e = chI c) (h : ∀ tg x, notSet x = true → c ck tg x = true → PI X tg x (rI X.K W w)) : Snd X ck C W e := by
  refine ⟨fun x q => ?_, fun x q => ?_, fun xs q => ?_, fun x q => ?_, fun op xs pos _ q => ?_, fun op xs pos _ q => ?_, fun xs _ q => ?_, fun tg x ns q => ?_, fun kws q _ => ?_⟩ <;> rw [hc] at q
  · cases q
  · cases q
  · cases q
  · cases q
  · cases q
  · cases q
  · cases q
  · rw [hs]; exact h tg x ns q
  · cases q

/-! ### rows of expressions -/
theorem snd_nil : Snd X ck C W .nil := by
  refine ⟨fun x q => ff q, fun x q => ff q, fun xs q => ?_, fun x q => ?_, fun op xs pos ne q => ?_, fun op xs pos ne q => ?_, fun xs _ q => ?_, fun tg x _ q => ff q, fun kws q _ => ?_⟩
  · cases xs with
    | nil =>
      refine PA.imp pa_nil fun τ H Q q => ?_
      obtain ⟨F, ρ, σ, h, st, eo, fin⟩ := q
      exact fin F ρ H [] (Exh.refl F ρ H) st rfl
    | cons _ _ => cases q
  · cases x with
    | none =>
      refine ⟨fun pins s τ H Q I q => po_none.run pins s τ H Q I ?_⟩
      obtain ⟨F, ρ, σ, h, st, eo, fin⟩ := q
      obtain ⟨o, e, q⟩ := fin F ρ H (Exh.refl F ρ H) st
      cases e
      exact q
    | some _ => cases q
  · cases xs with
    | nil => exact absurd rfl ne
    | cons _ _ => cases q
  · cases xs with
    | nil => exact absurd rfl ne
    | cons _ _ => cases q
  · cases xs with
    | nil =>
      refine ⟨fun pins s τ H Q I q => pts_nil.run pins s τ H Q I ?_⟩
      obtain ⟨F, ρ, σ, h, st, eo, fin⟩ := q
      exact fin F ρ H (Exh.refl F ρ H) st
    | cons _ _ => cases q
  · cases kws with
    | nil =>
      refine ⟨fun pos pins s τ H Q I q => pk_nil.run pos pins s τ H Q I ?_⟩
      obtain ⟨F, ρ, σ, h, st, eo, fin⟩ := q
      exact fin F ρ H [] (Exh.refl F ρ H) st rfl
    | cons _ _ => cases q
theorem nil_isNil (r : E) : (sem C r).nil = isNilE r := by cases r <;> rfl
theorem rest_nil {r : E} {xs : List Expr} (h : isNilE r = true) (q : (chk r).l ck xs = true) : xs = [] := by
  cases r with
  | nil =>
    cases xs with
    | nil => rfl
    | cons _ _ => cases q
  | _ => cases h
theorem rest_ne {r : E} {xs : List Expr} (h : isNilE r = false) (q : (chk r).l ck xs = true) : xs ≠ [] := by
  rintro rfl
  cases r with
  | nil => cases h
  | _ => cases q
theorem consL {K : PySem.W.Frag} {ma : Env → Hs → R D} {mr : Env → Hs → R (List D)} {τ : St} {H : Hp} {Q : List V → Hp → Prop} (q : rL K W (fun σ h => (ma σ h).bind fun x h1 => (mr σ h1).bind fun xs h2 => .ok (x :: xs) h2) τ H Q) : tCons (rV K W ma) (rL K W mr) τ H Q := by
  obtain ⟨F, ρ, σ, h, st, eo, fin⟩ := q
  dsimp only at fin
  refine ⟨F, ρ, σ, h, st, eo, ?_⟩
  cases ea : ma σ h with
  | ok x h1 =>
    rw [ea] at fin
    intro F1 ρ1 H1 v e1 st1 r1
    refine ⟨F1, ρ1, σ, h1, st1, eo.mono e1.toExt, ?_⟩
    replace fin : FinL K F ρ H ((mr σ h1).bind fun xs h2 => .ok (x :: xs) h2) Q (wt W τ) := fin
    cases eb : mr σ h1 with
    | ok xs h2 =>
      rw [eb] at fin
      intro F2 ρ2 H2 us e2 st2 r2
      exact fin F2 ρ2 H2 (v :: us) (e1.trans e2) st2 ⟨v, us, rfl, Rep.mono e2.toExt _ _ r1, r2⟩
    | ex _ _ => rw [eb] at fin; exact FinX.mono e1 fin
    | no => rw [eb] at fin; exact fin
  | ex _ _ => rw [ea] at fin; exact fin
  | no => rw [ea] at fin; exact fin
theorem starL {K : PySem.W.Frag} {ma : Env → Hs → R D} {mr : Env → Hs → R (List D)} {τ : St} {H : Hp} {Q : List V → Hp → Prop} (q : rL K W (fun σ h => (ma σ h).bind fun x h1 => match vwF x with
    | some (_, ys) => (mr σ h1).bind fun xs h2 => .ok (ys.map .d ++ xs) h2
    | none => .no) τ H Q) : StX.tStar K (rV K W ma) (rL K W mr) τ H Q := by
  obtain ⟨F, ρ, σ, h, st, eo, fin⟩ := q
  dsimp only at fin
  refine ⟨F, ρ, σ, h, st, eo, ?_⟩
  cases ea : ma σ h with
  | ok x h1 =>
    rw [ea] at fin
    intro F1 ρ1 H1 v e1 st1 r1
    replace fin : FinL K F ρ H (match vwF x with
      | some (_, ys) => (mr σ h1).bind fun xs h2 => .ok (ys.map .d ++ xs) h2
      | none => .no) Q (wt W τ) := fin
    split at fin
    · rename_i t ys hw
      obtain ⟨a, vs, rfl, q1, q2⟩ := vwF_ok r1 hw
      refine ⟨a, vs, rfl, ?_, F1, ρ1, σ, h1, st1, eo.mono e1.toExt, ?_⟩
      · cases t with
        | true => exact .inl (sqT_mono st1.same (by simpa using q2))
        | false => exact .inr (sqL_mono st1.same (by simpa using q2))
      · cases eb : mr σ h1 with
        | ok xs h2 =>
          rw [eb] at fin
          intro F2 ρ2 H2 us e2 st2 r2
          exact fin F2 ρ2 H2 (vs ++ us) (e1.trans e2) st2 ((repL_d (DqA.mono e2.f _ _ q1)).app r2)
        | ex _ _ => rw [eb] at fin; exact FinX.mono e1 fin
        | no => rw [eb] at fin; exact fin
    · exact fin.elim
  | ex _ _ => rw [ea] at fin; exact fin
  | no => rw [ea] at fin; exact fin
theorem bT {K : PySem.W.Frag} {ma : Env → Hs → R D} {mr : Env → Hs → R D} {op : BoolOp} {τ : St} {H : Hp} {Q : VK} (q : rV K W (fun σ h => (ma σ h).bind fun x h1 => (noX (truD x h1)).bind fun t h2 => sel op t (mr σ h2) (.ok x h2)) τ H Q) :
    rV K W ma τ H fun x H1 => ∃ b, TruV K x H1 b ∧ (match op with | .And => if b = true then rV K W mr τ H1 Q else Q x H1 | .Or => if b = true then Q x H1 else rV K W mr τ H1 Q) := by
  obtain ⟨F, ρ, σ, h, st, eo, fin⟩ := q
  dsimp only at fin
  refine ⟨F, ρ, σ, h, st, eo, ?_⟩
  cases ea : ma σ h with
  | ok x h1 =>
    rw [ea] at fin
    intro F1 ρ1 H1 v e1 st1 r1
    replace fin : Fin K F ρ H ((noX (truD x h1)).bind fun t h2 => sel op t (mr σ h2) (.ok x h2)) Q (wt W τ) := fin
    cases et : truD x h1 with
    | ok b h2 =>
      rw [et] at fin
      obtain ⟨rfl, t⟩ := tru_rep st1 r1 et
      refine ⟨b, t, ?_⟩
      cases op <;> cases b
      · exact fin F1 ρ1 H1 v e1 st1 r1
      · exact ⟨F1, ρ1, σ, h2, st1, eo.mono e1.toExt, Fin.mono e1 fin⟩
      · exact ⟨F1, ρ1, σ, h2, st1, eo.mono e1.toExt, Fin.mono e1 fin⟩
      · exact fin F1 ρ1 H1 v e1 st1 r1
    | ex _ _ => rw [et] at fin; exact fin.elim
    | no => rw [et] at fin; exact fin.elim
  | ex _ _ => rw [ea] at fin; exact fin
  | no => rw [ea] at fin; exact fin
theorem tbT {K : PySem.W.Frag} {ma mr : Env → Hs → R Bool} {op : BoolOp} {τ : St} {H : Hp} {Q : Bool → Hp → Prop} (q : rT K W (fun σ h => (ma σ h).bind fun t h2 => sel op t (mr σ h2) (.ok t h2)) τ H Q) :
    rT K W ma τ H fun b H1 => (match op with | .And => if b = true then rT K W mr τ H1 Q else Q false H1 | .Or => if b = true then Q true H1 else rT K W mr τ H1 Q) := by
  obtain ⟨F, ρ, σ, h, st, eo, fin⟩ := q
  dsimp only at fin
  refine ⟨F, ρ, σ, h, st, eo, ?_⟩
  cases ea : ma σ h with
  | ok b h1 =>
    rw [ea] at fin
    intro F1 ρ1 H1 e1 st1
    cases op <;> cases b
    · exact fin F1 ρ1 H1 e1 st1
    · exact ⟨F1, ρ1, σ, h1, st1, eo.mono e1.toExt, FinB.mono e1 fin⟩
    · exact ⟨F1, ρ1, σ, h1, st1, eo.mono e1.toExt, FinB.mono e1 fin⟩
    · exact fin F1 ρ1 H1 e1 st1
  | ex _ _ => rw [ea] at fin; exact fin
  | no => rw [ea] at fin; exact fin
theorem snd_cons {a r : E} (sa : Snd X ck C W a) (sr : Snd X ck C W r) : Snd X ck C W (.cons a r) := by
  have inv : ∀ xs, (chk (.cons a r)).l ck xs = true → ∃ y ys, xs = y :: ys ∧ notStar y = true ∧ (chk a).e ck y = true ∧ (chk r).l ck ys = true := fun xs q => by
    cases xs with
    | nil => cases q
    | cons y ys =>
      have q : (notStar y && (chk a).e ck y && (chk r).l ck ys) = true := q
      simp only [Bool.and_eq_true] at q
      exact ⟨y, ys, rfl, q.1.1, q.1.2, q.2⟩
  refine ⟨fun x q => ff q, fun x q => ff q, fun xs q => ?_, fun x q => ?_, fun op xs pos ne q => ?_, fun op xs pos ne q => ?_, fun xs hl q => ?_, fun tg x _ q => ff q, fun kws q ns => ?_⟩
  · obtain ⟨y, ys, rfl, q1, q2, q3⟩ := inv xs q
    exact PA.imp (pa_cons (sa.e y q2) (sr.l ys q3) (star_cons q1)) fun τ H Q q => consL q
  · cases x with
    | none => cases q
    | some y =>
      have q : ((chk a).e ck y && isNilE r) = true := q
      simp only [Bool.and_eq_true] at q
      refine ⟨fun pins s τ H Q I w => (po_some (sa.e y q.1)).run pins s τ H Q I ?_⟩
      obtain ⟨F, ρ, σ, h, st, eo, fin⟩ := w
      refine ⟨F, ρ, σ, h, st, eo, ?_⟩
      replace fin : FinP X.K F ρ H (if (sem C r).nil then ((sem C a).v σ h).bind fun x h1 => .ok (some x) h1 else R.no) Q (wt W τ) := fin
      rw [nil_isNil, q.2] at fin
      simp only [if_true] at fin
      cases ea : (sem C a).v σ h with
      | ok x h1 =>
        rw [ea] at fin
        intro F1 ρ1 H1 v e1 st1 r1
        obtain ⟨o, e, k⟩ := fin F1 ρ1 H1 e1 st1
        cases x with
        | d d =>
          cases d with
          | int i =>
            cases e
            cases r1
            exact ⟨i, rfl, k⟩
          | _ => cases e
        | _ => cases e
      | ex _ _ => rw [ea] at fin; exact fin
      | no => rw [ea] at fin; exact fin
  · obtain ⟨y, ys, rfl, q1, q2, q3⟩ := inv xs q
    cases hn : isNilE r with
    | true =>
      have e := rest_nil hn q3
      subst e
      refine PE.imp (pe_one (sa.e y q2)) fun τ H Q w => ?_
      have e2 : (sem C (.cons a r)).b op = (sem C a).v := by
        funext σ h
        show (if (sem C r).nil then _ else _) = _
        rw [nil_isNil, hn]
        rfl
      rw [e2] at w
      exact w
    | false =>
      have ne2 := rest_ne hn q3
      cases ys with
      | nil => exact absurd rfl ne2
      | cons z zs =>
        have e2 : (sem C (.cons a r)).b op = fun σ h => ((sem C a).v σ h).bind fun x h1 => (noX (truD x h1)).bind fun t h2 => sel op t ((sem C r).b op σ h2) (.ok x h2) := by
          funext σ h
          show (if (sem C r).nil then _ else _) = _
          rw [nil_isNil, hn]
          rfl
        rw [e2]
        have ih := sr.b op (z :: zs) pos (by simp) q3
        cases op with
        | And => exact PE.imp (pe_andT (sa.e y q2) ih) fun τ H Q w => bT w
        | Or => exact PE.imp (pe_orT (sa.e y q2) ih) fun τ H Q w => bT w
  · obtain ⟨y, ys, rfl, q1, q2, q3⟩ := inv xs q
    cases hn : isNilE r with
    | true =>
      have e := rest_nil hn q3
      subst e
      have e2 : (sem C (.cons a r)).tb op = (sem C a).t := by
        funext σ h
        show (if (sem C r).nil then _ else _) = _
        rw [nil_isNil, hn]
        rfl
      rw [e2]
      cases op with
      | And => exact pw_and1 (sa.t y q2)
      | Or => exact pw_or1 (sa.t y q2)
    | false =>
      have ne2 := rest_ne hn q3
      cases ys with
      | nil => exact absurd rfl ne2
      | cons z zs =>
        have e2 : (sem C (.cons a r)).tb op = fun σ h => ((sem C a).t σ h).bind fun t h2 => sel op t ((sem C r).tb op σ h2) (.ok t h2) := by
          funext σ h
          show (if (sem C r).nil then _ else _) = _
          rw [nil_isNil, hn]
          rfl
        rw [e2]
        have ih := sr.tb op (z :: zs) pos (by simp) q3
        cases op with
        | And => exact PW.imp (pw_and (sa.t y q2) ih) fun τ H Q w => tbT w
        | Or => exact PW.imp (pw_or (sa.t y q2) ih) fun τ H Q w => tbT w
  · obtain ⟨y, ys, rfl, q1, q2, q3⟩ := inv xs q
    have e : ys = [] := by
      cases ys with
      | nil => rfl
      | cons _ _ => simp at hl
    subst e
    have hn : isNilE r = true := by
      cases r with
      | nil => rfl
      | cons _ _ => cases q3
      | star _ _ => cases q3
      | _ => cases q3
    have e2 : (sem C (.cons a r)).ts = (sem C a).t := by
      funext σ h
      show (if (sem C r).nil then _ else _) = _
      rw [nil_isNil, hn]
      rfl
    rw [e2]
    exact pts_one (sa.t y q2)
  · cases kws with
    | nil => cases q
    | cons kw kws =>
      obtain ⟨y, ys, e, q1, q2, q3⟩ := inv _ q
      obtain ⟨nm, v, kp⟩ := kw
      simp only [List.map_cons, List.cons.injEq] at e
      obtain ⟨rfl, rfl⟩ := e
      have ns2 : noStars (kws.map (·.value)) = true := by
        simp only [List.map_cons, noStars, Bool.and_eq_true] at ns
        exact ns.2
      exact ⟨fun pos pins s τ H Q I w => (pk_cons (sa.e v q2) (sr.k kws q3 ns2)).run pos pins s τ H Q I (consL w)⟩
theorem snd_star {a r : E} (sa : Snd X ck C W a) (sr : Snd X ck C W r) : Snd X ck C W (.star a r) := by
  refine ⟨fun x q => ff q, fun x q => ff q, fun xs q => ?_, fun x q => ff q, fun op xs pos ne q => ?_, fun op xs pos ne q => ?_, fun xs hl q => ?_, fun tg x _ q => ff q, fun kws q ns => ?_⟩
  · cases xs with
    | nil => cases q
    | cons y ys =>
      cases y with
      | Starred y p =>
        have q : ((chk a).e ck y && (chk r).l ck ys) = true := q
        simp only [Bool.and_eq_true] at q
        exact PA.imp (StX.pa_star (sa.e y q.1) (sr.l ys q.2)) fun τ H Q w => starL w
      | _ => cases q
  · exact ⟨fun pins s τ H Q I w => by obtain ⟨F, ρ, σ, h, st, eo, fin⟩ := w; exact fin.elim⟩
  · exact ⟨fun wh pins s τ H Q I w => by obtain ⟨F, ρ, σ, h, st, eo, fin⟩ := w; exact fin.elim⟩
  · exact ⟨fun pins s τ H Q I w => by obtain ⟨F, ρ, σ, h, st, eo, fin⟩ := w; exact fin.elim⟩
  · cases kws with
    | nil => cases q
    | cons kw kws =>
      obtain ⟨nm, v, kp⟩ := kw
      simp only [List.map_cons] at q ns
      cases v with
      | Starred y p => simp [noStars, notStar] at ns
      | _ => cases q
end
end En
/-! En: expressions, one by one -/
namespace En
open PySem L2
variable [Wd]
variable {W : WX}
section
variable {X : Cx} {ck : Ck} {C : Str → List D → Hs → R D} {k : Nat}
theorem both {x : Expr} {v : Env → Hs → R D} (h : PE X x (rV X.K W v)) (he : ∀ whole, isTrue x X.env whole = (do let w ← whole; standAt x.pos; holding [w] (truthy w))) : PE X x (rV X.K W v) ∧ PT X x (rT X.K W fun σ h => (v σ h).bind fun x h1 => noX (truD x h1)) := ⟨h, pt_tru h he⟩
theorem debug_of {x : Str} (h : okNm x = true) : (x == ("__debug__" : Str)) = false ∧ (x == ("__classdict__" : Str)) = false ∧ x ≠ ("__name__" : Str) := by
  unfold okNm at h
  simp only [Bool.and_eq_true, Bool.not_eq_true', beq_eq_false_iff_ne, ne_eq] at h
  exact ⟨by simpa using h.1.1, by simpa using h.1.2, h.2⟩
theorem rvar {i : Nat} {τ : St} {H : Hp} {Q : VK} {K : PySem.W.Frag} (q : rV K W (fun σ h => match σ[i]? with
    | some (some x) => .ok x h
    | _ => .no) τ H Q) : tVar i τ H Q := by
  obtain ⟨F, ρ, σ, h, st, eo, fin⟩ := q
  dsimp only at fin
  split at fin
  · rename_i x e
    obtain ⟨v, e1, r⟩ := eo.get i x e
    exact ⟨v, e1, fin_val st fin r⟩
  · exact fin.elim
theorem snd_var {i : Nat} (f : Fit X ck C k W) : Snd X ck C W (.var i) := by
  refine Snd.val rfl rfl fun x q => ?_
  split at q
  · rename_i y p
    simp only [Bool.and_eq_true, decide_eq_true_eq] at q
    obtain ⟨d1, d2, _⟩ := debug_of q.2
    exact both (PE.imp (pe_var (i := i) (by rw [f.N]; exact q.1.1) (f.vis q.1.2) d1 d2) fun τ H Q w => rvar w) fun _ => rfl
  · cases q
theorem rcst {x : V} {v : PyData} {τ : St} {H : Hp} {Q : VK} {K : PySem.W.Frag} (r : ∀ F, Dq K F x v) (q : rV K W (fun _ h => .ok (.d v) h) τ H Q) : tC x τ H Q := by
  obtain ⟨F, ρ, σ, h, st, eo, fin⟩ := q
  exact fin_val st fin (r F)
theorem snd_glo {y : Str} {v : PyData} (f : Fit X ck C k W) : Snd X ck C W (.glo y v) := by
  refine Snd.val rfl rfl fun x q => ?_
  split at q
  · rename_i z p
    simp only [Bool.and_eq_true, decide_eq_true_eq] at q
    obtain ⟨⟨⟨rfl, q1⟩, q2⟩, q3⟩ := q
    obtain ⟨d1, d2, _⟩ := debug_of q2
    cases hl : ck.G.lookup z with
    | none => rw [hl] at q3; cases v <;> cases q3
    | some w =>
      rw [hl] at q3
      have e : v = w := by
        cases v <;> cases w <;> first | cases q3 | (simp only [cstEq, beq_iff_eq] at q3; rw [q3])
      obtain ⟨u, w', m, r, dq⟩ := f.glo z w hl
      rw [← e] at dq
      exact both (PE.imp (pe_glob (f.gl q1) m r d1) fun τ H Q w => rcst dq w) fun _ => rfl
  · cases q
theorem snd_cst {v : PyData} : Snd X ck C W (.cst v) := by
  refine Snd.val rfl rfl fun x q => ?_
  split at q
  · rename_i c j p
    unfold cstOk at q
    split at q
    · exact both (PE.imp pe_non fun τ H Q w => rcst (fun _ => .non) w) fun _ => rfl
    · rename_i a b
      have e : a = b := by simpa using q
      subst e
      exact both (PE.imp pe_bl fun τ H Q w => rcst (fun _ => .bl _) w) fun _ => rfl
    · rename_i a b
      have e : a = b := by simpa using q
      subst e
      exact both (PE.imp pe_int fun τ H Q w => rcst (fun _ => .int _) w) fun _ => rfl
    · rename_i a b
      have e : a = b := by simpa using q
      subst e
      exact both (PE.imp pe_str fun τ H Q w => rcst (fun _ => .str _) w) fun _ => rfl
    · cases q
  · cases q
theorem rfz {K : PySem.W.Frag} {ma : Env → Hs → R D} {τ : St} {H : Hp} {Q : VK} (q : rV K W (fun σ h => (ma σ h).bind fun x h1 => noX (fzD x h1)) τ H Q) : rV K W ma τ H Q := by
  obtain ⟨F, ρ, σ, h, st, eo, fin⟩ := q
  dsimp only at fin
  refine ⟨F, ρ, σ, h, st, eo, ?_⟩
  cases ea : ma σ h with
  | ok x h1 =>
    rw [ea] at fin
    replace fin : FinO K F ρ H (fzD x h1) Q := Fin.op (E := wt W τ) fin
    intro F1 ρ1 H1 v e1 st1 r1
    unfold fzD at fin
    split at fin
    · rename_i n
      split at fin
      · rename_i xs hn
        obtain ⟨a, h2, rfl⟩ := r1
        obtain ⟨F2, sm, off, st2, dq⟩ := st1.freeze h2 hn
        exact fin F2 ρ1 H1 _ (e1.trans ⟨⟨sm, List.prefix_refl ρ1⟩, fun _ _ e _ => e, fun _ e => .inl e, fun b o e hb f => off b (fun z => hb (by rw [z]; exact List.mem_of_getElem? h2)) f⟩) st2 dq
      · rename_i xs hn
        obtain ⟨a, h2, rfl⟩ := r1
        obtain ⟨⟨vs, y1, y2⟩, _⟩ := st1.cell n a _ h2 hn
        exact fin F1 ρ1 H1 _ e1 st1 (.lst y1 y2)
      · exact fin.elim
    · exact fin F1 ρ1 H1 v e1 st1 r1
  | ex _ _ => rw [ea] at fin; exact fin
  | no => rw [ea] at fin; exact fin
theorem snd_fz {a : E} (sa : Snd X ck C W a) : Snd X ck C W (.fz a) := by
  refine Snd.val rfl rfl fun x q => ?_
  simp only [Bool.and_eq_true] at q
  obtain ⟨q1, q2⟩ := q
  split at q2
  · exact both (PE.imp (sa.e _ q1) fun τ H Q w => rfz w) fun _ => rfl
  · cases q2
theorem snd_bin {o : Operator} {m : Bool} {a b : E} (sa : Snd X ck C W a) (sb : Snd X ck C W b) : Snd X ck C W (.bin o m a b) := by
  refine Snd.val rfl rfl fun x q => ?_
  split at q
  · simp only [Bool.and_eq_true, decide_eq_true_eq] at q
    obtain ⟨⟨rfl, q1⟩, q2⟩ := q
    exact both (PE.imp (pe_op (bin_ok o m) (sa.e _ q1) (sb.e _ q2)) fun τ H Q w => seq2 w) fun _ => rfl
  · cases q
theorem snd_neg {a : E} (sa : Snd X ck C W a) : Snd X ck C W (.neg a) := by
  refine Snd.val rfl rfl fun x q => ?_
  split at q
  · exact both (PE.imp (pe_un neg_ok (sa.e _ q)) fun τ H Q w => seq1 w) fun _ => rfl
  · cases q
theorem cmp_bool {o : CmpOp} {x y z : D} {h h' : Hs} (e : cmpD o x y h = .ok z h') : ∃ b, z = .d (.bool b) ∧ h' = h := by
  unfold cmpD at e
  split at e
  · unfold cmpP at e
    repeat' split at e
    all_goals first | (cases e; exact ⟨_, rfl, rfl⟩) | cases e
  · unfold cmpX at e
    repeat' split at e
    all_goals first | (cases e; exact ⟨_, rfl, rfl⟩) | cases e
theorem tT2 {K : PySem.W.Frag} {ma mb : Env → Hs → R D} {o : CmpOp} {τ : St} {H : Hp} {Q : Bool → Hp → Prop} (q : rT K W (fun σ h => ((ma σ h).bind fun x h1 => (mb σ h1).bind fun y h2 => noX (cmpD o x y h2)).bind fun x h1 => noX (truD x h1)) τ H Q) :
    tTest (tOp (rD2 K (cmpD o)) (rV K W ma) (rV K W mb)) τ H Q := by
  refine seq2 (g := cmpD o) ?_
  obtain ⟨F, ρ, σ, h, st, eo, fin⟩ := q
  dsimp only at fin
  refine ⟨F, ρ, σ, h, st, eo, ?_⟩
  dsimp only
  cases er : (ma σ h).bind fun x h1 => (mb σ h1).bind fun y h2 => noX (cmpD o x y h2) with
  | ok z h3 =>
    rw [er] at fin
    obtain ⟨x, h1, _, e2⟩ := bind_ok er
    obtain ⟨y, h2, _, e3⟩ := bind_ok e2
    obtain ⟨b, rfl, rfl⟩ := cmp_bool (noX_inv e3)
    replace fin : FinB K F ρ H (.ok b h3) Q (wt W τ) := fin
    intro F1 ρ1 H1 v e1 st1 r1
    cases r1
    exact ⟨b, rfl, fin F1 ρ1 H1 e1 st1⟩
  | ex _ _ => rw [er] at fin; exact fin
  | no => rw [er] at fin; exact fin
theorem snd_cmp {o : CmpOp} {a b : E} (f : Fit X ck C k W) (sa : Snd X ck C W a) (sb : Snd X ck C W b) : Snd X ck C W (.cmp o a b) := by
  refine Snd.val rfl rfl fun x q => ?_
  split at q
  · simp only [Bool.and_eq_true, decide_eq_true_eq, Bool.not_eq_true'] at q
    obtain ⟨⟨⟨rfl, q1⟩, q2⟩, q3⟩ := q
    exact ⟨PE.imp (pe_cmpR (cmp_ok f.units o) (sa.e _ q1) (sb.e _ q2) q3) fun τ H Q w => seq2 w, PT.imp (pt_cmpR (cmp_ok f.units o) (sa.e _ q1) (sb.e _ q2) q3) fun τ H Q w => tT2 w⟩
  · cases q
theorem rchn {K : PySem.W.Frag} {ma mb mc : Env → Hs → R D} {o p : CmpOp} {τ : St} {H : Hp} {Q : VK} (q : rV K W (fun σ h => (ma σ h).bind fun x h1 => (mb σ h1).bind fun y h2 => (noX (cmpD o x y h2)).bind fun t h3 => (noX (truD t h3)).bind fun b h4 =>
      if b then (mc σ h4).bind fun z h5 => noX (cmpD p y z h5) else .ok (.d (.bool false)) h4) τ H Q) : tChain (rD2 K (cmpD o)) (rD2 K (cmpD p)) (rV K W ma) (rV K W mb) (rV K W mc) τ H Q := by
  obtain ⟨F, ρ, σ, h, st, eo, fin⟩ := q
  dsimp only at fin
  refine ⟨F, ρ, σ, h, st, eo, ?_⟩
  cases ea : ma σ h with
  | ok x h1 =>
    rw [ea] at fin
    intro F1 ρ1 H1 v e1 st1 r1
    refine ⟨F1, ρ1, σ, h1, st1, eo.mono e1.toExt, ?_⟩
    replace fin : Fin K F ρ H ((mb σ h1).bind fun y h2 => (noX (cmpD o x y h2)).bind fun t h3 => (noX (truD t h3)).bind fun b h4 => if b then (mc σ h4).bind fun z h5 => noX (cmpD p y z h5) else .ok (.d (.bool false)) h4) Q (wt W τ) := fin
    cases eb : mb σ h1 with
    | ok y h2 =>
      rw [eb] at fin
      replace fin : Fin K F ρ H ((noX (cmpD o x y h2)).bind fun t h3 => (noX (truD t h3)).bind fun b h4 => if b then (mc σ h4).bind fun z h5 => noX (cmpD p y z h5) else .ok (.d (.bool false)) h4) Q (wt W τ) := fin
      intro F2 ρ2 H2 u e2 st2 r2
      refine ⟨F2, ρ2, h2, x, y, st2, Rep.mono e2.toExt _ _ r1, r2, ?_⟩
      cases ec : cmpD o x y h2 with
      | ok t h3 =>
        rw [ec] at fin
        obtain ⟨b, rfl, rfl⟩ := cmp_bool ec
        replace fin : Fin K F ρ H (if b then (mc σ h3).bind fun z h5 => noX (cmpD p y z h5) else .ok (.d (.bool false)) h3) Q (wt W τ) := fin
        intro F3 ρ3 H3 w e3 st3 r3
        cases r3
        refine ⟨b, rfl, ?_⟩
        have e123 := (e1.trans e2).trans e3
        cases b with
        | false =>
          simp only [Bool.false_eq_true, if_false] at fin ⊢
          exact fin F3 ρ3 H3 _ e123 st3 (.bl _)
        | true =>
          simp only [if_true] at fin ⊢
          refine ⟨F3, ρ3, σ, h3, st3, eo.mono e123.toExt, ?_⟩
          cases ed : mc σ h3 with
          | ok z h5 =>
            rw [ed] at fin
            intro F4 ρ4 H4 w4 e4 st4 r4
            exact ⟨F4, ρ4, h5, y, z, st4, Rep.mono (e3.trans e4).toExt _ _ r2, r4, FinO.mono (e123.trans e4) (Fin.op fin)⟩
          | ex _ _ => rw [ed] at fin; exact FinX.mono e123 fin
          | no => rw [ed] at fin; exact fin
      | ex _ _ => rw [ec] at fin; exact fin
      | no => rw [ec] at fin; exact fin
    | ex _ _ => rw [eb] at fin; exact FinX.mono e1 fin
    | no => rw [eb] at fin; exact fin
  | ex _ _ => rw [ea] at fin; exact fin
  | no => rw [ea] at fin; exact fin
theorem snd_chn {o p : CmpOp} {a b c : E} (f : Fit X ck C k W) (sa : Snd X ck C W a) (sb : Snd X ck C W b) (sc : Snd X ck C W c) : Snd X ck C W (.chn o p a b c) := by
  refine Snd.val rfl rfl fun x q => ?_
  split at q
  · simp only [Bool.and_eq_true, decide_eq_true_eq, Bool.not_eq_true'] at q
    obtain ⟨⟨⟨⟨⟨rfl, rfl⟩, q1⟩, q2⟩, q3⟩, q4⟩ := q
    have pe := pe_chain (cmp_ok f.units o) (cmp_ok f.units p) (sa.e _ q1) (sb.e _ q2) (sc.e _ q3) q4 (pos := ‹Pos›)
    have pt := pt_chain (cmp_ok f.units o) (cmp_ok f.units p) (sa.e _ q1) (sb.e _ q2) (sc.e _ q3) q4 (pos := ‹Pos›)
    refine ⟨PE.imp pe fun τ H Q w => rchn w, PT.imp pt fun τ H Q w => ?_⟩
    refine rchn (o := o) (p := p) ?_
    obtain ⟨F, ρ, σ, h, st, eo, fin⟩ := w
    dsimp only at fin
    refine ⟨F, ρ, σ, h, st, eo, ?_⟩
    dsimp only
    cases er : ((sem C a).v σ h).bind fun x h1 => ((sem C b).v σ h1).bind fun y h2 => (noX (cmpD o x y h2)).bind fun t h3 => (noX (truD t h3)).bind fun b h4 => if b then ((sem C c).v σ h4).bind fun z h5 => noX (cmpD p y z h5) else .ok (.d (.bool false)) h4 with
    | ok z h3 =>
      rw [er] at fin
      have hb : ∃ b, z = .d (.bool b) := by
        obtain ⟨x, h1, _, e2⟩ := bind_ok er
        obtain ⟨y, h2, _, e3⟩ := bind_ok e2
        obtain ⟨t, h4, _, e4⟩ := bind_ok e3
        obtain ⟨b, h5, _, e5⟩ := bind_ok e4
        cases b with
        | true =>
          simp only [if_true] at e5
          obtain ⟨w, h6, _, e6⟩ := bind_ok e5
          obtain ⟨b, e, _⟩ := cmp_bool (noX_inv e6)
          exact ⟨b, e⟩
        | false =>
          simp only [Bool.false_eq_true, if_false] at e5
          cases e5
          exact ⟨false, rfl⟩
      obtain ⟨b, rfl⟩ := hb
      replace fin : FinB X.K F ρ H (.ok b h3) Q (wt W τ) := fin
      intro F1 ρ1 H1 v e1 st1 r1
      cases r1
      exact ⟨b, rfl, fin F1 ρ1 H1 e1 st1⟩
    | ex _ _ => rw [er] at fin; exact fin
    | no => rw [er] at fin; exact fin
  · cases q
theorem snd_bop {o : BoolOp} {es : E} (sa : Snd X ck C W es) : Snd X ck C W (.bop o es) := by
  refine Snd.val2 rfl rfl fun x q => ?_
  split at q
  · simp only [Bool.and_eq_true, decide_eq_true_eq] at q
    obtain ⟨rfl, q1⟩ := q
    exact ⟨sa.b o _ _ (by simp) q1, (sa.tb o _ _ (by simp) q1).pt⟩
  · cases q
theorem rnot {K : PySem.W.Frag} {ma : Env → Hs → R D} {τ : St} {H : Hp} {Q : VK} (q : rV K W (fun σ h => (ma σ h).bind fun x h1 => (noX (truD x h1)).bind fun b h2 => .ok (.d (.bool (!b))) h2) τ H Q) : tNotT K (rV K W ma) τ H Q := by
  obtain ⟨F, ρ, σ, h, st, eo, fin⟩ := q
  dsimp only at fin
  refine ⟨F, ρ, σ, h, st, eo, ?_⟩
  cases ea : ma σ h with
  | ok x h1 =>
    rw [ea] at fin
    replace fin : Fin K F ρ H ((noX (truD x h1)).bind fun b h2 => .ok (.d (.bool (!b))) h2) Q (wt W τ) := fin
    intro F1 ρ1 H1 v e1 st1 r1
    cases et : truD x h1 with
    | ok b h2 =>
      rw [et] at fin
      obtain ⟨rfl, t⟩ := tru_rep st1 r1 et
      exact ⟨b, t, fin F1 ρ1 H1 _ e1 st1 (.bl _)⟩
    | ex _ _ => rw [et] at fin; exact fin.elim
    | no => rw [et] at fin; exact fin.elim
  | ex _ _ => rw [ea] at fin; exact fin
  | no => rw [ea] at fin; exact fin
theorem snd_not {a : E} (sa : Snd X ck C W a) : Snd X ck C W (.not a) := by
  refine Snd.val2 rfl rfl fun x q => ?_
  split at q
  · refine ⟨PE.imp (pe_notT (sa.e _ q)) fun τ H Q w => rnot w, PT.imp (pt_not (sa.t _ q)) fun τ H Q w => ?_⟩
    obtain ⟨F, ρ, σ, h, st, eo, fin⟩ := w
    dsimp only at fin
    refine ⟨F, ρ, σ, h, st, eo, ?_⟩
    cases ea : (sem C a).t σ h with
    | ok x h1 =>
      rw [ea] at fin
      exact fun F1 ρ1 H1 e1 st1 => fin F1 ρ1 H1 e1 st1
    | ex _ _ => rw [ea] at fin; exact fin
    | no => rw [ea] at fin; exact fin
  · cases q
theorem rife {K : PySem.W.Frag} {mc : Env → Hs → R Bool} {ma mb : Env → Hs → R D} {τ : St} {H : Hp} {Q : VK} (q : rV K W (fun σ h => (mc σ h).bind fun t h1 => if t then ma σ h1 else mb σ h1) τ H Q) : tIf (rT K W mc) (rV K W ma) (rV K W mb) τ H Q := by
  obtain ⟨F, ρ, σ, h, st, eo, fin⟩ := q
  dsimp only at fin
  refine ⟨F, ρ, σ, h, st, eo, ?_⟩
  cases ea : mc σ h with
  | ok b h1 =>
    rw [ea] at fin
    replace fin : Fin K F ρ H (if b then ma σ h1 else mb σ h1) Q (wt W τ) := fin
    intro F1 ρ1 H1 e1 st1
    cases b with
    | true => exact ⟨F1, ρ1, σ, h1, st1, eo.mono e1.toExt, Fin.mono e1 fin⟩
    | false => exact ⟨F1, ρ1, σ, h1, st1, eo.mono e1.toExt, Fin.mono e1 fin⟩
  | ex _ _ => rw [ea] at fin; exact fin
  | no => rw [ea] at fin; exact fin
theorem snd_ife {c a b : E} (sc : Snd X ck C W c) (sa : Snd X ck C W a) (sb : Snd X ck C W b) : Snd X ck C W (.ife c a b) := by
  refine Snd.val2 rfl rfl fun x q => ?_
  split at q
  · simp only [Bool.and_eq_true] at q
    refine ⟨PE.imp (pe_ifExp (sc.t _ q.1.1) (sa.e _ q.1.2) (sb.e _ q.2)) fun τ H Q w => rife w, ⟨fun pins s τ H Q I w => ?_⟩⟩
    obtain ⟨F, ρ, σ, h, st, eo, fin⟩ := w
    exact fin.elim
  · cases q
theorem rtup {K : PySem.W.Frag} {ma : Env → Hs → R (List D)} {τ : St} {H : Hp} {Q : VK} (q : rV K W (fun σ h => (ma σ h).bind fun x h1 => noX (tupD x h1)) τ H Q) : tTupX (rL K W ma) τ H Q := by
  obtain ⟨F, ρ, σ, h, st, eo, fin⟩ := q
  dsimp only at fin
  refine ⟨F, ρ, σ, h, st, eo, ?_⟩
  cases ea : ma σ h with
  | ok ds h1 =>
    rw [ea] at fin
    replace fin : FinO K F ρ H (tupD ds h1) Q := Fin.op (E := wt W τ) fin
    intro F1 ρ1 H1 vs e1 st1 r1
    replace fin := FinO.mono e1 fin
    unfold tupD at fin
    split at fin
    · rename_i hz
      refine ⟨by rw [r1.len]; exact hz, ?_⟩
      split at fin
      · rename_i xs hp
        exact fin_tup st1 fin (repL_plain r1 hp)
      · intro p its hp hd
        obtain ⟨s2, sm, fp⟩ := st1.new (o := .frz (tupO its) (.tup vs)) hp
        exact fin _ ρ1 _ _ (exh_new hp sm) s2 ⟨p, vs, rfl, .inl (.inr ⟨tupO its, upd_same⟩), RepL.mono ⟨sm, List.prefix_refl ρ1⟩ _ _ r1⟩
    · exact fin.elim
  | ex _ _ => rw [ea] at fin; exact fin
  | no => rw [ea] at fin; exact fin
theorem snd_tup {es : E} (sa : Snd X ck C W es) : Snd X ck C W (.tup es) := by
  refine Snd.val rfl rfl fun x q => ?_
  split at q
  · exact both (PE.imp (pe_tupX (sa.l _ q)) fun τ H Q w => rtup w) fun _ => rfl
  · cases q
theorem rlst {K : PySem.W.Frag} {m : Bool} {ma : Env → Hs → R (List D)} {τ : St} {H : Hp} {Q : VK} (q : rV K W (fun σ h => (ma σ h).bind fun x h1 => noX (lstD m x h1)) τ H Q) : tLst (rL K W ma) τ H Q := by
  obtain ⟨F, ρ, σ, h, st, eo, fin⟩ := q
  dsimp only at fin
  refine ⟨F, ρ, σ, h, st, eo, ?_⟩
  cases ea : ma σ h with
  | ok ds h1 =>
    rw [ea] at fin
    replace fin : FinO K F ρ H (lstD m ds h1) Q := Fin.op (E := wt W τ) fin
    intro F1 ρ1 H1 vs e1 st1 r1
    replace fin := FinO.mono e1 fin
    unfold lstD at fin
    split at fin
    · rename_i xs hp
      exact fin_lst st1 fin (repL_plain r1 hp)
    · exact fin.elim
  | ex _ _ => rw [ea] at fin; exact fin
  | no => rw [ea] at fin; exact fin
theorem snd_lst {m : Bool} {es : E} (sa : Snd X ck C W es) : Snd X ck C W (.lst m es) := by
  refine Snd.val rfl rfl fun x q => ?_
  split at q
  · exact both (PE.imp (pe_lst (sa.l _ q)) fun τ H Q w => rlst w) fun _ => rfl
  · cases q
end
end En
/-! En: expressions, one by one, further -/
namespace En
open PySem L2
variable [Wd]
variable {W : WX}
section
variable {X : Cx} {ck : Ck} {C : Str → List D → Hs → R D} {k : Nat}
/-! ### keys that are tuples -/
mutual
theorem nk_is {pins : List (Addr × Obj)} {τ : St} {H F : Hp} {s : Shared} (I : Inv X pins τ H s) (sm : Same F H) : ∀ (a : PyData) (v : V) (u : Value) (k : NestedKey), Dq X.K F v a → RelV v u → nk a = some k → NestedIs s.heap k u
  | .none, _, _, _, h, r, e => by
    cases h; cases r; cases e; exact .none
  | .int i, _, _, _, h, r, e => by
    cases h
    obtain ⟨t, rfl⟩ := r
    cases e; exact .int _ _
  | .str x, _, _, _, h, r, e => by
    cases h
    obtain ⟨t, rfl⟩ := r
    cases e; exact .text _ _
  | .tuple xs, _, _, _, h, r, e => by
    unfold nk at e
    obtain ⟨ks, e1, rfl⟩ := Option.map_eq_some_iff.mp e
    cases h with
    | tup h1 h2 =>
      cases r
      obtain ⟨its, rv, ⟨o, ho, hc, n, hd⟩, _⟩ := I.tuple (sqT_mono sm h1.sqT)
      exact .tup ho hc hd (nks_is I sm xs _ _ ks h2 (by simpa using rv) e1)
  | .bool _, _, _, _, _, _, e => by cases e
  | .list _, _, _, _, _, _, e => by cases e
  | .dict _, _, _, _, _, _, e => by cases e
theorem nks_is {pins : List (Addr × Obj)} {τ : St} {H F : Hp} {s : Shared} (I : Inv X pins τ H s) (sm : Same F H) : ∀ (xs : List PyData) (vs : List V) (us : List Value) (ks : List NestedKey), DqA X.K F vs xs → Vals vs us → nks xs = some ks → NestedAll s.heap ks us
  | [], _, _, _, h, r, e => by
    cases h; cases r; cases e; exact .nil
  | x :: xs, _, _, _, h, r, e => by
    cases h with
    | cons h1 h2 =>
      cases r with
      | cons r1 r2 =>
        unfold nks at e
        split at e
        · rename_i a b e1 e2
          cases e
          exact .cons (nk_is I sm x _ _ a h1 r1 e1) (nks_is I sm xs _ _ b h2 r2 e2)
        · cases e
end
theorem tupKey_of {a : PyData} (h : tupKey a = true) : ∃ ks, nk a = some (.tup ks) ∧ (NestedKey.tup ks).depth ≤ 8 := by
  unfold tupKey at h
  split at h
  · rename_i ks e
    exact ⟨ks, e, of_decide_eq_true h⟩
  · cases h
theorem keyEq_of {a b : PyData} {x y : NestedKey} (ha : nk a = some x) (hb : nk b = some y) : keyEq a b = decide (x = y) := by
  unfold keyEq
  rw [ha, hb]
  exact (NestedKey.decide_eq x y).symm
theorem dicT_get {K : PySem.W.Frag} {F : Hp} {a : PyData} {k : NestedKey} (ha : nk a = some k) : ∀ {xs : List (NestedKey × Addr × Value)} {ps : List (PyData × PyData)} {x : PyData}, DicT K F xs ps → dicGet ps a = some x → ∃ u v, valueAt (pairsH xs) k = some u ∧ RelV v u ∧ Dq K F v x
  | _, _, _, .nil, e => by cases e
  | _, _, x, .cons (k := k') (u := u) (v := v) h1 h2 h3 h4 h5 t, e => by
    rw [valueAt_pairsH]
    unfold dicGet at e
    rw [List.find?_cons, keyEq_of h1 ha] at e
    unfold atKey
    rw [List.find?_cons]
    by_cases hk : k' = k
    · have hd : decide (k' = k) = true := decide_eq_true hk
      rw [hd] at e ⊢
      cases e
      exact ⟨u, v, rfl, h4, h5⟩
    · have hd : decide (k' = k) = false := decide_eq_false hk
      rw [hd] at e ⊢
      obtain ⟨u, v, q1, q2⟩ := dicT_get ha t e
      rw [valueAt_pairsH] at q1
      exact ⟨u, v, q1, q2⟩
theorem dicT_is {pins : List (Addr × Obj)} {τ : St} {H F : Hp} {s : Shared} (I : Inv X pins τ H s) (sm : Same F H) : ∀ {xs : List (NestedKey × Addr × Value)} {ps : List (PyData × PyData)}, DicT X.K F xs ps → ∀ x ∈ xs, (nestedKind X.prog X.w).is s.heap x.1 x.2.1
  | _, _, .nil, x, hx => by cases hx
  | _, _, .cons h1 h2 h3 h4 h5 t, x, hx => by
    rcases List.mem_cons.mp hx with rfl | hx
    · obtain ⟨ks, e1, e2⟩ := tupKey_of h2
      rw [h1] at e1
      cases e1
      exact ⟨nk_is I sm _ _ _ _ h3 rfl h1, e2⟩
    · exact dicT_is I sm t x hx
theorem kdx_of {pins : List (Addr × Obj)} {τ : St} {H F : Hp} {s : Shared} (hw : X.w = Wd.w) (I : Inv X pins τ H s) (sm : Same F H) {a : Addr} {xs : List (NestedKey × Addr × Value)} {ps : List (PyData × PyData)} (e : H a = some (.ext (kdx xs a))) (t : DicT X.K F xs ps) : s.heap.DictOfH (nestedKind X.prog X.w) a xs := by
  have ok : ObjOk X.prog X.w H s.heap a (.ext (kdx xs a)) := I.hok a _ e
  obtain ⟨⟨o, es, ep, h1, h2, h3, h4, h5⟩, _⟩ := ok
  refine ⟨o, es, ep, h1, h2, h3, ?_, dicT_is I sm t, h5⟩
  rw [h4]
  unfold entryOfKey nestedKind
  rw [hw]
def rDit (K : PySem.W.Frag) : R2 := fun x y H Q => ∃ (F : Hp) (d : Addr) (xs : List (NestedKey × Addr × Value)) (ps : List (PyData × PyData)) (a z : PyData), Same F H ∧ x = .ref d ∧ F d = some (.ext (kdx xs d)) ∧ DicT K F xs ps ∧ Dq K F y a ∧ tupKey a = true ∧ dicGet ps a = some z ∧ ∀ v, Dq K F v z → Q v H
theorem pe_dit {o i : Expr} {to ti : TE} {pos : Pos} (hu : X.A.units + 100 < cLine) (hw : X.w = Wd.w) (ho : PE X o to) (hi : PE X i ti) (hs : PlainIx i) : PE X (.Subscript o i pos) (tOp (rDit X.K) to ti) := by
  constructor
  intro pins s σ H Q I h
  refine subD_of PySem.F.slot_dict_getitem.lookup hs (thn (ho.run pins s σ H _ I h) ?_)
  rintro u s1 ⟨x, H1, I1, rx, q1⟩
  refine thn (hi.run pins s1 σ H1 _ I1 q1) ?_
  rintro iv s2 ⟨y, H2, I2, ry, F, d, xs, ps, a, z, sm, rfl, e, t, dq, tk, g, q2⟩
  obtain rfl : u = Value.ref d := rx
  obtain ⟨ks, e1, e2⟩ := tupKey_of tk
  obtain ⟨w, v, g1, g2, g3⟩ := dicT_get e1 t g
  have dd := kdx_of hw I2 sm (sm _ _ e) t
  have ny : ∃ b, y = .ref b := by
    cases dq with
    | tup h1 h2 => exact ⟨_, rfl⟩
    | lst h1 h2 => exact ⟨_, rfl⟩
    | _ => first | (cases e1) | skip
  obtain ⟨b, rfl⟩ := ny
  obtain rfl : iv = Value.ref b := ry
  have hr : (nestedKind X.prog X.w).room X.A.in1 := by
    show X.A.in1.units + 8 < cLine
    have : X.A.in1.units ≤ X.A.units + 1 := by first | exact Nat.le_refl _ | (simp [Around.in1]; omega)
    omega
  refine ⟨dd.typeIs, getItem_keyed hr ⟨nk_is I2 sm _ _ _ _ dq rfl e1, e2⟩ ⟨xs, dd, rfl⟩ g1 ⟨v, H2, I2.tok _, g2, q2 v g3⟩⟩
theorem rix {K : PySem.W.Frag} {ma mb : Env → Hs → R D} {τ : St} {H : Hp} {Q : VK} (q : rV K W (fun σ h => (ma σ h).bind fun x h1 => (mb σ h1).bind fun y h2 => noX (ixD x y h2)) τ H Q) :
    tOp (fun x y H Q => ∃ F ρ h a b, Stt K F ρ h H ∧ isDic a = false ∧ Rep K F ρ a x ∧ Rep K F ρ b y ∧ FinO K F ρ H (ixD a b h) Q) (rV K W ma) (rV K W mb) τ H Q ∨ tDGet (rV K W ma) (rV K W mb) τ H Q ∨ tOp (rDit K) (rV K W ma) (rV K W mb) τ H Q := by
  obtain ⟨F, ρ, σ, h, st, eo, fin⟩ := q
  dsimp only at fin
  cases ea : ma σ h with
  | ok x h1 =>
    rw [ea] at fin
    replace fin : Fin K F ρ H ((mb σ h1).bind fun y h2 => noX (ixD x y h2)) Q (wt W τ) := fin
    cases hd : isDic x with
    | false =>
      refine .inl ⟨F, ρ, σ, h, st, eo, ?_⟩
      rw [ea]
      intro F1 ρ1 H1 v e1 st1 r1
      refine ⟨F1, ρ1, σ, h1, st1, eo.mono e1.toExt, ?_⟩
      cases eb : mb σ h1 with
      | ok y h2 =>
        rw [eb] at fin
        intro F2 ρ2 H2 u e2 st2 r2
        exact ⟨F2, ρ2, h2, x, y, st2, hd, Rep.mono e2.toExt _ _ r1, r2, FinO.mono (e1.trans e2) (Fin.op fin)⟩
      | ex _ _ => rw [eb] at fin; exact FinX.mono e1 fin
      | no => rw [eb] at fin; exact fin
    | true =>
      cases x with
      | dic ps =>
        refine .inr (.inl ⟨F, ρ, σ, h, st, eo, ?_⟩)
        rw [ea]
        intro F1 ρ1 H1 v e1 st1 r1
        refine ⟨F1, ρ1, σ, h1, st1, eo.mono e1.toExt, ?_⟩
        cases eb : mb σ h1 with
        | ok y h2 =>
          rw [eb] at fin
          replace fin : FinO K F ρ H (ixD (.dic ps) y h2) Q := Fin.op (E := wt W τ) fin
          intro F2 ρ2 H2 u e2 st2 r2
          replace fin := FinO.mono (e1.trans e2) fin
          obtain ⟨a, rfl, dd⟩ := Rep.mono e2.toExt _ _ r1
          replace fin : FinO K F2 ρ2 H2 (dicIx ps y h2) Q := fin
          unfold dicIx at fin
          split at fin
          · rename_i z
            cases r2
            obtain ⟨o, g, _, g2⟩ := dget_dic st2 dd z
            split at fin
            · rename_i w hw
              obtain ⟨v, rfl, dq⟩ := g2 w hw
              exact ⟨a, v, rfl, g, fin_val st2 fin dq⟩
            · exact fin.elim
          · exact fin.elim
        | ex _ _ => rw [eb] at fin; exact FinX.mono e1 fin
        | no => rw [eb] at fin; exact fin
      | dit ps =>
        refine .inr (.inr ⟨F, ρ, σ, h, st, eo, ?_⟩)
        rw [ea]
        intro F1 ρ1 H1 v e1 st1 r1
        refine ⟨F1, ρ1, σ, h1, st1, eo.mono e1.toExt, ?_⟩
        cases eb : mb σ h1 with
        | ok y h2 =>
          rw [eb] at fin
          replace fin : FinO K F ρ H (ixD (.dit ps) y h2) Q := Fin.op (E := wt W τ) fin
          intro F2 ρ2 H2 u e2 st2 r2
          replace fin := FinO.mono (e1.trans e2) fin
          obtain ⟨a, rfl, xs, ee, dd⟩ := Rep.mono e2.toExt _ _ r1
          replace fin : FinO K F2 ρ2 H2 (ditIx ps y h2) Q := fin
          unfold ditIx at fin
          split at fin
          · rename_i z
            split at fin
            · rename_i ht
              split at fin
              · rename_i w hw
                exact ⟨F2, a, xs, ps, z, w, st2.same, rfl, ee, dd, r2, ht, hw, fun v dq => fin_val st2 fin dq⟩
              · exact fin.elim
            · exact fin.elim
          · exact fin.elim
        | ex _ _ => rw [eb] at fin; exact FinX.mono e1 fin
        | no => rw [eb] at fin; exact fin
      | _ => cases hd
  | ex _ _ =>
    rw [ea] at fin
    refine .inl ⟨F, ρ, σ, h, st, eo, ?_⟩
    rw [ea]
    exact fin
  | no => rw [ea] at fin; exact fin.elim
theorem snd_ix {a i : E} (f : Fit X ck C k W) (sa : Snd X ck C W a) (si : Snd X ck C W i) : Snd X ck C W (.ix a i) := by
  refine Snd.val rfl rfl fun x q => ?_
  split at q
  · simp only [Bool.and_eq_true] at q
    have hp := plain_ix q.2
    have hu := f.units
    exact both (PE.imp (PE.or (pe_ix ixS_ok (sa.e _ q.1.1) (si.e _ q.1.2) hp) (PE.or (pe_dget (by omega) (sa.e _ q.1.1) (si.e _ q.1.2) hp) (pe_dit hu f.wd (sa.e _ q.1.1) (si.e _ q.1.2) hp))) fun τ H Q w => rix w) fun _ => rfl
  · cases q
theorem rsl {K : PySem.W.Frag} {ma : Env → Hs → R D} {ml mu : Env → Hs → R (Option D)} {τ : St} {H : Hp} {Q : VK} (q : rV K W (fun σ h => (ma σ h).bind fun x h1 => (noX (ml σ h1)).bind fun y h2 => (noX (mu σ h2)).bind fun z h3 => noX (slD x y z h3)) τ H Q) :
    tSl (fun x lo hi H Q => ∃ (F : Hp) (ρ : List Addr) (h : Hs) (a : D) (l u : Option D), Stt K F ρ h H ∧ Rep K F ρ a x ∧ bnd l = some lo ∧ bnd u = some hi ∧ FinO K F ρ H (slD a l u h) Q) (rV K W ma) (rOp K W ml) (rOp K W mu) τ H Q := by
  obtain ⟨F, ρ, σ, h, st, eo, fin⟩ := q
  dsimp only at fin
  refine ⟨F, ρ, σ, h, st, eo, ?_⟩
  cases ea : ma σ h with
  | ok x h1 =>
    rw [ea] at fin
    replace fin : Fin K F ρ H ((noX (ml σ h1)).bind fun y h2 => (noX (mu σ h2)).bind fun z h3 => noX (slD x y z h3)) Q (wt W τ) := fin
    intro F1 ρ1 H1 v e1 st1 r1
    refine ⟨F1, ρ1, σ, h1, st1, eo.mono e1.toExt, ?_⟩
    cases eb : ml σ h1 with
    | ok y h2 =>
      rw [eb] at fin
      replace fin : Fin K F ρ H ((noX (mu σ h2)).bind fun z h3 => noX (slD x y z h3)) Q (wt W τ) := fin
      intro F2 ρ2 H2 e2 st2
      cases ec : mu σ h2 with
      | ok z h3 =>
        rw [ec] at fin
        replace fin : FinO K F ρ H (slD x y z h3) Q := Fin.op (E := wt W τ) fin
        have hb : ∃ lo hi, bnd y = some lo ∧ bnd z = some hi := by
          unfold slD at fin
          split at fin
          · rename_i lo hi b1 b2
            exact ⟨lo, hi, b1, b2⟩
          · exact fin.elim
        obtain ⟨lo, hi, b1, b2⟩ := hb
        refine ⟨lo, b1, F2, ρ2, σ, h2, st2, (eo.mono e1.toExt).mono e2.toExt, ?_⟩
        rw [ec]
        intro F3 ρ3 H3 e3 st3
        exact ⟨hi, b2, F3, ρ3, h3, x, y, z, st3, Rep.mono (e2.trans e3).toExt _ _ r1, b1, b2, FinO.mono ((e1.trans e2).trans e3) fin⟩
      | ex _ _ => rw [ec] at fin; exact fin.elim
      | no => rw [ec] at fin; exact fin.elim
    | ex _ _ => rw [eb] at fin; exact fin.elim
    | no => rw [eb] at fin; exact fin
  | ex _ _ => rw [ea] at fin; exact fin
  | no => rw [ea] at fin; exact fin
theorem snd_sl {a l u : E} (sa : Snd X ck C W a) (sl : Snd X ck C W l) (su : Snd X ck C W u) : Snd X ck C W (.sl a l u) := by
  refine Snd.val rfl rfl fun x q => ?_
  split at q
  · simp only [Bool.and_eq_true] at q
    exact both (PE.imp (pe_slice sl_ok (sa.e _ q.1.1) (sl.o _ q.1.2) (su.o _ q.2)) fun τ H Q w => rsl w) fun _ => rfl
  · cases q
theorem stars_of {y : Expr} {ys : List Expr} (h : noStars (y :: ys) = true) : notStar y = true ∧ noStars ys = true := by
  unfold noStars at h
  simpa using h
theorem pass_at {X : Cx} {W : WX} (tk : Takes X W) : ∀ σ, PassesAt (CXp X) X σ (wt W σ) := fun _ _ _ _ _ _ I c => tk _ _ (XE.of_call I (fun _ _ _ h => h) c)
theorem fin_keep {K : PySem.W.Frag} {F H : Hp} {ρ : List Addr} {r : R D} {m : Bool} {Q : VK} {E : XK} (q : Fin K F ρ H (r.bind fun x h => noX (keepR m x h)) Q E) : Fin K F ρ H r Q E := by
  cases r with
  | ok x h =>
    replace q : FinO K F ρ H (keepR m x h) Q := Fin.op (E := E) q
    cases m with
    | true => exact q
    | false =>
      replace q : FinO K F ρ H (fzD x h) Q := q
      intro F1 ρ1 H1 v e1 st1 r1
      unfold fzD at q
      split at q
      · rename_i n
        split at q
        · rename_i xs hn
          obtain ⟨a, h2, rfl⟩ := r1
          obtain ⟨F2, sm, off, st2, dq⟩ := st1.freeze h2 hn
          exact q F2 ρ1 H1 _ (e1.trans ⟨⟨sm, List.prefix_refl ρ1⟩, fun _ _ e _ => e, fun _ e => .inl e, fun b o e hb f => off b (fun z => hb (by rw [z]; exact List.mem_of_getElem? h2)) f⟩) st2 dq
        · rename_i xs hn
          obtain ⟨a, h2, rfl⟩ := r1
          obtain ⟨⟨vs, y1, y2⟩, _⟩ := st1.cell n a _ h2 hn
          exact q F1 ρ1 H1 _ e1 st1 (.lst y1 y2)
        · exact q.elim
      · exact q F1 ρ1 H1 v e1 st1 r1
  | ex _ _ => exact q
  | no => exact q
theorem fin_some {K : PySem.W.Frag} {F H : Hp} {ρ : List Addr} {r : R D} {Q : VK} {E : XK} (q : Fin K F ρ H r Q E) : r ≠ .no := by
  rintro rfl
  exact q
theorem rcall {K : PySem.W.Frag} {n : Nat} {m : Bool} {c : List D → Hs → R D} (hl : ∀ ds h, c ds h ≠ .no → ds.length = n) {ma : Env → Hs → R (List D)} {τ : St} {H : Hp} {Q : VK} (q : rV K W (fun σ h => (ma σ h).bind fun ds h1 => (c ds h1).bind fun x h2 => noX (keepR m x h2)) τ H Q) :
    tCallSD (spD K n c) [] (wt W) (rL K W ma) τ H Q := by
  obtain ⟨F, ρ, σ, h, st, eo, fin⟩ := q
  dsimp only at fin
  refine ⟨F, ρ, σ, h, st, eo, ?_⟩
  cases ea : ma σ h with
  | ok ds h1 =>
    rw [ea] at fin
    replace fin : Fin K F ρ H (c ds h1) Q (wt W τ) := fin_keep (m := m) fin
    intro F1 ρ1 H1 vs e1 st1 r1
    rw [List.append_nil]
    exact ⟨by rw [r1.len]; exact hl _ _ (fin_some fin), F1, ρ1, h1, ds, st1, r1, Fin.mono e1 fin⟩
  | ex _ _ => rw [ea] at fin; exact fin
  | no => rw [ea] at fin; exact fin
theorem pe_callSD0 {X : Cx} {CX : CXT} {k : Nat} {f : Addr} {fd : FuncData} {ps : List Str} {sp : Sp} {E : St → XK} {x : Str} {p pos : Pos} (F : FnOk X.prog X.w X.K X.mg X.base CX k f fd ps sp) (hr : Room k X.A) (hg : Gl X x) (hm : X.mg x = some (.ref f)) (hk : PySem.W.keepIn X.K (.ref f) = true) (hb : Binds X.K fd ps []) (hx : ∀ σ, PassesAt CX X σ (E σ))
    (hdb : (x == ("__debug__" : Str)) = false) : PE X (.Call (.Name x p) [] [] pos) (tCallSD sp [] E tNil) := by
  refine ⟨fun pins s σ H Q I h => ?_⟩
  refine wpAny_Call_Name_kw (ld_glob I hg hm ?_ hdb)
  exact PySem.W.callWith_K0 I.kIn hk (run_fnSD (us := []) F hr hb .nil (hx σ) I .nil h)
theorem nil_l {es : E} (h : (chk es).l ck [] = true) : ∀ (τ : St) (H : Hp) (P : List V → Hp → Prop), rL X.K W (sem C es).l τ H P → tNil τ H P := by
  intro τ H P q
  cases es with
  | nil =>
    obtain ⟨F, ρ, σ, h, st, eo, fin⟩ := q
    exact fin F ρ H [] (Exh.refl F ρ H) st rfl
  | _ => cases h
theorem snd_call {g : Str} {m : Bool} {es : E} (f : Fit X ck C k W) (sa : Snd X ck C W es) : Snd X ck C W (.call g m es) := by
  refine Snd.val rfl rfl fun x q => ?_
  split at q
  · rename_i z _ ys p
    simp only [Bool.and_eq_true, decide_eq_true_eq] at q
    obtain ⟨⟨⟨⟨⟨rfl, q1⟩, q2⟩, q3⟩, q4⟩, q5⟩ := q
    obtain ⟨a, fd, ps, m1, m2, _⟩ := f.fns z (by simpa using q1)
    obtain ⟨d1, _, _⟩ := debug_of q3
    cases ys with
    | nil => exact both (PE.imp (pe_callSD0 m2.ok f.room0 (f.gl q2) m1 m2.keep m2.binds (pass_at f.tk) d1) fun τ H Q w => nil_l (X := X) (C := C) (W := W) q4 _ _ _ (rcall m2.len w)) fun _ => rfl
    | cons y ys =>
      obtain ⟨s1, s2⟩ := stars_of q5
      exact both (PE.imp (pe_callSD m2.ok f.room0 (f.gl q2) m1 m2.keep m2.binds .nil (pass_at f.tk) (sa.l _ q4) d1 (star_cons s1) (star_any p X.env ys s2).1) fun τ H Q w => rcall m2.len w) fun _ => rfl
  · cases q
theorem rcb {K : PySem.W.Frag} {g : List D → Hs → R D} {ma : Env → Hs → R (List D)} {τ : St} {H : Hp} {Q : VK} (q : rV K W (fun σ h => (ma σ h).bind fun x h1 => noX (g x h1)) τ H Q) : tCB (rDL K g) (rL K W ma) τ H Q := seqL q
theorem blt_of (f : Fit X ck C k W) {x : Str} (h : bnames.contains x = true) : X.mg x = none := f.blt x (by simpa using h)
theorem snd_bi {b : Bi} {m : Bool} {es : E} (f : Fit X ck C k W) (sa : Snd X ck C W es) : Snd X ck C W (.bi b m es) := by
  refine Snd.val rfl rfl fun x q => ?_
  split at q
  · rename_i z _ y ys p
    simp only [Bool.and_eq_true, decide_eq_true_eq] at q
    obtain ⟨⟨⟨rfl, q2⟩, q4⟩, q5⟩ := q
    obtain ⟨s1, s2⟩ := stars_of q5
    have h1 := star_cons (es := ys) (env := X.env) s1
    have h2 := (star_any p X.env ys s2).1
    have g := f.gl q2
    have pa := sa.l _ q4
    refine both ?_ fun _ => rfl
    cases b with
    | abs => exact PE.imp (pe_callB (x := Str.ofString "abs") (call_absD m) g (blt_of f (by decide +kernel)) (by decide +kernel) pa (by decide) (by decide) h1 h2) fun τ H Q w => rcb w
    | int => exact PE.imp (pe_callTy (x := Str.ofString "int") (call_intD m) g (blt_of f (by decide +kernel)) (by decide +kernel) pa (by decide) (by decide) h1 h2) fun τ H Q w => rcb w
    | len => exact PE.imp (pe_callB (x := Str.ofString "len") (call_lenDD m) g (blt_of f (by decide +kernel)) (by decide +kernel) pa (by decide) (by decide) h1 h2) fun τ H Q w => rcb w
    | tuple => exact PE.imp (pe_callTy (x := Str.ofString "tuple") (call_tupleD m) g (blt_of f (by decide +kernel)) (by decide +kernel) pa (by decide) (by decide) h1 h2) fun τ H Q w => rcb w
    | list => exact PE.imp (pe_callTy (x := Str.ofString "list") (call_listD m) g (blt_of f (by decide +kernel)) (by decide +kernel) pa (by decide) (by decide) h1 h2) fun τ H Q w => rcb w
    | all => exact PE.imp (pe_callB (x := Str.ofString "all") (call_allD f.calm m) g (blt_of f (by decide +kernel)) (by decide +kernel) pa (by decide) (by decide) h1 h2) fun τ H Q w => rcb w
    | min => exact PE.imp (pe_callB (x := Str.ofString "min") (call_minD f.calm m) g (blt_of f (by decide +kernel)) (by decide +kernel) pa (by decide) (by decide) h1 h2) fun τ H Q w => rcb w
    | max => exact PE.imp (pe_callB (x := Str.ofString "max") (call_maxD f.calm m) g (blt_of f (by decide +kernel)) (by decide +kernel) pa (by decide) (by decide) h1 h2) fun τ H Q w => rcb w
    | sorted => exact PE.imp (pe_callB (x := Str.ofString "sorted") (call_sortD f.units m) g (blt_of f (by decide +kernel)) (by decide +kernel) pa (by decide) (by decide) h1 h2) fun τ H Q w => rcb w
    | any => exact PE.imp (pe_callB (x := Str.ofString "any") (call_anyD f.calm m) g (blt_of f (by decide +kernel)) (by decide +kernel) pa (by decide) (by decide) h1 h2) fun τ H Q w => rcb w
  · cases q
theorem ty_boot (t : Ty) : bootBuiltins (tyNm t) = some (.type (nmTy t)) ∧ bnames.contains (tyNm t) = true ∧ tyNm t ≠ ("__name__" : Str) ∧ (tyNm t == ("__debug__" : Str)) = false := by
  cases t <;> exact ⟨by decide +kernel, by decide +kernel, by decide +kernel, by decide +kernel⟩
theorem pe_ty (f : Fit X ck C k W) (t : Ty) {p : Pos} (h : ck.gl (tyNm t) = true) : PE X (.Name (tyNm t) p) (tC (.ty (nmTy t))) := by
  obtain ⟨b1, b2, b3, b4⟩ := ty_boot t
  exact pe_bltn (f.gl h) (blt_of f b2) b1 rfl b3 b4
def tTys (ts : List Ty) : TA := fun _ H Q => Q (ts.map fun t => .ty (nmTy t)) H
theorem pa_tys (f : Fit X ck C k W) : ∀ (ts : List Ty) (es : List Expr), ckTys ck ts es = true → PA X es (tTys ts)
  | [], [], _ => PA.imp pa_nil fun τ H Q w => w
  | t :: ts, .Name x p :: es, h => by
    unfold ckTys at h
    simp only [Bool.and_eq_true, decide_eq_true_eq] at h
    obtain ⟨⟨rfl, h1⟩, h2⟩ := h
    exact PA.imp (pa_cons (pe_ty f t h1) (pa_tys f ts es h2) rfl) fun τ H Q w => w
  | [], _ :: _, h => by cases h
  | _ :: _, [], h => by cases h
  | _ :: _, .BoolOp .. :: _, h => by cases h
  | _ :: _, .NamedExpr .. :: _, h => by cases h
  | _ :: _, .BinOp .. :: _, h => by cases h
  | _ :: _, .UnaryOp .. :: _, h => by cases h
  | _ :: _, .Lambda .. :: _, h => by cases h
  | _ :: _, .IfExp .. :: _, h => by cases h
  | _ :: _, .Dict .. :: _, h => by cases h
  | _ :: _, .Set .. :: _, h => by cases h
  | _ :: _, .ListComp .. :: _, h => by cases h
  | _ :: _, .SetComp .. :: _, h => by cases h
  | _ :: _, .DictComp .. :: _, h => by cases h
  | _ :: _, .GeneratorExp .. :: _, h => by cases h
  | _ :: _, .Await .. :: _, h => by cases h
  | _ :: _, .Yield .. :: _, h => by cases h
  | _ :: _, .YieldFrom .. :: _, h => by cases h
  | _ :: _, .Compare .. :: _, h => by cases h
  | _ :: _, .Call .. :: _, h => by cases h
  | _ :: _, .FormattedValue .. :: _, h => by cases h
  | _ :: _, .JoinedStr .. :: _, h => by cases h
  | _ :: _, .Constant .. :: _, h => by cases h
  | _ :: _, .Attribute .. :: _, h => by cases h
  | _ :: _, .Subscript .. :: _, h => by cases h
  | _ :: _, .Starred .. :: _, h => by cases h
  | _ :: _, .List .. :: _, h => by cases h
  | _ :: _, .Tuple .. :: _, h => by cases h
  | _ :: _, .Slice .. :: _, h => by cases h
/-- the kind of a thing, and None -/
theorem isi_ok {K : PySem.W.Frag} {F H : Hp} {ρ : List Addr} {h : Hs} {x : D} {v : V} {ts : List Ty} {b : Bool} (st : Stt K F ρ h H) (r : Rep K F ρ x v) (e : isiD x ts h = some b) : ∃ t, TyX K H v t ∧ PySem.W.kitAny K t (ts.map fun q => .type (nmTy q)) = some b := by
  unfold isiD at e
  split at e
  · rename_i hn
    cases e
    cases x with
    | d d =>
      cases d with
      | none => cases r; exact ⟨_, .base .non, kitAnyN_ok ts⟩
      | _ => cases hn
    | _ => cases hn
  · split at e
    · rename_i hl
      obtain ⟨t, e1, e2⟩ := Option.map_eq_some_iff.mp e
      subst e2
      refine ⟨_, ty_rep st r e1 fun n hx => ?_, kitAny_ok t ts⟩
      subst hx
      exact Option.isSome_iff_exists.mp hl
    · cases e
theorem kit1 {K : PySem.W.Frag} {t : Value} {c : Value} {b : Bool} (h : PySem.W.kitAny K t [c] = some b) : PySem.W.kitOne K t c = some b := by
  unfold PySem.W.kitAny at h
  split at h
  · rename_i e; rw [e]; exact h
  · rename_i e; rw [e]; exact h
  · cases h
theorem tys_pair : ∀ ts : List Ty, Paired ClsV (ts.map fun t => V.ty (nmTy t)) (ts.map fun q => Value.type (nmTy q))
  | [] => .nil
  | t :: ts => .cons (.ty _) (tys_pair ts)
theorem snd_isi {a : E} {ts : List Ty} {t : Bool} (f : Fit X ck C k W) (sa : Snd X ck C W a) : Snd X ck C W (.isi a ts t) := by
  refine Snd.val rfl rfl fun x q => ?_
  split at q
  · rename_i z np y w p
    simp only [Bool.and_eq_true, decide_eq_true_eq] at q
    obtain ⟨⟨⟨⟨rfl, q2⟩, q3⟩, q4⟩, q5⟩ := q
    have g := f.gl q2
    refine both ?_ fun _ => rfl
    have go : ∀ {rd : List V → Hp → VK → Prop} {tz : TE} (cr : CallR X (.builtin "isinstance") rd) (pz : PE X w tz) (ns : notStar w = true) (im : ∀ τ H Q, rV X.K W (fun σ h => ((sem C a).v σ h).bind fun x h1 => noX (isiR x ts h1)) τ H Q → tCB rd (tCons (rV X.K W (sem C a).v) (tCons tz tNil)) τ H Q),
        PE X (.Call (.Name (Str.ofString "isinstance") np) [y, w] [] p) (rV X.K W fun σ h => ((sem C a).v σ h).bind fun x h1 => noX (isiR x ts h1)) := fun {rd tz} cr pz ns im => by
      refine PE.imp (pe_callB (x := Str.ofString "isinstance") cr g (blt_of f (by decide +kernel)) (by decide +kernel) (pa_cons (sa.e _ q4) (pa_cons pz pa_nil (star_cons ns)) (star_cons q3)) (by decide) (by decide) (star_cons q3) (star_any p X.env [w] (by unfold noStars; rw [ns]; rfl)).1) im
    split at q5
    · rename_i n _
      split at q5
      · rename_i t1
        simp only [Bool.and_eq_true, decide_eq_true_eq] at q5
        obtain ⟨rfl, g1⟩ := q5
        refine go call_isi (pe_ty f t1 g1) rfl fun τ H Q w => ?_
        obtain ⟨F, ρ, σ, h, st, eo, fin⟩ := w
        dsimp only at fin
        refine ⟨F, ρ, σ, h, st, eo, ?_⟩
        cases ea : (sem C a).v σ h with
        | ok x h1 =>
          rw [ea] at fin
          replace fin : FinO X.K F ρ H (isiR x [t1] h1) Q := Fin.op (E := wt W τ) fin
          intro F1 ρ1 H1 v e1 st1 r1
          replace fin := FinO.mono e1 fin
          unfold isiR at fin
          split at fin
          · rename_i b hb
            obtain ⟨t, k1, k2⟩ := isi_ok st1 r1 hb
            exact ⟨v, _, t, _, b, rfl, .ty _, k1, kit1 k2, fin_val st1 fin (.bl _)⟩
          · exact fin.elim
        | ex _ _ => rw [ea] at fin; exact fin
        | no => rw [ea] at fin; exact fin
      · cases q5
    · rename_i es _ _
      simp only [Bool.and_eq_true, decide_eq_true_eq] at q5
      refine go call_isiT (pe_tup (pa_tys f ts es q5.1)) rfl fun τ H Q w => ?_
      obtain ⟨F, ρ, σ, h, st, eo, fin⟩ := w
      dsimp only at fin
      refine ⟨F, ρ, σ, h, st, eo, ?_⟩
      cases ea : (sem C a).v σ h with
      | ok x h1 =>
        rw [ea] at fin
        replace fin : FinO X.K F ρ H (isiR x ts h1) Q := Fin.op (E := wt W τ) fin
        intro F1 ρ1 H1 v e1 st1 r1
        replace fin := FinO.mono e1 fin
        unfold isiR at fin
        split at fin
        · rename_i b hb
          refine ⟨?_, fun tp hp => ?_⟩
          · rw [List.length_map]
            have hs : sizeLine = 16777216 := sizeLine_eq
            omega
          · obtain ⟨t, k1, k2⟩ := isi_ok (st1.more (o := .tup (ts.map fun t => .ty (nmTy t))) hp) r1 hb
            exact ⟨v, tp, _, t, ts.map fun q => .type (nmTy q), b, rfl, upd_same, tys_pair ts, k1, k2, fin F1 ρ1 _ _ (exh_more hp) (st1.more hp) (.bl _)⟩
        · exact fin.elim
      | ex _ _ => rw [ea] at fin; exact fin
      | no => rw [ea] at fin; exact fin
    · cases q5
  · cases q
end
end En
/-! En: methods, comprehensions, what is walked -/
namespace En
open PySem L2
variable [Wd]
variable {W : WX}
section
variable {X : Cx} {ck : Ck} {C : Str → List D → Hs → R D} {k : Nat}
theorem rcv_list {K : PySem.W.Frag} {F H : Hp} {ρ : List Addr} {h : Hs} {x : D} {v : V} (st : Stt K F ρ h H) (r : Rep K F ρ x v) (e : (vwL x h).isSome = true) : tyV K "list" v H := by
  cases q : vwL x h with
  | none => rw [q] at e; cases e
  | some xs =>
    obtain ⟨l, vs, rfl, _, q1⟩ := vwL_ok st r q
    exact .inl ⟨rfl, vs, SqL.of q1⟩
theorem rcv_str {K : PySem.W.Frag} {F H : Hp} {ρ : List Addr} {x : D} {v : V} {h : Hs} (r : Rep K F ρ x v) (e : rcvOk .join x h = true) : tyV K "str" v H := by
  unfold rcvOk at e
  dsimp only at e
  split at e
  · rename_i z
    cases r
    rfl
  · cases e
theorem rmth {K : PySem.W.Frag} {m : Mt} {T : String} (hty : ∀ {F H : Hp} {ρ : List Addr} {h : Hs} {x : D} {v : V}, Stt K F ρ h H → Rep K F ρ x v → rcvOk m x h = true → tyV K T v H) {ma : Env → Hs → R D} {mb : Env → Hs → R (List D)} {τ : St} {H : Hp} {Q : VK}
    (q : rV K W (fun σ h => (ma σ h).bind fun x h1 => if rcvOk m x h1 then (mb σ h1).bind (fun ds h2 => noX (mthD m x ds h2)) else .no) τ H Q) : tBM K T (rDM K (mthD m)) (rV K W ma) (rL K W mb) τ H Q := by
  have w := seqM q
  obtain ⟨F, ρ, σ, h, st, eo, fin⟩ := w
  refine ⟨F, ρ, σ, h, st, eo, ?_⟩
  cases ea : ma σ h with
  | ok x h1 =>
    rw [ea] at fin
    intro F1 ρ1 H1 v e1 st1 r1
    obtain ⟨⟨F2, ρ2, h2, x2, st2, r2, c2⟩, w⟩ := fin F1 ρ1 H1 v e1 st1 r1
    exact ⟨hty st2 r2 c2, w⟩
  | ex _ _ => rw [ea] at fin; exact fin
  | no => rw [ea] at fin; exact fin
theorem rmthX {K : PySem.W.Frag} {ma : Env → Hs → R D} {mb : Env → Hs → R (List D)} {τ : St} {H : Hp} {Q : VK}
    (q : rV K W (fun σ h => (ma σ h).bind fun x h1 => if rcvOk .index x h1 then (mb σ h1).bind (fun ds h2 => noX (mthD .index x ds h2)) else .no) τ H Q) : tBMX (rDM K (mthD .index)) (rV K W ma) (rL K W mb) τ H Q := by
  have w := seqM q
  obtain ⟨F, ρ, σ, h, st, eo, fin⟩ := w
  refine ⟨F, ρ, σ, h, st, eo, ?_⟩
  cases ea : ma σ h with
  | ok x h1 =>
    rw [ea] at fin
    intro F1 ρ1 H1 v e1 st1 r1
    obtain ⟨⟨F2, ρ2, h2, x2, st2, r2, c2⟩, w⟩ := fin F1 ρ1 H1 v e1 st1 r1
    refine ⟨?_, w⟩
    unfold rcvOk at c2
    dsimp only at c2
    split at c2
    · rename_i z
      cases r2 with
      | tup k1 k2 => exact ⟨_, _, rfl, k1.mono st2.same⟩
    · cases c2
  | ex _ _ => rw [ea] at fin; exact fin
  | no => rw [ea] at fin; exact fin
theorem few_of {y : Expr} {ys : List Expr} {cp : Pos} {env : PySem.Env} (h : noStars (y :: ys) = true) (hl : (y :: ys).length < 20) : ((backTo cp (starEach (y :: ys) env)).all (fun x => !x.1) && (backToKw cp (keywordEach [] env)).all (fun x => x.1.isSome)
      && decide ((y :: ys).length + ([] : List Keyword).length + (if ([] : List Keyword).isEmpty then 0 else 1) < 30)) = true := by
  rw [(star_any cp env (y :: ys) h).2]
  have e1 : (backToKw cp (keywordEach [] env)).all (fun x => x.1.isSome) = true := rfl
  rw [e1]
  simp only [Bool.and_self, Bool.true_and, decide_eq_true_eq]
  have e2 : ([] : List Keyword).length = 0 := rfl
  rw [e2]
  simp only [List.isEmpty_nil, if_true]
  omega
theorem snd_mth {m : Mt} {o es : E} (so : Snd X ck C W o) (sa : Snd X ck C W es) : Snd X ck C W (.mth m o es) := by
  refine Snd.val rfl rfl fun x q => ?_
  split at q
  · rename_i x nm ap y ys cp
    simp only [Bool.and_eq_true, decide_eq_true_eq] at q
    obtain ⟨⟨⟨⟨⟨⟨rfl, q1⟩, q2⟩, q3⟩, q4⟩, q5⟩, q6⟩ := q
    obtain ⟨s1, s2⟩ := stars_of q5
    have h1 := star_cons (es := ys) (env := X.env) s1
    have h2 := (star_any cp X.env ys s2).1
    have pa := sa.l _ q4
    have po := so.e _ q1
    have hf := few_of (cp := cp) (env := X.env) q5 q6
    refine both ?_ fun _ => rfl
    cases m with
    | append => exact PE.imp (pe_bm PySem.F.plainAttrs_list PySem.F.slot_list_append PySem.F.type_list_append mt_appendD po pa (base_ok q2 _ _ _) hf q3 h1 h2) fun τ H Q w => rmth (m := .append) (fun st r e => rcv_list st r e) w
    | extend => exact PE.imp (pe_bm PySem.F.plainAttrs_list PySem.F.slot_list_extend PySem.F.type_list_extend mt_extendD po pa (base_ok q2 _ _ _) hf q3 h1 h2) fun τ H Q w => rmth (m := .extend) (fun st r e => rcv_list st r e) w
    | join => exact PE.imp (pe_bm PySem.F.plainAttrs_str PySem.F.slot_str_join PySem.F.type_str_join mt_joinD po pa (base_ok q2 _ _ _) hf q3 h1 h2) fun τ H Q w => rmth (m := .join) (fun st r e => rcv_str r e) w
    | pop => exact PE.imp (pe_bm PySem.F.plainAttrs_list PySem.F.slot_list_pop PySem.F.type_list_pop mt_popD po pa (base_ok q2 _ _ _) hf q3 h1 h2) fun τ H Q w => rmth (m := .pop) (fun st r e => rcv_list st r e) w
    | index => exact PE.imp (pe_bmX PySem.F.slot_tuple_index PySem.F.type_tuple_index mt_indexD po pa (base_ok q2 _ _ _) hf q3 h1 h2) fun τ H Q w => rmthX w
    | startswith => exact PE.imp (pe_bm PySem.F.plainAttrs_str PySem.F.slot_str_startswith PySem.F.type_str_startswith mt_startsD po pa (base_ok q2 _ _ _) hf q3 h1 h2) fun τ H Q w => rmth (m := .startswith) (fun st r e => rcv_str (h := []) r e) w
  · cases q
/-- true of a piece in each context that fits -/
def All (C : Str → List D → Hs → R D) (k : Nat) (g : E) : Prop := ∀ (X : Cx) (ck : Ck) (W : WX), Fit X ck C k W → Snd X ck C W g
theorem sub_of {xs ys : List Nat} (h : sub xs ys = true) : ∀ i ∈ xs, i ∈ ys := by
  intro i hi
  unfold sub at h
  have := List.all_eq_true.mp h i hi
  simpa using this
theorem own_snd (N : List Str) (own : List Nat) : (ownN N own).map (·.2) = own := by
  unfold ownN
  rw [List.map_map]
  exact List.map_id own
theorem pg_blk (f : Fit X ck C k W) {t : Tg} {tg : Expr} {scope : Scope} (h : ckTg (ck.blk scope).N (ck.blk scope).sc (ck.blk scope).fn t tg = true) (s : Shared) (H : Hp) (Ca : Addr) (cl : List (Str × Addr)) (fp : List Addr) :
    PG (X.blk s H scope (compEnvC scope cl Ca X.env) fp) tg (gT X.K t) := by
  have g := f.blk s H scope cl Ca fp
  exact pg_ok g.calm g.N g.nd g.sc g.fn h
theorem blk_own (f : Fit X ck C k W) {scope : Scope} {own : List Nat} (h : blkC ck.N ck.sc scope (ownN ck.N own) = true) : BlkOk X.N X.env.scope scope (ownN ck.N own) := by
  rw [f.N, f.sc]
  exact blkOk_by h
theorem snd_lc {m : Bool} {own : List Nat} {t : Tg} {it ifs elt : E} (f : Fit X ck C k W) (hi : All C k it) (hf : All C k ifs) (he : All C k elt) : Snd X ck C W (.lc m own t it ifs elt) := by
  refine Snd.val rfl rfl fun x q => ?_
  split at q
  · rename_i x tg iter is scope p
    simp only [Bool.and_eq_true, decide_eq_true_eq] at q
    obtain ⟨⟨⟨⟨⟨⟨⟨q1, q2⟩, q3⟩, q4⟩, q5⟩, q6⟩, q7⟩, q8⟩ := q
    have pe := pe_lc (pos := p) (tt := rT X.K noW (sem C ifs).ts) (te := rV X.K noW (sem C elt).v) f.calm f.nd ((hi X ck W f).i tg iter q2 q1) (blk_own f q3) (fun s H Ca cl fp => pg_blk f q4 s H Ca cl fp) (fun s H Ca cl fp => (hf _ _ noW (f.blk s H scope cl Ca fp)).ts is q6 q5) (fun s H Ca cl fp => (he _ _ noW (f.blk s H scope cl Ca fp)).e x q7) (fun y => fset_ok q2 _ y)
    rw [own_snd] at pe
    exact both (PE.imp pe fun τ H Q w => lc_read (sub_of q8) w) fun _ => rfl
  · cases q
theorem snd_lc2 {own vs1 : List Nat} {t t1 : Tg} {it ifs it1 ifs1 elt : E} (f : Fit X ck C k W) (hi : All C k it) (hf : All C k ifs) (hi1 : All C k it1) (hf1 : All C k ifs1) (he : All C k elt) : Snd X ck C W (.lc2 own vs1 t it ifs t1 it1 ifs1 elt) := by
  refine Snd.val rfl rfl fun x q => ?_
  split at q
  · rename_i x tg iter is tg1 iter1 is1 scope p
    simp only [Bool.and_eq_true, decide_eq_true_eq] at q
    obtain ⟨⟨⟨⟨⟨⟨⟨⟨⟨⟨⟨⟨⟨⟨q1, q2⟩, q2'⟩, q3⟩, q4⟩, q5⟩, q6⟩, q7⟩, q8⟩, q9⟩, q10⟩, q11⟩, q12⟩, q13⟩, q14⟩ := q
    have pe := pe_lc2 (pos := p) (vs1 := vs1) (tt := rT X.K noW (sem C ifs).ts) (wi1 := rI X.K noW (sem C it1).it) (tt1 := rT X.K noW (sem C ifs1).ts) (te := rV X.K noW (sem C elt).v) f.calm f.nd ((hi X ck W f).i tg iter q2 q1) (blk_own f q3) (by rw [own_snd]; exact sub_of q14) (fun s H Ca cl fp => pg_blk f q4 s H Ca cl fp) (fun s H Ca cl fp => (hf _ _ noW (f.blk s H scope cl Ca fp)).ts is q6 q5)
      (fun s H Ca cl fp => (hi1 _ _ noW (f.blk s H scope cl Ca fp)).i tg1 iter1 q2' q7) (fun s H Ca cl fp => pg_blk f q8 s H Ca cl fp) (fun s H Ca cl fp => (hf1 _ _ noW (f.blk s H scope cl Ca fp)).ts is1 q10 q9) (fun s H Ca cl fp => (he _ _ noW (f.blk s H scope cl Ca fp)).e x q11) (fun y => fset_ok q2 _ y) (fun env y => fset_ok q2' env y)
    rw [own_snd] at pe
    exact both (PE.imp pe fun τ H Q w => lc2_read (sub_of q12) (sub_of q13) w) fun _ => rfl
  · cases q
theorem one_star {y : Expr} {env : PySem.Env} (h : notStar y = true) : starEach [y] env = [(false, eval y env)] := star_cons h
/-- one argument, walked -/
theorem walk1 {K : PySem.W.Frag} {ma : Env → Hs → R D} {g : D → Hs → R (List D)} {τ : St} {H : Hp} {Q : It → Hp → Prop} (q : rI K W (fun σ h => (ma σ h).bind fun x h1 => noX (g x h1)) τ H Q) :
    tCons (rV K W ma) tNil τ H fun vs H1 => ∃ v F ρ h x ds h', vs = [v] ∧ Stt K F ρ h H1 ∧ Rep K F ρ x v ∧ g x h = .ok ds h' ∧ ∀ (F' : Hp) (ρ' : List Addr) (H' : Hp) (J : It), Exh F ρ H1 F' ρ' H' → Stt K F' ρ' h' H' → WalkD K F' ρ' J ds → Q J H' := by
  obtain ⟨F, ρ, σ, h, st, eo, fin⟩ := q
  dsimp only at fin
  refine ⟨F, ρ, σ, h, st, eo, ?_⟩
  cases ea : ma σ h with
  | ok x h1 =>
    rw [ea] at fin
    intro F1 ρ1 H1 v e1 st1 r1
    simp only [R.bind] at fin
    cases eg : g x h1 with
    | ok ds h' =>
      rw [eg] at fin
      exact ⟨v, F1, ρ1, h1, x, ds, h', rfl, st1, r1, eg, fun F' ρ' H' J a b c => fin F' ρ' H' J (e1.trans a) b c⟩
    | ex _ _ => rw [eg] at fin; exact fin.elim
    | no => rw [eg] at fin; exact fin.elim
  | ex _ _ => rw [ea] at fin; exact fin
  | no => rw [ea] at fin; exact fin.elim
theorem walk2 {K : PySem.W.Frag} {ma mb : Env → Hs → R D} {g : D → D → Hs → R (List D)} {τ : St} {H : Hp} {Q : It → Hp → Prop} (q : rI K W (fun σ h => (ma σ h).bind fun x h1 => (mb σ h1).bind fun y h2 => noX (g x y h2)) τ H Q) :
    tCons (rV K W ma) (tCons (rV K W mb) tNil) τ H fun vs H1 => ∃ v u F ρ h x y ds h', vs = [v, u] ∧ Stt K F ρ h H1 ∧ Rep K F ρ x v ∧ Rep K F ρ y u ∧ g x y h = .ok ds h' ∧ ∀ (F' : Hp) (ρ' : List Addr) (H' : Hp) (J : It), Exh F ρ H1 F' ρ' H' → Stt K F' ρ' h' H' → WalkD K F' ρ' J ds → Q J H' := by
  obtain ⟨F, ρ, σ, h, st, eo, fin⟩ := q
  dsimp only at fin
  refine ⟨F, ρ, σ, h, st, eo, ?_⟩
  cases ea : ma σ h with
  | ok x h1 =>
    rw [ea] at fin
    intro F1 ρ1 H1 v e1 st1 r1
    simp only [R.bind] at fin
    refine ⟨F1, ρ1, σ, h1, st1, eo.mono e1.toExt, ?_⟩
    cases eb : mb σ h1 with
    | ok y h2 =>
      rw [eb] at fin
      dsimp only at fin
      intro F2 ρ2 H2 u e2 st2 r2
      cases eg : g x y h2 with
      | ok ds h' =>
        rw [eg] at fin
        exact ⟨v, u, F2, ρ2, h2, x, y, ds, h', rfl, st2, Rep.mono e2.toExt _ _ r1, r2, eg, fun F' ρ' H' J a b c => fin F' ρ' H' J ((e1.trans e2).trans a) b c⟩
      | ex _ _ => rw [eg] at fin; exact fin.elim
      | no => rw [eg] at fin; exact fin.elim
    | ex _ _ => rw [eb] at fin; exact FinX.mono e1 fin
    | no => rw [eb] at fin; exact fin.elim
  | ex _ _ => rw [ea] at fin; exact fin
  | no => rw [ea] at fin; exact fin.elim
theorem cons1_imp {K : PySem.W.Frag} {ma : Env → Hs → R D} {τ : St} {H : Hp} {P P' : List V → Hp → Prop} (i : ∀ vs H, P vs H → P' vs H) (q : tCons (rV K W ma) tNil τ H P) : tCons (rV K W ma) tNil τ H P' := by
  obtain ⟨F, ρ, σ, h, st, eo, fin⟩ := q
  refine ⟨F, ρ, σ, h, st, eo, ?_⟩
  cases ea : ma σ h with
  | ok x h1 =>
    rw [ea] at fin
    exact fun F1 ρ1 H1 v e1 st1 r1 => i _ _ (fin F1 ρ1 H1 v e1 st1 r1)
  | ex _ _ => rw [ea] at fin; exact fin
  | no => rw [ea] at fin; exact fin
theorem cons2_imp {K : PySem.W.Frag} {ma mb : Env → Hs → R D} {τ : St} {H : Hp} {P P' : List V → Hp → Prop} (i : ∀ vs H, P vs H → P' vs H) (q : tCons (rV K W ma) (tCons (rV K W mb) tNil) τ H P) : tCons (rV K W ma) (tCons (rV K W mb) tNil) τ H P' := by
  obtain ⟨F, ρ, σ, h, st, eo, fin⟩ := q
  refine ⟨F, ρ, σ, h, st, eo, ?_⟩
  cases ea : ma σ h with
  | ok x h1 =>
    rw [ea] at fin
    exact fun F1 ρ1 H1 v e1 st1 r1 => cons1_imp (fun vs H => i _ _) (fin F1 ρ1 H1 v e1 st1 r1)
  | ex _ _ => rw [ea] at fin; exact fin
  | no => rw [ea] at fin; exact fin
theorem snd_rng {a : E} (f : Fit X ck C k W) (sa : Snd X ck C W a) : Snd X ck C W (.rng a) := by
  refine Snd.itr rfl rfl fun tg x _ q => ?_
  split at q
  · rename_i z np y p
    simp only [Bool.and_eq_true, decide_eq_true_eq] at q
    obtain ⟨⟨⟨rfl, q1⟩, q2⟩, q3⟩ := q
    refine PI.imp (pi_range1 (f.gl q1) (blt_of f (x := Str.ofString "range") (by decide +kernel)) (pa_cons (sa.e _ q3) pa_nil (one_star q2)) (one_star q2)) fun τ H Q w => ?_
    refine cons1_imp (fun vs H1 w => ?_) (walk1 w)
    obtain ⟨v, F, ρ, h, x, ds, h', rfl, st, r, eg, fin⟩ := w
    unfold rngW at eg
    split at eg
    · rename_i n
      split at eg
      · rename_i hn
        have hn := of_decide_eq_true hn
        cases eg
        cases r
        exact ⟨n, rfl, by omega, by omega, fin F ρ H1 _ (Exh.refl F ρ H1) st (wd_rng n.toNat)⟩
      · cases eg
    · cases eg
  · cases q
theorem rng2_get : ∀ (n : Nat) (lo : Int), WalkD X.K F ρ (Itr lo n) (rngP lo n) := fun n lo => by
  refine ⟨fun i H hi s => by rw [rngP_len] at hi; exact hi, fun H s => by rw [rngP_len]; exact Nat.le_refl _, fun i H x H' d hd s y => ?_⟩
  obtain ⟨rfl, rfl⟩ := y
  rw [rngP_get n lo i d hd]
  exact .inl ⟨rfl, .int _⟩
theorem snd_rng2 {a b : E} (f : Fit X ck C k W) (sa : Snd X ck C W a) (sb : Snd X ck C W b) : Snd X ck C W (.rng2 a b) := by
  refine Snd.itr rfl rfl fun tg x _ q => ?_
  split at q
  · rename_i z np y w p
    simp only [Bool.and_eq_true, decide_eq_true_eq] at q
    obtain ⟨⟨⟨⟨⟨rfl, q1⟩, q2⟩, q2'⟩, q3⟩, q4⟩ := q
    refine PI.imp (pi_range2 (f.gl q1) (blt_of f (x := Str.ofString "range") (by decide +kernel)) (pa_cons (sa.e _ q3) (pa_cons (sb.e _ q4) pa_nil (one_star q2')) (star_cons q2)) (by rw [star_cons q2, one_star q2']) (one_star q2')) fun τ H Q w => ?_
    refine cons2_imp (fun vs H1 w => ?_) (walk2 w)
    obtain ⟨v, u, F, ρ, h, x, y, ds, h', rfl, st, r, r', eg, fin⟩ := w
    unfold rng2W at eg
    split at eg
    · rename_i i j
      split at eg
      · rename_i hn
        have hn := of_decide_eq_true hn
        cases eg
        cases r
        cases r'
        exact ⟨i, j, rfl, ⟨by omega, by omega, by omega, by omega⟩, fin F ρ H1 _ (Exh.refl F ρ H1) st (rng2_get _ _)⟩
      · cases eg
    · cases eg
  · cases q
theorem snd_zip {a b : E} (f : Fit X ck C k W) (sa : Snd X ck C W a) (sb : Snd X ck C W b) : Snd X ck C W (.zip a b) := by
  refine Snd.itr rfl rfl fun tg x _ q => ?_
  split at q
  · rename_i es kk tp z np y w p
    simp only [Bool.and_eq_true, decide_eq_true_eq] at q
    obtain ⟨⟨⟨⟨⟨rfl, q1⟩, q2⟩, q2'⟩, q3⟩, q4⟩ := q
    refine PI.imp (RZ.pi_zipA (f.gl q1) (blt_of f (x := Str.ofString "zip") (by decide +kernel)) (pa_cons (sa.e _ q3) (pa_cons (sb.e _ q4) pa_nil (one_star q2')) (star_cons q2)) (star_cons q2) (by rw [one_star q2']; rfl)) fun τ H Q w => ?_
    refine cons2_imp (fun vs H1 w => ?_) (walk2 w)
    obtain ⟨v, u, F, ρ, h, x, y, ds, h', rfl, st, r, r', eg, fin⟩ := w
    unfold zipW at eg
    split at eg
    · rename_i t xs t' ys e1 e2
      split at eg
      · rename_i ht
        subst ht
        cases eg
        obtain ⟨a, vs, rfl, k1, k2⟩ := vwF_ok r e1
        obtain ⟨b, ws, rfl, k3, k4⟩ := vwF_ok r' e2
        refine ⟨a, b, vs, ws, rfl, ?_⟩
        cases t with
        | true =>
          have k2 : SqT X.K F a vs := by simpa using k2
          have k4 : SqT X.K F b ws := by simpa using k4
          exact .inr ⟨sqT_mono st.same k2, sqT_mono st.same k4, fin F ρ H1 _ (Exh.refl F ρ H1) st (wd_zipT k2 k4 k1 k3)⟩
        | false =>
          have k2 : SqL X.K F a vs := by simpa using k2
          have k4 : SqL X.K F b ws := by simpa using k4
          exact .inl ⟨sqL_mono st.same k2, sqL_mono st.same k4, fin F ρ H1 _ (Exh.refl F ρ H1) st (wd_zip k2 k4 k1 k3)⟩
      · cases eg
    · cases eg
  · cases q
end
end En
/-! En: statements -/
namespace En
open PySem L2
variable [Wd]
variable {W : WX}

def FinS (K : PySem.W.Frag) (W : WX) (F : Hp) (ρ : List Addr) (H : Hp) (r : R (Fl × Env)) (Z : Ends) : Prop := match r with
  | .ok p h' => ∀ (F' : Hp) (ρ' : List Addr) (H' : Hp), Exh F ρ H F' ρ' H' → Stt K F' ρ' h' H' → (match p.1 with
    | .nx => ∀ τ', EnvOk K F' ρ' p.2 τ' → Z.nx τ' H'
    | .bk => ∀ τ', EnvOk K F' ρ' p.2 τ' → Z.bk τ' H'
    | .ct => ∀ τ', EnvOk K F' ρ' p.2 τ' → Z.ct τ' H'
    | .rt x => ∀ v, Rep K F' ρ' x v → Z.rt v H'
    | .xc x => ∀ τ' cls d, EnvOk K F' ρ' p.2 τ' → RepX K F' x cls d → W cls d τ' H')
  | _ => False
def rS (K : PySem.W.Frag) (W : WX) (m : Env → Hs → R (Fl × Env)) : TS := fun Z τ H => ∃ F ρ σ h, Stt K F ρ h H ∧ EnvOk K F ρ σ τ ∧ FinS K W F ρ H (m σ h) Z
section
variable {K : PySem.W.Frag} {F F' H H' : Hp} {ρ ρ' : List Addr} {h : Hs} {Z : Ends}
theorem FinS.mono {r : R (Fl × Env)} (e : Exh F ρ H F' ρ' H') (q : FinS K W F ρ H r Z) : FinS K W F' ρ' H' r Z := by
  cases r with
  | ok x h' => exact fun F2 ρ2 H2 e2 st => q F2 ρ2 H2 (e.trans e2) st
  | ex _ _ => exact q
  | no => exact q
theorem finS_x {x : Xn} {σ : Env} {τ : St} (eo : EnvOk K F ρ σ τ) (q : FinS K W F ρ H (.ok (.xc x, σ) h) Z) : FinX K F ρ H x h (wt W τ) := fun F1 ρ1 H1 c d e st r => q F1 ρ1 H1 e st τ c d (eo.mono e.toExt) r
theorem finS_nx {σ : Env} {τ : St} (st : Stt K F ρ h H) (eo : EnvOk K F ρ σ τ) (q : FinS K W F ρ H (.ok (.nx, σ) h) Z) : Z.nx τ H := q F ρ H (Exh.refl F ρ H) st τ eo
theorem sSeq {ms mr : Env → Hs → R (Fl × Env)} {τ : St} (q : rS K W (fun σ h => (ms σ h).bind fun p h1 => match p.1 with
    | .nx => mr p.2 h1
    | f => .ok (f, p.2) h1) Z τ H) : tSeq (rS K W ms) (rS K W mr) Z τ H := by
  obtain ⟨F, ρ, σ, h, st, eo, fin⟩ := q
  dsimp only at fin
  refine ⟨F, ρ, σ, h, st, eo, ?_⟩
  cases ea : ms σ h with
  | ok p h1 =>
    rw [ea] at fin
    replace fin : FinS K W F ρ H (match p.1 with
      | .nx => mr p.2 h1
      | f => .ok (f, p.2) h1) Z := fin
    intro F1 ρ1 H1 e1 st1
    split
    · rename_i hp
      rw [hp] at fin
      exact fun τ' eo1 => ⟨F1, ρ1, _, h1, st1, eo1, FinS.mono e1 fin⟩
    · rename_i hp
      rw [hp] at fin
      exact fun τ' eo1 => fin F1 ρ1 H1 e1 st1 τ' eo1
    · rename_i hp
      rw [hp] at fin
      exact fun τ' eo1 => fin F1 ρ1 H1 e1 st1 τ' eo1
    · rename_i x hp
      rw [hp] at fin
      exact fun v r => fin F1 ρ1 H1 e1 st1 v r
    · rename_i x hp
      rw [hp] at fin
      exact fun τ' c d eo1 r => fin F1 ρ1 H1 e1 st1 τ' c d eo1 r
  | ex _ _ => rw [ea] at fin; exact fin
  | no => rw [ea] at fin; exact fin
theorem sAsg {ma : Env → Hs → R D} {i : Nat} {τ : St} (q : rS K W (fun σ h => bindS (ma σ h) σ fun x h1 => .ok (.nx, σ.set i (some x)) h1) Z τ H) : tAsg (rV K W ma) (gName i) Z τ H := by
  obtain ⟨F, ρ, σ, h, st, eo, fin⟩ := q
  dsimp only at fin
  refine ⟨F, ρ, σ, h, st, eo, ?_⟩
  cases ea : ma σ h with
  | ok x h1 =>
    rw [ea] at fin
    intro F1 ρ1 H1 v e1 st1 r1
    exact fin F1 ρ1 H1 e1 st1 _ ((eo.mono e1.toExt).put i r1)
  | ex _ _ => rw [ea] at fin; exact finS_x eo fin
  | no => rw [ea] at fin; exact fin
theorem sUnp {ma : Env → Hs → R D} {t : Tg} {τ : St} (q : rS K W (fun σ h => bindS (ma σ h) σ fun x h1 => match bindTg t x σ with
    | some σ1 => .ok (.nx, σ1) h1
    | none => .no) Z τ H) : tAsg (rV K W ma) (gT K t) Z τ H := by
  obtain ⟨F, ρ, σ, h, st, eo, fin⟩ := q
  dsimp only at fin
  refine ⟨F, ρ, σ, h, st, eo, ?_⟩
  cases ea : ma σ h with
  | ok x h1 =>
    rw [ea] at fin
    replace fin : FinS K W F ρ H (match bindTg t x σ with
      | some σ1 => .ok (.nx, σ1) h1
      | none => .no) Z := fin
    intro F1 ρ1 H1 v e1 st1 r1
    split at fin
    · rename_i σ1 hb
      exact ⟨F1, ρ1, σ, h1, x, σ1, st1, eo.mono e1.toExt, r1, hb, fun τ' eo1 _ => fin F1 ρ1 H1 e1 st1 τ' eo1⟩
    · exact fin.elim
  | ex _ _ => rw [ea] at fin; exact finS_x eo fin
  | no => rw [ea] at fin; exact fin
theorem sPar2 {ma mb : Env → Hs → R D} {i j : Nat} {τ : St} (q : rS K W (fun σ h => bindS ((ma σ h).bind fun x h1 => (mb σ h1).bind fun y h2 => .ok (x, y) h2) σ fun p h2 => .ok (.nx, (σ.set i (some p.1)).set j (some p.2)) h2) Z τ H) :
    tCons (rV K W ma) (tCons (rV K W mb) tNil) τ H fun vs H1 => ∃ v w F1 ρ1 h1, vs = [v, w] ∧ Stt K F1 ρ1 h1 H1 ∧ ∀ H2, Exh F1 ρ1 H1 F1 ρ1 H2 → Stt K F1 ρ1 h1 H2 → Z.nx ((τ.set i (some v)).set j (some w)) H2 := by
  obtain ⟨F, ρ, σ, h, st, eo, fin⟩ := q
  dsimp only at fin
  refine ⟨F, ρ, σ, h, st, eo, ?_⟩
  cases ea : ma σ h with
  | ok x h1 =>
    rw [ea] at fin
    replace fin : FinS K W F ρ H (bindS ((mb σ h1).bind fun y h2 => .ok (x, y) h2) σ fun p h2 => .ok (.nx, (σ.set i (some p.1)).set j (some p.2)) h2) Z := fin
    intro F1 ρ1 H1 v e1 st1 r1
    refine ⟨F1, ρ1, σ, h1, st1, eo.mono e1.toExt, ?_⟩
    cases eb : mb σ h1 with
    | ok y h2 =>
      rw [eb] at fin
      intro F2 ρ2 H2 w e2 st2 r2
      exact ⟨v, w, F2, ρ2, h2, rfl, st2, fun H3 e3 st3 => fin F2 ρ2 H3 ((e1.trans e2).trans e3) st3 _ ((((eo.mono e1.toExt).mono e2.toExt).put i (Rep.mono e2.toExt _ _ r1)).put j r2)⟩
    | ex _ _ => rw [eb] at fin; exact FinX.mono e1 (finS_x eo fin)
    | no => rw [eb] at fin; exact fin
  | ex _ _ => rw [ea] at fin; exact finS_x eo fin
  | no => rw [ea] at fin; exact fin
theorem sSto {ma mb mc : Env → Hs → R D} {τ : St} (q : rS K W (fun σ h => bindS ((ma σ h).bind fun x h1 => (mb σ h1).bind fun y h2 => (mc σ h2).bind fun z h3 => match stoD y z x h3 with
    | some h4 => .ok () h4
    | none => .no) σ fun _ h4 => .ok (.nx, σ) h4) Z τ H) : tAsg (rV K W ma) (gSub (rV K W mb) (rV K W mc) rSetL) Z τ H := by
  obtain ⟨F, ρ, σ, h, st, eo, fin⟩ := q
  dsimp only at fin
  refine ⟨F, ρ, σ, h, st, eo, ?_⟩
  cases ea : ma σ h with
  | ok x h1 =>
    rw [ea] at fin
    replace fin : FinS K W F ρ H (bindS ((mb σ h1).bind fun y h2 => (mc σ h2).bind fun z h3 => match stoD y z x h3 with
      | some h4 => .ok () h4
      | none => .no) σ fun _ h4 => .ok (.nx, σ) h4) Z := fin
    intro F1 ρ1 H1 v e1 st1 r1
    refine ⟨F1, ρ1, σ, h1, st1, eo.mono e1.toExt, ?_⟩
    cases eb : mb σ h1 with
    | ok y h2 =>
      rw [eb] at fin
      replace fin : FinS K W F ρ H (bindS ((mc σ h2).bind fun z h3 => match stoD y z x h3 with
        | some h4 => .ok () h4
        | none => .no) σ fun _ h4 => .ok (.nx, σ) h4) Z := fin
      intro F2 ρ2 H2 w e2 st2 r2
      refine ⟨F2, ρ2, σ, h2, st2, (eo.mono e1.toExt).mono e2.toExt, ?_⟩
      cases ec : mc σ h2 with
      | ok z h3 =>
        rw [ec] at fin
        replace fin : FinS K W F ρ H (bindS (match stoD y z x h3 with
          | some h4 => .ok () h4
          | none => .no) σ fun _ h4 => .ok (.nx, σ) h4) Z := fin
        intro F3 ρ3 H3 u e3 st3 r3
        have e13 := (e1.trans e2).trans e3
        split at fin
        · rename_i h4 hs
          unfold stoD at hs
          split at hs
          · rename_i n j yy
            split at hs
            · rename_i xs hn
              split at hs
              · rename_i kk hk
                cases hs
                cases r3
                obtain ⟨a, q1, rfl⟩ := Rep.mono e3.toExt _ _ r2
                have r1' : Dq K F3 v yy := Rep.mono (e2.trans e3).toExt _ _ r1
                obtain ⟨⟨_, vs, q2, q3⟩, _⟩ := st3.cell n a _ q1 hn
                refine ⟨a, vs, j, kk, rfl, rfl, q2, by rw [q3.len]; exact hk, ?_⟩
                exact fin F3 ρ3 _ (e13.trans (exh_put q1)) (st3.cellPut q1 hn (q3.put kk r1')) τ ((eo.mono e13.toExt))
              · cases hs
            · cases hs
          · cases hs
        · exact fin.elim
      | ex _ _ => rw [ec] at fin; exact FinX.mono (e1.trans e2) (finS_x eo fin)
      | no => rw [ec] at fin; exact fin
    | ex _ _ => rw [eb] at fin; exact FinX.mono e1 (finS_x eo fin)
    | no => rw [eb] at fin; exact fin
  | ex _ _ => rw [ea] at fin; exact finS_x eo fin
  | no => rw [ea] at fin; exact fin
theorem sExp {ma : Env → Hs → R D} {τ : St} (q : rS K W (fun σ h => bindS (ma σ h) σ fun _ h1 => .ok (.nx, σ) h1) Z τ H) : tDrop (rV K W ma) Z τ H := by
  obtain ⟨F, ρ, σ, h, st, eo, fin⟩ := q
  dsimp only at fin
  refine ⟨F, ρ, σ, h, st, eo, ?_⟩
  cases ea : ma σ h with
  | ok x h1 =>
    rw [ea] at fin
    intro F1 ρ1 H1 v e1 st1 r1
    exact fin F1 ρ1 H1 e1 st1 _ (eo.mono e1.toExt)
  | ex _ _ => rw [ea] at fin; exact finS_x eo fin
  | no => rw [ea] at fin; exact fin
theorem sRet {ma : Env → Hs → R D} {τ : St} (q : rS K W (fun σ h => bindS (ma σ h) σ fun x h1 => .ok (.rt x, σ) h1) Z τ H) : tRet (rV K W ma) Z τ H := by
  obtain ⟨F, ρ, σ, h, st, eo, fin⟩ := q
  dsimp only at fin
  refine ⟨F, ρ, σ, h, st, eo, ?_⟩
  cases ea : ma σ h with
  | ok x h1 =>
    rw [ea] at fin
    intro F1 ρ1 H1 v e1 st1 r1
    exact fin F1 ρ1 H1 e1 st1 v r1
  | ex _ _ => rw [ea] at fin; exact finS_x eo fin
  | no => rw [ea] at fin; exact fin
theorem sIte {mc : Env → Hs → R Bool} {ma mb : Env → Hs → R (Fl × Env)} {τ : St} (q : rS K W (fun σ h => bindS (mc σ h) σ fun t h1 => if t then ma σ h1 else mb σ h1) Z τ H) : tIfS (rT K W mc) (rS K W ma) (rS K W mb) Z τ H := by
  obtain ⟨F, ρ, σ, h, st, eo, fin⟩ := q
  dsimp only at fin
  refine ⟨F, ρ, σ, h, st, eo, ?_⟩
  cases ea : mc σ h with
  | ok b h1 =>
    rw [ea] at fin
    replace fin : FinS K W F ρ H (if b then ma σ h1 else mb σ h1) Z := fin
    intro F1 ρ1 H1 e1 st1
    cases b with
    | true => exact ⟨F1, ρ1, σ, h1, st1, eo.mono e1.toExt, FinS.mono e1 fin⟩
    | false => exact ⟨F1, ρ1, σ, h1, st1, eo.mono e1.toExt, FinS.mono e1 fin⟩
  | ex _ _ => rw [ea] at fin; exact finS_x eo fin
  | no => rw [ea] at fin; exact fin
theorem sFor {mi : Env → Hs → R (List D)} {t : Tg} {mb : Env → Hs → R (Fl × Env)} {τ : St} (q : rS K W (fun σ h => bindS (mi σ h) σ fun ds h1 => loopF (fun x σ1 h2 => match bindTg t x σ1 with
    | some σ2 => mb σ2 h2
    | none => .no) ds σ h1) Z τ H) : tFor (rI K W mi) (gT K t) (rS K W mb) Z τ H := by
  obtain ⟨F, ρ, σ, h, st, eo, fin⟩ := q
  dsimp only at fin
  refine ⟨F, ρ, σ, h, st, eo, ?_⟩
  cases ea : mi σ h with
  | ok ds h1 =>
    rw [ea] at fin
    intro F1 ρ1 H1 J e1 st1 wd
    let f : D → Env → Hs → R (Fl × Env) := fun x σ1 h2 => match bindTg t x σ1 with
      | some σ2 => mb σ2 h2
      | none => .no
    replace fin : FinS K W F ρ H (loopF f ds σ h1) Z := fin
    refine ⟨fun i m τ H => m = ds.length - i ∧ i ≤ ds.length ∧ ∃ F2 ρ2 σ2 h2, Ext F1 ρ1 F2 ρ2 ∧ Stt K F2 ρ2 h2 H ∧ EnvOk K F2 ρ2 σ2 τ ∧ FinS K W F2 ρ2 H (loopF f (ds.drop i) σ2 h2) Z,
      ⟨ds.length, rfl, Nat.zero_le _, F1, ρ1, σ, h1, Ext.refl F1 ρ1, st1, eo.mono e1.toExt, FinS.mono e1 fin⟩, ?_⟩
    rintro i m τ2 H2 ⟨rfl, hi, F2, ρ2, σ2, h2, x2, st2, eo2, fin2⟩
    by_cases hlt : i < ds.length
    · refine .inr ⟨wd.goes i H2 hlt (x2.f.trans st2.same), fun τ' H' => ds.length - (i + 1) = ds.length - (i + 1) ∧ i + 1 ≤ ds.length ∧ ∃ F2 ρ2 σ2 h2, Ext F1 ρ1 F2 ρ2 ∧ Stt K F2 ρ2 h2 H' ∧ EnvOk K F2 ρ2 σ2 τ' ∧ FinS K W F2 ρ2 H' (loopF f (ds.drop (i + 1)) σ2 h2) Z,
        fun τ' H' w => ⟨ds.length - (i + 1), by omega, w⟩, fun x H' y => ?_⟩
      obtain ⟨F3, e3, st3, r3⟩ := wd.next x2 st2 (List.getElem?_eq_getElem hlt) y
      rw [List.drop_eq_getElem_cons hlt] at fin2
      unfold loopF at fin2
      replace fin2 := FinS.mono e3 fin2
      cases hb : bindTg t ds[i] σ2 with
      | none =>
        have ef : f ds[i] σ2 h2 = .no := by show (match bindTg t ds[i] σ2 with | some σ2 => mb σ2 h2 | none => .no) = _; rw [hb]
        rw [ef] at fin2
        exact fin2.elim
      | some σ3 =>
        have ef : f ds[i] σ2 h2 = mb σ3 h2 := by show (match bindTg t ds[i] σ2 with | some σ2 => mb σ2 h2 | none => .no) = _; rw [hb]
        rw [ef] at fin2
        refine ⟨F3, ρ2, σ2, h2, ds[i], σ3, st3, eo2.mono e3.toExt, r3, hb, fun τ3 eo3 _ => ⟨F3, ρ2, σ3, h2, st3, eo3, ?_⟩⟩
        cases er : mb σ3 h2 with
        | ok p h4 =>
          rw [er] at fin2
          obtain ⟨fl, σ4⟩ := p
          intro F4 ρ4 H4 e4 st4
          have x4 := (x2.trans e3.toExt).trans e4.toExt
          cases fl with
          | nx => exact fun τ4 eo4 => ⟨rfl, hlt, F4, ρ4, σ4, h4, x4, st4, eo4, FinS.mono e4 fin2⟩
          | ct => exact fun τ4 eo4 => ⟨rfl, hlt, F4, ρ4, σ4, h4, x4, st4, eo4, FinS.mono e4 fin2⟩
          | bk => exact fun τ4 eo4 => fin2 F4 ρ4 H4 e4 st4 τ4 eo4
          | rt d => exact fun v r => fin2 F4 ρ4 H4 e4 st4 v r
          | xc d => exact fun τ4 c dd eo4 r => fin2 F4 ρ4 H4 e4 st4 τ4 c dd eo4 r
        | ex _ _ => rw [er] at fin2; exact fin2
        | no => rw [er] at fin2; exact fin2
    · have e : i = ds.length := by omega
      subst e
      rw [List.drop_length] at fin2
      unfold loopF at fin2
      exact .inl ⟨wd.stops H2 (x2.f.trans st2.same), finS_nx st2 eo2 fin2⟩
  | ex _ _ => rw [ea] at fin; exact finS_x eo fin
  | no => rw [ea] at fin; exact fin
theorem sWhl {mc : Env → Hs → R Bool} {mb : Env → Hs → R (Fl × Env)} {n : Nat} {τ : St} (q : rS K W (whlF mc mb n) Z τ H) : tWhile (rT K W mc) (rS K W mb) Z τ H := by
  refine ⟨fun m τ H => rS K W (whlF mc mb m) Z τ H, ⟨n, q⟩, ?_⟩
  intro m τ2 H2 w
  obtain ⟨F, ρ, σ, h, st, eo, fin⟩ := w
  cases m with
  | zero => exact fin.elim
  | succ m =>
    unfold whlF at fin
    refine ⟨F, ρ, σ, h, st, eo, ?_⟩
    cases ec : mc σ h with
    | ok b h1 =>
      rw [ec] at fin
      intro F1 ρ1 H1 e1 st1
      cases b with
      | true =>
        simp only [if_true]
        replace fin : FinS K W F ρ H2 ((mb σ h1).bind fun p h2 => (match p.1 with
          | .nx => whlF mc mb m p.2 h2
          | .ct => whlF mc mb m p.2 h2
          | .bk => .ok (.nx, p.2) h2
          | .rt y => .ok (.rt y, p.2) h2
          | .xc x => .ok (.xc x, p.2) h2)) Z := by simp only [R.bind, if_true] at fin; exact fin
        refine ⟨fun τ H => rS K W (whlF mc mb m) Z τ H, fun τ' H' w => ⟨m, Nat.lt_succ_self m, w⟩, F1, ρ1, σ, h1, st1, eo.mono e1.toExt, ?_⟩
        cases er : mb σ h1 with
        | ok p h4 =>
          rw [er] at fin
          obtain ⟨fl, σ4⟩ := p
          intro F4 ρ4 H4 e4 st4
          have e14 := e1.trans e4
          cases fl with
          | nx => exact fun τ4 eo4 => ⟨F4, ρ4, σ4, h4, st4, eo4, FinS.mono e14 fin⟩
          | ct => exact fun τ4 eo4 => ⟨F4, ρ4, σ4, h4, st4, eo4, FinS.mono e14 fin⟩
          | bk => exact fun τ4 eo4 => fin F4 ρ4 H4 e14 st4 τ4 eo4
          | rt d => exact fun v r => fin F4 ρ4 H4 e14 st4 v r
          | xc d => exact fun τ4 c dd eo4 r => fin F4 ρ4 H4 e14 st4 τ4 c dd eo4 r
        | ex _ _ => rw [er] at fin; exact fin
        | no => rw [er] at fin; exact fin
      | false =>
        simp only [Bool.false_eq_true, if_false]
        replace fin : FinS K W F ρ H2 (.ok (.nx, σ) h1) Z := by simp only [R.bind, Bool.false_eq_true, if_false] at fin; exact fin
        exact fin F1 ρ1 H1 e1 st1 τ2 (eo.mono e1.toExt)
    | ex _ _ => rw [ec] at fin; exact finS_x eo fin
    | no => rw [ec] at fin; exact fin
end
end En
/-! En: the look at statements -/
namespace En
open PySem L2
variable [Wd]
variable {W : WX}
theorem pw_if {α : Type} {c : Prop} [Decidable c] {a b : Sem α} {x : Sem α} (h1 : c → a = x) (h2 : ¬ c → b = x) : (if c then a else b) = x := by
  split
  · exact h1 ‹_›
  · exact h2 ‹_›
def locN (sc : Scope) : Expr → Bool
  | .Name x _ => sc.names.lookup x == some .local
  | _ => false
theorem fm_lt {f : Expr → Option Str} {g : Expr → Bool} (hg : ∀ e, g e = false → f e = none) : ∀ ts : List Expr, ts.all g = false → (ts.filterMap f).length < ts.length
  | [], h => by cases h
  | t :: ts, h => by
    have hl := List.length_filterMap_le f ts
    rw [List.filterMap_cons]
    cases hf : g t with
    | false =>
      rw [hg t hf]
      simp only [List.length_cons]
      omega
    | true =>
      simp only [List.all_cons, hf, Bool.true_and] at h
      have := fm_lt hg ts h
      split <;> simp only [List.length_cons] <;> omega
theorem sw_cell {env : PySem.Env} {ts vs : List Expr} {k k2 : Nat} {p p2 : Pos} (h : ts.all (locN env.scope) = false) : swappedStores [.Tuple ts k p] (.Tuple vs k2 p2) env = pure none := by
  unfold swappedStores
  dsimp only
  refine pw_if (fun _ => rfl) fun _ => pw_if (fun _ => rfl) fun _ => pw_if (fun _ => rfl) fun hc => ?_
  exfalso
  apply hc
  rw [Bool.or_eq_true]
  left
  rw [bne_iff_ne]
  have := fm_lt (f := fun x => match x with
    | .Name id pos => if (env.kindOf id == some .local && pos.line == (ts.head?.map (·.pos.line)).getD 0) = true then some id else none
    | _ => none) (g := locN env.scope) (fun e he => ?_) ts h
  · exact Nat.ne_of_lt this
  · unfold locN at he
    split at he
    · have : (env.kindOf ‹Str› == some .local) = false := he
      simp only [this, Bool.false_and, Bool.false_eq_true, if_false]
    · rename_i hn
      cases e <;> first | rfl | exact absurd rfl (hn _ _)
theorem sw_fold {env : PySem.Env} {ts vs : List Expr} {k k2 : Nat} {p p2 : Pos} (h : vs.all (foldedForSure 8) = true) : swappedStores [.Tuple ts k p] (.Tuple vs k2 p2) env = pure none := by
  unfold swappedStores
  dsimp only
  exact pw_if (fun _ => rfl) fun _ => pw_if (fun _ => rfl) fun _ => pw_if (fun _ => rfl) fun hc => pw_if (fun _ => rfl) fun hc => absurd h hc
def notTup : Expr → Bool
  | .Tuple _ _ _ => false
  | _ => true
theorem sw_tup {env : PySem.Env} {t : Expr} {v : Expr} (h : notTup v = true) : swappedStores [t] v env = pure none := by
  cases v <;> first | (cases t <;> rfl) | cases h
theorem sw_two {env : PySem.Env} {x y : Str} {px py p p2 : Pos} {a b : Expr} {k k2 : Nat} (hk : env.scope.kind = .function) (hx : env.scope.names.lookup x = some .local) (hy : env.scope.names.lookup y = some .local) (hl : (py.line == px.line) = true) (hxy : (x == y) = false)
    (ha : notStar a = true) (hb : notStar b = true) (hf : [a, b].all (foldedForSure 8) = false) (hc : [a, b].all (constantsAlone 8) = false) : swappedStores [.Tuple [.Name x px, .Name y py] k p] (.Tuple [a, b] k2 p2) env = pure (some [x, y]) := by
  have kb : env.blockKind = .function := by unfold PySem.Env.blockKind; rw [hk]; rfl
  have kx : env.kindOf x = some .local := hx
  have ky : env.kindOf y = some .local := hy
  have hyx : (y == x) = false := by rw [beq_eq_false_iff_ne] at hxy ⊢; exact fun e => hxy e.symm
  have hs : ([a, b].any fun | .Starred .. => true | _ => false) = false := by
    have e1 : ∀ a : Expr, notStar a = true → (match a with | .Starred .. => true | _ => false) = false := fun a h => by
      cases a <;> first | rfl | cases h
    simp only [List.any_cons, List.any_nil, Bool.or_false]
    rw [Bool.or_eq_false_iff]
    exact ⟨e1 a ha, e1 b hb⟩
  unfold swappedStores
  dsimp only
  simp only [List.filterMap_cons, List.filterMap_nil, kx, ky, List.head?_cons, Option.map_some, Option.getD_some, Expr.pos, hl, beq_self_eq_true, Bool.and_self, if_true, Bool.and_true]
  have e : ([x, y] : List Str).eraseDups = [x, y] := by
    simp [List.eraseDups_cons, hyx]
  rw [e]
  refine (if_neg fun hq => ?_).trans ((if_neg fun hq => ?_).trans ((if_neg fun hq => ?_).trans ((if_neg fun hq => ?_).trans (if_neg fun hq => ?_))))
  · rw [kb] at hq
    exact Bool.false_ne_true hq
  · exact Bool.false_ne_true (hs.symm.trans hq)
  · exact Bool.false_ne_true hq
  · exact Bool.false_ne_true (hf.symm.trans hq)
  · exact Bool.false_ne_true (hc.symm.trans hq)
/-- does the store come before the comprehension's names go -/
def swB (sc : Scope) (y : Str) (py : Pos) (v : Expr) : Bool := match v with
  | .ListComp _ _ s p => (sc.names.lookup y == some .local) && (py.line == p.line) && !(s.names.any fun (n, k) => n == y && (k == .local || k == .cell))
  | .SetComp _ _ s p => (sc.names.lookup y == some .local) && (py.line == p.line) && !(s.names.any fun (n, k) => n == y && (k == .local || k == .cell))
  | .DictComp _ _ _ s p => (sc.names.lookup y == some .local) && (py.line == p.line) && !(s.names.any fun (n, k) => n == y && (k == .local || k == .cell))
  | _ => false
theorem sw_name {env : PySem.Env} {y : Str} {py : Pos} {v : Expr} {l : Nat} (hk : env.scope.kind = .function) : swapsWith v (some (.Name y py)) l env = pure (swB env.scope y py v) := by
  have kb : env.blockKind = .function := by unfold PySem.Env.blockKind; rw [hk]; rfl
  cases v <;> first | rfl | skip
  all_goals
    unfold swapsWith
    dsimp only
    rw [kb]
    rfl
theorem sw_tgt {env : PySem.Env} {t v : Expr} {l : Nat} (h : (match t with | .Name _ _ => false | _ => true) = true) : swapsWith v (some t) l env = pure false := by
  cases v <;> first | rfl | skip
  all_goals
    cases t <;> first | rfl | cases h
theorem sole_tup {env : PySem.Env} {ts : List Expr} {k : Nat} {p : Pos} {v : Expr} {l : Nat} : swapsWithSole [.Tuple ts k p] v l env = pure false := sw_tgt (env := env) (l := l) (t := .Tuple ts k p) rfl
theorem sole_sub {env : PySem.Env} {o i : Expr} {p : Pos} {v : Expr} {l : Nat} : swapsWithSole [.Subscript o i p] v l env = pure false := sw_tgt (env := env) (l := l) (t := .Subscript o i p) rfl
theorem swst_sub {env : PySem.Env} {o i : Expr} {p : Pos} {v : Expr} : swappedStores [.Subscript o i p] v env = pure none := by
  cases v <;> rfl
theorem sw_drop {env : PySem.Env} {v : Expr} {l : Nat} (h : notComp v = true) : swapsWith v none l env = pure false := by
  cases v <;> first | rfl | cases h

structure Cs where
  l : Ck → List Stmt → Bool
  s : Ck → Stmt → Bool
def csS (s : Ck → Stmt → Bool) : Cs := ⟨fun _ _ => false, s⟩
def isLc : Expr → Bool
  | .ListComp _ _ _ _ => true
  | _ => false
def notNm : Expr → Bool
  | .Name _ _ => false
  | _ => true
/-- the stores go from the left -/
def fromLeft (sc : Scope) (ts : List Expr) (v : Expr) : Bool := match v with
  | .Tuple vs _ _ => !(ts.all (locN sc)) || vs.all (foldedForSure 8)
  | _ => true
def chkS : S → Cs
  | .nil => ⟨fun _ ss => ss.isEmpty, fun _ _ => false⟩
  | .seq s r => ⟨fun ck ss => match ss with
      | x :: xs => (chkS s).s ck x && (chkS r).l ck xs
      | [] => false, fun _ _ => false⟩
  | .asg i e => csS fun ck st => match st with
    | .Assign [.Name x py] v _ => (chk e).e ck v && decide (ck.N[i]? = some x) && locB ck.sc ck.fn x && (!(swB ck.sc x py v) || isLc v)
    | _ => false
  | .unp is e => csS fun ck st => match st with
    | .Assign [.Tuple ts _ _] v _ => (chk e).e ck v && ckNames ck.N ck.sc ck.fn is ts && fromLeft ck.sc ts v
    | _ => false
  | .par i j a b => csS fun ck st => match st with
    | .Assign [.Tuple [.Name x px, .Name y py] _ _] (.Tuple [u, v] _ _) _ => (chk a).e ck u && (chk b).e ck v && notStar u && notStar v && decide (ck.N[i]? = some x) && decide (ck.N[j]? = some y) && decide (i ≠ j) &&
        (ck.sc.names.lookup x == some .local) && (ck.sc.names.lookup y == some .local) && (py.line == px.line) && !(x == y) && ([u, v].all (foldedForSure 8) || !([u, v].all (constantsAlone 8)))
    | _ => false
  | .sto o i e => csS fun ck st => match st with
    | .Assign [.Subscript u v _] w _ => (chk e).e ck w && (chk o).e ck u && (chk i).e ck v && notSlice v
    | _ => false
  | .exp e => csS fun ck st => match st with
    | .Expr v _ => (chk e).e ck v && notComp v
    | _ => false
  | .ret e => csS fun ck st => match st with
    | .Return (some v) _ => (chk e).e ck v
    | _ => false
  | .retN => csS fun _ st => match st with
    | .Return none _ => true
    | _ => false
  | .ite c a b => csS fun ck st => match st with
    | .If x y z _ => (chk c).e ck x && (chkS a).l ck y && (chkS b).l ck z
    | _ => false
  | .for_ t it b => csS fun ck st => match st with
    | .For tg x y [] _ => (chk it).i ck tg x && notSet x && ckTg ck.N ck.sc ck.fn t tg && (chkS b).l ck y
    | _ => false
  | .whl c b => csS fun ck st => match st with
    | .While x y [] _ => (chk c).e ck x && (chkS b).l ck y
    | _ => false
  | .rai => csS fun _ _ => true
  | .sfl c f i o e => csS fun ck st => match st with
    | .Assign [.Attribute u g _] v _ => decide (g = f) && (match ck.kl c with | some k => k.sl.contains (f, i) | none => false) && (chk e).e ck v && (chk o).e ck u && notComp v
    | _ => false
  | .rais _ _ _ => csS fun _ _ => false
  | .try_ _ _ _ _ => csS fun _ _ => false
  | .par3 _ _ _ _ _ _ => csS fun _ _ => false
  | .pass => csS fun _ st => match st with
    | .Pass _ => true
    | _ => false
  | .brk => csS fun _ st => match st with
    | .Break _ => true
    | _ => false
  | .cnt => csS fun _ st => match st with
    | .Continue _ => true
    | _ => false

section
variable {X : Cx} {ck : Ck} {C : Str → List D → Hs → R D} {k : Nat}
structure SndS (X : Cx) (ck : Ck) (C : Str → List D → Hs → R D) (W : WX) (g : S) : Prop where
  l : ∀ ss, (chkS g).l ck ss = true → PSs X ss (rS X.K W (run C g))
  s : ∀ st, (chkS g).s ck st = true → PS X st (rS X.K W (run C g))
theorem SndS.one {g : S} {c : Ck → Stmt → Bool} (hc : chkS g = csS c) (h : ∀ st, c ck st = true → PS X st (rS X.K W (run C g))) : SndS X ck C W g := by
  refine ⟨fun ss q => ?_, fun st q => ?_⟩ <;> rw [hc] at q
  · cases q
  · exact h st q
theorem sto_asg {env : PySem.Env} {o i : Expr} {pos : Pos} (h : notSlice i = true) (v : Value) : assign (.Subscript o i pos) env v = (do
      let ov ← holding [v] (eval o env)
      let iv ← holding [v, ov] (eval i env)
      standAt pos
      holding [v, ov, iv] (setItem ov iv v)
      release [v, ov, iv] []) := by
  cases i <;> first | rfl | cases h
/-- name = [..], the store within -/
theorem asg_comp (hE : ∀ e, All C k e) (f : Fit X ck C k W) {e : E} {v : Expr} (q : (chk e).e ck v = true) (hl : isLc v = true) {i : Nat} {y : Str} {py sp : Pos} (hy : X.N[i]? = some y) (hyl : X.env.scope.names.lookup y = some .local)
    (hsw : swapsWith v (some (.Name y py)) sp.line X.env = pure true) : PS X (.Assign [.Name y py] v sp) (tAsg (rV X.K W (sem C e).v) (gName i)) := by
  cases v with
  | ListComp x gs scope p =>
    cases e with
    | lc m own t it ifs elt =>
      unfold chk at q
      unfold chV at q
      dsimp only at q
      split at q
      · rename_i x tg iter is scope p he
        cases he
        simp only [Bool.and_eq_true, decide_eq_true_eq] at q
        obtain ⟨⟨⟨⟨⟨⟨⟨q1, q2⟩, q3⟩, q4⟩, q5⟩, q6⟩, q7⟩, q8⟩ := q
        have pe := ps_setLc (tt := rT X.K noW (sem C ifs).ts) (te := rV X.K noW (sem C elt).v) f.calm f.nd hy hyl hsw ((hE it X ck W f).i tg iter q2 q1) (blk_own f q3) (fun s H Ca cl fp => pg_blk f q4 s H Ca cl fp) (fun s H Ca cl fp => (hE ifs _ _ noW (f.blk s H scope cl Ca fp)).ts is q6 q5) (fun s H Ca cl fp => (hE elt _ _ noW (f.blk s H scope cl Ca fp)).e x q7) (fun y => fset_ok q2 _ y)
        rw [own_snd] at pe
        exact PS.imp pe fun Z τ H w => lc_read (sub_of q8) w
      · cases q
    | lc2 own vs1 t it ifs t1 it1 ifs1 elt =>
      unfold chk at q
      unfold chV at q
      dsimp only at q
      split at q
      · rename_i x tg iter is tg1 iter1 is1 scope p he
        cases he
        simp only [Bool.and_eq_true, decide_eq_true_eq] at q
        obtain ⟨⟨⟨⟨⟨⟨⟨⟨⟨⟨⟨⟨⟨⟨q1, q2⟩, q2'⟩, q3⟩, q4⟩, q5⟩, q6⟩, q7⟩, q8⟩, q9⟩, q10⟩, q11⟩, q12⟩, q13⟩, q14⟩ := q
        have pe := ps_setLc2 (vs1 := vs1) (tt := rT X.K noW (sem C ifs).ts) (wi1 := rI X.K noW (sem C it1).it) (tt1 := rT X.K noW (sem C ifs1).ts) (te := rV X.K noW (sem C elt).v) f.calm f.nd hy hyl hsw ((hE it X ck W f).i tg iter q2 q1) (blk_own f q3) (by rw [own_snd]; exact sub_of q14) (fun s H Ca cl fp => pg_blk f q4 s H Ca cl fp) (fun s H Ca cl fp => (hE ifs _ _ noW (f.blk s H scope cl Ca fp)).ts is q6 q5)
          (fun s H Ca cl fp => (hE it1 _ _ noW (f.blk s H scope cl Ca fp)).i tg1 iter1 q2' q7) (fun s H Ca cl fp => pg_blk f q8 s H Ca cl fp) (fun s H Ca cl fp => (hE ifs1 _ _ noW (f.blk s H scope cl Ca fp)).ts is1 q10 q9) (fun s H Ca cl fp => (hE elt _ _ noW (f.blk s H scope cl Ca fp)).e x q11) (fun y => fset_ok q2 _ y) (fun env y => fset_ok q2' env y)
        rw [own_snd] at pe
        exact PS.imp pe fun Z τ H w => lc2_read (sub_of q12) (sub_of q13) w
      · cases q
    | fz a =>
      have q : ((chk a).e ck (.ListComp x gs scope p) && false) = true := q
      rw [Bool.and_false] at q
      cases q
    | _ => cases q
  | _ => cases hl
theorem run_whl {c : E} {b : S} : run C (.whl c b) = whlF (sem C c).t (run C b) fuel := by
  funext σ h
  rw [run]
theorem putO_get {i j : Nat} {y : PyData} {fs : List (Option PyData)} {x : PyData} (h : (putO i y fs)[j]? = some (some x)) : (j = i ∧ x = y) ∨ (j ≠ i ∧ fs[j]? = some (some x)) := by
  unfold putO at h
  by_cases e : j = i
  · subst e
    have hl : j < (fs ++ List.replicate (j + 1 - fs.length) (none : Option PyData)).length := by rw [List.length_append, List.length_replicate]; omega
    rw [List.getElem?_set_self hl] at h
    cases h
    exact .inl ⟨rfl, rfl⟩
  · rw [List.getElem?_set_ne (fun z => e z.symm)] at h
    refine .inr ⟨e, ?_⟩
    by_cases hl : j < fs.length
    · rw [List.getElem?_append_left hl] at h
      exact h
    · rw [List.getElem?_append_right (by omega)] at h
      rw [List.getElem?_replicate] at h
      split at h <;> cases h
theorem sSfl {K : PySem.W.Frag} {Z : Ends} {H : Hp} {c g : Str} {i : Nat} {A p : Addr} (wm : Wd.mg c = some (.ref A)) (sc : SlX.SCls K A) (sl : SlX.Slot1 K A g p i) {ma mb : Env → Hs → R D} {τ : St} (q : rS K W (fun σ h => bindS ((ma σ h).bind fun x h1 => (mb σ h1).bind fun y h2 => match sflD c i y x h2 with
    | some h3 => .ok () h3
    | none => .no) σ fun _ h3 => .ok (.nx, σ) h3) Z τ H) : SlX.sSl K (rV K W mb) (rV K W ma) g Z τ H := by
  obtain ⟨F, ρ, σ, h, st, eo, fin⟩ := q
  dsimp only at fin
  refine ⟨F, ρ, σ, h, st, eo, ?_⟩
  cases ea : ma σ h with
  | ok x h1 =>
    rw [ea] at fin
    replace fin : FinS K W F ρ H (bindS ((mb σ h1).bind fun y h2 => match sflD c i y x h2 with
      | some h3 => .ok () h3
      | none => .no) σ fun _ h3 => .ok (.nx, σ) h3) Z := fin
    intro F1 ρ1 H1 v e1 st1 r1
    refine ⟨F1, ρ1, σ, h1, st1, eo.mono e1.toExt, ?_⟩
    cases eb : mb σ h1 with
    | ok y h2 =>
      rw [eb] at fin
      replace fin : FinS K W F ρ H (bindS (match sflD c i y x h2 with
        | some h3 => .ok () h3
        | none => .no) σ fun _ h3 => .ok (.nx, σ) h3) Z := fin
      intro F2 ρ2 H2 u e2 st2 r2
      have e12 := e1.trans e2
      split at fin
      · rename_i h3 hs
        unfold sflD at hs
        split at hs
        · rename_i n yy
          split at hs
          · rename_i d fs hn
            split at hs
            · rename_i hd
              subst hd
              cases hs
              obtain ⟨a, q1, rfl⟩ := r2
              have r1' : Dq K F2 v yy := Rep.mono e2.toExt _ _ r1
              obtain ⟨⟨f0, m, C, dx, vs, y1, y2, y3, y4, y5, y6, y7, y8⟩, _⟩ := st2.cell n a _ q1 hn
              rw [wm] at y5
              cases y5
              refine ⟨a, A, dx, p, vs, i, rfl, y6, sc, sl, ?_⟩
              refine fin F2 ρ2 _ (e12.trans ⟨Ext.refl F2 ρ2, fun b o e hb => ?_, fun _ e => .inl e, fun _ _ _ _ e => e⟩) (st2.sfl q1 hn y1 y2 f0 y3 y4 y6 y7 (by assumption) (fun j x hx => ?_)) τ (eo.mono e12.toExt)
              · rw [SlX.slH_ne (fun z => hb (by rw [z]; exact List.mem_of_getElem? q1)) (fun z => hb (by rw [z]; exact List.mem_of_getElem? y2))]
                exact e
              · rcases putO_get hx with ⟨rfl, rfl⟩ | ⟨ne, hx⟩
                · exact ⟨v, SlX.putS_get _ _ _, r1'⟩
                · obtain ⟨w, g1, g2⟩ := y8 j x hx
                  exact ⟨w, (SlX.putS_ne ne).mpr g1, g2⟩
            · cases hs
          · cases hs
        · cases hs
      · exact fin.elim
    | ex _ _ => rw [eb] at fin; exact FinX.mono e1 (finS_x eo fin)
    | no => rw [eb] at fin; exact fin
  | ex _ _ => rw [ea] at fin; exact finS_x eo fin
  | no => rw [ea] at fin; exact fin
theorem snd_S (hE : ∀ e, All C k e) : ∀ (g : S) (X : Cx) (ck : Ck) (W : WX), Fit X ck C k W → ck.sc.kind = .function → X.stack = X.env :: X.outer → X.env.frame = some X.env.locals → SndS X ck C W g := by
  intro g
  induction g with
  | nil =>
    intro X ck W f hk ht hf
    refine ⟨fun ss q => ?_, fun _ q => ff q⟩
    cases ss with
    | nil =>
      refine PSs.imp pss_nil fun Z τ H w => ?_
      obtain ⟨F, ρ, σ, h, st, eo, fin⟩ := w
      exact finS_nx st eo fin
    | cons _ _ => cases q
  | seq s r hs hr =>
    intro X ck W f hk ht hf
    refine ⟨fun ss q => ?_, fun _ q => ff q⟩
    cases ss with
    | nil => cases q
    | cons x xs =>
      have q : ((chkS s).s ck x && (chkS r).l ck xs) = true := q
      simp only [Bool.and_eq_true] at q
      exact PSs.imp (pss_cons ((hs X ck W f hk ht hf).s x q.1) ((hr X ck W f hk ht hf).l xs q.2)) fun Z τ H w => sSeq w
  | asg i e =>
    intro X ck W f hk ht hf
    refine SndS.one rfl fun st q => ?_
    split at q
    · rename_i x py v pos
      simp only [Bool.and_eq_true, decide_eq_true_eq, Bool.or_eq_true, Bool.not_eq_true'] at q
      obtain ⟨⟨⟨q1, q2⟩, q3⟩, q4⟩ := q
      obtain ⟨l1, l2⟩ := locB_ok f.sc f.fn q3
      have hi : X.N[i]? = some x := by rw [f.N]; exact q2
      have hkk : X.env.scope.kind = .function := by rw [f.sc]; exact hk
      have sw := sw_name (l := pos.line) (y := x) (py := py) (v := v) hkk
      rw [f.sc] at sw
      cases hb : swB ck.sc x py v with
      | false =>
        rw [hb] at sw
        exact PS.imp (ps_set f.nd hi l1 ((hE e X ck W f).e v q1) sw l2) fun Z τ H w => sAsg w
      | true =>
        rw [hb] at sw
        have hlc : isLc v = true := q4.resolve_left (by rw [hb]; simp)
        have hy : X.env.scope.names.lookup x = some .local := by
          rw [f.sc]
          unfold swB at hb
          cases v with
          | ListComp _ _ _ _ =>
            simp only [Bool.and_eq_true] at hb
            simpa using hb.1.1
          | _ => cases hlc
        exact PS.imp (asg_comp hE f q1 hlc hi hy sw) fun Z τ H w => sAsg w
    · cases q
  | unp is e =>
    intro X ck W f hk ht hf
    refine SndS.one rfl fun st q => ?_
    split at q
    · rename_i ts kk tp v pos
      simp only [Bool.and_eq_true] at q
      obtain ⟨⟨q1, q2⟩, q3⟩ := q
      have pg := pg_ok (X := X) (t := .tp is) (e := .Tuple ts kk tp) f.calm f.N f.nd f.sc f.fn q2
      have hw : swappedStores [.Tuple ts kk tp] v X.env = pure none := by
        unfold fromLeft at q3
        split at q3
        · simp only [Bool.or_eq_true, Bool.not_eq_true'] at q3
          rcases q3 with z | z
          · exact sw_cell (by rw [f.sc]; exact z)
          · exact sw_fold z
        · rename_i hn
          refine sw_tup ?_
          cases v <;> first | rfl | exact absurd rfl (hn _ _ _)
      exact PS.imp (ps_asg ((hE e X ck W f).e v q1) pg sole_tup hw) fun Z τ H w => sUnp w
    · cases q
  | par i j a b =>
    intro X ck W f hk ht hf
    refine SndS.one rfl fun st q => ?_
    split at q
    · rename_i x px y py _ _ u v _ _ pos
      simp only [Bool.and_eq_true, decide_eq_true_eq, Bool.or_eq_true, Bool.not_eq_true', beq_iff_eq] at q
      obtain ⟨⟨⟨⟨⟨⟨⟨⟨⟨⟨⟨q1, q2⟩, q3⟩, q4⟩, q5⟩, q6⟩, q7⟩, q8⟩, q9⟩, q10⟩, q11⟩, q12⟩ := q
      have hkk : X.env.scope.kind = .function := by rw [f.sc]; exact hk
      have hi : X.N[i]? = some x := by rw [f.N]; exact q5
      have hj : X.N[j]? = some y := by rw [f.N]; exact q6
      have hx : X.env.scope.names.lookup x = some .local := by rw [f.sc]; exact q8
      have hy : X.env.scope.names.lookup y = some .local := by rw [f.sc]; exact q9
      have pa := pa_cons ((hE a X ck W f).e u q1) (pa_cons ((hE b X ck W f).e v q2) pa_nil (one_star q4)) (star_cons q3)
      cases hf : [u, v].all (foldedForSure 8) with
      | false =>
        have hc : [u, v].all (constantsAlone 8) = false := q12.resolve_left (by rw [hf]; simp)
        refine PS.imp (ps_par f.calm f.nd hi hj q7 hx hy pa (sw_two hkk hx hy (by simpa using q10) (by simpa using q11) q3 q4 hf hc) sole_tup) fun Z τ H w => ?_
        refine cons2_imp (fun vs H1 w => ?_) (sPar2 w)
        obtain ⟨v, w, F1, ρ1, h1, rfl, st1, nx⟩ := w
        exact ⟨v, w, rfl, nx H1 (Exh.refl _ _ _) st1⟩
      | true =>
        have pg : PGs X [.Name x px, .Name y py] (gCons (gName i) (gCons (gName j) gNil)) := pgs_cons (pg_name f.nd hi (.inl hx) (.inr hx)) (pgs_cons (pg_name f.nd hj (.inl hy) (.inr hy)) pgs_nil)
        refine PS.imp (ps_asg (pe_tup pa) (pg_tup f.calm pg) sole_tup (sw_fold hf)) fun Z τ H w => ?_
        unfold tAsg tTup
        refine cons2_imp (fun vs H1 w => ?_) (sPar2 w)
        obtain ⟨v, w, F1, ρ1, h1, rfl, st1, nx⟩ := w
        refine ⟨by show 2 ≤ sizeLine; decide, fun p hp => ⟨p, _, rfl, .inl (.inl upd_same), rfl, v, [w], rfl, w, [], rfl, rfl, nx _ (exh_more hp) (st1.more hp)⟩⟩
    · cases q
  | sto o i e =>
    intro X ck W f hk ht hf
    refine SndS.one rfl fun st q => ?_
    split at q
    · simp only [Bool.and_eq_true] at q
      obtain ⟨⟨⟨q1, q2⟩, q3⟩, q4⟩ := q
      exact PS.imp (ps_asg ((hE e X ck W f).e _ q1) (pg_sub ((hE o X ck W f).e _ q2) ((hE i X ck W f).e _ q3) set_list (sto_asg q4)) sole_sub swst_sub) fun Z τ H w => sSto w
    · cases q
  | exp e =>
    intro X ck W f hk ht hf
    refine SndS.one rfl fun st q => ?_
    split at q
    · simp only [Bool.and_eq_true] at q
      exact PS.imp (ps_expr ((hE e X ck W f).e _ q.1) (sw_drop q.2)) fun Z τ H w => sExp w
    · cases q
  | ret e =>
    intro X ck W f hk ht hf
    refine SndS.one rfl fun st q => ?_
    split at q
    · exact PS.imp (ps_ret ((hE e X ck W f).e _ q)) fun Z τ H w => sRet w
    · cases q
  | retN =>
    intro X ck W f hk ht hf
    refine SndS.one rfl fun st q => ?_
    split at q
    · refine PS.imp ps_retN fun Z τ H w => ?_
      obtain ⟨F, ρ, σ, h, st, eo, fin⟩ := w
      exact fin F ρ H (Exh.refl F ρ H) st _ .non
    · cases q
  | ite c a b ha hb =>
    intro X ck W f hk ht hf
    refine SndS.one rfl fun st q => ?_
    split at q
    · simp only [Bool.and_eq_true] at q
      exact PS.imp (ps_if ((hE c X ck W f).t _ q.1.1) ((ha X ck W f hk ht hf).l _ q.1.2) ((hb X ck W f hk ht hf).l _ q.2)) fun Z τ H w => sIte w
    · cases q
  | for_ t it b hb =>
    intro X ck W f hk ht hf
    refine SndS.one rfl fun st q => ?_
    split at q
    · simp only [Bool.and_eq_true] at q
      obtain ⟨⟨⟨q1, q2⟩, q3⟩, q4⟩ := q
      exact PS.imp (ps_for f.pass f.calm ((hE it X ck W f).i _ _ q2 q1) (pg_ok f.calm f.N f.nd f.sc f.fn q3) ((hb X ck W f hk ht hf).l _ q4) (fun y => fset_ok q2 _ y)) fun Z τ H w => sFor w
    · cases q
  | whl c b hb =>
    intro X ck W f hk ht hf
    refine SndS.one rfl fun st q => ?_
    split at q
    · simp only [Bool.and_eq_true] at q
      rw [run_whl]
      exact PS.imp (ps_while f.pass ((hE c X ck W f).t _ q.1) ((hb X ck W f hk ht hf).l _ q.2)) fun Z τ H w => sWhl w
    · cases q
  | rai =>
    intro X ck W f hk ht hf
    refine SndS.one rfl fun st q => PS.imp ps_never fun Z τ H w => ?_
    obtain ⟨F, ρ, σ, h, st, eo, fin⟩ := w
    exact fin.elim
  | sfl c fl i o e =>
    intro X ck W f hk ht hf
    refine SndS.one rfl fun st q => ?_
    split at q
    · rename_i u g ap v pos
      simp only [Bool.and_eq_true, decide_eq_true_eq] at q
      obtain ⟨⟨⟨⟨rfl, q2⟩, q3⟩, q4⟩, q5⟩ := q
      split at q2
      · rename_i kl hkl
        obtain ⟨A, ka⟩ := f.cls kl (List.mem_of_find?_eq_some hkl)
        have hc : kl.c = c := by simpa using List.find?_some hkl
        obtain ⟨p, sl⟩ := ka.sl g i (by simpa using q2)
        exact PS.imp (SlX.ps_sl ((hE o X ck W f).e _ q4) ((hE e X ck W f).e _ q3) (sw_tgt rfl)) fun Z τ H w => sSfl (hc ▸ ka.wm) ka.sc sl w
      · cases q2
    · cases q
  | rais c fl e => exact fun X ck W f hk ht hf => SndS.one rfl fun st q => ff q
  | try_ b cs i j _ => exact fun X ck W f hk ht hf => SndS.one rfl fun st q => ff q
  | par3 i j l a b c => exact fun X ck W f hk ht hf => SndS.one rfl fun st q => ff q
  | pass =>
    intro X ck W f hk ht hf
    refine SndS.one rfl fun st q => ?_
    split at q
    · refine PS.imp ps_pass fun Z τ H w => ?_
      obtain ⟨F, ρ, σ, h, st, eo, fin⟩ := w
      exact finS_nx st eo fin
    · cases q
  | brk =>
    intro X ck W f hk ht hf
    refine SndS.one rfl fun st q => ?_
    split at q
    · refine PS.imp ps_break fun Z τ H w => ?_
      obtain ⟨F, ρ, σ, h, st, eo, fin⟩ := w
      exact fin F ρ H (Exh.refl F ρ H) st τ eo
    · cases q
  | cnt =>
    intro X ck W f hk ht hf
    refine SndS.one rfl fun st q => ?_
    split at q
    · refine PS.imp ps_continue fun Z τ H w => ?_
      obtain ⟨F, ρ, σ, h, st, eo, fin⟩ := w
      exact fin F ρ H (Exh.refl F ρ H) st τ eo
    · cases q
end
end En
/-! En: enumerate over a tuple -/
namespace En
open PySem L2 PySem.Spec PyProof.Rows
variable [Wd]
variable {W : WX}

theorem enu_new {vv : Value} {ob : Obj} {Hh : Heap → Prop} (bg : Begins vv ob Hh) : Meets (Builtin.«enumerate.__new__» ⟨[.type "enumerate", vv], []⟩) (fun _ Rr st => Hh st.heap ∧
    Rr (.ok (.ret (.ref (st.heap.push ob).objs.size))) { st with heap := (st.heap.push ob).push { cls := .type "enumerate", data := .fields #[.none, .bool false, .ref st.heap.objs.size, rawInt 0, .none, .none] } }) := by
  refine .of_wp fun pr wd ar Rr st hyp => ?_
  rcases st with ⟨m0, m1, m2, m3, m4⟩
  rcases hyp with ⟨ha, hb⟩
  have hsub := sub_enumerate
  have stp : ∀ {ar' : Around} {Ex : Value → Shared → Prop} {Qv : Value → Shared → Prop}, Qv (.ref m0.objs.size) ⟨m0.push ob, m1, m2, m3, m4⟩ → wpAny (model pr wd) ar' (pyIter vv) Qv Ex ⟨m0, m1, m2, m3, m4⟩ := fun z => bg.iter pr wd _ _ ⟨m0, m1, m2, m3, m4⟩ _ ha z
  wp_walk using stp
  refine wpAny_stack_any fun sk => wpAny_pure ?_
  split
  · rename_i cc _ _ _ _ _
    cases (cc == Value.type "enumerate") <;> (wp_walk using stp; exact ⟨_, rfl, hb⟩)
  · wp_walk using stp
    exact ⟨_, rfl, hb⟩
theorem enu_call {pr : Program} {wd : World} {ar : Around} {Ex : Value → Shared → Prop} {st : Shared} {vv : Value} {ob : Obj} {Hh : Heap → Prop} {Qv : Value → Shared → Prop} (bg : Begins vv ob Hh) (ha : Hh st.heap)
    (hq : ∀ g : Heap, IsEnum g (st.heap.objs.size + 1) st.heap.objs.size 0 .none → g.get? st.heap.objs.size = some ob → (∀ c u, st.heap.get? c = some u → g.get? c = some u) → Qv (.ref (st.heap.objs.size + 1)) { st with heap := g }) :
    wpAny (model pr wd) ar (call (.type "enumerate") [vv]) Qv Ex st := by
  have hz : (st.heap.push ob).objs.size = st.heap.objs.size + 1 := Heap.size_push ..
  refine callType_new F.called_enumerate (by decide) (F.typeCall_enumerate_1 _) (F.newCall_enumerate_1 _) (fun obj => F.args_object_init_2 obj _) F.entry_enumerate_new (enu_new bg) ⟨ha, ?_⟩
  show _ ∧ _
  rw [hz]
  have he := Heap.get?_push_size (st.heap.push ob) (o := { cls := .type "enumerate", data := .fields #[.none, .bool false, .ref st.heap.objs.size, rawInt 0, .none, .none] }) rfl
  rw [hz] at he
  exact ⟨⟨_, he, rfl⟩, hq _ he (Heap.get?_push_of_some _ (Heap.get?_push_size _ bg.free)) fun c u e => Heap.get?_push_of_some _ (Heap.get?_push_of_some _ e)⟩

/-- the tuple at a as it stands at each turn -/
def IteT (K : PySem.W.Frag) (a : Addr) : It where
  go := fun i H => ∃ (xs : List V) (x : V), SqT K H a xs ∧ xs[i]? = some x
  yld := fun i H v H' => ∃ T x, v = .ref T ∧ H T = none ∧ H' = upd H T (.tup [.int (i : Nat), x]) ∧ ∀ xs, SqT K H a xs → xs[i]? = some x
  stop := fun i H => ∃ xs : List V, SqT K H a xs ∧ xs.length = i
theorem turn_enumT {P : Program} {w : World} {K : PySem.W.Frag} {elts : List Expr} {kk : Nat} {tpos : Pos} (a e t : Addr) :
    Turn P w K (.Tuple elts kk tpos) (IteT K a) [e, t] e (fun i h => (∃ old, IsEnum h e t ((i : Nat) : Int) old) ∧ h.IsTupleIter t a i ∧ e ≠ t ∧ e ≠ a ∧ a ≠ t) where
  mem := List.mem_cons_self
  obj := fun i h st b hb => by
    obtain ⟨⟨old, he⟩, ⟨o, ho, hc, hd⟩, _⟩ := st
    rcases (by simpa using hb : b = e ∨ b = t) with rfl | rfl
    · exact ⟨_, he, fun v z => nomatch z⟩
    · exact ⟨o, ho, fun v z => by rw [hd] at z; cases z⟩
  keep := fun i h h' st k => by
    obtain ⟨⟨old, he⟩, hi, hn⟩ := st
    exact ⟨⟨old, k e (by simp) _ he⟩, hi.at fun o z => k t (by simp) o z, hn⟩
  item := by
    intro X hP hw hK hc i pins s σ H E I hf st hg
    subst hP hw hK
    obtain ⟨⟨old, he⟩, hit, n1, n2, n3⟩ := st
    obtain ⟨xs, x, hq, hx⟩ := hg
    obtain ⟨its, rv, p, _⟩ := I.tuple hq
    have hlt : i < its.toArray.size := by
      have h1 := (List.getElem?_eq_some_iff.mp hx).1
      have h2 := rv.length
      simp
      omega
    have hdn : X.A.in1.handled = none := I.ok.hd hc
    have hel : e < s.heap.objs.size := Heap.lt_size he
    have htl : t < s.heap.objs.size := by obtain ⟨_, z, _⟩ := hit; exact Heap.lt_size z
    refine wpAny_pyNext_enum_itemD (Draws.tuple hdn t a n3 its.toArray) he ⟨hit, p⟩ hlt n1 (by simp [n1, n2]) fun u g tk hu ho hs hT _ hk => ?_
    obtain ⟨u', hu', ru⟩ := rv.get hx
    have eu : u' = u := by
      have hu2 : its[i]? = some u := by simpa using hu
      rw [hu'] at hu2
      exact Option.some.inj hu2
    subst eu
    refine ⟨_, rfl, wpAny_letOwnedTupleGo_enum (s := { s with heap := g, toks := tk + 1 }) ho fun g2 he2 sb => ?_⟩
    have hT2 := (sb.2 s.heap.objs.size (Nat.ne_of_gt hel)).trans hT
    have nw : ObjOk X.prog X.w (upd H s.heap.objs.size (.tup [.int (i : Nat), x])) g2 s.heap.objs.size (.tup [.int (i : Nat), x]) := ⟨by show 2 ≤ sizeLine; decide, [.int i tk, u'], .cons ⟨tk, rfl⟩ (.cons ru .nil), _, hT2, rfl, _, rfl⟩
    have I1 := I.turnedNew (h' := g2) (t' := tk + 1) (ch := [e, t]) (fun b ob hb z => (sb.2 b (fun y => hb (by simp [y]))).trans (hk b ob (fun y => hb (by simp [y])) (fun y => hb (by simp [y])) z)) hf (Nat.le_refl _) nw
    refine ⟨.ref s.heap.objs.size, _, I1, rfl, ⟨_, x, rfl, I.hok.fresh (Nat.le_refl _), rfl, fun ys hy => by rw [I.tuple_inj hy hq]; exact hx⟩, ⟨⟨u', ?_⟩, hs.1.at fun o z => (sb.2 t (Ne.symm n1)).trans z, n1, n2, n3⟩, fun b hb => ?_⟩
    · have e1 : ((i + 1 : Nat) : Int) = (i : Int) + 1 := by omega
      rw [e1]
      exact he2
    · have hbl : b < s.heap.objs.size := by
        rcases (by simpa using hb : b = e ∨ b = t) with rfl | rfl
        · exact hel
        · exact htl
      rw [upd_ne (Nat.ne_of_lt hbl)]
      exact (hf b hb).1
  done := by
    intro X hP hw hK hc i pins s σ H E I hf st hg
    subst hP hw hK
    obtain ⟨⟨old, he⟩, hit, n1, n2, n3⟩ := st
    obtain ⟨xs, hq, hx⟩ := hg
    obtain ⟨its, rv, p, _⟩ := I.tuple hq
    have hl : its.toArray.size = i := by
      have h2 := rv.length
      simp
      omega
    have hdn : X.A.in1.handled = none := I.ok.hd hc
    refine wpAny_pyNext_enum_endD (Draws.tuple hdn t a n3 its.toArray) he ⟨by rw [hl]; exact hit, p⟩ fun g hk => ⟨rfl, ?_⟩
    exact I.turnedL (t' := s.toks) (ch := [e, t]) (fun b o hb z => hk b o (fun y => hb (by simp [y])) z) hf
  self := fun A i s Q E st h => by
    obtain ⟨⟨_, he⟩, _⟩ := st
    exact wpAny_pyIter_enum he h

def iEnuT (K : PySem.W.Frag) (ta : TA) : TI := fun σ H R => ta σ H fun vs H1 => ∃ a xs, vs = [.ref a] ∧ SqT K H1 a xs ∧ R (IteT K a) H1
theorem pi_enumT {X : Cx} {e : Expr} {ta : TA} {p pos tpos : Pos} {elts : List Expr} {kk : Nat} (hg : Gl X "enumerate") (hm : X.mg "enumerate" = none) (ha : PA X [e] ta) (hs : starEach [e] X.env = [(false, eval e X.env)]) :
    PI X (.Tuple elts kk tpos) (.Call (.Name "enumerate" p) [e] [] pos) (iEnuT X.K ta) := by
  constructor
  intro pins s σ H R I h
  refine Call_ (ld_blt I hg hm boot_enumerate (PyProof.Rows.callWith_type1 (thn (ha.run pos pins s σ H _ I h) ?_) hs rfl))
  rintro us st ⟨vs, H1, I1, r1, a, xs, rfl, hq, q⟩
  cases r1 with
  | cons r rr =>
    cases rr
    cases r
    obtain ⟨its, rv, pt, _⟩ := I1.tuple hq
    have hal : a < st.heap.objs.size := by obtain ⟨_, z, _⟩ := pt; exact Heap.lt_size z
    refine enu_call (begins_tuple a its.toArray) pt fun g he hi hk => wpAny_pyIter_enum he ?_
    have I2 : Inv X pins σ H1 { st with heap := g } := I1.kept (t' := st.toks) hk
    refine ⟨st.heap.objs.size + 1, [st.heap.objs.size + 1, st.heap.objs.size], _, _, H1, rfl, I2, turn_enumT a (st.heap.objs.size + 1) st.heap.objs.size, ⟨⟨.none, he⟩, ⟨_, hi, rfl, rfl⟩, Nat.succ_ne_self _, Nat.ne_of_gt (Nat.lt_succ_of_lt hal), Nat.ne_of_lt hal⟩, fun b hb => ?_, q⟩
    have hle : st.heap.objs.size ≤ b := by
      rcases (by simpa using hb : b = st.heap.objs.size + 1 ∨ b = st.heap.objs.size) with rfl | rfl
      · exact Nat.le_succ _
      · exact Nat.le_refl _
    exact I1.fpOk hle (I1.hok.fresh hle)
theorem wd_enuT {K : PySem.W.Frag} {F : Hp} {ρ : List Addr} {a : Addr} {vs : List V} {xs : List PyData} (h : SqT K F a vs) (q : DqA K F vs xs) : WalkD K F ρ (IteT K a) (enumP 0 xs) := by
  have el : (enumP 0 xs).length = vs.length := by rw [enumP_len, q.len]
  refine ⟨fun i H hi s => ?_, fun H s => ⟨vs, sqT_mono s h, el.symm⟩, fun i H x H' d hd s y => ?_⟩
  · rw [el] at hi
    exact ⟨vs, vs[i], sqT_mono s h, List.getElem?_eq_getElem hi⟩
  · obtain ⟨T, x1, e1, e2, e3, e4⟩ := y
    have e4 := e4 _ (sqT_mono s h)
    obtain ⟨z, h1, rfl⟩ := enumP_get xs 0 i d hd
    obtain ⟨v1, k1, k2⟩ := q.get h1
    rw [k1] at e4; cases e4
    refine .inr ⟨T, _, _, e2, e3, e1, rfl, .cons ?_ (.cons k2 .nil)⟩
    rw [Nat.zero_add]
    exact .int _
section
variable {X : Cx} {ck : Ck} {C : Str → List D → Hs → R D} {k : Nat}
theorem snd_enu {a : E} (f : Fit X ck C k W) (sa : Snd X ck C W a) : Snd X ck C W (.enu a) := by
  refine Snd.itr rfl rfl fun tg x _ q => ?_
  split at q
  · rename_i es kk tp z np y p
    simp only [Bool.and_eq_true, decide_eq_true_eq] at q
    obtain ⟨⟨⟨rfl, q1⟩, q2⟩, q3⟩ := q
    have hm : X.mg "enumerate" = none := blt_of f (x := Str.ofString "enumerate") (by decide +kernel)
    have pa := pa_cons (sa.e _ q3) pa_nil (one_star q2)
    refine PI.imp (PI.or (pi_enum (f.gl q1) hm pa (one_star q2)) (pi_enumT (f.gl q1) hm pa (one_star q2))) fun τ H Q w => ?_
    obtain ⟨F, ρ, σ, h, st, eo, fin⟩ := w
    dsimp only at fin
    cases ea : (sem C a).v σ h with
    | ok x h1 =>
      rw [ea] at fin
      simp only [R.bind, enuW] at fin
      cases ht : vwF x with
      | none => rw [ht] at fin; exact fin.elim
      | some tx =>
        obtain ⟨t, xs⟩ := tx
        rw [ht] at fin
        cases t with
        | true =>
          refine .inr ⟨F, ρ, σ, h, st, eo, ?_⟩
          rw [ea]
          intro F1 ρ1 H1 v e1 st1 r1
          obtain ⟨l, vs, rfl, k1, k2⟩ := vwF_ok r1 ht
          have k2 : SqT X.K F1 l vs := by simpa using k2
          exact ⟨l, vs, rfl, sqT_mono st1.same k2, fin F1 ρ1 H1 _ e1 st1 (wd_enuT k2 k1)⟩
        | false =>
          refine .inl ⟨F, ρ, σ, h, st, eo, ?_⟩
          rw [ea]
          intro F1 ρ1 H1 v e1 st1 r1
          obtain ⟨l, vs, rfl, k1, k2⟩ := vwF_ok r1 ht
          have k2 : SqL X.K F1 l vs := by simpa using k2
          exact ⟨l, vs, rfl, sqL_mono st1.same k2, fin F1 ρ1 H1 _ e1 st1 (wd_enu k2 k1)⟩
    | ex _ _ =>
      rw [ea] at fin
      refine .inl ⟨F, ρ, σ, h, st, eo, ?_⟩
      rw [ea]
      exact fin
    | no => rw [ea] at fin; exact fin.elim
  · cases q
end
end En
/-! En: dict(zip(t, u)) of two tuples -/
namespace En
open PySem L2 PySem.Spec PyProof.Rows
variable [Wd]
variable {W : WX}

section
variable {pr : Program} {wd : World} {ar : Around} {Ex : Value → Shared → Prop} {st : Shared} {z ti to' tp p q l m : Addr} {j : Nat} {us vs : Array Value} {b : Bool} {ot : Obj}
theorem held_item {x y : Value} {Qv : Value → Shared → Prop} (ap : ZipApart z ti to' p q l m) (c1 : IsZipHeld st.heap z ti to' tp b) (c2 : st.heap.get? tp = some ot) (c3 : IsPair st.heap ti (.ref p) (.ref q))
    (c4 : st.heap.IsTupleIter p l j) (c5 : st.heap.IsTupleIter q m j) (c6 : st.heap.IsTuple l us) (c7 : st.heap.IsTuple m vs) (c8 : us[j]? = some x) (c9 : vs[j]? = some y)
    (nx : ∀ g : Heap, IsZipHeld g z ti to' tp true → g.IsTupleIter p l (j + 1) → g.IsTupleIter q m (j + 1) → IsPair g st.heap.objs.size x y → (∀ c o, c ≠ z → c ≠ p → c ≠ q → st.heap.get? c = some o → g.get? c = some o) → Qv (.ref st.heap.objs.size) { st with heap := g }) :
    wpAny (model pr wd) ar (Builtin.«zip.__next__» ⟨[.ref z], []⟩) (fun fn s2 => ∃ v, fn = .done (.ret v) ∧ Qv v s2) Ex st := by
  show wpAny _ _ (field (.ref z) 2 >>= _) _ _ st
  refine wpAny_bind (wpAny_field c1 rfl (x := .bool false) rfl ?_)
  show wpAny _ _ (field (.ref z) 3 >>= _) _ _ st
  refine wpAny_bind (wpAny_field c1 rfl (x := .ref ti) rfl ?_)
  refine wpAny_bind (wpAny_seqItems c3 rfl ?_)
  show wpAny _ _ (Builtin.SmallTypes.ownedTupleIsFree (.ref z) >>= _) _ _ st
  refine wpAny_bind (wpAny_tupleHeld_zip c1 c2 fun g1 d1 e1 => ?_)
  simp only [Bool.false_eq_true, if_false]
  refine wpAny_bind ?_
  rw [← Array.forIn_toList]
  simp only [List.forIn_cons, List.forIn_nil]
  refine wpAny_bind (wpAny_bind (wpAny_holding ?_))
  show wpAny _ _ (Builtin.SmallTypes.nextOf (.ref p) >>= _) _ _ _
  refine wpAny_bind (RZ.nextOf_tuple_item (s := { st with heap := g1 }) (c4.extBut e1.extBut ap.i1z) (c6.extBut e1.extBut ap.l1z) c8 fun g2 d2 e2 => wpAny_pure (wpAny_pure ?_))
  refine wpAny_bind (wpAny_bind (wpAny_holding ?_))
  show wpAny _ _ (Builtin.SmallTypes.nextOf (.ref q) >>= _) _ _ _
  refine wpAny_bind (RZ.nextOf_tuple_item (s := { st with heap := g2 }) ((c5.extBut e1.extBut ap.i2z).extBut e2.extBut ap.i12.symm) ((c7.extBut e1.extBut ap.l2z).extBut e2.extBut ap.l2i1) c9 fun g3 d3 e3 => wpAny_pure (wpAny_pure (wpAny_pure ?_)))
  show wpAny _ _ (newTuple [x, y] >>= _) _ _ _
  refine wpAny_bind (wpAny_newTuple (wpAny_pure ⟨_, rfl, ?_⟩))
  have hz : g3.objs.size = st.heap.objs.size := by rw [e3.1, e2.1, e1.1]
  have up : ∀ c o, c ≠ z → c ≠ p → c ≠ q → st.heap.get? c = some o → g3.get? c = some o := fun c o n1 n2 n3 e => e3.extBut _ _ n3 (e2.extBut _ _ n2 (e1.extBut _ _ n1 e))
  show Qv (.ref g3.objs.size) _
  have pp : IsPair (g3.push { cls := .type "tuple", data := .seq #[x, y] }) g3.objs.size x y := Heap.get?_push_size _ rfl
  rw [hz] at pp ⊢
  refine nx _ (Heap.get?_push_of_some _ (e3.extBut _ _ ap.i2z.symm (e2.extBut _ _ ap.i1z.symm d1))) ((d2.extBut e3.extBut ap.i12).at fun o e => Heap.get?_push_of_some _ e) (d3.at fun o e => Heap.get?_push_of_some _ e) pp fun c o n1 n2 n3 e => Heap.get?_push_of_some _ (up c o n1 n2 n3 e)
theorem held_end {Qv : PySem.Fin → Shared → Prop} (hh : ar.handled = none) (ap : ZipApart z ti to' p q l m) (c1 : IsZipHeld st.heap z ti to' tp b) (c2 : st.heap.get? tp = some ot) (c3 : IsPair st.heap ti (.ref p) (.ref q))
    (c4 : st.heap.IsTupleIter p l j) (c5 : st.heap.IsTupleIter q m j) (c6 : st.heap.IsTuple l us) (c7 : st.heap.IsTuple m vs) (c8 : us[j]? = none ∨ vs[j]? = none)
    (nx : ∀ (g : Heap) (e : Addr), (∀ c o, c ≠ z → c ≠ p → c ≠ q → st.heap.get? c = some o → g.get? c = some o) → (∃ o, g.get? e = some o ∧ o.cls = .type "StopIteration") → Ex (.ref e) { st with heap := g }) :
    wpAny (model pr wd) ar (Builtin.«zip.__next__» ⟨[.ref z], []⟩) Qv Ex st := by
  show wpAny _ _ (field (.ref z) 2 >>= _) _ _ st
  refine wpAny_bind (wpAny_field c1 rfl (x := .bool false) rfl ?_)
  show wpAny _ _ (field (.ref z) 3 >>= _) _ _ st
  refine wpAny_bind (wpAny_field c1 rfl (x := .ref ti) rfl ?_)
  refine wpAny_bind (wpAny_seqItems c3 rfl ?_)
  show wpAny _ _ (Builtin.SmallTypes.ownedTupleIsFree (.ref z) >>= _) _ _ st
  refine wpAny_bind (wpAny_tupleHeld_zip c1 c2 fun g1 d1 e1 => ?_)
  simp only [Bool.false_eq_true, if_false]
  refine wpAny_bind ?_
  rw [← Array.forIn_toList]
  simp only [List.forIn_cons, List.forIn_nil]
  refine wpAny_bind (wpAny_bind (wpAny_holding ?_))
  show wpAny _ _ (Builtin.SmallTypes.nextOf (.ref p) >>= _) _ _ _
  cases hx : us[j]? with
  | none => exact wpAny_bind (RZ.nextOf_tuple_end (s := { st with heap := g1 }) hh (c4.extBut e1.extBut ap.i1z) (c6.extBut e1.extBut ap.l1z) hx fun g2 e e2 he => nx g2 e (fun c o n1 n2 _ w => e2 _ _ n2 (e1.extBut _ _ n1 w)) he)
  | some x =>
    have hy : vs[j]? = none := c8.resolve_left (by rw [hx]; simp)
    refine wpAny_bind (RZ.nextOf_tuple_item (s := { st with heap := g1 }) (c4.extBut e1.extBut ap.i1z) (c6.extBut e1.extBut ap.l1z) hx fun g2 d2 e2 => wpAny_pure (wpAny_pure ?_))
    refine wpAny_bind (wpAny_bind (wpAny_holding ?_))
    show wpAny _ _ (Builtin.SmallTypes.nextOf (.ref q) >>= _) _ _ _
    exact wpAny_bind (RZ.nextOf_tuple_end (s := { st with heap := g2 }) hh ((c5.extBut e1.extBut ap.i2z).extBut e2.extBut ap.i12.symm) ((c7.extBut e1.extBut ap.l2z).extBut e2.extBut ap.l2i1) hy fun g3 e e3 he => nx g3 e (fun c o n1 n2 n3 w => e3 _ _ n3 (e2.extBut _ _ n2 (e1.extBut _ _ n1 w))) he)
theorem nx_item {x y : Value} {Qv : Option Value → Shared → Prop} (ap : ZipApart z ti to' p q l m) (c1 : IsZipHeld st.heap z ti to' tp b) (c2 : st.heap.get? tp = some ot) (c3 : IsPair st.heap ti (.ref p) (.ref q))
    (c4 : st.heap.IsTupleIter p l j) (c5 : st.heap.IsTupleIter q m j) (c6 : st.heap.IsTuple l us) (c7 : st.heap.IsTuple m vs) (c8 : us[j]? = some x) (c9 : vs[j]? = some y)
    (nx : ∀ g : Heap, IsZipHeld g z ti to' tp true → g.IsTupleIter p l (j + 1) → g.IsTupleIter q m (j + 1) → IsPair g st.heap.objs.size x y → (∀ c o, c ≠ z → c ≠ p → c ≠ q → st.heap.get? c = some o → g.get? c = some o) → Qv (some (.ref st.heap.objs.size)) { st with heap := g }) :
    wpAny (model pr wd) ar (pyNext (.ref z)) Qv Ex st := by
  have ty : st.TypeIs (.ref z) "zip" := ⟨_, c1, rfl⟩
  unfold pyNext
  refine wpAny_bind (wpAny_attempt (wpAny_callSpecial?_slot (name := Str.ofString "__next__") ty F.slot_zip_next (wpAny_call_entry F.slot_zip_next ty F.entry_zip_next ?_ (F.args_zip_next_1 _))))
  exact held_item ap c1 c2 c3 c4 c5 c6 c7 c8 c9 fun g a1 a2 a3 a4 a5 => wpAny_pure (nx g a1 a2 a3 a4 a5)
theorem nx_end {Qv : Option Value → Shared → Prop} (hh : ar.handled = none) (ap : ZipApart z ti to' p q l m) (c1 : IsZipHeld st.heap z ti to' tp b) (c2 : st.heap.get? tp = some ot) (c3 : IsPair st.heap ti (.ref p) (.ref q))
    (c4 : st.heap.IsTupleIter p l j) (c5 : st.heap.IsTupleIter q m j) (c6 : st.heap.IsTuple l us) (c7 : st.heap.IsTuple m vs) (c8 : us[j]? = none ∨ vs[j]? = none)
    (nx : ∀ g : Heap, (∀ c o, c ≠ z → c ≠ p → c ≠ q → st.heap.get? c = some o → g.get? c = some o) → Qv none { st with heap := g }) : wpAny (model pr wd) ar (pyNext (.ref z)) Qv Ex st := by
  have ty : st.TypeIs (.ref z) "zip" := ⟨_, c1, rfl⟩
  unfold pyNext
  refine wpAny_bind (wpAny_attempt (wpAny_callSpecial?_slot (name := Str.ofString "__next__") ty F.slot_zip_next (wpAny_call_entry F.slot_zip_next ty F.entry_zip_next ?_ (F.args_zip_next_1 _))))
  refine held_end hh ap c1 c2 c3 c4 c5 c6 c7 c8 fun g e up he => ?_
  obtain ⟨o, ho, hc⟩ := he
  exact wpAny_bind (wpAny_isInstance (T := "StopIteration") (b := true) ⟨o, ho, hc⟩ isSubtype_stop (wpAny_pure (nx g up)))
end
end En
/-! En: dict(zip(t, u)), the rule -/
namespace En
open PySem L2 PySem.Spec PyProof.Rows
variable [Wd]
variable {W : WX}

/-- how a zip of two tuples stands at its turn j, a dict at d being filled -/
structure ZSt (z ti to' p q l m d : Addr) (us vs : Array Value) (j : Nat) (g : Heap) : Prop where
  fi : IsPair g ti (.ref p) (.ref q)
  fp : g.IsTupleIter p l j
  fq : g.IsTupleIter q m j
  fl : g.IsTuple l us
  fm : g.IsTuple m vs
  fz : (IsZip g z ti to' .none ∧ ∃ a b, IsPair g to' a b) ∨ ∃ t f o, IsZipHeld g z ti to' t f ∧ g.get? t = some o ∧ t ≠ z ∧ t ≠ p ∧ t ≠ q ∧ t ≠ d
theorem zarg {pr : Program} {wd : World} (z ti to' p q l m : Addr) (ap : ZipApart z ti to' p q l m) (us vs : Array Value) :
    PairArg pr wd "zip" z [z, ti, to', p, q, l, m] [z, to', p, q] (min us.size vs.size) (fun i k v => us[i]? = some k ∧ vs[i]? = some v)
      (fun g => IsZip g z ti to' .none ∧ IsPair g ti (.ref p) (.ref q) ∧ (∃ a b, IsPair g to' a b) ∧ g.IsTupleIter p l 0 ∧ g.IsTupleIter q m 0 ∧ g.IsTuple l us ∧ g.IsTuple m vs) where
  type := fun st ok => ⟨_, ok.1, rfl⟩
  notDict := by decide
  keep := fun g g' ok up => by
    obtain ⟨a1, a2, ⟨x, y, a3⟩, a4, a5, a6, a7⟩ := ok
    exact ⟨up _ _ a1, up _ _ a2, ⟨x, y, up _ _ a3⟩, a4.at fun o e => up _ o e, a5.at fun o e => up _ o e, a6.at fun o e => up _ o e, a7.at fun o e => up _ o e⟩
  there := fun g ok c hc => by
    obtain ⟨a1, a2, ⟨x, y, a3⟩, ⟨o1, a4, _⟩, ⟨o2, a5, _⟩, ⟨o3, a6, _⟩, ⟨o4, a7, _⟩⟩ := ok
    rcases (by simpa using hc : c = z ∨ c = ti ∨ c = to' ∨ c = p ∨ c = q ∨ c = l ∨ c = m) with rfl | rfl | rfl | rfl | rfl | rfl | rfl
    · exact ⟨_, a1⟩
    · exact ⟨_, a2⟩
    · exact ⟨_, a3⟩
    · exact ⟨_, a4⟩
    · exact ⟨_, a5⟩
    · exact ⟨_, a6⟩
    · exact ⟨_, a7⟩
  sub := fun c hc => by
    rcases (by simpa using hc : c = z ∨ c = to' ∨ c = p ∨ c = q) with rfl | rfl | rfl | rfl <;> simp
  noKeys := fun ar st Qv Ex hA ok nx => getAttrOr_miss_zip ok.1 rfl rfl rfl zip_no_keys (by decide +kernel) hA nx
  iter := fun ar st d Qv Ex hA ok hd hn nx => by
    obtain ⟨a1, a2, ⟨x, y, a3⟩, a4, a5, a6, a7⟩ := ok
    have nn : d ≠ z ∧ d ≠ ti ∧ d ≠ to' ∧ d ≠ p ∧ d ≠ q ∧ d ≠ l ∧ d ≠ m := by simpa using hn
    obtain ⟨n1, n2, n3, n4, n5, n6, n7⟩ := nn
    refine wpAny_pyIter_zip a1 (nx z [z, to', p, q] (ZSt z ti to' p q l m d us vs) st.heap st.toks ?_ ⟨a2, a4, a5, a6, a7, .inl ⟨a1, x, y, a3⟩⟩ (fun _ _ e => e) fun c hc => .inl hc)
    refine ⟨by simp [n1, n3, n4, n5], fun i g g' s up => ?_, fun i s1 Q1 E1 hi s hds hq => ?_, fun s1 Q1 E1 s hq => ?_⟩
    · refine ⟨up _ _ n2.symm s.fi, s.fp.at fun o e => up _ o n4.symm e, s.fq.at fun o e => up _ o n5.symm e, s.fl.at fun o e => up _ o n6.symm e, s.fm.at fun o e => up _ o n7.symm e, ?_⟩
      rcases s.fz with ⟨h1, a, b, h2⟩ | ⟨t, f, o, h1, h2, r1, r2, r3, r4⟩
      · exact .inl ⟨up _ _ n1.symm h1, a, b, up _ _ n3.symm h2⟩
      · exact .inr ⟨t, f, o, up _ _ n1.symm h1, up _ _ r4 h2, r1, r2, r3, r4⟩
    · have i1 : i < us.size := by omega
      have i2 : i < vs.size := by omega
      have e1 := Array.getElem?_eq_getElem i1
      have e2 := Array.getElem?_eq_getElem i2
      have lt : ∀ {c o}, s1.heap.get? c = some o → s1.heap.objs.size ≠ c := fun e => Nat.ne_of_gt (Heap.lt_size e)
      have m1 : s1.heap.objs.size ≠ p := by obtain ⟨_, e, _⟩ := s.fp; exact lt e
      have m2 : s1.heap.objs.size ≠ q := by obtain ⟨_, e, _⟩ := s.fq; exact lt e
      rcases s.fz with ⟨h1, a, b, h2⟩ | ⟨t, f, o, h1, h2, r1, r2, r3, r4⟩
      · refine RZ.pyNext_zipT_item ap h1 s.fi h2 s.fp s.fq s.fl s.fm e1 e2 fun g b1 b2 b3 b4 b5 _ up => ?_
        refine hq s1.heap.objs.size _ _ g s1.toks ⟨e1, e2⟩ (.inl ⟨_, b5, rfl, _, rfl⟩) ⟨up _ _ ap.TIz ap.TITO ap.TIi1 ap.TIi2 s.fi, b3, b4, s.fl.at fun o e => up _ o ap.l1z ap.l1TO ap.l1i1 ap.l1i2 e, s.fm.at fun o e => up _ o ap.l2z ap.l2TO ap.l2i1 ap.l2i2 e, .inr ⟨_, false, _, b1, b5, lt h1, m1, m2, Nat.ne_of_gt hds⟩⟩ fun c o hc e => ?_
        have hc' : c ≠ z ∧ c ≠ to' ∧ c ≠ p ∧ c ≠ q := by simpa using hc
        exact up c o hc'.1 hc'.2.1 hc'.2.2.1 hc'.2.2.2 e
      · refine nx_item ap h1 h2 s.fi s.fp s.fq s.fl s.fm e1 e2 fun g b1 b3 b4 b5 up => ?_
        refine hq s1.heap.objs.size _ _ g s1.toks ⟨e1, e2⟩ (.inl ⟨_, b5, rfl, _, rfl⟩) ⟨up _ _ ap.TIz ap.TIi1 ap.TIi2 s.fi, b3, b4, s.fl.at fun o e => up _ o ap.l1z ap.l1i1 ap.l1i2 e, s.fm.at fun o e => up _ o ap.l2z ap.l2i1 ap.l2i2 e, .inr ⟨t, true, o, b1, up _ _ r1 r2 r3 h2, r1, r2, r3, r4⟩⟩ fun c o hc e => ?_
        have hc' : c ≠ z ∧ c ≠ to' ∧ c ≠ p ∧ c ≠ q := by simpa using hc
        exact up c o hc'.1 hc'.2.2.1 hc'.2.2.2 e
    · have he : us[min us.size vs.size]? = none ∨ vs[min us.size vs.size]? = none := by
        by_cases h : us.size ≤ vs.size
        · exact .inl (Array.getElem?_eq_none (by omega))
        · exact .inr (Array.getElem?_eq_none (by omega))
      rcases s.fz with ⟨h1, a, b, h2⟩ | ⟨t, f, o, h1, h2, r1, r2, r3, r4⟩
      · refine RZ.pyNext_zipT_end hA ap h1 s.fi h2 s.fp s.fq s.fl s.fm he fun g up => hq g s1.toks fun c o hc e => ?_
        have hc' : c ≠ z ∧ c ≠ to' ∧ c ≠ p ∧ c ≠ q := by simpa using hc
        exact up c o hc'.1 hc'.2.1 hc'.2.2.1 hc'.2.2.2 e
      · refine nx_end hA ap h1 h2 s.fi s.fp s.fq s.fl s.fm he fun g up => hq g s1.toks fun c o hc e => ?_
        have hc' : c ≠ z ∧ c ≠ to' ∧ c ≠ p ∧ c ≠ q := by simpa using hc
        exact up c o hc'.1 hc'.2.2.1 hc'.2.2.2 e

def zkv (ks : List Str) (ys : List V) : List (Key × V) := (ks.zip ys).map fun p => (.inr p.1, p.2)
def tDz (K : PySem.W.Frag) (ta : TA) : TE := fun σ H Q => ta σ H fun ws H1 => ∃ (a b : Addr) (ks : List Str) (ys : List V), ws = [.ref a, .ref b] ∧ SqT K H1 a (ks.map V.str) ∧ SqT K H1 b ys ∧ ∀ p, H1 p = none → Q (.ref p) (upd H1 p (.dK (mergeK [] (zkv ks ys))))
theorem zkv_rel (pr : Program) (wd : World) : ∀ {ks : List Str} {ys : List V} {us vs : List Value}, Vals (ks.map V.str) us → Vals ys vs → ∃ prs : List (Key × Value), KV (zkv ks ys) prs ∧ prs.length = min us.length vs.length ∧
    ∀ (i : Nat) (x y : Value), us[i]? = some x → vs[i]? = some y → ∃ k, prs[i]? = some (k, y) ∧ keyIs k x = true
  | [], ys, us, vs, r, _ => by
    cases r
    exact ⟨[], .nil, by simp, fun i x y e => by simp at e⟩
  | k :: ks, [], us, vs, _, r => by
    cases r
    exact ⟨[], .nil, by simp, fun i x y _ e => by simp at e⟩
  | k :: ks, w :: ys, us, vs, r, r' => by
    cases r with
    | cons h t =>
      cases r' with
      | cons h' t' =>
        obtain ⟨prs, e1, e2, e3⟩ := zkv_rel pr wd t t'
        refine ⟨(.inr k, _) :: prs, .cons ⟨rfl, h'⟩ e1, by simp only [List.length_cons, e2]; omega, fun i x y ex ey => ?_⟩
        cases i with
        | zero =>
          simp only [List.getElem?_cons_zero, Option.some.injEq] at ex ey
          subst ex ey
          exact ⟨.inr k, rfl, kV_is (P := pr) (w := wd) (k := .inr k) h⟩
        | succ i =>
          simp only [List.getElem?_cons_succ] at ex ey ⊢
          exact e3 i x y ex ey
theorem pe_dz {X : Cx} {u v : Expr} {ta : TA} {p1 p2 p3 p4 : Pos} (hc : X.calm = true) (gd : Gl X "dict") (md : X.mg "dict" = none) (gz : Gl X "zip") (mz : X.mg "zip" = none) (ha : PA X [u, v] ta)
    (hs : starEach [u, v] X.env = (false, eval u X.env) :: starEach [v] X.env) (hp : (backTo p4 (starEach [v] X.env)).any (·.1) = false) :
    PE X (.Call (.Name "dict" p1) [.Call (.Name "zip" p3) [u, v] [] p4] [] p2) (tDz X.K ta) := by
  constructor
  intro pins s σ H Q I h
  refine Call_ (ld_blt I gd md PyProof.Rows.boot_dict (PyProof.Rows.callWith_type1 (args_cons (Call_ (ld_blt I gz mz PyProof.Rows.boot_zip (PyProof.Rows.callWith_type1 (thn (ha.run p4 pins s σ H _ I h) ?_) hs hp))) rfl) rfl rfl))
  rintro us st ⟨ws, H1, I1, r1, a, b, ks, ys, rfl, hqa, hqb, q⟩
  obtain ⟨x1, x2, rfl, rx1, rx2⟩ := Vals.two r1
  cases rx1
  cases rx2
  obtain ⟨i1, rv1, t1, z1⟩ := I1.tuple hqa
  obtain ⟨i2, rv2, t2, z2⟩ := I1.tuple hqb
  have la : a < st.heap.objs.size := by obtain ⟨_, e, _⟩ := t1; exact Heap.lt_size e
  have lb : b < st.heap.objs.size := by obtain ⟨_, e, _⟩ := t2; exact Heap.lt_size e
  refine RZ.call_zipT t1 t2 fun g c1 c2 c3 c4 c5 c6 up => args_nil ?_
  have ap := PySem.W.ktu_apart st.heap.objs.size a b la lb
  obtain ⟨prs, kv, hl, hpr⟩ := zkv_rel X.prog X.w rv1 rv2
  have l1 := rv1.length
  have l2 := rv2.length
  refine PySem.call_dict_pairs (s := { st with heap := g }) (knd := mixKind X.prog X.w) (kvs := prs) (zarg (pr := X.prog) (wd := X.w) _ _ _ _ _ a b ap i1.toArray i2.toArray) (I1.ok.hd hc)
    ⟨c1, c2, ⟨_, _, c3⟩, c4, c5, Heap.IsTuple.at t1 fun o e => up _ o e, Heap.IsTuple.at t2 fun o e => up _ o e⟩ ⟨by simp [hl], fun i x y e => hpr i x y (by simpa using e.1) (by simpa using e.2)⟩ (by simp; omega) fun g2 tk dd up2 => ?_
  have hm : (g.objs.size == sysModules) = false := beq_eq_false_iff_ne.mpr (by rw [c6]; exact Nat.ne_of_gt (Nat.lt_of_lt_of_le I1.big (Nat.le_add_right _ _)))
  have hlen : (mergeK [] (zkv ks ys)).length ≤ sizeLine := by
    have h1 := length_mergeK (zkv ks ys) []
    have h2 : (zkv ks ys).length = prs.length := Paired.length kv
    simp only [List.length_nil] at h1
    omega
  have nw : ObjOk X.prog X.w (upd H1 g.objs.size (.dK (mergeK [] (zkv ks ys)))) g2 g.objs.size (.dK (mergeK [] (zkv ks ys))) := ⟨hlen, hm, merged [] prs, KV.merge kv .nil, dd⟩
  have big : st.heap.objs.size ≤ g.objs.size := by rw [c6]; omega
  refine ⟨.ref g.objs.size, _, I1.laid (t' := tk) (fun c u e => up2 c u ?_ (up c u e)) big nw, rfl, q _ (I1.hok.fresh big)⟩
  have lc : c < st.heap.objs.size := Heap.lt_size e
  simp only [List.mem_cons, List.not_mem_nil, or_false, not_or]
  exact ⟨Nat.ne_of_lt (Nat.lt_of_lt_of_le lc (Nat.le_add_right _ _)), Nat.ne_of_lt (Nat.lt_of_lt_of_le lc (Nat.le_add_right _ _)), Nat.ne_of_lt lc, Nat.ne_of_lt (Nat.lt_of_lt_of_le lc (Nat.le_add_right _ _))⟩
end En
/-! En: dicts that are made -/
namespace En
open PySem L2 PySem.Spec PyProof.Rows
variable [Wd]
variable {W : WX}
section
variable {K : PySem.W.Frag} {F : Hp}
theorem keyEq_str (j k : Str) : keyEq (.str j) (.str k) = decide (j = k) := by simp [keyEq, nk, NestedKey.beq]
theorem dicA_any (k : Str) : ∀ {kvs : List (Key × V)} {ps : List (PyData × PyData)}, DicA K F kvs ps → (kvs.any fun kv => decide (kv.1 = (Sum.inr k : Key))) = ps.any fun p => keyEq p.1 (.str k)
  | _, _, .nil => rfl
  | _, _, .cons (k := j) h t => by
    rw [List.any_cons, List.any_cons, dicA_any k t, keyEq_str]
    congr 1
    simp
theorem dicA_map {v : V} {x : PyData} (k : Str) (q : Dq K F v x) : ∀ {kvs : List (Key × V)} {ps : List (PyData × PyData)}, DicA K F kvs ps →
    DicA K F (kvs.map fun kv => if kv.1 = (Sum.inr k : Key) then (kv.1, v) else kv) (ps.map fun p => if keyEq p.1 (.str k) then (p.1, x) else p)
  | _, _, .nil => .nil
  | _, _, .cons (k := j) h t => by
    rw [List.map_cons, List.map_cons, keyEq_str]
    by_cases e : j = k
    · subst e
      simp only [if_true, decide_true]
      exact .cons q (dicA_map j q t)
    · have e1 : ¬ ((Sum.inr j : Key) = Sum.inr k) := fun z => e (Sum.inr.inj z)
      rw [if_neg e1, if_neg (by simpa using e)]
      exact .cons h (dicA_map k q t)
theorem dicA_app : ∀ {kvs lvs : List (Key × V)} {ps qs : List (PyData × PyData)}, DicA K F kvs ps → DicA K F lvs qs → DicA K F (kvs ++ lvs) (ps ++ qs)
  | _, _, _, _, .nil, g => g
  | _, _, _, _, .cons h t, g => .cons h (dicA_app t g)
theorem dicA_put {v : V} {x : PyData} (k : Str) (q : Dq K F v x) {kvs : List (Key × V)} {ps : List (PyData × PyData)} (d : DicA K F kvs ps) : DicA K F (putK kvs (.inr k) v) (dicPut ps (.str k) x) := by
  unfold putK dicPut
  rw [dicA_any k d]
  split
  · exact dicA_map k q d
  · exact dicA_app d (.cons q .nil)
theorem dicA_zip : ∀ (ks : List Str) {ys : List PyData} {vs : List V} {kvs : List (Key × V)} {ps : List (PyData × PyData)}, DqA K F vs ys → DicA K F kvs ps → DicA K F (mergeK kvs (zkv ks vs)) ((ks.zip ys).foldl (fun m p => dicPut m (.str p.1) p.2) ps)
  | [], _, _, _, _, _, d => d
  | k :: ks, _, _, _, _, .nil, d => d
  | k :: ks, _, _, _, _, .cons h t, d => dicA_zip ks t (dicA_put k h d)
end
section
variable {X : Cx} {ck : Ck} {C : Str → List D → Hs → R D} {k : Nat}
theorem snd_dz {a b : E} (f : Fit X ck C k W) (sa : Snd X ck C W a) (sb : Snd X ck C W b) : Snd X ck C W (.dz a b) := by
  refine Snd.val rfl rfl fun x q => ?_
  split at q
  · rename_i x np z np2 u v p1 p2
    simp only [Bool.and_eq_true, decide_eq_true_eq] at q
    obtain ⟨⟨⟨⟨⟨⟨⟨rfl, rfl⟩, q1⟩, q2⟩, q3⟩, q4⟩, q5⟩, q6⟩ := q
    have m1 : X.mg "dict" = none := blt_of f (x := Str.ofString "dict") (by decide +kernel)
    have m2 : X.mg "zip" = none := blt_of f (x := Str.ofString "zip") (by decide +kernel)
    refine both (PE.imp (pe_dz f.calm (f.gl q1) m1 (f.gl q2) m2 (pa_cons (sa.e _ q5) (pa_cons (sb.e _ q6) pa_nil (one_star q4)) (star_cons q3)) (star_cons q3) (by rw [one_star q4]; rfl)) fun τ H Q w => ?_) fun _ => rfl
    unfold tDz
    obtain ⟨F, ρ, σ, h, st, eo, fin⟩ := w
    dsimp only at fin
    refine ⟨F, ρ, σ, h, st, eo, ?_⟩
    cases ea : (sem C a).v σ h with
    | ok x h1 =>
      rw [ea] at fin
      replace fin : Fin X.K F ρ H (((sem C b).v σ h1).bind fun y h2 => noX (zipD x y h2)) Q (wt W τ) := fin
      intro F1 ρ1 H1 v1 e1 st1 r1
      refine ⟨F1, ρ1, σ, h1, st1, eo.mono e1.toExt, ?_⟩
      cases eb : (sem C b).v σ h1 with
      | ok y h2 =>
        rw [eb] at fin
        replace fin : FinO X.K F ρ H (zipD x y h2) Q := Fin.op (E := wt W τ) fin
        intro F2 ρ2 H2 v2 e2 st2 r2
        replace fin := FinO.mono (e1.trans e2) fin
        unfold zipD at fin
        split at fin
        · rename_i xs ys h3 h4
          split at fin
          · rename_i ks hk
            split at fin
            · obtain ⟨l, vs, rfl, g1, g2⟩ := vwF_ok (Rep.mono e2.toExt _ _ r1) h3
              obtain ⟨m, ws, rfl, g3, g4⟩ := vwF_ok r2 h4
              have g2 : SqT X.K F2 l vs := by simpa using g2
              have g4 : SqT X.K F2 m ws := by simpa using g4
              have ev := dq_strs g1 hk
              subst ev
              refine ⟨l, m, ks, ws, rfl, sqT_mono st2.same g2, sqT_mono st2.same g4, fun p hp => ?_⟩
              obtain ⟨s3, sm, fp⟩ := st2.new (o := .dK (mergeK [] (zkv ks ws))) hp
              exact fin _ ρ2 _ _ (exh_new hp sm) s3 ⟨p, rfl, _, upd_same, DicA.mono sm (dicA_zip ks g3 .nil)⟩
            · exact fin.elim
          · exact fin.elim
        · exact fin.elim
      | ex _ _ => rw [eb] at fin; exact FinX.mono e1 fin
      | no => rw [eb] at fin; exact fin
    | ex _ _ => rw [ea] at fin; exact fin
    | no => rw [ea] at fin; exact fin
  · cases q
end
end En
/-! En: dict comprehensions, whatever the keys -/
namespace En
open PySem L2 PySem.Spec PyProof.Rows
variable [Wd]
variable {W : WX}

/-- a way to keep a dict: how the empty one stands, what a store makes of it -/
structure DKind where
  O : Addr → HO
  S : V → V → Addr → Hp → (Hp → Prop) → Prop
structure DKind.Ok (d : DKind) (X : Cx) : Prop where
  new : ∀ (H : Hp) (h : Heap), sysModules < h.objs.size → ObjOk X.prog X.w H (h.push { cls := .type "dict", data := .dict #[] }) h.objs.size (d.O h.objs.size)
  set : ∀ (pins : List (Addr × Obj)) (s : Shared) (σ : L2.St) (H : Hp) (y z : V) (u r : Value) (D : Addr) (Q : Hp → Prop) (Ev : Value → Shared → Prop), Inv X pins σ H s → RelV y u → RelV z r → d.S y z D H Q →
    wpAny (model X.prog X.w) X.A (dictSet D u r) (fun _ s' => ∃ H', Inv X pins σ H' s' ∧ Q H') Ev s
def tDcG (d : DKind) (wi : TI) (g : TG) (tt : TT) (tk tv : TE) (vs : List Nat) : TE := fun σ H Q => wi σ H fun J H1 => ∀ p, H1 p = none → ∃ W : Nat → Nat → Hp → Prop, (∃ m, W 0 m (upd H1 p (d.O p))) ∧ ∀ i m H, W i m H →
  (J.stop i H ∧ Q (.ref p) H) ∨ (J.go i H ∧ ∃ Nx : Hp → Prop, (∀ H', Nx H' → ∃ m', m' < m ∧ W (i + 1) m' H') ∧ ∀ x H', J.yld i H x H' → g x (L2.wipe σ vs) H' fun σ2 H2 => L2.wipe σ2 vs = L2.wipe σ vs ∧ tt σ2 H2 fun b H3 =>
    if b = true then tk σ2 H3 fun y H4 => tv σ2 H4 fun z H5 => d.S y z p H5 Nx else Nx H3)
section
variable {X : Cx}
/-- the frame in which a comprehension's block runs -/
abbrev blkE (scope : Scope) (t : Shared) (X : Cx) : PySem.Env := compEnvC scope (cellsFrom (t.heap.objs.size + 1) scope.names (cloFrom X.env.cells scope.names [])) t.heap.objs.size X.env
theorem dcg_loop {d : DKind} {pins : List (Addr × Obj)} {t5 : Shared} {σ : L2.St} {G : Hp} {Q : VK} {kx vx tg iter : Expr} {ifs : List Expr} {scope : Scope} {own : List Nat} {pos : Pos} {g : TG} {tt : TT} {tk tv : TE} {post : Result → Shared → Prop} {t3 : Shared} {ce : PySem.Env} {p it : Addr} {fp : List Addr} {tn : Nat → Heap → Prop} {J : It} {W : Nat → Nat → Hp → Prop} {m0 : Nat}
    (ca : X.calm = true) (ko : d.Ok (X.blk t3 G scope ce fp)) (pg : PG (X.blk t3 G scope ce fp) tg g) (pt : PTs (X.blk t3 G scope ce fp) ifs tt) (pk : PE (X.blk t3 G scope ce fp) kx tk) (pv : PE (X.blk t3 G scope ce fp) vx tv) (T : Turn X.prog X.w X.K tg J fp it tn)
    (turn : ∀ i m H, W i m H → (J.stop i H ∧ Q (.ref p) H) ∨ (J.go i H ∧ ∃ Nx : Hp → Prop, (∀ H', Nx H' → ∃ m', m' < m ∧ W (i + 1) m' H') ∧ ∀ x H', J.yld i H x H' → g x (L2.wipe σ own) H' fun σ2 H2 => L2.wipe σ2 own = L2.wipe σ own ∧ tt σ2 H2 fun b H3 =>
      if b = true then tk σ2 H3 fun y H4 => tv σ2 H4 fun z H5 => d.S y z p H5 Nx else Nx H3))
    (dn : ∀ (t : Shared) (H : Hp), Inv (X.blk t3 G scope ce fp) [] (L2.wipe σ own) H t → Q (.ref p) H → post (.ok .next) t)
    (I5 : Inv (X.blk t3 G scope ce fp) [] (L2.wipe σ own) G t5) (s5 : tn 0 t5.heap) (n5 : ∀ b ∈ fp, G b = none) (w5 : W 0 m0 G) :
    codeAny (model X.prog X.w) X.A (.compLoop (.DictComp kx vx [⟨tg, iter, ifs, 0⟩] scope pos) 0 (.ref it) (.ref p) ce) post t5 := by
  have free : ∀ {σ' : L2.St} {H' : Hp} {t : Shared}, Inv (X.blk t3 G scope ce fp) [] σ' H' t → (∀ b ∈ fp, H' b = none) → ∀ b ∈ fp, FpOk (X.blk t3 G scope ce fp) [] H' b := fun {σ' H' t} I' hn b hb => by
    refine ⟨hn b hb, (I'.ok.exf b hb).1, I'.ok.exfs b hb, .inl hb, (I'.ok.exf b hb).2, fun q hq => ?_⟩
    have hq : q ∈ ([] : List (Addr × Obj)) ++ [] := hq
    simp at hq
  refine compLoop_anyD (fun n t => ∃ i H', Inv (X.blk t3 G scope ce fp) [] (L2.wipe σ own) H' t ∧ tn i t.heap ∧ (∀ b ∈ fp, H' b = none) ∧ W i n H') ?_ m0 ⟨0, G, I5, s5, n5, w5⟩
  rintro n t6 ⟨i, H6, I6, s6, n6, w6⟩
  rcases turn i n H6 w6 with ⟨hstop, hq⟩ | ⟨hgo, Nx, hnx, step⟩
  · refine thnF (T.done (X.blk t3 G scope ce fp) rfl rfl rfl ca i [] t6 _ H6 (fun _ _ => False) I6 (free I6 n6) s6 hstop) ?_
    rintro r t7 ⟨rfl, I7⟩
    exact dn t7 H6 I7 hq
  · refine thnF (T.item (X.blk t3 G scope ce fp) rfl rfl rfl ca i [] t6 _ H6 (fun _ _ => False) I6 (free I6 n6) s6 hgo) ?_
    rintro r t7 ⟨u, rfl, h7⟩
    refine thnF h7 ?_
    rintro _ t8 ⟨x, H8, I8, r8, y8, s8, n8⟩
    refine thnF (pg.run _ t8 _ H8 x u _ (I8.pinned (free I8 n8) (T.obj _ _ s8)) r8 (step x H8 y8)) ?_
    rintro _ t9 ⟨σ9, H9, I9, hw, q9⟩
    refine thnF (pt.run _ t9 σ9 H9 _ I9 q9) ?_
    rintro b t10 ⟨H10, I10, q10⟩
    have back : ∀ {t : Shared} {H' : Hp}, Inv (X.blk t3 G scope ce fp) ([] ++ pinsAt fp t8.heap) σ9 H' t → Nx H' → ∃ m, m < n ∧ ∃ i H', Inv (X.blk t3 G scope ce fp) [] (L2.wipe σ own) H' t ∧ tn i t.heap ∧ (∀ b ∈ fp, H' b = none) ∧ W i m H' := fun {t H'} I' nx => by
      obtain ⟨m', hm, w'⟩ := hnx H' nx
      have keep : ∀ b ∈ fp, ∀ o, t8.heap.get? b = some o → t.heap.get? b = some o ∧ H' b = none := fun b hb o e => by
        have z := I'.pin (b, o) (List.mem_append_right _ (List.mem_append_right _ (mem_pinsAt hb e)))
        exact ⟨z.1, z.2.1⟩
      refine ⟨m', hm, i + 1, H', (I'.unpinned (pins := [])).weak (by rw [← hw, L2.wipe_length]) (fun j v e => ?_), T.keep _ _ _ s8 fun b hb o e => (keep b hb o e).1, fun b hb => ?_, w'⟩
      · rw [← hw] at e
        exact (wipe_some e).1
      · obtain ⟨o, e, _⟩ := T.obj _ _ s8 b hb
        exact (keep b hb o e).2
    cases b with
    | false =>
      simp only [Bool.false_eq_true, if_false] at q10 ⊢
      exact back I10 q10
    | true =>
      simp only [if_true] at q10 ⊢
      refine thnF (pk.run _ t10 σ9 H10 _ I10 q10) ?_
      rintro ku t11 ⟨ky, H11, I11, r11, q11⟩
      refine thnF (pv.run _ t11 σ9 H11 _ I11 q11) ?_
      rintro vu t12 ⟨vy, H12, I12, r12, q12⟩
      refine thn (ko.set _ t12 σ9 H12 ky vy ku vu p Nx _ I12 r11 r12 q12) ?_
      rintro _ t13 ⟨H13, I13, nx⟩
      exact back I13 nx
end
end En
/-! En: dict comprehensions, the rule -/
namespace En
open PySem L2 PySem.Spec PyProof.Rows
variable [Wd]
variable {W : WX}
section
variable {X : Cx}
theorem pe_dcG {d : DKind} {kx vx tg iter : Expr} {ifs : List Expr} {scope : Scope} {own : List (Str × Nat)} {pos : Pos} {wi : TI} {g : TG} {tt : TT} {tk tv : TE} (ca : X.calm = true) (nd : X.N.Nodup) (kx0 : d.Ok X) (ko : ∀ (t : Shared) (H : Hp) (ce : PySem.Env) (fp : List Addr), d.Ok (X.blk t H scope ce fp)) (hi : PI X tg iter wi) (ok : BlkOk X.N X.env.scope scope own)
    (hg : ∀ (t : Shared) (H : Hp) (c : Addr) (cl : List (Str × Addr)) (fp : List Addr), PG (X.blk t H scope (compEnvC scope cl c X.env) fp) tg g) (ht : ∀ (t : Shared) (H : Hp) (c : Addr) (cl : List (Str × Addr)) (fp : List Addr), PTs (X.blk t H scope (compEnvC scope cl c X.env) fp) ifs tt)
    (hk : ∀ (t : Shared) (H : Hp) (c : Addr) (cl : List (Str × Addr)) (fp : List Addr), PE (X.blk t H scope (compEnvC scope cl c X.env) fp) kx tk)
    (hv : ∀ (t : Shared) (H : Hp) (c : Addr) (cl : List (Str × Addr)) (fp : List Addr), PE (X.blk t H scope (compEnvC scope cl c X.env) fp) vx tv) (hs : ∀ y, foldedSetIterable iter X.env y = pure y) :
    PE X (.DictComp kx vx [⟨tg, iter, ifs, 0⟩] scope pos) (tDcG d wi g tt tk tv (own.map (·.2))) := by
  constructor
  intro pins t0 σ H Q I0 h
  rw [arm_eval_DictComp]
  have hfree : ∀ y ∈ scope.names, y.2 = .free → ∃ c, X.env.cells.lookup y.1 = some c := fun y hy e => I0.ok.has _ (ok.free y hy e)
  refine wpAny_comprehension_free (use := none) rfl hs (closure_ok hfree) ok.kind (fun y hy e => by rw [ok.uniq y hy, e]) (thn (hi.run pins t0 σ H _ I0 h) ?_)
  intro xv t1 h1
  refine thn h1 ?_
  rintro itv t2 ⟨it, fp, tn, J, H2, rfl, I2, T, s2, f2, q⟩
  refine wpAny_newObj_type (newEnv_comp ?_)
  obtain ⟨W, ⟨m0, w0⟩, turn⟩ := q t2.heap.objs.size (I2.hok.fresh (Nat.le_refl _))
  have I3 : Inv X pins σ (upd H2 t2.heap.objs.size (d.O t2.heap.objs.size)) { t2 with heap := t2.heap.push { cls := .type "dict", data := .dict #[] } } := I2.laid (t' := t2.toks) (fun b o e => Heap.get?_push_of_some _ e) (Nat.le_refl _) (kx0.new _ t2.heap I2.big)
  have below : ∀ b ∈ fp, b < t2.heap.objs.size := fun b hb => by
    obtain ⟨o, e, _⟩ := T.obj _ _ s2 b hb
    exact Heap.lt_size e
  generalize ht3 : ({ t2 with heap := t2.heap.push { cls := .type "dict", data := .dict #[] } } : Shared) = t3 at I3
  have z3 : t3.heap.objs.size = t2.heap.objs.size + 1 := by rw [← ht3]; exact Heap.size_push ..
  have g3 : ∀ b o, t2.heap.get? b = some o → t3.heap.get? b = some o := fun b o e => by rw [← ht3]; exact Heap.get?_push_of_some _ e
  generalize hp : t2.heap.objs.size = p at *
  generalize hG : upd H2 p (d.O p) = G at *
  have f3 : ∀ b ∈ fp, FpOk X pins G b ∧ b < t3.heap.objs.size := fun b hb => by
    have hlt := below b hb
    refine ⟨⟨?_, (f2 b hb).2⟩, by rw [z3]; exact Nat.lt_succ_of_lt hlt⟩
    rw [← hG, upd_ne (Nat.ne_of_lt hlt)]
    exact (f2 b hb).1
  have I4 := block_start I3 ok nd f3
  have pg := hg t3 G t3.heap.objs.size (cellsFrom (t3.heap.objs.size + 1) scope.names (cloFrom X.env.cells scope.names [])) fp
  have pt := ht t3 G t3.heap.objs.size (cellsFrom (t3.heap.objs.size + 1) scope.names (cloFrom X.env.cells scope.names [])) fp
  have pk := hk t3 G t3.heap.objs.size (cellsFrom (t3.heap.objs.size + 1) scope.names (cloFrom X.env.cells scope.names [])) fp
  have pv := hv t3 G t3.heap.objs.size (cellsFrom (t3.heap.objs.size + 1) scope.names (cloFrom X.env.cells scope.names [])) fp
  show codeAny _ _ (.compStart (.DictComp kx vx [⟨tg, iter, ifs, 0⟩] scope pos) 0 (.ref it) (.ref p) (blkE scope t3 X)) (compPost (model X.prog X.w) X.A X.xe none _ (.ref p) t3.heap.objs.size) { t3 with heap := pushCells (t3.heap.push { cls := .type "dict", data := .dict #[] }) scope.names }
  unfold blkE
  generalize hce : compEnvC scope (cellsFrom (t3.heap.objs.size + 1) scope.names (cloFrom X.env.cells scope.names [])) t3.heap.objs.size X.env = ce at I4 pg pt pk pv ⊢
  have cL : ce.locals = t3.heap.objs.size := by rw [← hce]; rfl
  have k1 := ko t3 G ce fp
  have s4 : tn 0 (pushCells (t3.heap.push { cls := .type "dict", data := .dict #[] }) scope.names) := T.keep _ _ _ s2 fun b _ o e => pushCells_keeps _ _ _ _ (Heap.get?_push_of_some _ (g3 b o e))
  have loop := dcg_loop (X := X) (d := d) (pins := pins) (σ := σ) (G := G) (Q := Q) (kx := kx) (vx := vx) (iter := iter) (pos := pos) (own := own.map (·.2)) (post := compPost (model X.prog X.w) X.A X.xe none (EP X pins σ Q) (.ref p) t3.heap.objs.size) ca k1 pg pt pk pv T turn (fun t5 H5 I5 qq => ?_) I4 s4 (fun b hb => (f3 b hb).1.1) w0
  · exact codeAny_compStart_dict loop (T.self X.A 0 _ _ _ s4 loop)
  · have I6 : Inv X pins σ H5 t5 := I3.call' (ch := fp) I5.os I5.base I5.hok I5.bare fun b hb => ⟨(f3 b hb).1.2.2.2.1, (f3 b hb).1.2.1, (f3 b hb).1.2.2.2.2.1, (f3 b hb).1.2.2.2.2.2⟩
    have nC : H5 t3.heap.objs.size = none := by
      have z : H5 ce.locals = none := I5.free
      rw [cL] at z
      exact z
    obtain ⟨m, hn, _⟩ := I5.loc
    have hn : t5.heap.Ns ce.locals m := hn
    rw [cL] at hn
    obtain ⟨f0, f1, _, f4, f5, f6⟩ := I3.fpOk (H' := H5) (Nat.le_refl _) nC
    exact ⟨m, hn, fun g2 sb => ⟨.ref p, H5, I6.turned (t' := t5.toks) (fun b o hb e => (sb.2 b hb).trans e) f0 f1 f4 f5 f6, rfl, qq⟩⟩
end
end En
/-! En: dict comprehensions, read -/
namespace En
open PySem L2
variable [Wd]
variable {W : WX}

/-- as comp_loop, the thing at p told by P -/
theorem dict_loop {K : PySem.W.Frag} {p : Addr} {P : Hp → HO → List PyData → Prop} (mono : ∀ {F F' : Hp} {o : HO} {l : List PyData}, Same F F' → P F o l → P F' o l) {F1 H1 : Hp} {ρ1 : List Addr} {J : It} {ds : List D} {h1 h2 : Hs} {f : D → Hs → R (Option PyData)} {TP : V → Hp → (Hp → Prop) → Prop} {Fn : Hp → Prop}
    {o0 : HO} {ys : List PyData} (wd : WalkD K F1 ρ1 J ds) (st1 : Stt K F1 ρ1 h1 H1) (hp : H1 p = some o0) (fp : F1 p = none) (np : p ∉ ρ1) (q0 : P F1 o0 []) (hc : compL ρ1.length f ds h1 = .ok ys h2)
    (fin : ∀ (F2 H2 : Hp) (o : HO), Exd p F1 ρ1 H1 F2 ρ1 H2 → Stt K F2 ρ1 h2 H2 → F2 p = none → H2 p = some o → P F2 o ys → Fn H2)
    (turn : ∀ (d : D) (x : V) (F2 H' : Hp) (hh : Hs) (o : HO) (done rest : List PyData) (y : Option PyData) (h3 : Hs) (Nx : Hp → Prop), f d hh = .ok y h3 → Exd p F1 ρ1 H1 F2 ρ1 H' → Stt K F2 ρ1 hh H' → Rep K F2 ρ1 d x → F2 p = none →
      H' p = some o → P F2 o done → done ++ y.toList ++ rest = ys →
      (∀ (F4 H4 : Hp) (o' : HO), Exd p F1 ρ1 H1 F4 ρ1 H4 → Stt K F4 ρ1 (h3.take ρ1.length) H4 → F4 p = none → H4 p = some o' → P F4 o' (done ++ y.toList) → Nx H4) → TP x H' Nx) :
    ∃ W : Nat → Nat → Hp → Prop, (∃ m, W 0 m H1) ∧ ∀ i m H, W i m H → (J.stop i H ∧ Fn H) ∨ (J.go i H ∧ ∃ Nx : Hp → Prop, (∀ H', Nx H' → ∃ m', m' < m ∧ W (i + 1) m' H') ∧ ∀ x H', J.yld i H x H' → TP x H' Nx) := by
  refine ⟨fun i m H => m = ds.length - i ∧ i ≤ ds.length ∧ ∃ (F2 : Hp) (hh : Hs) (o : HO) (done rest : List PyData), Exd p F1 ρ1 H1 F2 ρ1 H ∧ Stt K F2 ρ1 hh H ∧ F2 p = none ∧ H p = some o ∧ P F2 o done ∧
    compL ρ1.length f (ds.drop i) hh = .ok rest h2 ∧ done ++ rest = ys, ⟨ds.length, by simp, Nat.zero_le _, F1, h1, o0, [], ys, Exd.refl F1 ρ1 H1, st1, fp, hp, q0, by rw [List.drop_zero]; exact hc, rfl⟩, ?_⟩
  rintro i m H ⟨rfl, hi, F2, hh, o, done, rest, ex, st, f2, hH, q, hcl, hd⟩
  have sF : Same F1 H := ex.f.trans st.same
  by_cases hlt : i < ds.length
  · refine .inr ⟨wd.goes i H hlt sF, fun H' => ds.length - (i + 1) = ds.length - (i + 1) ∧ i + 1 ≤ ds.length ∧ ∃ (F2 : Hp) (hh : Hs) (o : HO) (done rest : List PyData), Exd p F1 ρ1 H1 F2 ρ1 H' ∧ Stt K F2 ρ1 hh H' ∧ F2 p = none ∧ H' p = some o ∧ P F2 o done ∧
      compL ρ1.length f (ds.drop (i + 1)) hh = .ok rest h2 ∧ done ++ rest = ys, fun H' w => ⟨ds.length - (i + 1), by omega, w⟩, fun x H' y => ?_⟩
    have hdi : ds[i]? = some ds[i] := List.getElem?_eq_getElem hlt
    obtain ⟨F3, e3, st3, r3⟩ := wd.next ex.toExt st hdi y
    rw [List.drop_eq_getElem_cons hlt] at hcl
    unfold compL at hcl
    obtain ⟨yo, h3, ef, hcl⟩ := bind_ok hcl
    obtain ⟨zs, h4, ec, hcl⟩ := bind_ok hcl
    cases hcl
    have hH' : H' p = some o := e3.k p _ hH np
    have ex' : Exd p F1 ρ1 H1 F3 ρ1 H' := Exd.trans hH ex e3.exd ⟨_, hp⟩
    have hd' : done ++ yo.toList ++ zs = ys := by rw [← hd, List.append_assoc]
    exact turn ds[i] x F3 H' hh o done zs yo h3 _ ef ex' st3 r3 (e3.m p _ hH np f2) hH' (mono e3.f q) hd' fun F4 H4 o' a1 a2 a3 a4 a5 => ⟨rfl, hlt, F4, _, o', _, zs, a1, a2, a3, a4, a5, ec, hd'⟩
  · have e : i = ds.length := by omega
    subst e
    rw [List.drop_length] at hcl
    unfold compL at hcl
    cases hcl
    rw [List.append_nil] at hd
    subst hd
    exact .inl ⟨wd.stops H sF, fin F2 H o ex st f2 hH q⟩
/-- what a kind of dict is worth: P tells what its pairs are -/
structure DKind.Tell (d : DKind) (K : PySem.W.Frag) (good : PyData → Bool) (P : Addr → Hp → HO → List PyData → Prop) : Prop where
  mono : ∀ {p : Addr} {F F' : Hp} {o : HO} {l : List PyData}, Same F F' → P p F o l → P p F' o l
  nil : ∀ (p : Addr) (F : Hp), P p F (d.O p) []
  put : ∀ {p : Addr} {F H : Hp} {ρ : List Addr} {h : Hs} {o : HO} {done : List PyData} {y z : V} {a x : PyData} {N : Hp → Prop}, Stt K F ρ h H → F p = none → H p = some o → P p F o done → Dq K F y a → Dq K F z x → good (.tuple [a, x]) = true → done.length < 100000 →
    (∀ o', P p F o' (done ++ [.tuple [a, x]]) → N (upd H p o')) → d.S y z p H N
theorem pair_inv {kx vx : D} {h h' : Hs} {o : Option PyData} (e : pairR kx vx h = .ok o h') : ∃ a b, kx = .d a ∧ vx = .d b ∧ o = some (.tuple [a, b]) ∧ h' = h := by
  unfold pairR at e
  cases kx with
  | d a =>
    cases vx with
    | d b =>
      have e : R.ok (some (PyData.tuple [a, b])) h = .ok o h' := e
      cases e
      exact ⟨a, b, rfl, rfl, rfl, rfl⟩
    | _ => cases e
  | _ => cases vx <;> cases e
theorem dc_read {K : PySem.W.Frag} {d : DKind} {good : PyData → Bool} {P : Addr → Hp → HO → List PyData → Prop} (tl : d.Tell K good P) {mi : Env → Hs → R (List D)} {own : List Nat} {t : Tg} {ifs : Sm} {mk mv : Env → Hs → R D} (hown : ∀ i ∈ slots t, i ∈ own) {τ : St} {F H : Hp} {ρ : List Addr} {σ : Env} {h h1 h2 : Hs} {ds : List D} {ys : List PyData} {Q : VK}
    (st : Stt K F ρ h H) (eo : EnvOk K F ρ σ τ) (ei : mi σ h = .ok ds h1) (ec : compL h1.length (turn own t ifs (fun σ2 h3 => (mk σ2 h3).bind fun kx h4 => (mv σ2 h4).bind fun vx h5 => pairR kx vx h5) σ) ds h1 = .ok ys h2) (hg : ys.all good = true) (hl : ys.length ≤ 100000)
    (fin : ∀ (F2 : Hp) (ρ2 : List Addr) (H2 : Hp) (p : Addr) (o : HO), Exh F ρ H F2 ρ2 H2 → Stt K F2 ρ2 h2 H2 → H p = none → p ∉ ρ2 → F2 p = none → H2 p = some o → P p F2 o ys → Q (.ref p) H2) :
    tDcG d (rI K W mi) (gT K t) (rT K noW ifs.ts) (rV K noW mk) (rV K noW mv) own τ H Q := by
  refine ⟨F, ρ, σ, h, st, eo, ?_⟩
  rw [ei]
  intro F1 ρ1 H1 J e1 st1 wd p hp
  have np : p ∉ ρ1 := fun hm => by
    obtain ⟨n, hn⟩ := List.getElem?_of_mem hm
    have hl : n < h1.length := by rw [← st1.len]; exact (List.getElem?_eq_some_iff.mp hn).1
    obtain ⟨_, u, hu⟩ := st1.cell n p _ hn (List.getElem?_eq_getElem hl)
    rw [hp] at hu; cases hu
  have fp : F1 p = none := by
    cases z : F1 p with
    | none => rfl
    | some u =>
      have := st1.same p u z
      rw [hp] at this; cases this
  have hp0 : H p = none := by
    cases z : H p with
    | none => rfl
    | some o =>
      by_cases hm : p ∈ ρ
      · exact absurd (e1.r.subset hm) np
      · have := e1.k p o z hm
        rw [hp] at this; cases this
  have hp1 : ∃ u, upd H1 p (d.O p) p = some u := ⟨_, upd_same⟩
  refine dict_loop (P := P p) tl.mono wd (st1.more hp) upd_same fp np (tl.nil p F1) (by rw [st1.len]; exact ec) (fun F2 H2 o x2 st2 f2 hH2 q2 => ?_) fun dd x F2 H' hh o done rest y h3 Nx ef ex st2 r f2 hH q hall nx => ?_
  · exact fin F2 ρ1 H2 p o (e1.trans (exd_exh (H2 := H2) (u := d.O p) hp x2)) st2 hp0 np f2 hH2 q2
  · obtain ⟨σ2, b, h4, a1, a2, a3⟩ := turn_inv ef
    refine ⟨F2, ρ1, wipeE σ own, hh, dd, σ2, st2, ((eo.mono e1.toExt).mono ex.toExt).wipe own, r, a1, fun τ2 eo2 hw => ⟨(hw own hown).trans (wipe_idem τ own), F2, ρ1, σ2, hh, st2, eo2, ?_⟩⟩
    rw [a2]
    intro F4 ρ4 H4 x4 st4
    have hH4 : H4 p = some o := x4.k p _ hH np
    have f4 : F4 p = none := x4.m p _ hH np f2
    have np4 : p ∉ ρ4 := fun z => by
      rcases x4.n p z with z | z
      · exact np z
      · rw [hH] at z; cases z
    have back : ∀ {F5 H5 : Hp} {ρ5 : List Addr} {h5 : Hs}, Exh F2 ρ1 H' F5 ρ5 H5 → Stt K F5 ρ5 h5 H5 → Stt K F5 ρ1 (h5.take ρ1.length) H5 ∧ Exd p F1 ρ1 (upd H1 p (d.O p)) F5 ρ1 H5 := fun {F5 H5 ρ5 h5} x5 st5 => by
      have c := st5.cut ρ1.length
      rw [take_pre x5.r] at c
      refine ⟨c, Exd.trans hH ex ?_ hp1⟩
      exact ⟨⟨x5.f, List.prefix_refl ρ1⟩, fun b o _ e hb => x5.k b o e hb, fun _ e => .inl e, fun b o _ e hb f => x5.m b o e hb f⟩
    cases b with
    | false =>
      obtain ⟨rfl, rfl⟩ : y = none ∧ h3 = h4 := by simpa using a3
      simp only [Bool.false_eq_true, if_false]
      obtain ⟨c1, c2⟩ := back x4 st4
      exact nx F4 H4 o c2 c1 f4 hH4 (by simpa using tl.mono x4.f q)
    | true =>
      simp only [if_true] at a3 ⊢
      obtain ⟨kx, h5, b1, b2⟩ := bind_ok a3
      obtain ⟨vx, h6, b3, b4⟩ := bind_ok b2
      obtain ⟨ka, va, rfl, rfl, rfl, rfl⟩ := pair_inv b4
      refine ⟨F4, ρ4, σ2, h4, st4, eo2.mono x4.toExt, ?_⟩
      rw [b1]
      intro F5 ρ5 H5 ky x5 st5 r5
      refine ⟨F5, ρ5, σ2, h5, st5, (eo2.mono x4.toExt).mono x5.toExt, ?_⟩
      rw [b3]
      intro F6 ρ6 H6 vy x6 st6 r6
      have x46 := (x4.trans x5).trans x6
      have hH5 : H5 p = some o := x5.k p _ hH4 np4
      have np5 : p ∉ ρ5 := fun z => by
        rcases x5.n p z with z | z
        · exact np4 z
        · rw [hH4] at z; cases z
      have hH6 : H6 p = some o := x6.k p _ hH5 np5
      have f6 : F6 p = none := x6.m p _ hH5 np5 (x5.m p _ hH4 np4 f4)
      obtain ⟨c1, c2⟩ := back x46 st6
      have hgood : good (.tuple [ka, va]) = true := List.all_eq_true.mp hg _ (by rw [← hall]; simp)
      have hlen : done.length < 100000 := by
        have := congrArg List.length hall
        simp at this
        omega
      exact tl.put c1 f6 hH6 (tl.mono x46.f q) (Dq.mono x6.f _ _ r5) r6 hgood hlen fun o' q' => nx F6 _ o' (Exd.trans hH6 c2 exd_put hp1) (c1.off f6 np) f6 upd_same (by simpa using q')
end En
/-! En: instances, methods, calls with keywords -/
namespace En
open PySem PySem.Spec PyProof.Rows L2
open SlX (SlO Slt slH putS SCls Slot1)
variable [Wd]
variable {W : WX}
section
variable {K : PySem.W.Frag} {F H : Hp} {ρ : List Addr} {h : Hs}
/-- a new instance: its dict, itself -/
theorem Stt.insNew (s : Stt K F ρ h H) {c : Str} {C x dx : Addr} (hx : H x = none) (hdx : H dx = none) (ne : dx ≠ x) (wm : Wd.mg c = some (.ref C)) :
    Stt K F (ρ ++ [dx, x]) (h ++ [.dead, .ins c []]) (upd (upd H dx (.own x)) x (.ins C dx [])) ∧ Exh F ρ H F (ρ ++ [dx, x]) (upd (upd H dx (.own x)) x (.ins C dx [])) := by
  have hx' : upd H dx (.own x) x = none := by rw [upd_ne (fun z => ne z.symm)]; exact hx
  have t := (s.more (o := .own x) hdx).more (o := .ins C dx []) hx'
  have fn : ∀ {p : Addr}, H p = none → F p = none := fun {p} hp => by
    cases q : F p with
    | none => rfl
    | some u =>
      have := s.same p u q
      rw [hp] at this; cases this
  have np : ∀ {p : Addr}, H p = none → p ∉ ρ := fun {p} hp hm => by
    obtain ⟨n, hn⟩ := List.getElem?_of_mem hm
    obtain ⟨o, ho⟩ := s.trk hn
    rw [hp] at ho; cases ho
  refine ⟨⟨t.same, by simp [s.len], ?_, fun n a cc q1 q2 => ?_⟩, ⟨Same.refl F, List.prefix_append _ _⟩, fun b u e _ => ?_, fun b hb => ?_, fun _ _ _ _ e => e⟩
  · rw [List.nodup_append]
    refine ⟨s.nd, by simp [ne], fun y hy z hz => ?_⟩
    simp only [List.mem_cons, List.not_mem_nil, or_false] at hz
    rintro rfl
    rcases hz with rfl | rfl
    · exact np hdx hy
    · exact np hx hy
  · by_cases hn : n < ρ.length
    · rw [List.getElem?_append_left hn] at q1
      rw [List.getElem?_append_left (by rw [← s.len]; exact hn)] at q2
      obtain ⟨y1, y2⟩ := t.cell n a cc q1 q2
      exact ⟨y1.rho fun m dx e1 e2 => by rw [List.getElem?_append_left (by omega)]; exact e2, y2⟩
    · rw [List.getElem?_append_right (by omega)] at q1
      rw [List.getElem?_append_right (by rw [← s.len]; omega), ← s.len] at q2
      have hk : n - ρ.length = 0 ∨ n - ρ.length = 1 := by
        have := (List.getElem?_eq_some_iff.mp q1).1
        simp at this
        omega
      rcases hk with hk | hk
      · rw [hk] at q1 q2
        cases q1; cases q2
        exact ⟨trivial, .own x, by rw [upd_ne ne, upd_same]⟩
      · rw [hk] at q1 q2
        cases q1; cases q2
        refine ⟨⟨fn hx, ρ.length, C, dx, [], by omega, by simp, fn hdx, ne, wm, .inl ⟨upd_same, rfl⟩, .inl (by rw [upd_ne ne, upd_same]), fun i y e => by simp at e⟩, _, upd_same⟩
  · rw [upd_ne (ne_of_none e hx), upd_ne (ne_of_none e hdx)]
    exact e
  · rcases List.mem_append.mp hb with z | z
    · exact .inl z
    · simp only [List.mem_cons, List.not_mem_nil, or_false] at z
      rcases z with rfl | rfl
      · exact .inr hdx
      · exact .inr hx
/-- an instance that will not change again -/
theorem Stt.freezeI (s : Stt K F ρ h H) {n m : Nat} {a dx C : Addr} {c : Str} {fs : List (Option PyData)} {vs : List (Option V)} (e1 : ρ[n]? = some a) (e2 : h[n]? = some (.ins c fs)) (hm : n = m + 1) (e3 : ρ[m]? = some dx) (f0 : F a = none) (f1 : F dx = none) (ne : dx ≠ a)
    (ha : H a = some (SlO a C dx vs)) (hd : H dx = some (.xd [])) : ∃ F', Same F F' ∧ F' a = some (SlO a C dx vs) ∧ F' dx = some (.xd []) ∧ Exh F ρ H F' ρ H ∧ Stt K F' ρ (h.set n .dead) H := by
  have sm : Same F (upd (upd F dx (.xd [])) a (SlO a C dx vs)) := fun b u q => by
    rw [upd_ne (ne_of_none q f0), upd_ne (ne_of_none q f1)]
    exact q
  have keep : ∀ b, b ≠ a → b ≠ dx → F b = none → upd (upd F dx (.xd [])) a (SlO a C dx vs) b = none := fun b h1 h2 e => by rw [upd_ne h1, upd_ne h2]; exact e
  refine ⟨upd (upd F dx (.xd [])) a (SlO a C dx vs), sm, upd_same, by rw [upd_ne ne, upd_same], ⟨⟨sm, List.prefix_refl ρ⟩, fun _ _ e _ => e, fun _ e => .inl e, fun b o e hb f => keep b (fun z => hb (by rw [z]; exact List.mem_of_getElem? e1)) (fun z => hb (by rw [z]; exact List.mem_of_getElem? e3)) f⟩,
    ⟨fun b u r => ?_, by rw [List.length_set]; exact s.len, s.nd, fun n' b cc r1 r2 => ?_⟩⟩
  · by_cases hb : b = a
    · subst hb
      rw [upd_same] at r
      rw [← r]; exact ha
    · rw [upd_ne hb] at r
      by_cases hb2 : b = dx
      · subst hb2
        rw [upd_same] at r
        rw [← r]; exact hd
      · rw [upd_ne hb2] at r
        exact s.same b u r
  · by_cases hn : n = n'
    · subst hn
      have hl : n < h.length := (List.getElem?_eq_some_iff.mp e2).1
      rw [List.getElem?_set_self hl] at r2
      cases r2
      exact ⟨trivial, s.trk r1⟩
    · rw [List.getElem?_set_ne hn] at r2
      obtain ⟨y, u, hu⟩ := s.cell n' b cc r1 r2
      have hb : b ≠ a := fun z => by subst z; exact hn (nodup_at s.nd e1 r1)
      refine ⟨?_, u, hu⟩
      cases cc with
      | dead => trivial
      | frz xs =>
        obtain ⟨us, y1, y2⟩ := y
        exact ⟨us, sm _ _ y1, DqA.mono sm _ _ y2⟩
      | lst zs =>
        obtain ⟨g0, us, y1, y2⟩ := y
        have hbd : b ≠ dx := fun z => by subst z; rw [hd] at y1; cases y1
        exact ⟨keep b hb hbd g0, us, y1, DqA.mono sm _ _ y2⟩
      | ins d fs' =>
        obtain ⟨g0, j, C', dx', us, y1, y2, y3, y4, y5, y6, y7, y8⟩ := y
        have hbd : b ≠ dx := fun z => by
          subst z
          rcases y6 with ⟨w1, _⟩ | ⟨w1, _⟩ <;> rw [hd] at w1
          · cases w1
          · exact SlX.slO_not (Option.some.inj w1).symm
        have hda : dx' ≠ a := fun z => by
          subst z
          rcases y7 with w | w <;> rw [ha] at w
          · cases w
          · exact SlX.slO_not (Option.some.inj w)
        have hdd : dx' ≠ dx := fun z => by
          subst z
          have := nodup_at s.nd y2 e3
          omega
        exact ⟨keep b hb hbd g0, j, C', dx', us, y1, y2, keep dx' hda hdd y3, y4, y5, y6, y7, y8.mono sm⟩
end
section
variable {X : Cx} {ck : Ck} {C : Str → List D → Hs → R D} {k : Nat}
theorem kl_of (f : Fit X ck C k W) {c : Str} {kl : Kl} (h : ck.kl c = some kl) : ∃ A, KlA X C k kl A ∧ kl.c = c := by
  obtain ⟨A, ka⟩ := f.cls kl (List.mem_of_find?_eq_some h)
  exact ⟨A, ka, by simpa using List.find?_some h⟩
/-! ### making an instance -/
def tMakeS (A : Addr) (sp : Sp) (E : L2.St → XK) (t : TA) : TE := fun σ H Q => t σ H fun vs H1 => ∀ x dx, H1 x = none → H1 dx = none → dx ≠ x →
  sp (.ref x :: vs) (upd (upd H1 dx (.own x)) x (.ins A dx [])) (fun v H2 => v = .non ∧ Q (.ref x) H2) (E σ)
theorem run_makeS {A f : Addr} {fd : FuncData} {ps : List Str} {sp : Sp} {CX : CXT} {E : L2.St → XK} {pins : List (Addr × Obj)} {σ : L2.St} {H : Hp} {s : Shared} {Q : VK} {us : List Value} {vs : List V} (M : Mk X.K A f) (Fo : FnOk X.prog X.w X.K X.mg X.base CX k f fd ps sp) (hr : Room (k + 1) X.A) (hb : Binds X.K fd ps [])
    (hx : ∀ σ, PassesAt CX X σ (E σ)) (I : Inv X pins σ H s) (r : Vals vs us)
    (h : ∀ x dx, H x = none → H dx = none → dx ≠ x → sp (.ref x :: vs) (upd (upd H dx (.own x)) x (.ins A dx [])) (fun v H2 => v = .non ∧ Q (.ref x) H2) (E σ)) :
    wpAny (model X.prog X.w) X.A (call (.ref A) us) (EP X pins σ Q) X.xe s := by
  have hq := h (s.heap.objs.size + 1) s.heap.objs.size (I.hok.fresh (Nat.le_succ _)) (I.hok.fresh (Nat.le_refl _)) (Nat.ne_of_lt (Nat.lt_succ_self _))
  have I2 := Inv.made (C := A) I
  have r2 : Vals (V.ref (s.heap.objs.size + 1) :: vs) (Value.ref (s.heap.objs.size + 1) :: us) := .cons rfl r
  have hl : (Value.ref (s.heap.objs.size + 1) :: us ++ []).length = ps.length := by
    have e := r2.length
    rw [Fo.len _ _ _ _ hq] at e
    rw [List.append_nil]
    exact e.symm
  have bd := hb _ (Value.ref (s.heap.objs.size + 1) :: us) I2.kIn hl
  rw [List.append_nil] at bd
  refine wpAny_call (make_map (f := f) I.kIn M.makes M.init (beq_iff_eq.mp M.fn) (codeAny_mono (Fo.run _ X.stack _ _ ⟨Value.ref (s.heap.objs.size + 1) :: us, []⟩ (Value.ref (s.heap.objs.size + 1) :: us) _ _ (E σ) (hr.make A us [])
    (I2.env0.make A us []) bd r2 hq) fun r s' hq' => ?_))
  cases r with
  | error e => exact hx σ pins _ _ e s' I2 hq'
  | ok fl =>
    cases fl with
    | ret u =>
      obtain ⟨v, H', I3, rv, ev, q3⟩ := I2.after hq'
      subst ev
      exact ⟨rv, ⟨V.ref (s.heap.objs.size + 1), H', I3, rfl, q3⟩⟩
    | next => exact False.elim hq'
    | brk => exact False.elim hq'
    | cont => exact False.elim hq'
theorem pe_makeS {A f : Addr} {fd : FuncData} {ps : List Str} {sp : Sp} {CX : CXT} {E : L2.St → XK} {x : Str} {p pos : Pos} {e : Expr} {es : List Expr} {t : TA} (M : Mk X.K A f) (Fo : FnOk X.prog X.w X.K X.mg X.base CX k f fd ps sp) (hr : Room (k + 1) X.A) (hg : Gl X x) (hm : X.mg x = some (.ref A)) (hb : Binds X.K fd ps [])
    (hx : ∀ σ, PassesAt CX X σ (E σ)) (ha : PA X (e :: es) t) (hdb : (x == ("__debug__" : Str)) = false) (he : starEach (e :: es) X.env = (false, eval e X.env) :: starEach es X.env) (hpl : (backTo pos (starEach es X.env)).any (·.1) = false) :
    PE X (.Call (.Name x p) (e :: es) [] pos) (tMakeS A sp E t) := by
  refine ⟨fun pins s σ H Q I h => ?_⟩
  refine wpAny_Call_Name_kw (ld_glob I hg hm ?_ hdb)
  refine PySem.W.callWith_K (h₀ := X.base) I.ok.mod.kin M.kp (thn (ha.run pos pins s σ H _ I h) fun us s1 ⟨vs, H1, I1, r, q⟩ => ⟨I1.kIn, ?_⟩) he hpl
  exact run_makeS M Fo hr hb hx I1 r q
theorem none_rep {K : PySem.W.Frag} {F : Hp} {ρ : List Addr} {x : D} {v : V} (h : isNoneD x = true) (r : Rep K F ρ x v) : v = .non := by
  cases x with
  | d d =>
    cases d with
    | none => cases r; rfl
    | _ => cases h
  | _ => cases h
theorem allS_of : ∀ {fs : List (Option PyData)} {xs : List PyData}, allS fs = some xs → fs = xs.map some
  | [], xs, h => by cases h; rfl
  | some x :: r, xs, h => by
    simp only [allS] at h
    obtain ⟨ys, e1, e2⟩ := Option.map_eq_some_iff.mp h
    subst e2
    rw [allS_of e1]
    rfl
  | none :: _, _, h => by cases h
theorem rmake {K : PySem.W.Frag} {n : Nat} {A : Addr} {c : Str} {cc : List D → Hs → R D} (wm : Wd.mg c = some (.ref A)) (hl : ∀ ds h, cc ds h ≠ .no → ds.length = n) {ma : Env → Hs → R (List D)} {τ : L2.St} {H : Hp} {Q : VK}
    (q : rV K W (fun σ h => (ma σ h).bind fun ds h1 => (cc (.cel (h1.length + 1) :: ds) (h1 ++ [.dead, .ins c []])).bind fun r h2 => if isNoneD r then noX (rdyI c (h1.length + 1) h2) else .no) τ H Q) : tMakeS A (spD K n cc) (wt W) (rL K W ma) τ H Q := by
  obtain ⟨F, ρ, σ, h, st, eo, fin⟩ := q
  dsimp only at fin
  refine ⟨F, ρ, σ, h, st, eo, ?_⟩
  cases ea : ma σ h with
  | ok ds h1 =>
    rw [ea] at fin
    replace fin : Fin K F ρ H ((cc (.cel (h1.length + 1) :: ds) (h1 ++ [.dead, .ins c []])).bind fun r h2 => if isNoneD r then noX (rdyI c (h1.length + 1) h2) else .no) Q (wt W τ) := fin
    intro F1 ρ1 H1 vs e1 st1 r1 x dx hx hdx ne
    obtain ⟨st2, e2⟩ := st1.insNew hx hdx ne wm
    have hn : ((.cel (h1.length + 1) :: ds : List D)).length = n := hl _ _ (fun z => by rw [z] at fin; exact fin)
    refine ⟨by rw [List.length_cons, r1.len]; exact hn, F1, ρ1 ++ [dx, x], h1 ++ [.dead, .ins c []], .cel (h1.length + 1) :: ds, st2, ⟨_, _, rfl, ⟨x, ?_, rfl⟩, RepL.mono e2.toExt _ _ r1⟩, ?_⟩
    · rw [← st1.len, List.getElem?_append_right (by omega)]
      simp
    · cases ec : cc (.cel (h1.length + 1) :: ds) (h1 ++ [.dead, .ins c []]) with
      | ok rr h2 =>
        rw [ec] at fin
        replace fin : Fin K F ρ H (if isNoneD rr then noX (rdyI c (h1.length + 1) h2) else .no) Q (wt W τ) := fin
        intro F3 ρ3 H3 v e3 st3 r3
        cases hnn : isNoneD rr with
        | false => rw [hnn] at fin; exact fin.elim
        | true =>
          rw [hnn] at fin
          refine ⟨none_rep hnn r3, ?_⟩
          replace fin : FinO K F ρ H (rdyI c (h1.length + 1) h2) Q := Fin.op (E := wt W τ) fin
          unfold rdyI at fin
          split at fin
          · rename_i d fs hfs
            split at fin
            · rename_i hd
              subst hd
              split at fin
              · rename_i y ys hall
                have g1 : ρ3[h1.length + 1]? = some x := e3.get (by rw [← st1.len, List.getElem?_append_right (by omega)]; simp)
                obtain ⟨⟨f0, m, C', dx', us, y1, y2, y3, y4, y5, y6, y7, y8⟩, _⟩ := st3.cell _ _ _ g1 hfs
                rw [wm] at y5
                cases y5
                have efs := allS_of hall
                subst efs
                obtain ⟨w0, hw0, _⟩ := y8 0 y rfl
                rcases y6 with ⟨w1, w2⟩ | ⟨w1, w2⟩
                · subst w2; simp at hw0
                · obtain ⟨F4, sm, k1, k2, e4, st4⟩ := st3.freezeI g1 hfs y1 y2 f0 y3 y4 w1 w2
                  exact fin F4 ρ3 H3 _ (((e1.trans e2).trans e3).trans e4) st4 ⟨x, _, dx', us, rfl, wm, k1, k2, y8.mono sm⟩
              · exact fin.elim
            · exact fin.elim
          · exact fin.elim
      | ex x' h2 =>
        rw [ec] at fin
        exact FinX.mono (e1.trans e2) fin
      | no => rw [ec] at fin; exact fin
  | ex _ _ => rw [ea] at fin; exact fin
  | no => rw [ea] at fin; exact fin
theorem snd_make {c g : Str} {es : E} (f : Fit X ck C k W) (sa : Snd X ck C W es) : Snd X ck C W (.make c g es) := by
  refine Snd.val rfl rfl fun x q => ?_
  split at q
  · rename_i z _ y ys p
    simp only [Bool.and_eq_true, decide_eq_true_eq] at q
    obtain ⟨⟨⟨⟨⟨rfl, q1⟩, q2⟩, q3⟩, q4⟩, q5⟩ := q
    split at q1
    · rename_i kl hkl
      obtain ⟨A, ka, rfl⟩ := kl_of f hkl
      have q1 := of_decide_eq_true q1
      subst q1
      obtain ⟨a, fd, ps, m1, m2⟩ := ka.init
      obtain ⟨d1, _, _⟩ := debug_of q3
      obtain ⟨s1, s2⟩ := stars_of q5
      exact both (PE.imp (pe_makeS m1 m2.ok (f.room.mono (by omega)) (f.gl q2) ka.mg m2.binds (pass_at f.tk) (sa.l _ q4) d1 (star_cons s1) (star_any p X.env ys s2).1) fun τ H Q w => rmake ka.wm m2.len w) fun _ => rfl
    · cases q1
  · cases q
/-! ### slots -/
theorem ins_slt {K : PySem.W.Frag} {F H : Hp} {ρ : List Addr} {h : Hs} {c : Str} {fs : List PyData} {v : V} {A : Addr} (st : Stt K F ρ h H) (wm : Wd.mg c = some (.ref A)) (r : Rep K F ρ (.ins c fs) v) : ∃ a dx vs, v = .ref a ∧ Slt H a A dx vs ∧ InsA K F vs (fs.map some) := by
  obtain ⟨a, C', dx, vs, h1, h2, h3, h4, h5⟩ := r
  rw [wm] at h2
  cases h2
  exact ⟨a, dx, vs, h1, .inr ⟨st.same _ _ h3, st.same _ _ h4⟩, h5⟩
theorem snd_slt {c g : Str} {i : Nat} {a : E} (f : Fit X ck C k W) (sa : Snd X ck C W a) : Snd X ck C W (.slt c g i a) := by
  refine Snd.val rfl rfl fun x q => ?_
  split at q
  · rename_i x nm p
    simp only [Bool.and_eq_true, decide_eq_true_eq] at q
    obtain ⟨⟨⟨rfl, q1⟩, q2⟩, q3⟩ := q
    split at q1
    · rename_i kl hkl
      obtain ⟨A, ka, rfl⟩ := kl_of f hkl
      obtain ⟨p, sl⟩ := ka.sl nm i (by simpa using q1)
      refine both (PE.imp (SlX.pe_sl (sa.e _ q2) (base_ok q3 _ _ _)) fun τ H Q w => ?_) fun _ => rfl
      obtain ⟨F, ρ, σ, h, st, eo, fin⟩ := w
      dsimp only at fin
      refine ⟨F, ρ, σ, h, st, eo, ?_⟩
      cases ea : (sem C a).v σ h with
      | ok x h1 =>
        rw [ea] at fin
        replace fin : FinO X.K F ρ H (sltD kl.c i x h1) Q := Fin.op (E := wt W τ) fin
        intro F1 ρ1 H1 v e1 st1 r1
        replace fin := FinO.mono e1 fin
        unfold sltD at fin
        split at fin
        · rename_i d fs
          split at fin
          · rename_i hd
            subst hd
            split at fin
            · rename_i y hy
              obtain ⟨b, dx, vs, rfl, hs, ia⟩ := ins_slt st1 ka.wm r1
              obtain ⟨u, hu, du⟩ := ia i y (by simp [hy])
              exact ⟨b, A, dx, p, vs, i, u, rfl, hs, ka.sc, sl, hu, fin_val st1 fin du⟩
            · exact fin.elim
          · exact fin.elim
        · exact fin.elim
      | ex _ _ => rw [ea] at fin; exact fin
      | no => rw [ea] at fin; exact fin
    · cases q1
  · cases q
/-! ### methods -/
def tMethX (A : Addr) (sp : Sp) (E : L2.St → XK) (ta : TE) (t : TA) : TE := fun σ H Q => ta σ H fun x H1 => ∃ a dx vs, x = .ref a ∧ Slt H1 a A dx vs ∧ t σ H1 fun ws H2 => sp (x :: ws) H2 Q (E σ)
theorem meth_form {o : Expr} {m : Str} {apos pos : Pos} {args : List Expr} {kws : List Keyword} {env : PySem.Env} (hb : attributeBase o m env (eval o env) = eval o env) (hl : (apos.endLine == pos.line) = true)
    (hf : methodCallForm (args.length + kws.length) (backTo pos (starEach args env)) (backToKw pos (keywordEach kws env)) = true) :
    eval (.Call (.Attribute o m apos) args kws pos) env = (do
      let ov ← eval o env
      standAt apos.atName
      let (f, first) ← holding [ov] (getMethod ov m (plainOf o env))
      callWith pos f first (backTo pos (starEach args env)) (backToKw pos (keywordEach kws env))) := mcall_of hb fun ov => mcall_line hf hl
theorem form_ok {es : List Expr} {pos : Pos} {env : PySem.Env} (hst : noStars es = true) (hf : es.length < 20) : methodCallForm (es.length + ([] : List Keyword).length) (backTo pos (starEach es env)) (backToKw pos (keywordEach [] env)) = true := by
  unfold methodCallForm
  rw [(star_any pos env es hst).2]
  have e1 : (backToKw pos (keywordEach [] env)).all (fun x => x.1.isSome) = true := rfl
  have e2 : (backToKw pos (keywordEach [] env)).isEmpty = true := rfl
  have e3 : ([] : List Keyword).length = 0 := rfl
  rw [e1, e2, e3]
  simp
  omega
theorem pe_methX {A g : Addr} {fd : FuncData} {ps : List Str} {sp : Sp} {CX : CXT} {E : L2.St → XK} {o e : Expr} {es : List Expr} {m : Str} {apos pos : Pos} {ta : TE} {t : TA} (he : PE X o ta) (c : SCls X.K A) (hm : Meth X.K A m g) (Fo : FnOk X.prog X.w X.K X.mg X.base CX k g fd ps sp) (hr : Room k X.A) (hb : Binds X.K fd ps [])
    (hx : ∀ σ, PassesAt CX X σ (E σ)) (ha : PA X (e :: es) t) (hst : noStars (e :: es) = true) (hba : attributeBase o m X.env (eval o X.env) = eval o X.env) (hln : (apos.endLine == pos.line) = true) (hf : (e :: es).length < 20) :
    PE X (.Call (.Attribute o m apos) (e :: es) [] pos) (tMethX A sp E ta t) := by
  refine ⟨fun pins s σ H Q I h => ?_⟩
  refine PySem.W.methodCall_KW (pl := plainOf o X.env) (thn (he.run pins s σ H _ I h) fun u s1 ⟨x, H1, I1, rx, a, dx, vs, ex, hsl, q⟩ => ?_) (meth_form hba hln (form_ok hst hf))
  subst ex
  obtain rfl : u = Value.ref a := rx
  refine SlX.getmethsl_ok I1 hsl c hm ?_
  obtain ⟨t1, t2⟩ := stars_of hst
  refine PySem.W.callWith_K (first := [.ref a]) (h₀ := X.base) I.ok.mod.kin hm.kp (thn (ha.run pos pins s1 σ H1 _ I1 q) fun us s2 ⟨ws, H2, I2, r, q2⟩ => ⟨I2.kIn, ?_⟩) (star_cons t1) (star_any pos X.env es t2).1
  exact run_fnSD (us := .ref a :: us) (vs := .ref a :: ws) (dvs := []) (ds := []) Fo hr hb .nil (hx σ) I2 (.cons rfl r) (by rw [List.append_nil]; exact q2)
theorem pe_methX0 {A g : Addr} {fd : FuncData} {ps : List Str} {sp : Sp} {CX : CXT} {E : L2.St → XK} {o : Expr} {m : Str} {apos pos : Pos} {ta : TE} (he : PE X o ta) (c : SCls X.K A) (hm : Meth X.K A m g) (Fo : FnOk X.prog X.w X.K X.mg X.base CX k g fd ps sp) (hr : Room k X.A) (hb : Binds X.K fd ps [])
    (hx : ∀ σ, PassesAt CX X σ (E σ)) (hba : attributeBase o m X.env (eval o X.env) = eval o X.env) (hln : (apos.endLine == pos.line) = true) :
    PE X (.Call (.Attribute o m apos) [] [] pos) (tMethX A sp E ta tNil) := by
  refine ⟨fun pins s σ H Q I h => ?_⟩
  refine PySem.W.methodCall_KW (pl := plainOf o X.env) (thn (he.run pins s σ H _ I h) fun u s1 ⟨x, H1, I1, rx, a, dx, vs, ex, hsl, q⟩ => ?_) (meth_form hba hln (form_ok rfl (by decide)))
  subst ex
  obtain rfl : u = Value.ref a := rx
  refine SlX.getmethsl_ok I1 hsl c hm ?_
  exact PySem.W.callWith_K0 (first := [.ref a]) I1.kIn hm.kp (run_fnSD (us := [.ref a]) (vs := [.ref a]) (dvs := []) (ds := []) Fo hr hb .nil (hx σ) I1 (.cons rfl .nil) q)
theorem fin_fz {K : PySem.W.Frag} {F H : Hp} {ρ : List Addr} {r : R D} {Q : VK} {E : XK} (q : Fin K F ρ H (r.bind fun x h => noX (fzD x h)) Q E) : Fin K F ρ H r Q E := fin_keep (m := false) q
theorem ins_of {c : Str} {x : D} (h : insOf c x = true) : ∃ fs, x = .ins c fs := by
  unfold insOf at h
  split at h
  · have h := of_decide_eq_true h
    subst h
    exact ⟨_, rfl⟩
  · cases h
theorem rmeth {K : PySem.W.Frag} {n : Nat} {A : Addr} {c : Str} {cc : List D → Hs → R D} (wm : Wd.mg c = some (.ref A)) (hl : ∀ ds h, cc ds h ≠ .no → ds.length = n) {mo : Env → Hs → R D} {ma : Env → Hs → R (List D)} {τ : L2.St} {H : Hp} {Q : VK}
    (q : rV K W (fun σ h => (mo σ h).bind fun x h1 => if insOf c x then (ma σ h1).bind (fun ds h2 => (cc (x :: ds) h2).bind fun y h3 => noX (fzD y h3)) else .no) τ H Q) : tMethX A (spD K n cc) (wt W) (rV K W mo) (rL K W ma) τ H Q := by
  obtain ⟨F, ρ, σ, h, st, eo, fin⟩ := q
  dsimp only at fin
  refine ⟨F, ρ, σ, h, st, eo, ?_⟩
  cases eo' : mo σ h with
  | ok x h1 =>
    rw [eo'] at fin
    replace fin : Fin K F ρ H (if insOf c x then (ma σ h1).bind (fun ds h2 => (cc (x :: ds) h2).bind fun y h3 => noX (fzD y h3)) else .no) Q (wt W τ) := fin
    intro F1 ρ1 H1 v e1 st1 r1
    cases hi : insOf c x with
    | false => rw [hi] at fin; exact fin.elim
    | true =>
      rw [hi] at fin
      replace fin : Fin K F ρ H ((ma σ h1).bind (fun ds h2 => (cc (x :: ds) h2).bind fun y h3 => noX (fzD y h3))) Q (wt W τ) := fin
      obtain ⟨fs, rfl⟩ := ins_of hi
      obtain ⟨a, dx, vs, rfl, hs, ia⟩ := ins_slt st1 wm r1
      refine ⟨a, dx, vs, rfl, hs, F1, ρ1, σ, h1, st1, eo.mono e1.toExt, ?_⟩
      cases ea : ma σ h1 with
      | ok ds h2 =>
        rw [ea] at fin
        replace fin : Fin K F ρ H (cc (.ins c fs :: ds) h2) Q (wt W τ) := fin_fz fin
        intro F2 ρ2 H2 ws e2 st2 r2
        exact ⟨by rw [List.length_cons, r2.len]; exact hl _ _ (fin_some fin), F2, ρ2, h2, .ins c fs :: ds, st2, ⟨_, _, rfl, Rep.mono e2.toExt _ _ r1, r2⟩, Fin.mono (e1.trans e2) fin⟩
      | ex _ _ => rw [ea] at fin; exact FinX.mono e1 fin
      | no => rw [ea] at fin; exact fin
  | ex _ _ => rw [eo'] at fin; exact fin
  | no => rw [eo'] at fin; exact fin
theorem meth_nil {A : Addr} {sp : Sp} {E' : L2.St → XK} {ta : TE} {es : En.E} (hm : ∀ τ H P P', (∀ v H, P v H → P' v H) → ta τ H P → ta τ H P') (h : (chk es).l ck [] = true) : ∀ (τ : L2.St) (H : Hp) (Q : VK), tMethX A sp E' ta (rL X.K W (sem C es).l) τ H Q → tMethX A sp E' ta tNil τ H Q := by
  intro τ H Q q
  refine hm _ _ _ _ (fun v H1 z => ?_) q
  obtain ⟨a, dx, vs, h1, h2, h3⟩ := z
  exact ⟨a, dx, vs, h1, h2, nil_l (X := X) (C := C) (W := W) h _ _ _ h3⟩
theorem rV_imp {K : PySem.W.Frag} {ma : Env → Hs → R D} (τ : L2.St) (H : Hp) (P P' : V → Hp → Prop) (i : ∀ v H, P v H → P' v H) (q : rV K W ma τ H P) : rV K W ma τ H P' := by
  obtain ⟨F, ρ, σ, h, st, eo, fin⟩ := q
  refine ⟨F, ρ, σ, h, st, eo, ?_⟩
  cases ea : ma σ h with
  | ok x h1 =>
    rw [ea] at fin
    exact fun F1 ρ1 H1 v e1 st1 r1 => i _ _ (fin F1 ρ1 H1 v e1 st1 r1)
  | ex _ _ => rw [ea] at fin; exact fin
  | no => rw [ea] at fin; exact fin
theorem snd_mcl {c m g : Str} {o es : E} (f : Fit X ck C k W) (so : Snd X ck C W o) (sa : Snd X ck C W es) : Snd X ck C W (.mcl c m g o es) := by
  refine Snd.val rfl rfl fun x q => ?_
  split at q
  · rename_i x nm ap ys cp
    simp only [Bool.and_eq_true, decide_eq_true_eq] at q
    obtain ⟨⟨⟨⟨⟨⟨⟨rfl, q1⟩, q2⟩, q3⟩, q4⟩, q5⟩, q6⟩, q7⟩ := q
    split at q1
    · rename_i kl hkl
      obtain ⟨A, ka, rfl⟩ := kl_of f hkl
      obtain ⟨a, fd, ps, m1, m2, _⟩ := ka.mt nm g (by simpa using q1)
      refine both ?_ fun _ => rfl
      cases ys with
      | nil => exact PE.imp (pe_methX0 (so.e _ q2) ka.sc m1 m2.ok f.room0 m2.binds (pass_at f.tk) (base_ok q3 _ _ _) q4) fun τ H Q w => meth_nil (X := X) (C := C) (W := W) rV_imp q5 _ _ _ (rmeth ka.wm m2.len w)
      | cons y ys => exact PE.imp (pe_methX (so.e _ q2) ka.sc m1 m2.ok f.room0 m2.binds (pass_at f.tk) (sa.l _ q5) q6 (base_ok q3 _ _ _) q4 q7) fun τ H Q w => rmeth ka.wm m2.len w
    · cases q1
  · cases q
/-! ### keywords -/
theorem kw_names {pos : Pos} {env : PySem.Env} : ∀ {kws : List Keyword} {ks : List Str}, kws.map (·.arg) = ks.map some → (backToKw pos (keywordEach kws env)).filterMap (·.1) = ks ∧ (backToKw pos (keywordEach kws env)).all (·.1.isSome) = true ∧ (backToKw pos (keywordEach kws env)).any (·.1.isNone) = false
  | [], [], _ => ⟨rfl, rfl, rfl⟩
  | [], _ :: _, h => by cases h
  | _ :: _, [], h => by cases h
  | ⟨nm, v, p⟩ :: kws, k :: ks, h => by
    simp only [List.map_cons, List.cons.injEq] at h
    obtain ⟨rfl, h2⟩ := h
    obtain ⟨i1, i2, i3⟩ := kw_names (pos := pos) (env := env) h2
    have e : backToKw pos (keywordEach (⟨some k, v, p⟩ :: kws) env) = (some k, do let w ← eval v env; standAt pos; pure w) :: backToKw pos (keywordEach kws env) := rfl
    rw [e]
    refine ⟨?_, ?_, ?_⟩
    · rw [List.filterMap_cons]; simp only; rw [i1]
    · rw [List.all_cons, i2]; rfl
    · rw [List.any_cons, i3]; rfl
theorem kw_len {pos : Pos} {env : PySem.Env} {kws : List Keyword} {ks : List Str} (h : kws.map (·.arg) = ks.map some) : kws.length = ks.length := by
  have := congrArg List.length h
  simpa using this
theorem pick_vals {vs : List V} {us : List Value} (r : Vals vs us) : ∀ ord : List Nat, Vals (pick vs ord) (pick us ord)
  | [] => .nil
  | i :: ord => by
    unfold pick
    rw [List.filterMap_cons, List.filterMap_cons]
    cases e : vs[i]? with
    | none =>
      rw [r.none_of e]
      exact pick_vals r ord
    | some v =>
      obtain ⟨u, h1, h2⟩ := r.get e
      rw [h1]
      exact .cons h2 (pick_vals r ord)
theorem pick_rep {K : PySem.W.Frag} {F : Hp} {ρ : List Addr} {ds : List D} {vs : List V} (r : RepL K F ρ ds vs) : ∀ {ord : List Nat} {es : List D}, pickO ds ord = some es → RepL K F ρ es (pick vs ord)
  | [], es, h => by cases h; exact rfl
  | i :: ord, es, h => by
    unfold pickO at h
    split at h
    · rename_i x xs e1 e2
      cases h
      obtain ⟨v, h1, h2⟩ := r.get e1
      unfold pick
      rw [List.filterMap_cons, h1]
      exact ⟨v, _, rfl, h2, pick_rep r e2⟩
    · cases h
/-- f(k = v, ..) -/
def tCallKS (sp : Sp) (ks : List Str) (ord : List Nat) (E : L2.St → XK) (tk : TA) : TE := fun σ H Q => tk σ H fun zs H2 => zs.length = ks.length ∧ sp (pick zs ord) H2 Q (E σ)
theorem run_fnKS {f : Addr} {fd : FuncData} {ps ks : List Str} {ord : List Nat} {sp : Sp} {CX : CXT} {E : L2.St → XK} {pins : List (Addr × Obj)} {σ : L2.St} {H : Hp} {s : Shared} {Q : VK} {ss ws : List Value} {zs us : List V} (Fo : FnOk X.prog X.w X.K X.mg X.base CX k f fd ps sp) (hr : Room k X.A) (hb : KwOk X.K fd ps us.length 0 ks ord) (hx : PassesAt CX X σ (E σ))
    (I : Inv X pins σ H s) (rs : Vals us ss) (rz : Vals zs ws) (hk : ws.length = ks.length) (h : sp (us ++ pick zs ord) H Q (E σ)) : wpAny (model X.prog X.w) X.A (call (.ref f) ss (ks.zip ws)) (EP X pins σ Q) X.xe s := by
  have r2 : Vals (us ++ pick zs ord) (ss ++ pick ws ord) := rs.append (pick_vals rz ord)
  have bd := hb s ss [] ws I.kIn rs.length.symm rfl hk
  rw [List.append_nil, List.nil_append] at bd
  refine wpAny_call (codeAny_mono (Fo.run X.A X.stack s H ⟨ss, ks.zip ws⟩ (ss ++ pick ws ord) (us ++ pick zs ord) Q (E σ) hr I.env0 bd r2 h) fun r s' hq => ?_)
  cases r with
  | error e => exact hx pins H s e s' I hq
  | ok fl =>
    cases fl with
    | ret u => exact I.after hq
    | next => exact False.elim hq
    | brk => exact False.elim hq
    | cont => exact False.elim hq
theorem pe_callKS {f : Addr} {fd : FuncData} {ps ks : List Str} {ord : List Nat} {sp : Sp} {CX : CXT} {E : L2.St → XK} {x : Str} {p pos : Pos} {kws : List Keyword} {tk : TA} (Fo : FnOk X.prog X.w X.K X.mg X.base CX k f fd ps sp) (hr : Room k X.A) (hg : Gl X x) (hm : X.mg x = some (.ref f)) (hk : PySem.W.keepIn X.K (.ref f) = true)
    (hb : KwOk X.K fd ps 0 0 ks ord) (hx : ∀ σ, PassesAt CX X σ (E σ)) (hkw : PK X kws tk) (hks : kws.map (·.arg) = ks.map some) (hdb : (x == ("__debug__" : Str)) = false) :
    PE X (.Call (.Name x p) [] kws pos) (tCallKS sp ks ord E tk) := by
  refine ⟨fun pins s σ H Q I h => ?_⟩
  obtain ⟨n1, n2, n3⟩ := kw_names (pos := pos) (env := X.env) hks
  refine wpAny_Call_Name_kw (ld_glob I hg hm ?_ hdb)
  refine PySem.W.callWith_KW0 (h₀ := X.base) I.ok.mod.kin hk n2 ?_ (by rw [n3]; rfl)
  refine thn (hkw.run pos pins s σ H _ I h) fun ws s2 ⟨zs, H2, I2, rz, ql, q2⟩ => ⟨I2.kIn, ?_⟩
  rw [n1]
  exact run_fnKS (ss := []) (us := []) Fo hr hb (hx σ) I2 .nil rz (by rw [← rz.length]; exact ql) q2
theorem rcallk {K : PySem.W.Frag} {n : Nat} {m : Bool} {kn : List Str} {ord : List Nat} {c : List D → Hs → R D} (hl : ∀ ds h, c ds h ≠ .no → ds.length = n) {ma : Env → Hs → R (List D)} {τ : L2.St} {H : Hp} {Q : VK} (q : rV K W (fun σ h => (ma σ h).bind fun ks h2 => if ks.length = kn.length then (match pickO ks ord with
    | some as => (c as h2).bind fun x h3 => noX (keepR m x h3)
    | none => .no) else .no) τ H Q) : tCallKS (spD K n c) kn ord (wt W) (rL K W ma) τ H Q := by
  obtain ⟨F, ρ, σ, h, st, eo, fin⟩ := q
  dsimp only at fin
  refine ⟨F, ρ, σ, h, st, eo, ?_⟩
  cases ea : ma σ h with
  | ok ds h1 =>
    rw [ea] at fin
    replace fin : Fin K F ρ H (if ds.length = kn.length then (match pickO ds ord with
      | some as => (c as h1).bind fun x h3 => noX (keepR m x h3)
      | none => .no) else .no) Q (wt W τ) := fin
    intro F1 ρ1 H1 vs e1 st1 r1
    split at fin
    · rename_i hlen
      split at fin
      · rename_i as hp
        replace fin : Fin K F ρ H (c as h1) Q (wt W τ) := fin_keep (m := m) fin
        have rp := pick_rep r1 hp
        exact ⟨by rw [r1.len]; exact hlen, by rw [rp.len]; exact hl _ _ (fin_some fin), F1, ρ1, h1, as, st1, rp, Fin.mono e1 fin⟩
      · exact fin.elim
    · exact fin.elim
  | ex _ _ => rw [ea] at fin; exact fin
  | no => rw [ea] at fin; exact fin
theorem snd_callk {g : Str} {m : Bool} {es : En.E} {ks : List Str} {ord : List Nat} {kes : En.E} (f : Fit X ck C k W) (sk : Snd X ck C W kes) : Snd X ck C W (.callk g m es ks ord kes) := by
  refine Snd.val rfl rfl fun x q => ?_
  split at q
  · rename_i z _ ys kws p
    simp only [Bool.and_eq_true, decide_eq_true_eq] at q
    obtain ⟨⟨⟨⟨⟨⟨⟨⟨⟨⟨⟨rfl, q1⟩, q2⟩, q3⟩, q4⟩, q5⟩, q6⟩, q7⟩, q8⟩, q9⟩, q10⟩, q11⟩ := q
    obtain ⟨a, fd, ps, m1, m2, m3⟩ := f.fns z (by simpa using q1)
    obtain ⟨d1, _, _⟩ := debug_of q5
    have e : ys = [] := List.isEmpty_iff.mp q3
    subst e
    exact both (PE.imp (pe_callKS m2.ok f.room0 (f.gl q4) m1 m2.keep (m3 _ _ _ (by simpa using q2)) (pass_at f.tk) (sk.k kws q10 q11) q8 d1) fun τ H Q w => rcallk m2.len w) fun _ => rfl
  · cases q
/-- o.m(k = v, ..) -/
def tMethKS (A : Addr) (sp : Sp) (ks : List Str) (ord : List Nat) (E : L2.St → XK) (ta : TE) (tk : TA) : TE := fun σ H Q => ta σ H fun x H1 => ∃ a dx vs, x = .ref a ∧ Slt H1 a A dx vs ∧ tk σ H1 fun zs H2 => zs.length = ks.length ∧ sp (x :: pick zs ord) H2 Q (E σ)
theorem form_kw {kws : List Keyword} {ks : List Str} {pos : Pos} {env : PySem.Env} (hks : kws.map (·.arg) = ks.map some) (hf : kws.length < 20) : methodCallForm (([] : List Expr).length + kws.length) (backTo pos (starEach [] env)) (backToKw pos (keywordEach kws env)) = true := by
  unfold methodCallForm
  obtain ⟨n1, n2, n3⟩ := kw_names (pos := pos) (env := env) hks
  have e1 : (backTo pos (starEach [] env)).all (fun x => !x.1) = true := rfl
  have e3 : ([] : List Expr).length = 0 := rfl
  rw [e1, n2, e3]
  simp only [Bool.and_self, Bool.true_and, decide_eq_true_eq]
  split <;> omega
theorem pe_methKS {A g : Addr} {fd : FuncData} {ps ks : List Str} {ord : List Nat} {sp : Sp} {CX : CXT} {E : L2.St → XK} {o : Expr} {kws : List Keyword} {m : Str} {apos pos : Pos} {ta : TE} {tk : TA} (he : PE X o ta) (c : SCls X.K A) (hm : Meth X.K A m g) (Fo : FnOk X.prog X.w X.K X.mg X.base CX k g fd ps sp) (hr : Room k X.A) (hb : KwOk X.K fd ps 1 0 ks ord)
    (hx : ∀ σ, PassesAt CX X σ (E σ)) (hkw : PK X kws tk) (hks : kws.map (·.arg) = ks.map some) (hba : attributeBase o m X.env (eval o X.env) = eval o X.env) (hln : (apos.endLine == pos.line) = true) (hf : kws.length < 20) :
    PE X (.Call (.Attribute o m apos) [] kws pos) (tMethKS A sp ks ord E ta tk) := by
  refine ⟨fun pins s σ H Q I h => ?_⟩
  obtain ⟨n1, n2, n3⟩ := kw_names (pos := pos) (env := X.env) hks
  refine PySem.W.methodCall_KW (pl := plainOf o X.env) (thn (he.run pins s σ H _ I h) fun u s1 ⟨x, H1, I1, rx, a, dx, vs, ex, hsl, q⟩ => ?_) (meth_form hba hln (form_kw hks hf))
  subst ex
  obtain rfl : u = Value.ref a := rx
  refine SlX.getmethsl_ok I1 hsl c hm ?_
  refine PySem.W.callWith_KW0 (first := [.ref a]) (h₀ := X.base) I.ok.mod.kin hm.kp n2 ?_ (by rw [n3]; rfl)
  refine thn (hkw.run pos pins s1 σ H1 _ I1 q) fun ws s2 ⟨zs, H2, I2, rz, ql, q2⟩ => ⟨I2.kIn, ?_⟩
  rw [n1]
  exact run_fnKS (ss := [.ref a]) (us := [.ref a]) Fo hr hb (hx σ) I2 (.cons rfl .nil) rz (by rw [← rz.length]; exact ql) q2
theorem rmethk {K : PySem.W.Frag} {n : Nat} {A : Addr} {c : Str} {kn : List Str} {ord : List Nat} {cc : List D → Hs → R D} (wm : Wd.mg c = some (.ref A)) (hl : ∀ ds h, cc ds h ≠ .no → ds.length = n) {mo : Env → Hs → R D} {ma : Env → Hs → R (List D)} {τ : L2.St} {H : Hp} {Q : VK}
    (q : rV K W (fun σ h => (mo σ h).bind fun x h1 => if insOf c x then (ma σ h1).bind (fun ks h3 => if ks.length = kn.length then (match pickO ks ord with
      | some as => (cc (x :: as) h3).bind fun y h4 => noX (fzD y h4)
      | none => .no) else .no) else .no) τ H Q) : tMethKS A (spD K n cc) kn ord (wt W) (rV K W mo) (rL K W ma) τ H Q := by
  obtain ⟨F, ρ, σ, h, st, eo, fin⟩ := q
  dsimp only at fin
  refine ⟨F, ρ, σ, h, st, eo, ?_⟩
  cases eo' : mo σ h with
  | ok x h1 =>
    rw [eo'] at fin
    replace fin : Fin K F ρ H (if insOf c x then (ma σ h1).bind (fun ks h3 => if ks.length = kn.length then (match pickO ks ord with
      | some as => (cc (x :: as) h3).bind fun y h4 => noX (fzD y h4)
      | none => .no) else .no) else .no) Q (wt W τ) := fin
    intro F1 ρ1 H1 v e1 st1 r1
    cases hi : insOf c x with
    | false => rw [hi] at fin; exact fin.elim
    | true =>
      rw [hi] at fin
      replace fin : Fin K F ρ H ((ma σ h1).bind (fun ks h3 => if ks.length = kn.length then (match pickO ks ord with
        | some as => (cc (x :: as) h3).bind fun y h4 => noX (fzD y h4)
        | none => .no) else .no)) Q (wt W τ) := fin
      obtain ⟨fs, rfl⟩ := ins_of hi
      obtain ⟨a, dx, vs, rfl, hs, ia⟩ := ins_slt st1 wm r1
      refine ⟨a, dx, vs, rfl, hs, F1, ρ1, σ, h1, st1, eo.mono e1.toExt, ?_⟩
      cases ea : ma σ h1 with
      | ok ds h2 =>
        rw [ea] at fin
        replace fin : Fin K F ρ H (if ds.length = kn.length then (match pickO ds ord with
          | some as => (cc (.ins c fs :: as) h2).bind fun y h4 => noX (fzD y h4)
          | none => .no) else .no) Q (wt W τ) := fin
        intro F2 ρ2 H2 ws e2 st2 r2
        split at fin
        · rename_i hlen
          split at fin
          · rename_i as hp
            replace fin : Fin K F ρ H (cc (.ins c fs :: as) h2) Q (wt W τ) := fin_fz fin
            have rp := pick_rep r2 hp
            exact ⟨by rw [r2.len]; exact hlen, by rw [List.length_cons, rp.len]; exact hl _ _ (fin_some fin), F2, ρ2, h2, .ins c fs :: as, st2, ⟨_, _, rfl, Rep.mono e2.toExt _ _ r1, rp⟩, Fin.mono (e1.trans e2) fin⟩
          · exact fin.elim
        · exact fin.elim
      | ex _ _ => rw [ea] at fin; exact FinX.mono e1 fin
      | no => rw [ea] at fin; exact fin
  | ex _ _ => rw [eo'] at fin; exact fin
  | no => rw [eo'] at fin; exact fin
theorem snd_mclk {c m g : Str} {o es : En.E} {ks : List Str} {ord : List Nat} {kes : En.E} (f : Fit X ck C k W) (so : Snd X ck C W o) (sk : Snd X ck C W kes) : Snd X ck C W (.mclk c m g o es ks ord kes) := by
  refine Snd.val rfl rfl fun x q => ?_
  split at q
  · rename_i x nm ap ys kws cp
    simp only [Bool.and_eq_true, decide_eq_true_eq] at q
    obtain ⟨⟨⟨⟨⟨⟨⟨⟨⟨⟨⟨rfl, q1⟩, q2⟩, q3⟩, q4⟩, q5⟩, q6⟩, q7⟩, q8⟩, q9⟩, q10⟩, q11⟩ := q
    split at q1
    · rename_i kl hkl
      simp only [Bool.and_eq_true] at q1
      obtain ⟨⟨q1, q12⟩, q13⟩ := q1
      obtain ⟨A, ka, rfl⟩ := kl_of f hkl
      obtain ⟨a, fd, ps, m1, m2, m3⟩ := ka.mt nm g (by simpa using q1)
      have e : ys = [] := List.isEmpty_iff.mp q13
      subst e
      exact both (PE.imp (pe_methKS (so.e _ q2) ka.sc m1 m2.ok f.room0 (m3 _ _ _ (by simpa using q12)) (pass_at f.tk) (sk.k kws q10 q11) q8 (base_ok q3 _ _ _) q4 (by simp at q7; omega)) fun τ H Q w => rmethk ka.wm m2.len w) fun _ => rfl
    · cases q1
  · cases q
/-! ### == of instances, isinstance -/
abbrev E0' : XK := fun _ _ _ => False
theorem pass_none : Passes (CXp X) X E0' := fun pins σ H s e s' I c => by
  obtain ⟨_, _, _, _, _, _, _, _, _, _, _, _, h⟩ := c
  exact h.elim
theorem fin_neg {K : PySem.W.Frag} {F H : Hp} {ρ : List Addr} {r : R D} {Q : VK} {E1 E2 : XK} (q : Fin K F ρ H ((noX r).bind fun z h => noX (negB false z h)) Q E1) : Fin K F ρ H r Q E2 := by
  cases r with
  | ok x h =>
    replace q : FinO K F ρ H (negB false x h) Q := Fin.op (E := E1) q
    unfold negB at q
    split at q
    · exact q
    · exact q.elim
  | ex _ _ => exact q.elim
  | no => exact q
theorem snd_eqo {n : Bool} {c g : Str} {a b : En.E} (f : Fit X ck C k W) (sa : Snd X ck C W a) (sb : Snd X ck C W b) : Snd X ck C W (.eqo n c g a b) := by
  refine Snd.val2 rfl rfl fun x q => ?_
  split at q
  · rename_i x p y _
    simp only [Bool.and_eq_true, decide_eq_true_eq, Bool.not_eq_true'] at q
    obtain ⟨⟨⟨⟨⟨rfl, rfl⟩, q1⟩, q2⟩, q3⟩, q4⟩ := q
    split at q1
    · rename_i kl hkl
      obtain ⟨A, ka, rfl⟩ := kl_of f hkl
      obtain ⟨ad, fd, ps, e1, e2, m2⟩ := ka.eq g (by simpa using q1)
      have Fr := m2.ok.raw m2.binds .nil
      have op := SlX.op_own (X := X) (E := E0') (op := .Eq) (fun _ _ => rfl) e1 e2 Fr f.room0 pass_none
      refine ⟨PE.imp (pe_cmpR op (sa.e _ q2) (sb.e _ q3) q4) fun τ H Q w => ?_, ⟨fun pins s τ H Q I w => by obtain ⟨F, ρ, σ, h, st, eo, fin⟩ := w; exact fin.elim⟩⟩
      obtain ⟨F, ρ, σ, h, st, eo, fin⟩ := w
      dsimp only at fin
      refine ⟨F, ρ, σ, h, st, eo, ?_⟩
      cases ea : (sem C a).v σ h with
      | ok x h1 =>
        rw [ea] at fin
        intro F1 ρ1 H1 v e1 st1 r1
        refine ⟨F1, ρ1, σ, h1, st1, eo.mono e1.toExt, ?_⟩
        replace fin : Fin X.K F ρ H (((sem C b).v σ h1).bind fun y h2 => if insOf kl.c x && insOf kl.c y then (noX (C g [x, y] h2)).bind fun z h3 => noX (negB false z h3) else .no) Q (wt W τ) := fin
        cases eb : (sem C b).v σ h1 with
        | ok y h2 =>
          rw [eb] at fin
          replace fin : Fin X.K F ρ H (if insOf kl.c x && insOf kl.c y then (noX (C g [x, y] h2)).bind fun z h3 => noX (negB false z h3) else .no) Q (wt W τ) := fin
          intro F2 ρ2 H2 u e2 st2 r2
          cases hi : insOf kl.c x && insOf kl.c y with
          | false => rw [hi] at fin; exact fin.elim
          | true =>
            rw [hi] at fin
            simp only [Bool.and_eq_true] at hi
            obtain ⟨fs, rfl⟩ := ins_of hi.1
            obtain ⟨gs, rfl⟩ := ins_of hi.2
            have r1' := Rep.mono e2.toExt _ _ r1
            obtain ⟨a1, dx, vs, rfl, hs, ia⟩ := ins_slt st2 ka.wm r1'
            obtain ⟨b1, dy, ws, rfl, hs', ib⟩ := ins_slt st2 ka.wm r2
            have fin' : Fin X.K F ρ H (C g [.ins kl.c fs, .ins kl.c gs] h2) Q E0' := fin_neg (E1 := wt W τ) fin
            refine ⟨a1, dx, vs, b1, A, dy, ws, rfl, rfl, hs, hs', ka.nf, ?_⟩
            show spD X.K ps.length (C g) ([.ref a1, .ref b1] ++ []) H2 Q E0'
            rw [List.append_nil]
            exact ⟨m2.len _ _ (fin_some fin'), F2, ρ2, h2, [.ins kl.c fs, .ins kl.c gs], st2, ⟨_, _, rfl, r1', _, _, rfl, r2, rfl⟩, Fin.mono (e1.trans e2) fin'⟩
        | ex _ _ => rw [eb] at fin; exact FinX.mono e1 fin
        | no => rw [eb] at fin; exact fin
      | ex _ _ => rw [ea] at fin; exact fin
      | no => rw [ea] at fin; exact fin
    · cases q1
  · cases q
/-! ### in an instance -/
def rCon (C : Addr) (sp : Sp) (E : XK) : R2 := fun x y H Q => ∃ a dx vs, y = .ref a ∧ Slt H a C dx vs ∧ sp [y, x] H (fun z H' => ∃ b, z = .bl b ∧ Q (.bl b) H') E
theorem op_con {C g : Addr} {n : Nat} {sp : Sp} {E : XK} {CX : CXT} (hs : PySem.W.findIn X.K (.ref C) "__contains__" = some (some (.ref g))) (hf : PySem.W.isFn X.K (.ref g) = true) (F : FnR X.prog X.w X.K X.mg X.base CX n g sp)
    (hr : Room n X.A) (hx : Passes CX X E) : OpR X (compareOp .In) (rCon C sp E) := by
  intro pins s σ H x y v u Q I rx ry h
  obtain ⟨a, dx, vs, rfl, ha, q⟩ := h
  cases (show u = Value.ref a from ry)
  obtain ⟨sl, od, _, J, _⟩ := SlX.slt_inst I ha
  obtain ⟨m, hF⟩ := I.fr
  refine PySem.W.in_K hF I.ok.mod.kin J hs hf ?_
  refine wpAny_mono (wpAny_call (run_fnR (us := [.ref a, v]) (vs := [.ref a, x]) F hr hx I (.cons rfl (.cons rx .nil)) q)) (fun w s' z => ?_) fun _ _ x => x
  obtain ⟨z', H', I', rz, b, rfl, qz⟩ := z
  cases (show w = Value.bool b from rz)
  exact wpAny_truthy_bool ⟨.bl b, H', I', rfl, qz⟩
theorem fin_con {K : PySem.W.Frag} {F H : Hp} {ρ : List Addr} {r : R D} {Q : VK} {E1 E2 : XK} (q : Fin K F ρ H ((noX r).bind fun z h => noX (negB false z h)) Q E1) : Fin K F ρ H r (fun z H' => ∃ b, z = .bl b ∧ Q (.bl b) H') E2 := by
  cases r with
  | ok x h =>
    replace q : FinO K F ρ H (negB false x h) Q := Fin.op (E := E1) q
    unfold negB at q
    split at q
    · rename_i b
      intro F' ρ' H' v e st rp
      have q' := q F' ρ' H' v e st rp
      cases rp
      exact ⟨_, rfl, q'⟩
    · exact q.elim
  | ex _ _ => exact q.elim
  | no => exact q
theorem snd_ino {c g : Str} {a b : En.E} (f : Fit X ck C k W) (sa : Snd X ck C W a) (sb : Snd X ck C W b) : Snd X ck C W (.ino c g a b) := by
  refine Snd.val rfl rfl fun x q => ?_
  split at q
  · rename_i x p y _
    simp only [Bool.and_eq_true, decide_eq_true_eq, Bool.not_eq_true'] at q
    obtain ⟨⟨⟨⟨rfl, q1⟩, q2⟩, q3⟩, q4⟩ := q
    split at q1
    · rename_i kl hkl
      obtain ⟨A, ka, rfl⟩ := kl_of f hkl
      obtain ⟨ad, fd, ps, m1, m2, _⟩ := ka.mt _ g (by simpa using q1)
      have Fr := m2.ok.raw m2.binds .nil
      have op := op_con (X := X) (E := E0') m1.at_ m1.fn Fr f.room0 pass_none
      have key : ∀ (τ : L2.St) (H : Hp) (Q : VK), rV X.K W (fun σ h => ((sem C a).v σ h).bind fun x h1 => ((sem C b).v σ h1).bind fun y h2 => if insOf kl.c y then (noX (C g [y, x] h2)).bind fun z h3 => noX (negB false z h3) else .no) τ H Q → tOp (rCon A (spD X.K ps.length (C g)) E0') (rV X.K W (sem C a).v) (rV X.K W (sem C b).v) τ H Q := by
        intro τ H Q w
        obtain ⟨F, ρ, σ, h, st, eo, fin⟩ := w
        dsimp only at fin
        refine ⟨F, ρ, σ, h, st, eo, ?_⟩
        cases ea : (sem C a).v σ h with
        | ok x h1 =>
          rw [ea] at fin
          intro F1 ρ1 H1 v e1 st1 r1
          refine ⟨F1, ρ1, σ, h1, st1, eo.mono e1.toExt, ?_⟩
          replace fin : Fin X.K F ρ H (((sem C b).v σ h1).bind fun y h2 => if insOf kl.c y then (noX (C g [y, x] h2)).bind fun z h3 => noX (negB false z h3) else .no) Q (wt W τ) := fin
          cases eb : (sem C b).v σ h1 with
          | ok y h2 =>
            rw [eb] at fin
            replace fin : Fin X.K F ρ H (if insOf kl.c y then (noX (C g [y, x] h2)).bind fun z h3 => noX (negB false z h3) else .no) Q (wt W τ) := fin
            intro F2 ρ2 H2 u e2 st2 r2
            cases hi : insOf kl.c y with
            | false => rw [hi] at fin; exact fin.elim
            | true =>
              rw [hi] at fin
              obtain ⟨gs, rfl⟩ := ins_of hi
              have r1' := Rep.mono e2.toExt _ _ r1
              obtain ⟨b1, dy, ws, rfl, hs', ib⟩ := ins_slt st2 ka.wm r2
              have fin' : Fin X.K F ρ H (C g [.ins kl.c gs, x] h2) (fun z H' => ∃ b, z = .bl b ∧ Q (.bl b) H') E0' := fin_con (E1 := wt W τ) fin
              refine ⟨b1, dy, ws, rfl, hs', ?_⟩
              show spD X.K ps.length (C g) ([.ref b1, v] ++ []) H2 _ E0'
              rw [List.append_nil]
              exact ⟨m2.len _ _ (fin_some fin'), F2, ρ2, h2, [.ins kl.c gs, x], st2, ⟨_, _, rfl, r2, _, _, rfl, r1', rfl⟩, Fin.mono (e1.trans e2) fin'⟩
          | ex _ _ => rw [eb] at fin; exact FinX.mono e1 fin
          | no => rw [eb] at fin; exact fin
        | ex _ _ => rw [ea] at fin; exact fin
        | no => rw [ea] at fin; exact fin
      refine ⟨PE.imp (pe_cmpR op (sa.e _ q2) (sb.e _ q3) q4) fun τ H Q w => key τ H Q w, PT.imp (pt_cmpR op (sa.e _ q2) (sb.e _ q3) q4) fun τ H Q w => key τ H _ ?_⟩
      obtain ⟨F, ρ, σ, h, st, eo, fin⟩ := w
      dsimp only at fin
      refine ⟨F, ρ, σ, h, st, eo, ?_⟩
      dsimp only
      cases er : ((sem C a).v σ h).bind fun x h1 => ((sem C b).v σ h1).bind fun y h2 => if insOf kl.c y then (noX (C g [y, x] h2)).bind fun z h3 => noX (negB false z h3) else .no with
      | ok z h3 =>
        rw [er] at fin
        have hb : ∃ b, z = .d (.bool b) := by
          obtain ⟨x, h1, _, e2⟩ := bind_ok er
          obtain ⟨y, h2, _, e3⟩ := bind_ok e2
          split at e3
          · obtain ⟨t, h4, _, e4⟩ := bind_ok e3
            have e5 := noX_inv e4
            unfold negB at e5
            split at e5
            · cases e5
              exact ⟨_, rfl⟩
            · cases e5
          · cases e3
        obtain ⟨b, rfl⟩ := hb
        replace fin : FinB X.K F ρ H (.ok b h3) Q (wt W τ) := fin
        intro F1 ρ1 H1 v e1 st1 r1
        cases r1
        exact ⟨b, rfl, fin F1 ρ1 H1 e1 st1⟩
      | ex _ _ => rw [er] at fin; exact fin
      | no => rw [er] at fin; exact fin
    · cases q1
  · cases q
theorem pe_cls (f : Fit X ck C k W) {kl : Kl} {A : Addr} {p : Pos} (ka : KlA X C k kl A) (h1 : ck.gl kl.c = true) (h2 : okNm kl.c = true) : PE X (.Name kl.c p) (tC (.ref A)) := by
  obtain ⟨d1, _, _⟩ := debug_of h2
  exact pe_glob (f.gl h1) ka.mg rfl d1
theorem snd_isc {a : En.E} {c : Str} (f : Fit X ck C k W) (sa : Snd X ck C W a) : Snd X ck C W (.isc a c) := by
  refine Snd.val rfl rfl fun x q => ?_
  split at q
  · rename_i x np y z zp p
    simp only [Bool.and_eq_true, decide_eq_true_eq] at q
    obtain ⟨⟨⟨⟨⟨⟨⟨rfl, q2⟩, q3⟩, q4⟩, rfl⟩, q5⟩, q6⟩, q7⟩ := q
    obtain ⟨kl, hkl⟩ := Option.isSome_iff_exists.mp q7
    obtain ⟨A, ka, rfl⟩ := kl_of f hkl
    refine both (PE.imp (pe_callB (x := Str.ofString "isinstance") (SlX.call_isiSl (.ref A)) (f.gl q2) (blt_of f (by decide +kernel)) (by decide +kernel) (pa_cons (sa.e _ q4) (pa_cons (pe_cls f ka q5 q6) pa_nil rfl) (star_cons q3)) (by decide) (by decide) (star_cons q3) rfl) fun τ H Q w => ?_) fun _ => rfl
    obtain ⟨F, ρ, σ, h, st, eo, fin⟩ := w
    dsimp only at fin
    refine ⟨F, ρ, σ, h, st, eo, ?_⟩
    cases ea : (sem C a).v σ h with
    | ok x h1 =>
      rw [ea] at fin
      replace fin : FinO X.K F ρ H (iscD kl.c x h1) Q := Fin.op (E := wt W τ) fin
      intro F1 ρ1 H1 v e1 st1 r1
      replace fin := FinO.mono e1 fin
      unfold iscD at fin
      split at fin
      · rename_i d fs
        split at fin
        · rename_i hd
          subst hd
          obtain ⟨b, dx, vs, rfl, hs, ia⟩ := ins_slt st1 ka.wm r1
          exact ⟨b, A, dx, vs, .ref A, true, rfl, rfl, fun w hw => hw, hs, ka.sc, ka.si, ka.kit, fin_val st1 fin (.bl true)⟩
        · exact fin.elim
      · exact fin.elim
    | ex _ _ => rw [ea] at fin; exact fin
    | no => rw [ea] at fin; exact fin
  · cases q
end
end En
/-! En: the two kinds of dicts; all expressions -/
namespace En
open PySem L2
variable [Wd]
variable {W : WX}
def txtK : DKind := ⟨fun _ => .dK [], fun y z p H Q => ∃ kvs k, y = kV k ∧ H p = some (.dK kvs) ∧ kvs.length < sizeLine ∧ Q (upd H p (.dK (putK kvs k z)))⟩
def tupK (K : PySem.W.Frag) : DKind := ⟨fun p => .ext (kdx [] p), fun y z p H Q => ∃ (F : Hp) (xs : List (NestedKey × Addr × Value)) (ps : List (PyData × PyData)) (a : PyData) (k : NestedKey) (b : Addr), Same F H ∧ H p = some (.ext (kdx xs p)) ∧ DicT K F xs ps ∧ y = .ref b ∧ Dq K F y a ∧ tupKey a = true ∧ nk a = some k ∧ xs.length < 100000 ∧
  ∀ r, RelV z r → Q (upd H p (.ext (kdx (storedH xs k b r) p)))⟩
theorem txt_ok {X : Cx} : txtK.Ok X where
  new := fun H h hb => dk_empty h hb
  set := by
    intro pins s σ H y z u r D Q Ev I ry rz q
    obtain ⟨kvs, k, rfl, h1, h2, q⟩ := q
    exact d_dictSet I h1 h2 ry rz fun s' I' => ⟨_, I', q⟩
theorem kdx_stay {xs : List (NestedKey × Addr × Value)} {a : Addr} {h1 h2 : Heap} (e : kdx xs a h1) (k : ∀ o, h1.get? a = some o → h2.get? a = some o) : kdx xs a h2 := by
  obtain ⟨o, es, ep, e1, e2⟩ := e
  exact ⟨o, es, ep, k o e1, e2⟩
theorem kdx_is {P : Program} {w : World} (hw : w = Wd.w) {xs : List (NestedKey × Addr × Value)} {a : Addr} {h : Heap} (e : h.DictOfH (nestedKind P w) a xs) : kdx xs a h := by
  obtain ⟨o, es, ep, e1, e2, e3, e4, _, e6⟩ := e
  refine ⟨o, es, ep, e1, e2, e3, ?_, e6⟩
  rw [e4]
  unfold entryOfKey nestedKind
  rw [hw]
theorem ext_ok {P : Program} {w : World} (hw : w = Wd.w) {H : Hp} {xs : List (NestedKey × Addr × Value)} {a : Addr} {h : Heap} (e : h.DictOfH (nestedKind P w) a xs) : ObjOk P w H h a (.ext (kdx xs a)) := by
  have k := kdx_is hw e
  obtain ⟨o, _, _, e1, _⟩ := id k
  exact ⟨k, ⟨o, e1⟩, fun h1 h2 e k => kdx_stay e k⟩
theorem tup_ok {X : Cx} (hw : X.w = Wd.w) (hu : X.A.units + 100 < cLine) : (tupK X.K).Ok X where
  new := fun H h hb => ext_ok hw (Heap.DictOfH.new h)
  set := by
    intro pins s σ H y z u r D Q Ev I ry rz q
    obtain ⟨F, xs, ps, a, k, b, sm, h1, h2, rfl, h3, h4, h5, h6, q⟩ := q
    obtain rfl : u = Value.ref b := ry
    obtain ⟨ks, e1, e2⟩ := tupKey_of h4
    rw [h5] at e1
    cases e1
    have hz : sizeLine = 16777216 := sizeLine_eq
    refine wpAny_dictSet_heap (knd := nestedKind X.prog X.w) (hsz := by omega) (show X.A.units + 8 < cLine by omega) ⟨nk_is I sm _ _ _ _ h3 rfl h5, e2⟩ (kdx_of hw I sm h1 h2) fun g dd sb => ⟨_, ?_, q r rz⟩
    have he : ∃ o, g.get? D = some o := let ⟨o, _, _, e, _⟩ := dd; ⟨o, e⟩
    exact d_write I (by rw [h1]; exact True.intro) sb he (ext_ok hw dd)
theorem length_dicPut (m : List (PyData × PyData)) (a x : PyData) : (dicPut m a x).length ≤ m.length + 1 := by
  unfold dicPut
  split <;> simp
theorem foldl_snoc (done : List PyData) (y : PyData) : (done ++ [y]).foldl dcPut [] = dcPut (done.foldl dcPut []) y := by
  rw [List.foldl_append]; rfl
theorem DicA.len {K : PySem.W.Frag} {F : Hp} : ∀ {kvs : List (Key × V)} {ps : List (PyData × PyData)}, DicA K F kvs ps → kvs.length = ps.length
  | _, _, .nil => rfl
  | _, _, .cons _ t => congrArg (· + 1) t.len
theorem DicT.len {K : PySem.W.Frag} {F : Hp} : ∀ {kvs : List (NestedKey × Addr × Value)} {ps : List (PyData × PyData)}, DicT K F kvs ps → kvs.length = ps.length
  | _, _, .nil => rfl
  | _, _, .cons _ _ _ _ _ t => congrArg (· + 1) t.len
theorem fold_len : ∀ (l : List PyData) (m : List (PyData × PyData)), (l.foldl dcPut m).length ≤ m.length + l.length
  | [], m => by simp
  | y :: l, m => by
    rw [List.foldl_cons]
    refine Nat.le_trans (fold_len l _) ?_
    have h1 : (dcPut m y).length ≤ m.length + 1 := by
      unfold dcPut
      split
      · exact length_dicPut _ _ _
      · omega
    simp only [List.length_cons]
    omega
theorem txt_tell {K : PySem.W.Frag} : txtK.Tell K strP (fun _ F o l => ∃ kvs, o = .dK kvs ∧ DicA K F kvs (l.foldl dcPut [])) where
  mono := by
    rintro p F F' o l s ⟨kvs, e, d⟩
    exact ⟨kvs, e, d.mono s⟩
  nil := fun p F => ⟨[], rfl, .nil⟩
  put := by
    rintro p F H ρ h o done y z a x N st f hH ⟨kvs, rfl, d⟩ q1 q2 hg hl nx
    cases a with
    | str k =>
      cases q1
      have h1 := d.len
      have h2 := fold_len done []
      have hz : sizeLine = 16777216 := sizeLine_eq
      refine ⟨kvs, .inr k, rfl, hH, by simp at h2; omega, nx _ ⟨_, rfl, ?_⟩⟩
      rw [foldl_snoc]
      exact dicA_put k q2 d
    | _ => cases hg
section
variable {K : PySem.W.Frag} {F : Hp} {a : PyData} {k : NestedKey} (ha : nk a = some k)
include ha
theorem dicT_any : ∀ {xs : List (NestedKey × Addr × Value)} {ps : List (PyData × PyData)}, DicT K F xs ps → (ps.any fun p => keyEq p.1 a) = (atKey xs k).isSome
  | _, _, .nil => rfl
  | _, _, .cons (k := k') h1 h2 h3 h4 h5 t => by
    rw [List.any_cons, dicT_any t, keyEq_of h1 ha]
    unfold atKey
    rw [List.find?_cons]
    by_cases e : k' = k
    · simp [e]
    · simp [e]
theorem dicT_map {z : V} {r : Value} {x : PyData} (rz : RelV z r) (q : Dq K F z x) : ∀ {xs : List (NestedKey × Addr × Value)} {ps : List (PyData × PyData)}, DicT K F xs ps → DicT K F (xs.map (putAt k r)) (ps.map fun p => if keyEq p.1 a then (p.1, x) else p)
  | _, _, .nil => .nil
  | _, _, .cons (k := k') h1 h2 h3 h4 h5 t => by
    rw [List.map_cons, List.map_cons, keyEq_of h1 ha]
    unfold putAt
    by_cases e : k' = k
    · rw [if_pos e, if_pos (by simpa using e)]
      exact .cons h1 h2 h3 rz q (dicT_map rz q t)
    · rw [if_neg e, if_neg (by simpa using e)]
      exact .cons h1 h2 h3 h4 h5 (dicT_map rz q t)
theorem dicT_put {b : Addr} {z : V} {r : Value} {x : PyData} (hk : tupKey a = true) (qa : Dq K F (.ref b) a) (rz : RelV z r) (q : Dq K F z x) {xs : List (NestedKey × Addr × Value)} {ps : List (PyData × PyData)} (d : DicT K F xs ps) : DicT K F (storedH xs k b r) (dicPut ps a x) := by
  have app : ∀ {xs ys : List (NestedKey × Addr × Value)} {ps qs : List (PyData × PyData)}, DicT K F xs ps → DicT K F ys qs → DicT K F (xs ++ ys) (ps ++ qs) := by
    intro xs ys ps qs h g
    induction h with
    | nil => exact g
    | cons h1 h2 h3 h4 h5 t ih => exact .cons h1 h2 h3 h4 h5 ih
  unfold storedH dicPut
  rw [dicT_any ha d]
  split
  · exact dicT_map ha rz q d
  · exact app d (.cons ha hk qa rz q .nil)
end
theorem tup_tell {K : PySem.W.Frag} : (tupK K).Tell K tupP (fun p F o l => ∃ xs, o = .ext (kdx xs p) ∧ DicT K F xs (l.foldl dcPut [])) where
  mono := by
    rintro p F F' o l s ⟨kvs, e, d⟩
    exact ⟨kvs, e, d.mono s⟩
  nil := fun p F => ⟨[], rfl, .nil⟩
  put := by
    rintro p F H ρ h o done y z a x N st f hH ⟨xs, rfl, d⟩ q1 q2 hg hl nx
    have hk : tupKey a = true := hg
    obtain ⟨ks, e1, e2⟩ := tupKey_of hk
    have ny : ∃ b, y = .ref b := by
      cases q1 with
      | tup h1 h2 => exact ⟨_, rfl⟩
      | lst h1 h2 => exact ⟨_, rfl⟩
      | _ => first | (cases e1) | skip
    obtain ⟨b, rfl⟩ := ny
    have h1 := d.len
    have h2 := fold_len done []
    refine ⟨F, xs, _, a, _, b, st.same, hH, d, rfl, q1, hk, e1, by simp at h2; omega, fun r rz => nx _ ⟨_, rfl, ?_⟩⟩
    rw [foldl_snoc]
    exact dicT_put e1 hk q1 rz q2 d
section
variable {X : Cx} {ck : Ck} {C : Str → List D → Hs → R D} {k : Nat}
theorem snd_dc {own : List Nat} {t : Tg} {it ifs kk vv : E} (f : Fit X ck C k W) (hi : All C k it) (hf : All C k ifs) (hk : All C k kk) (hv : All C k vv) : Snd X ck C W (.dc own t it ifs kk vv) := by
  refine Snd.val rfl rfl fun x q => ?_
  split at q
  · rename_i x y tg iter is scope p
    simp only [Bool.and_eq_true, decide_eq_true_eq] at q
    obtain ⟨⟨⟨⟨⟨⟨⟨⟨q1, q2⟩, q3⟩, q4⟩, q5⟩, q6⟩, q7⟩, q8⟩, q9⟩ := q
    have rule : ∀ {d : DKind} (k0 : d.Ok X) (k1 : ∀ (t : Shared) (H : Hp) (ce : PySem.Env) (fp : List Addr), d.Ok (X.blk t H scope ce fp)), PE X (.DictComp x y [⟨tg, iter, is, 0⟩] scope p) (tDcG d (rI X.K W (sem C it).it) (gT X.K t) (rT X.K noW (sem C ifs).ts) (rV X.K noW (sem C kk).v) (rV X.K noW (sem C vv).v) own) := fun {d} k0 k1 => by
      have pe := pe_dcG (pos := p) (d := d) (tt := rT X.K noW (sem C ifs).ts) (tk := rV X.K noW (sem C kk).v) (tv := rV X.K noW (sem C vv).v) f.calm f.nd k0 k1 ((hi X ck W f).i tg iter q2 q1) (blk_own f q3) (fun s H Ca cl fp => pg_blk f q4 s H Ca cl fp) (fun s H Ca cl fp => (hf _ _ noW (f.blk s H scope cl Ca fp)).ts is q6 q5)
        (fun s H Ca cl fp => (hk _ _ noW (f.blk s H scope cl Ca fp)).e x q7) (fun s H Ca cl fp => (hv _ _ noW (f.blk s H scope cl Ca fp)).e y q8) (fun y => fset_ok q2 _ y)
      rw [own_snd] at pe
      exact pe
    refine both (PE.imp (PE.or (rule txt_ok fun _ _ _ _ => txt_ok) (rule (tup_ok f.wd f.units) fun t H ce fp => tup_ok (X := X.blk t H scope ce fp) f.wd f.units)) fun τ H Q w => ?_) fun _ => rfl
    obtain ⟨F, ρ, σ, h, st, eo, fin⟩ := w
    dsimp only at fin
    cases ei : (sem C it).it σ h with
    | ok ds h1 =>
      rw [ei] at fin
      replace fin : Fin X.K F ρ H ((compL h1.length (turn own t (sem C ifs) (fun σ2 h3 => ((sem C kk).v σ2 h3).bind fun kx h4 => ((sem C vv).v σ2 h4).bind fun vx h5 => pairR kx vx h5) σ) ds h1).bind fun ys h2 => noX (dcR ys h2)) Q (wt W τ) := fin
      cases ec : compL h1.length (turn own t (sem C ifs) (fun σ2 h3 => ((sem C kk).v σ2 h3).bind fun kx h4 => ((sem C vv).v σ2 h4).bind fun vx h5 => pairR kx vx h5) σ) ds h1 with
      | ok ys h2 =>
        rw [ec] at fin
        replace fin : FinO X.K F ρ H (dcR ys h2) Q := Fin.op (E := wt W τ) fin
        unfold dcR at fin
        split at fin
        · rename_i hl
          split at fin
          · rename_i hg
            refine .inl (dc_read txt_tell (sub_of q9) st eo ei ec hg hl fun F2 ρ2 H2 p o e2 st2 hp0 np f2 hH2 q2 => ?_)
            obtain ⟨kvs, rfl, d⟩ := q2
            obtain ⟨s3, sm⟩ := st2.adoptF f2 np hH2
            refine fin _ ρ2 H2 _ ⟨⟨e2.f.trans sm, e2.r⟩, e2.k, e2.n, fun b o e hb ff => ?_⟩ s3 ⟨p, rfl, kvs, upd_same, d.mono sm⟩
            rw [upd_ne (ne_of_none e hp0)]
            exact e2.m b o e hb ff
          · split at fin
            · rename_i hg
              refine .inr (dc_read tup_tell (sub_of q9) st eo ei ec hg hl fun F2 ρ2 H2 p o e2 st2 hp0 np f2 hH2 q2 => ?_)
              obtain ⟨xs, rfl, d⟩ := q2
              obtain ⟨s3, sm⟩ := st2.adoptF f2 np hH2
              refine fin _ ρ2 H2 _ ⟨⟨e2.f.trans sm, e2.r⟩, e2.k, e2.n, fun b o e hb ff => ?_⟩ s3 ⟨p, rfl, xs, upd_same, d.mono sm⟩
              rw [upd_ne (ne_of_none e hp0)]
              exact e2.m b o e hb ff
            · exact fin.elim
        · exact fin.elim
      | ex _ _ => exact (compL_ne (fun _ _ _ _ => turn_ne) _ _ _ _ ec).elim
      | no => rw [ec] at fin; exact fin.elim
    | ex _ _ =>
      rw [ei] at fin
      refine .inl ⟨F, ρ, σ, h, st, eo, ?_⟩
      rw [ei]
      exact fin
    | no => rw [ei] at fin; exact fin.elim
  · cases q
/-- every expression keeps to the evaluator -/
theorem all_E (C : Str → List D → Hs → R D) (k : Nat) (e : E) : All C k e := by
  induction e with
  | nil => exact fun X ck W f => snd_nil
  | cons a r ha hr => exact fun X ck W f => snd_cons (ha X ck W f) (hr X ck W f)
  | star a r ha hr => exact fun X ck W f => snd_star (ha X ck W f) (hr X ck W f)
  | fz a ha => exact fun X ck W f => snd_fz (ha X ck W f)
  | var i => exact fun X ck W f => snd_var f
  | glo x v => exact fun X ck W f => snd_glo f
  | cst v => exact fun X ck W f => snd_cst
  | bin o m a b ha hb => exact fun X ck W f => snd_bin (ha X ck W f) (hb X ck W f)
  | neg a ha => exact fun X ck W f => snd_neg (ha X ck W f)
  | cmp o a b ha hb => exact fun X ck W f => snd_cmp f (ha X ck W f) (hb X ck W f)
  | chn o p a b c ha hb hc => exact fun X ck W f => snd_chn f (ha X ck W f) (hb X ck W f) (hc X ck W f)
  | bop o es he => exact fun X ck W f => snd_bop (he X ck W f)
  | not a ha => exact fun X ck W f => snd_not (ha X ck W f)
  | ife c a b hc ha hb => exact fun X ck W f => snd_ife (hc X ck W f) (ha X ck W f) (hb X ck W f)
  | tup es he => exact fun X ck W f => snd_tup (he X ck W f)
  | lst m es he => exact fun X ck W f => snd_lst (he X ck W f)
  | ix a i ha hi => exact fun X ck W f => snd_ix f (ha X ck W f) (hi X ck W f)
  | sl a lo hi ha hl hh => exact fun X ck W f => snd_sl (ha X ck W f) (hl X ck W f) (hh X ck W f)
  | call g m es he => exact fun X ck W f => snd_call f (he X ck W f)
  | callk g m es ks ord kes _ hk => exact fun X ck W f => snd_callk f (hk X ck W f)
  | isx a c tab _ => exact fun X ck W f => Snd.val rfl rfl fun x q => by split at q <;> simp at q
  | fld a g _ => exact fun X ck W f => Snd.val rfl rfl fun x q => by split at q <;> simp at q
  | make c g es he => exact fun X ck W f => snd_make f (he X ck W f)
  | mcl c m g o es ho he => exact fun X ck W f => snd_mcl f (ho X ck W f) (he X ck W f)
  | mclk c m g o es ks ord kes ho _ hk => exact fun X ck W f => snd_mclk f (ho X ck W f) (hk X ck W f)
  | slt c g i a ha => exact fun X ck W f => snd_slt f (ha X ck W f)
  | ino c g a b ha hb => exact fun X ck W f => snd_ino f (ha X ck W f) (hb X ck W f)
  | eqo n c g a b ha hb => exact fun X ck W f => snd_eqo f (ha X ck W f) (hb X ck W f)
  | isc a c ha => exact fun X ck W f => snd_isc f (ha X ck W f)
  | bi b m es he => exact fun X ck W f => snd_bi f (he X ck W f)
  | isi a ts t ha => exact fun X ck W f => snd_isi f (ha X ck W f)
  | mth m o es ho he => exact fun X ck W f => snd_mth (ho X ck W f) (he X ck W f)
  | dz a b ha hb => exact fun X ck W f => snd_dz f (ha X ck W f) (hb X ck W f)
  | lc m own tg it ifs elt hi hf he => exact fun X ck W f => snd_lc f hi hf he
  | lc2 own vs1 tg it ifs tg1 it1 ifs1 elt hi hf hi1 hf1 he => exact fun X ck W f => snd_lc2 f hi hf hi1 hf1 he
  | dc own tg it ifs kk vv hi hf hk hv => exact fun X ck W f => snd_dc f hi hf hk hv
  | enu a ha => exact fun X ck W f => snd_enu f (ha X ck W f)
  | zip a b ha hb => exact fun X ck W f => snd_zip f (ha X ck W f) (hb X ck W f)
  | rng a ha => exact fun X ck W f => snd_rng f (ha X ck W f)
  | rng2 a b ha hb => exact fun X ck W f => snd_rng2 f (ha X ck W f) (hb X ck W f)
end
end En
/-! En: defs -/
namespace En
open PySem L2
variable [Wd]
variable {W : WX}
section
variable {K : PySem.W.Frag} {F H : Hp} {ρ : List Addr}
theorem start_ok {fn : Fn} {N : List Str} {ds : List D} {vs : List V} (r : RepL K F ρ ds vs) (hn : N.length = fn.nn) : EnvOk K F ρ (startE fn ds) (L2.start N vs) := by
  have hl := r.len
  refine ⟨by simp [startE, L2.start, hl, hn], fun i x e => ?_⟩
  unfold startE at e
  unfold L2.start
  by_cases hi : i < ds.length
  · rw [List.getElem?_append_left (by simpa using hi), List.getElem?_map] at e
    obtain ⟨y, e1, e2⟩ := Option.map_eq_some_iff.mp e
    cases e2
    obtain ⟨v, e3, e4⟩ := r.get e1
    refine ⟨v, ?_, e4⟩
    rw [List.getElem?_append_left (by simp; omega), List.getElem?_map, e3]
    rfl
  · rw [List.getElem?_append_right (by simp; omega)] at e
    obtain ⟨_, e⟩ := List.getElem?_eq_some_iff.mp e
    simp at e
theorem exh_back {F' H' : Hp} {ρ' : List Addr} (x : Exh F ρ H F' ρ' H') : Exh F ρ H F' ρ H' := ⟨⟨x.f, List.prefix_refl ρ⟩, x.k, fun _ e => .inl e, x.m⟩
theorem leave_ok {h h1 : Hs} {x : D} {v : V} {F' H' : Hp} {ρ' : List Addr} {Q : VK} (st : Stt K F ρ h H) (e1 : Exh F ρ H F' ρ' H') (st1 : Stt K F' ρ' h1 H') (r : Rep K F' ρ' x v) {E : XK} (fin : Fin K F ρ H (leave h.length x h1) Q E) : Q v H' := by
  have cut := st1.cut h.length
  have tk : ρ'.take h.length = ρ := by rw [← st.len]; exact take_pre e1.r
  rw [tk] at cut
  have bk := exh_back e1
  unfold leave at fin
  split at fin
  · rename_i m
    obtain ⟨a, q1, rfl⟩ := r
    split at fin
    · rename_i hm
      refine fin F' ρ H' _ bk cut ⟨a, ?_, rfl⟩
      rw [← tk, List.getElem?_take_of_lt hm]
      exact q1
    · rename_i hm
      split at fin
      · rename_i xs hx
        have hln : (h1.take h.length).length = ρ.length := by rw [← cut.len]
        have np : a ∉ ρ := fun hm2 => by
          obtain ⟨n, hn⟩ := List.getElem?_of_mem hm2
          have hlt := (List.getElem?_eq_some_iff.mp hn).1
          have hn' : ρ'[n]? = some a := e1.toExt.get hn
          have := nodup_at st1.nd hn' q1
          rw [st.len] at hlt
          omega
        obtain ⟨⟨f0, vs, k1, k2⟩, _⟩ := st1.cell m a _ q1 hx
        refine fin F' (ρ ++ [a]) H' _ ⟨⟨bk.f, List.prefix_append _ _⟩, bk.k, fun b hb => ?_, bk.m⟩ (cut.adoptC f0 np k1 k2) ⟨a, ?_, rfl⟩
        · rcases List.mem_append.mp hb with z | z
          · exact .inl z
          · rw [List.mem_singleton] at z
            subst z
            rcases e1.n b (List.mem_of_getElem? q1) with z | z
            · exact absurd z np
            · exact .inr z
        · rw [hln, List.getElem?_append_right (Nat.le_refl _), Nat.sub_self]
          rfl
      · rename_i xs hx
        obtain ⟨⟨vs, y1, y2⟩, _⟩ := st1.cell m a _ q1 hx
        exact fin F' ρ H' _ bk cut (.lst y1 y2)
      · exact fin.elim
  · exact fin.elim
  · rename_i hc hm
    refine fin F' ρ H' v bk cut ?_
    cases x with
    | cel n => exact absurd rfl (hc n)
    | mix ds => exact absurd rfl (hm ds)
    | d x => exact r
    | ty n => exact r
    | scr ns => exact r
    | dic ps => exact r
    | dit ps => exact r
    | exc x => exact r
    | ins c fs => exact r
    | wtp xs => exact r
theorem run_body {C : Str → List D → Hs → R D} {fn : Fn} {N : List Str} {h : Hs} {ds : List D} {vs : List V} {Q : VK} {E : XK} (hn : N.length = fn.nn) (st : Stt K F ρ h H) (r : RepL K F ρ ds vs) (fin : Fin K F ρ H (runF C fn ds h) Q E) :
    rS K (fun cls d _ H' => E cls d H') (run C fn.body) { nx := fun _ H' => Q .non H', rt := Q } (L2.start N vs) H := by
  refine ⟨F, ρ, startE fn ds, h, st, start_ok r hn, ?_⟩
  unfold runF at fin
  split at fin
  · cases er : run C fn.body (startE fn ds) h with
    | ok p h1 =>
      rw [er] at fin
      obtain ⟨fl, σ1⟩ := p
      intro F' ρ' H' e1 st1
      cases fl with
      | nx => exact fun τ' _ => leave_ok (x := .d .none) (v := .non) st e1 st1 Dq.non fin
      | rt x => exact fun v rv => leave_ok st e1 st1 rv fin
      | bk => exact fin.elim
      | ct => exact fin.elim
      | xc x =>
        intro τ' cls d eo rx
        have cut := st1.cut h.length
        have tk : ρ'.take h.length = ρ := by rw [← st.len]; exact take_pre e1.r
        rw [tk] at cut
        exact fin F' ρ H' cls d (exh_back e1) cut rx
    | ex _ _ => rw [er] at fin; exact fin.elim
    | no => rw [er] at fin; exact fin
  · exact fin.elim
end

/-- a def (or a method) of the program, as the linker sees it: its key, its name, its text -/
structure Dn where
  x : Str
  nm : Str
  st : Stmt
  N : List Str
  ps : List Str
  fn : Fn
/-- what is known of the program's text -/
structure Pk where
  fs : List Str
  G : List (Str × PyData)
  kw : List Kw
  cs : List Kl
  ix : List (Str × List (Str × Bool))
  xf : List (Str × Str)
def Dn.ck (d : Dn) (p : Pk) : Ck := ⟨d.N, defScope d.st, fun _ => true, p.fs, p.G, p.kw, p.cs, p.ix, p.xf⟩
def Dn.good (d : Dn) (p : Pk) : Bool :=
  C8.scC d.N d.ps (defScope d.st) && decide (d.ps.length = d.fn.np) && decide (d.N.length = d.fn.nn) && (chkS d.fn.body).l (d.ck p) (defBody d.st)
/-- .. and as it stands in the heap -/
structure Dn.At (d : Dn) (K : PySem.W.Frag) (P : Prog) (f : Addr) (fd : FuncData) : Prop where
  fun_ : Fun K d.nm d.x d.st f fd
  binds : Binds K fd d.ps []
  look : P.lookup d.x = some d.fn
/-- the class at A -/
structure KlAt (K : PySem.W.Frag) (mg : Str → Option Value) (P : Prog) (ds : List Dn) (kl : Kl) (A : Addr) : Prop where
  mg : mg kl.c = some (.ref A)
  wm : Wd.mg kl.c = some (.ref A)
  sc : SlX.SCls K A
  si : SlX.SIsi K A
  nf : PySem.W.notFirst K A (.ref A) = true
  kit : PySem.W.kitOne K (.ref A) (.ref A) = some true
  sl : ∀ f i, (f, i) ∈ kl.sl → ∃ p, SlX.Slot1 K A f p i
  init : ∃ d ∈ ds, d.x = kl.init ∧ ∃ a fd, Mk K A a ∧ d.At K P a fd
  mt : ∀ m g, (m, g) ∈ kl.mt → ∃ d ∈ ds, d.x = g ∧ ∃ a fd, Meth K A m a ∧ d.At K P a fd ∧ ∀ n ks ord, (g, n, ks, ord) ∈ kl.kw → KwOk K fd d.ps 1 n ks ord
  eq : ∀ g, (Str.ofString "__eq__", g) ∈ kl.mt → ∃ d ∈ ds, d.x = g ∧ ∃ a fd, PySem.W.findIn K (.ref A) "__eq__" = some (some (.ref a)) ∧ PySem.W.isFn K (.ref a) = true ∧ d.At K P a fd
section
variable {pr : Program} {w : World} {K : PySem.W.Frag} {mg : Str → Option Value} {base : Heap} {P : Prog} {p : Pk}
theorem call_len {k : Nat} {x : Str} {fn : Fn} (hl : P.lookup x = some fn) {ds : List D} {h : Hs} (e : callN P k x ds h ≠ .no) : ds.length = fn.np := by
  cases k with
  | zero => exact absurd rfl e
  | succ k =>
    unfold callN at e
    rw [hl] at e
    dsimp only at e
    unfold runF at e
    split at e
    · assumption
    · exact absurd rfl e
theorem levels (hw : w = Wd.w) (ds : List Dn) (hg : ∀ d ∈ ds, d.good p = true) (hfs : ∀ x ∈ p.fs, ∃ d ∈ ds, d.x = x ∧ ∃ f fd, mg x = some (.ref f) ∧ d.At K P f fd ∧ ∀ n ks ord, (x, n, ks, ord) ∈ p.kw → KwOk K fd d.ps 0 n ks ord)
    (hcs : ∀ kl ∈ p.cs, ∃ A, KlAt K mg P ds kl A) (hb : ∀ x ∈ bnames, mg x = none) (hG : ∀ x v, p.G.lookup x = some v → ∃ u w, mg x = some u ∧ RelV w u ∧ ∀ F, Dq K F w v)
    (hix : ∀ c tab, (c, tab) ∈ p.ix → ∃ u, (mg c = some u ∨ (mg c = none ∧ bootBuiltins c = some u ∧ c ≠ "__name__")) ∧ ∀ x b, tab.lookup x = some b → ∃ A, Wd.mg x = some (.ref A) ∧ PySem.W.kitOne K (.ref A) u = some b) :
    ∀ k, ∀ d ∈ ds, ∀ f fd, d.At K P f fd → FnOk pr w K mg base (L2.CX pr w) (3 * k) f fd d.ps (spD K d.ps.length (callN P k d.x)) := by
  intro k
  induction k with
  | zero =>
    intro d hd f fd at_
    refine ⟨fun vs H Q E h => h.1, fun A outer s H args us vs Q E _ _ _ _ h => ?_⟩
    obtain ⟨_, F, ρ, hh, dd, st, r, fin⟩ := h
    exact fin.elim
  | succ k ih =>
    intro d hd f fd at_
    have good := hg d hd
    unfold Dn.good at good
    simp only [Bool.and_eq_true, decide_eq_true_eq] at good
    obtain ⟨⟨⟨g1, g2⟩, g3⟩, g4⟩ := good
    have S := C8.fnScope_by g1
    obtain ⟨oc, od, kV, doc, pm, an, cdv, ct, osl, rfl, lk, hcd⟩ := at_.fun_.ex
    show FnOk pr w K mg base (L2.CX pr w) (3 * k + 2 + 1) f _ d.ps _
    refine fn_of lk hcd S (fun vs H Q E h => h.1) fun A outer s H vs Q E hr h => ?_
    obtain ⟨hvl, F, ρ, hh, dd, st, r, fin⟩ := h
    have fa : ∀ {X : Cx} (hX : X.prog = pr ∧ X.w = w ∧ X.K = K ∧ X.mg = mg ∧ X.base = base) {e : Dn}, e ∈ ds → ∀ {a : Addr} {fd : FuncData}, e.At K P a fd → FnA X (callN P k) (3 * k) e.x a fd e.ps := fun {X} hX {e} he {a fd} at2 => by
      obtain ⟨h1, h2, h3, h4, h5⟩ := hX
      have ge := hg e he
      unfold Dn.good at ge
      simp only [Bool.and_eq_true, decide_eq_true_eq] at ge
      refine ⟨by rw [h3]; exact at2.fun_.kp, by rw [h3]; exact at2.binds, fun ds h q => by rw [ge.1.1.2]; exact call_len at2.look q, ?_⟩
      unfold CXp
      rw [h1, h2, h3, h4, h5]
      exact ih e he a fd at2
    have fit : Fit (cxOf (L2.CX pr w) pr w K mg base d.N d.x (defScope d.st) f cdv A outer s H E) (d.ck p) (callN P k) (3 * k) (fun cls dd _ H' => E cls dd H') := by
      refine ⟨rfl, S.nd, rfl, rfl, rfl, hw, hr, passes_of (X := cxOf (L2.CX pr w) pr w K mg base d.N d.x (defScope d.st) f cdv A outer s H E) (K := fun e s'' => L2.CX pr w outer H s E e s'') rfl, takes_of (X := cxOf (L2.CX pr w) pr w K mg base d.N d.x (defScope d.st) f cdv A outer s H E) (E := E) rfl rfl rfl rfl, hb, hG, fun x hx => ?_, fun kl hk => ?_, hix⟩
      · obtain ⟨e, he, rfl, f2, fd2, m1, at2, kk⟩ := hfs x hx
        exact ⟨f2, fd2, e.ps, m1, fa ⟨rfl, rfl, rfl, rfl, rfl⟩ he at2, kk⟩
      · obtain ⟨A', ka⟩ := hcs kl hk
        refine ⟨A', ⟨ka.mg, ka.wm, ka.sc, ka.si, ka.nf, ka.kit, ka.sl, ?_, fun m g hm => ?_, fun g hm => ?_⟩⟩
        · obtain ⟨e, he, e2, a, fd2, k1, at2⟩ := ka.init
          exact ⟨a, fd2, e.ps, k1, e2 ▸ fa ⟨rfl, rfl, rfl, rfl, rfl⟩ he at2⟩
        · obtain ⟨e, he, rfl, a, fd2, k1, at2, kk⟩ := ka.mt m g hm
          exact ⟨a, fd2, e.ps, k1, fa ⟨rfl, rfl, rfl, rfl, rfl⟩ he at2, kk⟩
        · obtain ⟨e, he, rfl, a, fd2, k1, k2, at2⟩ := ka.eq g hm
          exact ⟨a, fd2, e.ps, k1, k2, fa ⟨rfl, rfl, rfl, rfl, rfl⟩ he at2⟩
    refine ⟨rS K (fun cls dd _ H' => E cls dd H') (run (callN P k) d.fn.body), (snd_S (all_E (callN P k) (3 * k)) d.fn.body _ _ _ fit S.kind rfl rfl).l _ g4, ?_⟩
    refine run_body g3 st r ?_
    have e : callN P (k + 1) d.x dd hh = runF (callN P k) d.fn dd hh := by
      show (match P.lookup d.x with | some fn => runF (callN P k) fn dd hh | none => .no) = _
      rw [at_.look]
    rw [e] at fin
    exact fin
/-- the law: a script of ints -/
def spL (K : PySem.W.Frag) (n : Nat) : Sp := fun vs H Q _ => ∃ (a : Addr) (ns : List Int), vs = [.ref a] ∧ SqL K H a (ns.map V.int) ∧ ns.length ≤ n ∧ ∀ H', Q (.bl true) H'
theorem law_ok {CX : CXT} {k j n : Nat} {f : Addr} {fd : FuncData} {ps : List Str} {x : Str} (hps : ps.length = 1) (h : FnOk pr w K mg base CX j f fd ps (spD K ps.length (callN P k x)))
    (law : ∀ ns : List Int, ns.length ≤ n → ∃ h', callN P k x [.scr ns] [] = .ok (.d (.bool true)) h') : FnOk pr w K mg base CX j f fd ps (spL K n) := by
  refine h.imp fun vs H Q E q => ?_
  obtain ⟨a, ns, rfl, hS, hl, q⟩ := q
  obtain ⟨h', e⟩ := law ns hl
  refine ⟨by rw [hps]; rfl, H, [], [], [.scr ns], ⟨Same.refl H, rfl, List.nodup_nil, fun n a c e => by simp at e⟩, ⟨_, _, rfl, ⟨a, rfl, hS⟩, rfl⟩, ?_⟩
  rw [e]
  intro F' ρ' H' v _ _ r
  cases r
  exact q H'
end
end En
namespace En
open PySem L2
theorem cx_none {P : Program} {w : World} {H : Hp} {s : Shared} {e : Value} {s' : Shared} (h : L2.CX P w [] H s (fun _ _ _ => False) e s') : False := by
  obtain ⟨_, _, _, _, _, _, _, _, _, _, _, _, h⟩ := h
  exact h
/- _law_box: 0:_law_script 1:_law_k 2:_law_cell -/
def f__law_box : Fn := ⟨2, 3,
    (.seq (.asg 2 (.ife (.cmp .Lt (.var 1) (.bi .len false (.cons (.var 0) .nil))) (.ix (.var 0) (.var 1)) (.cst (.int (0)))))
    (.seq (.ret (.lst true (.cons (.bin .Mult false (.bi .abs false (.cons (.var 2) .nil)) (.bi .int false (.cons (.cmp .GtE (.bi .abs false (.cons (.var 2) .nil)) (.bin .Pow false (.cst (.int (10))) (.cst (.int (18))))) .nil))) (.cons (.bin .Add false (.bin .Add false (.bin .Mod false (.bi .int false (.cons (.var 2) .nil)) (.cst (.int (2305843009213693951)))) (.bin .Mult false (.cst (.int (39373))) (.var 1))) (.cst (.int (281)))) (.cons (.cst (.int (0))) .nil)))))
    .nil))⟩
/- _law_cells: 0:_law_script 1:_law_most 2:_law_cells_here 3:_law_k 4:_law_cell 5:_law_at_so -/
def f__law_cells : Fn := ⟨2, 6,
    (.seq (.asg 2 (.bop .Or (.cons (.bi .list true (.cons (.sl (.var 0) .nil (.cons (.var 1) .nil)) .nil)) (.cons (.lst true (.cons (.cst (.int (0))) .nil)) .nil))))
    (.seq (.for_ (.tp [3, 4]) (.enu (.sl (.var 0) (.cons (.var 1) .nil) (.cons (.cst (.int (63))) .nil)))
    (.seq (.asg 5 (.bin .Mod false (.bi .int false (.cons (.var 3) .nil)) (.var 1)))
    (.seq (.sto (.var 2) (.var 5) (.bin .Add false (.ix (.var 2) (.var 5)) (.bin .Mult false (.var 4) (.bin .Add false (.var 3) (.cst (.int (2)))))))
    .nil)))
    (.seq (.ret (.fz (.var 2)))
    .nil)))⟩
/- _law_same: 0:_law_got 1:_law_due 2:_law_mine 3:_law_its -/
def f__law_same : Fn := ⟨2, 4,
    (.seq (.ite (.isi (.var 1) [.list, .tuple] true)
    (.seq (.ite (.bop .Or (.cons (.cmp .NotEq (.isi (.var 0) [.list] false) (.isi (.var 1) [.list] false)) (.cons (.cmp .NotEq (.isi (.var 0) [.tuple] false) (.isi (.var 1) [.tuple] false)) .nil)))
    (.seq (.ret (.cst (.bool false)))
    .nil)
    .nil)
    (.seq (.ret (.bop .And (.cons (.cmp .Eq (.bi .len false (.cons (.var 0) .nil)) (.bi .len false (.cons (.var 1) .nil))) (.cons (.bi .all false (.cons (.lc false [2, 3] (.tp [2, 3]) (.zip (.var 0) (.var 1)) .nil (.call (Str.ofString "_law_same") false (.cons (.var 2) (.cons (.var 3) .nil)))) .nil)) .nil))))
    .nil))
    .nil)
    (.seq (.ite (.bop .Or (.cons (.cmp .Is (.var 1) (.cst .none)) (.cons (.isi (.var 1) [.bool, .str] true) .nil)))
    (.seq (.ret (.bop .And (.cons (.cmp .Eq (.var 0) (.var 1)) (.cons (.cmp .Eq (.isi (.var 0) [.bool] false) (.isi (.var 1) [.bool] false)) (.cons (.cmp .Eq (.cmp .Is (.var 0) (.cst .none)) (.cmp .Is (.var 1) (.cst .none))) .nil)))))
    .nil)
    .nil)
    (.seq (.ret (.bop .And (.cons (.isi (.var 0) [.int] false) (.cons (.not (.isi (.var 0) [.bool] false)) (.cons (.cmp .Eq (.var 0) (.var 1)) .nil)))))
    .nil)))⟩
/- Template.__eq__: 0:self 1:other -/
def f_Template_o___eq__ : Fn := ⟨2, 2,
    (.seq (.ret (.bop .And (.cons (.isc (.var 1) (Str.ofString "Template")) (.cons (.cmp .Eq (.slt (Str.ofString "Template") (Str.ofString "own_pieces") 0 (.var 0)) (.slt (Str.ofString "Template") (Str.ofString "own_pieces") 0 (.var 1))) .nil))))
    .nil)⟩
/- Template.__init__: 0:self 1:pieces -/
def f_Template_o___init__ : Fn := ⟨2, 2,
    (.seq (.sfl (Str.ofString "Template") (Str.ofString "own_pieces") 0 (.var 0) (.call (Str.ofString "joined") false (.cons (.call (Str.ofString "tupled") false (.cons (.var 1) .nil)) .nil)))
    .nil)⟩
/- Template.begins: 0:self 1:other -/
def f_Template_o_begins : Fn := ⟨2, 2,
    (.seq (.ret (.call (Str.ofString "do_begin") false (.cons (.slt (Str.ofString "Template") (Str.ofString "own_pieces") 0 (.var 0)) (.cons (.slt (Str.ofString "Template") (Str.ofString "own_pieces") 0 (.var 1)) .nil))))
    .nil)⟩
/- _law_lists: 0:_law_matter 1:_law_bit -/
def f__law_lists : Fn := ⟨1, 2,
    (.seq (.ret (.ife (.isi (.var 0) [.list, .tuple] true) (.lc false [1] (.nm 1) (.var 0) .nil (.call (Str.ofString "_law_lists") false (.cons (.var 1) .nil))) (.var 0)))
    .nil)⟩
/- _law_joined: 0:_law_bits 1:_law_found 2:_law_bit -/
def f__law_joined : Fn := ⟨1, 3,
    (.seq (.asg 1 (.lst true .nil))
    (.seq (.for_ (.nm 2) (.var 0)
    (.seq (.ite (.bop .And (.cons (.cmp .Eq (.ix (.var 2) (.cst (.int (0)))) (.cst (.str ⟨#[116, 101, 120, 116]⟩))) (.cons (.cmp .NotEq (.var 1) (.lst false .nil)) (.cons (.cmp .Eq (.ix (.ix (.var 1) (.neg (.cst (.int (1))))) (.cst (.int (0)))) (.cst (.str ⟨#[116, 101, 120, 116]⟩))) .nil))))
    (.seq (.sto (.var 1) (.neg (.cst (.int (1)))) (.tup (.cons (.cst (.str ⟨#[116, 101, 120, 116]⟩)) (.cons (.bin .Add false (.ix (.ix (.var 1) (.neg (.cst (.int (1))))) (.cst (.int (1)))) (.ix (.var 2) (.cst (.int (1))))) .nil))))
    .nil)
    (.seq (.exp (.mth .append (.var 1) (.cons (.var 2) .nil)))
    .nil))
    .nil))
    (.seq (.ret (.bi .tuple false (.cons (.var 1) .nil)))
    .nil)))⟩
/- _law_of: 0:_law_box_here 1:_law_some -/
def f__law_of : Fn := ⟨2, 2,
    (.seq (.ret (.ix (.var 1) (.call (Str.ofString "_law_take") false (.cons (.var 0) (.cons (.bi .len false (.cons (.var 1) .nil)) .nil)))))
    .nil)⟩
/- _law_take: 0:_law_box_here 1:_law_below 2:_law_drawn 3:_law_once 4:_law_far 5:_law_twice -/
def f__law_take : Fn := ⟨2, 6,
    (.seq (.ite (.cmp .Gt (.ix (.var 0) (.cst (.int (0)))) (.cst (.int (0))))
    (.seq (.asg 2 (.bin .Mod false (.bi .int false (.cons (.ix (.var 0) (.cst (.int (0)))) .nil)) (.var 1)))
    (.seq (.sto (.var 0) (.cst (.int (0))) (.bin .FloorDiv false (.ix (.var 0) (.cst (.int (0)))) (.var 1)))
    (.seq (.ret (.var 2))
    .nil)))
    .nil)
    (.seq (.sto (.var 0) (.cst (.int (2))) (.bin .Add false (.ix (.var 0) (.cst (.int (2)))) (.cst (.int (1)))))
    (.seq (.asg 3 (.bin .Mod false (.bi .int false (.cons (.bin .Mult false (.bin .Add false (.ix (.var 0) (.cst (.int (1)))) (.bin .Mult false (.cst (.int (48271))) (.ix (.var 0) (.cst (.int (2)))))) (.bin .Add false (.cst (.int (39373))) (.ix (.var 0) (.cst (.int (2)))))) .nil)) (.cst (.int (2147483647)))))
    (.seq (.asg 4 (.bin .Add false (.bin .Mod false (.bi .int false (.cons (.var 3) .nil)) (.cst (.int (40009)))) (.cst (.int (7)))))
    (.seq (.asg 5 (.bin .Mod false (.bi .int false (.cons (.bin .Mult false (.bin .Add false (.bin .Add false (.var 3) (.ix (.var 0) (.cst (.int (2))))) (.bin .FloorDiv false (.ix (.var 0) (.cst (.int (1)))) (.cst (.int (1000003))))) (.var 4)) .nil)) (.cst (.int (2147483629)))))
    (.seq (.ret (.bin .Mod false (.bi .int false (.cons (.bin .FloorDiv false (.bin .Mod false (.bi .int false (.cons (.bin .Add false (.bin .Mult false (.var 5) (.cst (.int (48271)))) (.var 3)) .nil)) (.cst (.int (2147483587)))) (.cst (.int (64)))) .nil)) (.var 1)))
    .nil))))))⟩
/- _law_form: 0:_law_box_here 1:_law_tags 2:_law_size_so 3:_law_bits 4:_law_turn -/
def f__law_form : Fn := ⟨3, 5,
    (.seq (.asg 3 (.lst true .nil))
    (.seq (.for_ (.nm 4) (.rng (.var 2))
    (.seq (.ite (.cmp .Lt (.call (Str.ofString "_law_take") false (.cons (.var 0) (.cons (.cst (.int (5))) .nil))) (.cst (.int (3))))
    (.seq (.exp (.mth .append (.var 3) (.cons (.tup (.cons (.cst (.str ⟨#[102, 105, 101, 108, 100]⟩)) (.cons (.call (Str.ofString "_law_of") false (.cons (.var 0) (.cons (.var 1) .nil))) .nil))) .nil)))
    .nil)
    .nil)
    (.seq (.exp (.mth .append (.var 3) (.cons (.tup (.cons (.cst (.str ⟨#[116, 101, 120, 116]⟩)) (.cons (.call (Str.ofString "_law_of") false (.cons (.var 0) (.cons (.lst false (.cons (.cst (.str ⟨#[45]⟩)) (.cons (.cst (.str ⟨#[45]⟩)) (.cons (.cst (.str ⟨#[45]⟩)) (.cons (.cst (.str ⟨#[46]⟩)) (.cons (.cst (.str ⟨#[97]⟩)) (.cons (.cst (.str ⟨#[49]⟩)) (.cons (.cst (.str ⟨#[108, 111, 99, 107, 45]⟩)) .nil)))))))) .nil))) .nil))) .nil)))
    .nil)))
    (.seq (.ret (.call (Str.ofString "_law_joined") false (.cons (.sl (.var 3) .nil (.cons (.bin .Add false (.call (Str.ofString "_law_take") false (.cons (.var 0) (.cons (.cst (.int (3))) .nil))) (.var 2)) .nil)) .nil)))
    .nil)))⟩
/- joined: 0:pieces 1:found 2:kind 3:what -/
def f_joined : Fn := ⟨1, 4,
    (.seq (.asg 1 (.lst true .nil))
    (.seq (.for_ (.tp [2, 3]) (.var 0)
    (.seq (.ite (.bop .And (.cons (.cmp .Eq (.var 2) (.glo (Str.ofString "TEXT") (.str ⟨#[116, 101, 120, 116]⟩))) (.cons (.cmp .Gt (.bi .len false (.cons (.var 1) .nil)) (.cst (.int (0)))) (.cons (.cmp .Eq (.ix (.ix (.var 1) (.neg (.cst (.int (1))))) (.cst (.int (0)))) (.glo (Str.ofString "TEXT") (.str ⟨#[116, 101, 120, 116]⟩))) .nil))))
    (.seq (.sto (.var 1) (.neg (.cst (.int (1)))) (.tup (.cons (.glo (Str.ofString "TEXT") (.str ⟨#[116, 101, 120, 116]⟩)) (.cons (.bin .Add false (.ix (.ix (.var 1) (.neg (.cst (.int (1))))) (.cst (.int (1)))) (.var 3)) .nil))))
    .nil)
    (.seq (.exp (.mth .append (.var 1) (.cons (.tup (.cons (.var 2) (.cons (.var 3) .nil))) .nil)))
    .nil))
    .nil))
    (.seq (.ret (.bi .tuple false (.cons (.var 1) .nil)))
    .nil)))⟩
/- tupled: 0:thing 1:part -/
def f_tupled : Fn := ⟨1, 2,
    (.seq (.ret (.ife (.isi (.var 0) [.list, .tuple] true) (.bi .tuple false (.cons (.lc false [1] (.nm 1) (.var 0) .nil (.call (Str.ofString "tupled") false (.cons (.var 1) .nil))) .nil)) (.var 0)))
    .nil)⟩
/- do_begin: 0:some 1:others 2:last 3:far -/
def f_do_begin : Fn := ⟨2, 4,
    (.seq (.ite (.bop .Or (.cons (.cmp .Eq (.bi .len false (.cons (.var 0) .nil)) (.cst (.int (0)))) (.cons (.cmp .Gt (.bi .len false (.cons (.var 0) .nil)) (.bi .len false (.cons (.var 1) .nil))) .nil)))
    (.seq (.ret (.cmp .Eq (.bi .len false (.cons (.var 0) .nil)) (.cst (.int (0)))))
    .nil)
    .nil)
    (.seq (.par 2 3 (.ix (.var 0) (.neg (.cst (.int (1))))) (.ix (.var 1) (.bin .Sub false (.bi .len false (.cons (.var 0) .nil)) (.cst (.int (1))))))
    (.seq (.ite (.cmp .NotEq (.sl (.var 0) .nil (.cons (.neg (.cst (.int (1)))) .nil)) (.sl (.var 1) .nil (.cons (.bin .Sub false (.bi .len false (.cons (.var 0) .nil)) (.cst (.int (1)))) .nil)))
    (.seq (.ret (.cst (.bool false)))
    .nil)
    .nil)
    (.seq (.ret (.bop .Or (.cons (.cmp .Eq (.var 2) (.var 3)) (.cons (.bop .And (.cons (.cmp .Eq (.ix (.var 2) (.cst (.int (0)))) (.glo (Str.ofString "TEXT") (.str ⟨#[116, 101, 120, 116]⟩))) (.cons (.cmp .Eq (.ix (.var 3) (.cst (.int (0)))) (.glo (Str.ofString "TEXT") (.str ⟨#[116, 101, 120, 116]⟩))) (.cons (.mth .startswith (.ix (.var 3) (.cst (.int (1)))) (.cons (.ix (.var 2) (.cst (.int (1)))) .nil)) .nil)))) .nil))))
    .nil))))⟩
/- Template.pieces: 0:self -/
def f_Template_o_pieces : Fn := ⟨1, 1,
    (.seq (.ret (.slt (Str.ofString "Template") (Str.ofString "own_pieces") 0 (.var 0)))
    .nil)⟩
end En
/-! the program's keys; a drawn ground -/
namespace En
open PySem L2
/- _law_pick: 0:_law_box_here 1:_law_pool 2:_law_size_so 3:_law_rest 4:_law_some 5:_law_turn -/
def f__law_pick : Fn := ⟨3, 6,
    (.seq (.par 3 4 (.bi .list true (.cons (.var 1) .nil)) (.lst true .nil))
    (.seq (.for_ (.nm 5) (.rng (.bi .min false (.cons (.var 2) (.cons (.bi .len false (.cons (.var 3) .nil)) .nil))))
    (.seq (.exp (.mth .append (.var 4) (.cons (.mth .pop (.var 3) (.cons (.call (Str.ofString "_law_take") false (.cons (.var 0) (.cons (.bi .len false (.cons (.var 3) .nil)) .nil))) .nil)) .nil)))
    .nil))
    (.seq (.ret (.fz (.var 4)))
    .nil)))⟩
/- _law_words: 0:_law_box_here 1:_law_size_so -/
def f__law_words : Fn := ⟨2, 2,
    (.seq (.ret (.bi .tuple false (.cons (.bi .sorted false (.cons (.call (Str.ofString "_law_pick") false (.cons (.var 0) (.cons (.lst false (.cons (.cst (.str ⟨#[49]⟩)) (.cons (.cst (.str ⟨#[49, 50]⟩)) (.cons (.cst (.str ⟨#[50]⟩)) (.cons (.cst (.str ⟨#[97]⟩)) (.cons (.cst (.str ⟨#[97, 98]⟩)) (.cons (.cst (.str ⟨#[98]⟩)) (.cons (.cst (.str ⟨#[120, 49]⟩)) .nil)))))))) (.cons (.var 1) .nil)))) .nil)) .nil)))
    .nil)⟩
/- _law_ground: 0:_law_box_here 1:_law_tall 2:_law_most 3:_law_tags 4:_law_pools 5:_law_every 6:_law_pool 7:_law_later 8:_law_own 9:_law_some 10:_law_word_so -/
def f__law_ground : Fn := ⟨3, 11,
    (.seq (.asg 3 (.bi .tuple false (.cons (.bi .sorted false (.cons (.call (Str.ofString "_law_pick") false (.cons (.var 0) (.cons (.lst false (.cons (.cst (.str ⟨#[97]⟩)) (.cons (.cst (.str ⟨#[108, 97, 110, 103]⟩)) (.cons (.cst (.str ⟨#[108, 111, 99, 107]⟩)) (.cons (.cst (.str ⟨#[111, 115]⟩)) (.cons (.cst (.str ⟨#[119, 101, 101, 107]⟩)) .nil)))))) (.cons (.bin .Add false (.cst (.int (1))) (.call (Str.ofString "_law_take") false (.cons (.var 0) (.cons (.var 1) .nil)))) .nil)))) .nil)) .nil)))
    (.seq (.asg 4 (.lc false [8] (.nm 8) (.var 3) .nil (.call (Str.ofString "_law_words") false (.cons (.var 0) (.cons (.bin .Add false (.cst (.int (2))) (.call (Str.ofString "_law_take") false (.cons (.var 0) (.cons (.cst (.int (2))) .nil)))) .nil)))))
    (.seq (.asg 5 (.lst false (.cons (.tup .nil) .nil)))
    (.seq (.for_ (.nm 6) (.var 4)
    (.seq (.asg 7 (.lst false .nil))
    (.seq (.for_ (.nm 8) (.var 5)
    (.seq (.asg 7 (.bin .Add false (.var 7) (.lc false [10] (.nm 10) (.var 6) .nil (.bin .Add false (.var 8) (.tup (.cons (.var 10) .nil))))))
    .nil))
    (.seq (.asg 5 (.var 7))
    .nil))))
    (.seq (.asg 9 (.call (Str.ofString "_law_pick") false (.cons (.var 0) (.cons (.var 5) (.cons (.bin .Add false (.cst (.int (2))) (.call (Str.ofString "_law_take") false (.cons (.var 0) (.cons (.bin .Sub false (.var 2) (.cst (.int (1)))) .nil)))) .nil)))))
    (.seq (.ret (.tup (.cons (.var 3) (.cons (.bi .tuple false (.cons (.bi .sorted false (.cons (.var 9) .nil)) .nil)) .nil))))
    .nil))))))⟩
/- is_number: 0:thing 1:bottom -/
def f_is_number : Fn := ⟨2, 2,
    (.seq (.ret (.bop .And (.cons (.isi (.var 0) [.int] false) (.cons (.not (.isi (.var 0) [.bool] false)) (.cons (.cmp .GtE (.var 0) (.var 1)) .nil)))))
    .nil)⟩
/- text_of: 0:template 1:values 2:kind 3:what -/
def f_text_of : Fn := ⟨2, 4,
    (.seq (.ret (.mth .join (.cst (.str ⟨#[]⟩)) (.cons (.lc false [2, 3] (.tp [2, 3]) (.var 0) .nil (.ife (.cmp .Eq (.var 2) (.glo (Str.ofString "FIELD") (.str ⟨#[102, 105, 101, 108, 100]⟩))) (.ix (.var 1) (.var 3)) (.var 3))) .nil)))
    .nil)⟩
/- values_of: 0:plan 1:setting -/
def f_values_of : Fn := ⟨2, 2,
    (.seq (.ret (.dz (.ix (.var 0) (.cst (.int (0)))) (.var 1)))
    .nil)⟩
/- job_row: 0:plan 1:name 2:job -/
def f_job_row : Fn := ⟨2, 3,
    (.seq (.for_ (.nm 2) (.ix (.var 0) (.cst (.int (2))))
    (.seq (.ite (.cmp .Eq (.ix (.var 2) (.cst (.int (0)))) (.var 1))
    (.seq (.ret (.var 2))
    .nil)
    .nil)
    .nil))
    (.seq .rai
    .nil))⟩
/- row_of: 0:template 1:values 2:kind 3:what -/
def f_row_of : Fn := ⟨2, 4,
    (.seq (.ret (.bi .tuple false (.cons (.lc false [2, 3] (.tp [2, 3]) (.var 0) .nil (.tup (.cons (.var 2) (.cons (.var 3) (.cons (.ife (.cmp .Eq (.var 2) (.glo (Str.ofString "FIELD") (.str ⟨#[102, 105, 101, 108, 100]⟩))) (.ix (.var 1) (.var 3)) (.cst (.str ⟨#[]⟩))) .nil))))) .nil)))
    .nil)⟩
/- cases: 0:plan 1:settings 2:job 3:setting -/
def f_cases : Fn := ⟨1, 4,
    (.seq (.asg 1 (.call (Str.ofString "tupled") false (.cons (.ix (.var 0) (.cst (.int (1)))) .nil)))
    (.seq (.ret (.lc2 [2, 3] [3] (.nm 2) (.ix (.var 0) (.cst (.int (2)))) .nil (.nm 3) (.var 1) .nil (.tup (.cons (.ix (.var 2) (.cst (.int (0)))) (.cons (.var 3) .nil)))))
    .nil))⟩
/- key_text: 0:plan 1:case 2:name 3:setting -/
def f_key_text : Fn := ⟨2, 4,
    (.seq (.unp [2, 3] (.var 1))
    (.seq (.ret (.call (Str.ofString "text_of") false (.cons (.ix (.call (Str.ofString "job_row") false (.cons (.var 0) (.cons (.var 2) .nil))) (.cst (.int (1)))) (.cons (.call (Str.ofString "values_of") false (.cons (.var 0) (.cons (.var 3) .nil))) .nil))))
    .nil))⟩
/- prefix_texts: 0:plan 1:case 2:name 3:setting 4:prefix -/
def f_prefix_texts : Fn := ⟨2, 5,
    (.seq (.unp [2, 3] (.var 1))
    (.seq (.ret (.lc false [4] (.nm 4) (.ix (.call (Str.ofString "job_row") false (.cons (.var 0) (.cons (.var 2) .nil))) (.cst (.int (2)))) .nil (.call (Str.ofString "text_of") false (.cons (.var 4) (.cons (.call (Str.ofString "values_of") false (.cons (.var 0) (.cons (.var 3) .nil))) .nil)))))
    .nil))⟩
/- key_row: 0:plan 1:case 2:name 3:setting -/
def f_key_row : Fn := ⟨2, 4,
    (.seq (.unp [2, 3] (.var 1))
    (.seq (.ret (.call (Str.ofString "row_of") false (.cons (.ix (.call (Str.ofString "job_row") false (.cons (.var 0) (.cons (.var 2) .nil))) (.cst (.int (1)))) (.cons (.call (Str.ofString "values_of") false (.cons (.var 0) (.cons (.var 3) .nil))) .nil))))
    .nil))⟩
/- prefix_of: 0:plan 1:name 2:number 3:prefixes -/
def f_prefix_of : Fn := ⟨3, 4,
    (.seq (.asg 3 (.ix (.call (Str.ofString "job_row") false (.cons (.var 0) (.cons (.var 1) .nil))) (.cst (.int (2)))))
    (.seq (.ite (.bop .Or (.cons (.not (.call (Str.ofString "is_number") false (.cons (.var 2) (.cons (.cst (.int (0))) .nil)))) (.cons (.cmp .GtE (.var 2) (.bi .len false (.cons (.var 3) .nil))) .nil)))
    (.seq .rai
    .nil)
    .nil)
    (.seq (.ret (.call (Str.ofString "tupled") false (.cons (.ix (.var 3) (.var 2)) .nil)))
    .nil)))⟩
/- begun: 0:plan 1:job 2:number 3:prefix 4:some 5:found 6:setting 7:text 8:case 9:key -/
def f_begun : Fn := ⟨3, 10,
    (.seq (.par 3 4 (.call (Str.ofString "prefix_of") false (.cons (.var 0) (.cons (.var 1) (.cons (.var 2) .nil)))) (.lc false [8] (.nm 8) (.call (Str.ofString "cases") false (.cons (.var 0) .nil)) .nil (.tup (.cons (.var 8) (.cons (.call (Str.ofString "key_text") false (.cons (.var 0) (.cons (.var 8) .nil))) .nil)))))
    (.seq (.asg 5 (.lst true .nil))
    (.seq (.for_ (.nm 6) (.call (Str.ofString "tupled") false (.cons (.ix (.var 0) (.cst (.int (1)))) .nil))
    (.seq (.asg 7 (.call (Str.ofString "text_of") false (.cons (.var 3) (.cons (.call (Str.ofString "values_of") false (.cons (.var 0) (.cons (.var 6) .nil))) .nil))))
    (.seq (.exp (.mth .extend (.var 5) (.cons (.lc false [8, 9] (.tp [8, 9]) (.var 4) (.cons (.mth .startswith (.var 9) (.cons (.var 7) .nil)) .nil) (.tup (.cons (.var 6) (.cons (.var 8) .nil)))) .nil)))
    .nil)))
    (.seq (.ret (.fz (.var 5)))
    .nil))))⟩
/- accident: 0:plan 1:job 2:number 3:prefix 4:rows 5:setting 6:case -/
def f_accident : Fn := ⟨3, 7,
    (.seq (.par 3 4 (.call (Str.ofString "prefix_of") false (.cons (.var 0) (.cons (.var 1) (.cons (.var 2) .nil)))) (.dc [6] (.nm 6) (.call (Str.ofString "cases") false (.cons (.var 0) .nil)) .nil (.var 6) (.call (Str.ofString "key_row") false (.cons (.var 0) (.cons (.var 6) .nil)))))
    (.seq (.for_ (.tp [5, 6]) (.call (Str.ofString "begun") false (.cons (.var 0) (.cons (.var 1) (.cons (.var 2) .nil))))
    (.seq (.ite (.not (.call (Str.ofString "do_begin") false (.cons (.call (Str.ofString "row_of") false (.cons (.var 3) (.cons (.call (Str.ofString "values_of") false (.cons (.var 0) (.cons (.var 5) .nil))) .nil))) (.cons (.ix (.var 4) (.var 6)) .nil))))
    (.seq (.ret (.tup (.cons (.var 5) (.cons (.var 6) .nil))))
    .nil)
    .nil)
    .nil))
    (.seq (.ret (.cst .none))
    .nil)))⟩
/- twins: 0:plan 1:some 2:case 3:one 4:text 5:row 6:other 7:far 8:its -/
def f_twins : Fn := ⟨1, 9,
    (.seq (.asg 1 (.lc false [2] (.nm 2) (.call (Str.ofString "cases") false (.cons (.var 0) .nil)) .nil (.tup (.cons (.var 2) (.cons (.call (Str.ofString "key_text") false (.cons (.var 0) (.cons (.var 2) .nil))) (.cons (.call (Str.ofString "key_row") false (.cons (.var 0) (.cons (.var 2) .nil))) .nil))))))
    (.seq (.ret (.lc2 [3, 4, 5, 6, 7, 8] [6, 7, 8] (.tp [3, 4, 5]) (.var 1) .nil (.tp [6, 7, 8]) (.var 1) (.cons (.bop .And (.cons (.cmp .Lt (.var 3) (.var 6)) (.cons (.cmp .Eq (.var 4) (.var 7)) (.cons (.cmp .NotEq (.var 5) (.var 8)) .nil)))) .nil) (.tup (.cons (.var 3) (.cons (.var 6) .nil)))))
    .nil))⟩
/- held: 0:plan 1:job 2:number 3:pairs 4:place 5:name 6:setting 7:case -/
def f_held : Fn := ⟨3, 8,
    (.seq (.asg 3 (.call (Str.ofString "begun") false (.cons (.var 0) (.cons (.var 1) (.cons (.var 2) .nil)))))
    (.seq (.ret (.bi .tuple false (.cons (.lc false [4, 5] (.tp [4, 5]) (.enu (.ix (.var 0) (.cst (.int (0))))) (.cons (.bi .all false (.cons (.lc false [6, 7] (.tp [6, 7]) (.var 3) .nil (.cmp .Eq (.ix (.var 6) (.var 4)) (.ix (.ix (.var 7) (.cst (.int (1)))) (.var 4)))) .nil)) .nil) (.var 5)) .nil)))
    .nil))⟩
/- Template.__contains__: 0:self 1:name -/
def f_Template_o___contains__ : Fn := ⟨2, 2,
    (.seq (.ret (.cmp .In (.tup (.cons (.glo (Str.ofString "FIELD") (.str ⟨#[102, 105, 101, 108, 100]⟩)) (.cons (.var 1) .nil))) (.slt (Str.ofString "Template") (Str.ofString "own_pieces") 0 (.var 0))))
    .nil)⟩
end En
/-! pieces and templates as data -/
namespace En
open PySem L2
abbrev sTEXT : Str := ⟨#[116, 101, 120, 116]⟩
abbrev sFIELD : Str := ⟨#[102, 105, 101, 108, 100]⟩
/-- a piece: is it a text; what -/
abbrev Pc := Bool × Str
def kindS (b : Bool) : Str := if b then sTEXT else sFIELD
def pd (p : Pc) : PyData := .tuple [.str (kindS p.1), .str p.2]
def pl (p : Pc) : PyData := .list [.str (kindS p.1), .str p.2]
def tpd (ps : List Pc) : PyData := .tuple (ps.map pd)
theorem kind_inj {a b : Bool} : (kindS a == kindS b) = (a == b) := by cases a <;> cases b <;> decide
theorem kind_text (b : Bool) : (kindS b == sTEXT) = b := by cases b <;> decide
theorem str_eqv (a b : Str) : PyData.eqv (.str a) (.str b) = (a == b) := by rw [PyData.eqv]
theorem pd_eqv (p q : Pc) : PyData.eqv (pd p) (pd q) = decide (p = q) := by
  obtain ⟨a, x⟩ := p
  obtain ⟨b, y⟩ := q
  simp only [pd, PyData.eqv, PyData.eqvAll, kind_inj, Bool.and_true, Prod.mk.injEq]
  by_cases h1 : a = b <;> by_cases h2 : x = y <;> simp [h1, h2]
theorem pds_eqv : ∀ ps qs : List Pc, PyData.eqvAll (ps.map pd) (qs.map pd) = decide (ps = qs)
  | [], [] => by simp [PyData.eqvAll]
  | [], q :: qs => by simp [PyData.eqvAll]
  | p :: ps, [] => by simp [PyData.eqvAll]
  | p :: ps, q :: qs => by
    simp only [List.map_cons, PyData.eqvAll, pd_eqv, pds_eqv ps qs, List.cons.injEq]
    by_cases h1 : p = q <;> by_cases h2 : ps = qs <;> simp [h1, h2]
theorem tpd_eqv (ps qs : List Pc) : PyData.eqv (tpd ps) (tpd qs) = decide (ps = qs) := by
  unfold tpd
  rw [PyData.eqv, pds_eqv]
theorem pd_plain (p : Pc) : (pd p).plain = true := by simp [pd, PyData.plain, PyData.plainAll]
theorem pds_plain : ∀ ps : List Pc, PyData.plainAll (ps.map pd) = true
  | [] => by simp [PyData.plainAll]
  | p :: ps => by simp [PyData.plainAll, pd_plain, pds_plain ps]
theorem pd_depth (p : Pc) : (pd p).depth ≤ 2 := by simp [pd, PyData.depth, PyData.depthAll]
theorem pds_depth : ∀ ps : List Pc, PyData.depthAll (ps.map pd) ≤ 2
  | [] => by simp [PyData.depthAll]
  | p :: ps => by
    have := pd_depth p
    have := pds_depth ps
    simp only [List.map_cons, PyData.depthAll]
    omega
theorem tpd_depth (ps : List Pc) : (tpd ps).depth ≤ 3 := by
  have := pds_depth ps
  simp only [tpd, PyData.depth]
  omega
theorem shal_tpd (ps qs : List Pc) : shal (tpd ps) (tpd qs) = true := by
  have := tpd_depth ps
  have e : ∀ rs : List Pc, (tpd rs).plain = true := fun rs => by simp only [tpd, PyData.plain, pds_plain]
  simp only [shal, e, Bool.and_self, Bool.true_and, decide_eq_true_eq]
  omega
theorem shal_pd (p q : Pc) : shal (pd p) (pd q) = true := by
  have := pd_depth p
  simp only [shal, pd_plain, Bool.and_self, Bool.true_and, decide_eq_true_eq]
  omega
theorem shal_str (a b : Str) : shal (.str a) (.str b) = true := by simp [shal, PyData.plain, PyData.depth]
/-- comparisons -/
theorem eq_str (a b : Str) (h : Hs) : cmpD .Eq (.d (.str a)) (.d (.str b)) h = .ok (.d (.bool (a == b))) h := by simp [cmpD, snp, cmpP, shal_str, str_eqv]
theorem ne_str (a b : Str) (h : Hs) : cmpD .NotEq (.d (.str a)) (.d (.str b)) h = .ok (.d (.bool (!(a == b)))) h := by simp [cmpD, snp, cmpP, shal_str, str_eqv]
theorem eq_pd (p q : Pc) (h : Hs) : cmpD .Eq (.d (pd p)) (.d (pd q)) h = .ok (.d (.bool (decide (p = q)))) h := by simp [cmpD, snp, cmpP, shal_pd, pd_eqv]
theorem eq_tpd (ps qs : List Pc) (h : Hs) : cmpD .Eq (.d (tpd ps)) (.d (tpd qs)) h = .ok (.d (.bool (decide (ps = qs)))) h := by simp [cmpD, snp, cmpP, shal_tpd, tpd_eqv]
theorem ne_tpd (ps qs : List Pc) (h : Hs) : cmpD .NotEq (.d (tpd ps)) (.d (tpd qs)) h = .ok (.d (.bool (!decide (ps = qs)))) h := by simp [cmpD, snp, cmpP, shal_tpd, tpd_eqv]
theorem tpd_nil : (PyData.tuple [] : PyData) = tpd [] := rfl
theorem ltI (a b : Int) : PySem.W.dataLt (.int a) (.int b) = decide (a < b) := by
  show PyProof.Rows.lexLt PyProof.Rows.itemOrd [.inl a] [.inl b] = _
  simp [PyProof.Rows.lexLt, PyProof.Rows.itemLt]
theorem okI (a b : Int) : ordOk (.int a) (.int b) = true := by simp [ordOk, PySem.W.alike, PyData.depth]
theorem not_dec (a b : Int) : (!decide (a < b)) = decide (b ≤ a) := by
  by_cases h : a < b <;> simp [h] <;> omega
theorem gt_int (a b : Int) (h : Hs) : cmpD .Gt (.d (.int a)) (.d (.int b)) h = .ok (.d (.bool (decide (b < a)))) h := by simp [cmpD, snp, cmpP, okI, ltI]
theorem ge_int (a b : Int) (h : Hs) : cmpD .GtE (.d (.int a)) (.d (.int b)) h = .ok (.d (.bool (decide (b ≤ a)))) h := by
  simp [cmpD, snp, cmpP, okI, ltI, not_dec]
theorem lt_int (a b : Int) (h : Hs) : cmpD .Lt (.d (.int a)) (.d (.int b)) h = .ok (.d (.bool (decide (a < b)))) h := by simp [cmpD, snp, cmpP, okI, ltI]
theorem le_int (a b : Int) (h : Hs) : cmpD .LtE (.d (.int a)) (.d (.int b)) h = .ok (.d (.bool (decide (a ≤ b)))) h := by simp [cmpD, snp, cmpP, okI, ltI, not_dec]
theorem eq_int (a b : Int) (h : Hs) : cmpD .Eq (.d (.int a)) (.d (.int b)) h = .ok (.d (.bool (decide (a = b)))) h := by
  have e : shal (.int a) (.int b) = true := by simp [shal, PyData.plain, PyData.depth]
  simp only [cmpD, snp, cmpP, e, if_true, PyData.eqv]
  by_cases h : a = b <;> simp [h]
/-- slices -/
theorem cutP_to {α : Type} (xs : List α) (k : Nat) : cutP xs none (some (k : Int)) = xs.take k := by
  have hk : ¬ ((k : Int) < 0) := by omega
  simp only [cutP, HT.sIx, hk, if_false, List.drop_zero, Nat.sub_zero, Int.toNat_natCast]
  by_cases h : k ≤ xs.length
  · rw [Nat.min_eq_left h]
  · rw [Nat.min_eq_right (by omega), List.take_length, List.take_of_length_le (by omega)]
theorem cutP_from {α : Type} (xs : List α) (k : Nat) : cutP xs (some (k : Int)) none = xs.drop k := by
  have hk : ¬ ((k : Int) < 0) := by omega
  simp only [cutP, HT.sIx, hk, if_false, Int.toNat_natCast]
  by_cases h : k ≤ xs.length
  · rw [Nat.min_eq_left h, List.take_of_length_le (by rw [List.length_drop]; omega)]
  · rw [Nat.min_eq_right (by omega), List.drop_of_length_le (by omega : xs.length ≤ k)]
    simp
theorem cutP_last {α : Type} (xs : List α) : cutP xs none (some (-1)) = xs.dropLast := by
  simp only [cutP, HT.sIx, List.drop_zero, Nat.sub_zero]
  rw [if_pos (by decide), List.dropLast_eq_take]
  congr 1
  omega
/-! ### joining neighbours -/
def jstep (found : List Pc) (p : Pc) : List Pc := match found.getLast? with
  | some (true, x) => if p.1 then found.dropLast ++ [(true, x ++ p.2)] else found ++ [p]
  | _ => found ++ [p]
def jn (ps : List Pc) : List Pc := ps.foldl jstep []
/-- no two texts beside one another -/
def Jd : List Pc → Prop
  | [] => True
  | [_] => True
  | p :: q :: r => ¬ (p.1 = true ∧ q.1 = true) ∧ Jd (q :: r)
theorem jd_snoc : ∀ {ps : List Pc} {p : Pc}, Jd ps → (∀ q, ps.getLast? = some q → ¬ (q.1 = true ∧ p.1 = true)) → Jd (ps ++ [p])
  | [], _, _, _ => trivial
  | [q], p, _, h => ⟨h q rfl, trivial⟩
  | q :: r :: s, p, hj, h => ⟨hj.1, jd_snoc hj.2 (fun t ht => h t (by simpa [List.getLast?_cons_cons] using ht))⟩
theorem jd_take : ∀ {ps : List Pc} (n : Nat), Jd ps → Jd (ps.take n)
  | [], n, _ => by simp [Jd]
  | [p], n, _ => by cases n <;> simp [Jd]
  | p :: q :: r, 0, _ => trivial
  | p :: q :: r, 1, _ => trivial
  | p :: q :: r, n + 2, h => ⟨h.1, jd_take (ps := q :: r) (n + 1) h.2⟩
theorem jd_dropLast {ps : List Pc} (h : Jd ps) : Jd ps.dropLast := by rw [List.dropLast_eq_take]; exact jd_take _ h
theorem last_snoc {ps : List Pc} {p : Pc} (h : ps.getLast? = some p) : ps = ps.dropLast ++ [p] := by
  obtain ⟨h1, h2⟩ := List.getLast?_eq_some_iff.mp h
  rw [h2]; simp
theorem jd_before : ∀ {ps : List Pc} {p : Pc}, Jd (ps ++ [p]) → ∀ q, ps.getLast? = some q → ¬ (q.1 = true ∧ p.1 = true)
  | [], _, _, q, e => by simp at e
  | [r], p, h, q, e => by
    simp at e; subst e
    exact h.1
  | r :: s :: t, p, h, q, e => jd_before (ps := s :: t) h.2 q (by simpa [List.getLast?_cons_cons] using e)
theorem jd_step {found : List Pc} {p : Pc} (h : Jd found) : Jd (jstep found p) := by
  unfold jstep
  split
  · rename_i x hx
    split
    · rename_i hp
      have e := last_snoc hx
      refine jd_snoc (jd_dropLast h) fun q hq => ?_
      rw [e] at h
      exact jd_before h q hq
    · rename_i hp
      exact jd_snoc h fun q hq z => hp z.2
  · rename_i hn
    refine jd_snoc h fun q hq z => ?_
    obtain ⟨b, x⟩ := q
    simp only at z
    exact hn x (by rw [hq, ← z.1])
theorem jd_fold : ∀ (ps found : List Pc), Jd found → Jd (ps.foldl jstep found)
  | [], _, h => h
  | p :: ps, found, h => jd_fold ps _ (jd_step h)
theorem jd_jn (ps : List Pc) : Jd (jn ps) := jd_fold ps [] trivial
theorem jn_fix : ∀ (ps found : List Pc), Jd (found ++ ps) → ps.foldl jstep found = found ++ ps
  | [], found, _ => by simp
  | p :: ps, found, h => by
    have e : found ++ p :: ps = (found ++ [p]) ++ ps := by simp
    have hp : Jd (found ++ [p]) := by
      rw [e] at h
      have := jd_take (found ++ [p]).length h
      rwa [List.take_left] at this
    have es : jstep found p = found ++ [p] := by
      unfold jstep
      split
      · rename_i x hx
        rw [if_neg (fun z => jd_before hp _ hx ⟨rfl, z⟩)]
      · rfl
    rw [List.foldl_cons, es, jn_fix ps _ (by rw [← e]; exact h), ← e]
theorem jn_id {ps : List Pc} (h : Jd ps) : jn ps = ps := jn_fix ps [] (by simpa using h)
/-! ### sizes -/
def tot : List Pc → Nat
  | [] => 0
  | p :: r => p.2.length + tot r
theorem tot_app : ∀ (a b : List Pc), tot (a ++ b) = tot a + tot b
  | [], b => by simp [tot]
  | p :: a, b => by simp only [List.cons_append, tot, tot_app a b]; omega
theorem tot_take (ps : List Pc) (n : Nat) : tot (ps.take n) ≤ tot ps := by
  have := tot_app (ps.take n) (ps.drop n)
  rw [List.take_append_drop] at this
  omega
theorem tot_drop (ps : List Pc) (n : Nat) : tot (ps.drop n) ≤ tot ps := by
  have := tot_app (ps.take n) (ps.drop n)
  rw [List.take_append_drop] at this
  omega
theorem tot_mem : ∀ {ps : List Pc} {p : Pc}, p ∈ ps → p.2.length ≤ tot ps
  | [], _, h => by cases h
  | q :: r, p, h => by
    rcases List.mem_cons.mp h with rfl | h
    · simp only [tot]; omega
    · have := tot_mem h
      simp only [tot]; omega
theorem str_app_len (a b : Str) : (a ++ b).length = a.length + b.length := by
  show (a.cps ++ b.cps).size = a.cps.size + b.cps.size
  simp
theorem tot_step (found : List Pc) (p : Pc) : tot (jstep found p) = tot found + p.2.length := by
  unfold jstep
  split
  · rename_i x hx
    split
    · have e := last_snoc hx
      have e2 : tot found = tot found.dropLast + x.length := by
        conv => lhs; rw [e]
        rw [tot_app]; simp [tot]
      rw [tot_app]
      simp only [tot, str_app_len]
      omega
    · rw [tot_app]; simp [tot]
  · rw [tot_app]; simp [tot]
theorem tot_fold : ∀ (ps found : List Pc), tot (ps.foldl jstep found) = tot found + tot ps
  | [], _ => by simp [tot]
  | p :: ps, found => by rw [List.foldl_cons, tot_fold ps, tot_step]; simp only [tot]; omega
theorem tot_jn (ps : List Pc) : tot (jn ps) = tot ps := by
  unfold jn
  rw [tot_fold]; simp [tot]
theorem len_step (found : List Pc) (p : Pc) : (jstep found p).length ≤ found.length + 1 := by
  unfold jstep
  split
  · split <;> simp <;> omega
  · simp
theorem len_fold : ∀ (ps found : List Pc), (ps.foldl jstep found).length ≤ found.length + ps.length
  | [], _ => by simp
  | p :: ps, found => by
    rw [List.foldl_cons]
    have := len_fold ps (jstep found p)
    have := len_step found p
    simp only [List.length_cons]; omega
theorem len_jn (ps : List Pc) : (jn ps).length ≤ ps.length := by
  have := len_fold ps []
  simpa [jn] using this
end En
/-! joining, by the law and by the program -/
namespace En
open PySem L2
theorem rb_ok {α β : Type} (a : α) (h : Hs) (f : α → Hs → R β) : (R.ok a h).bind f = f a h := rfl
theorem bs_ok {α : Type} (a : α) (h : Hs) (σ : Env) (f : α → Hs → R (Fl × Env)) : bindS (.ok a h) σ f = f a h := rfl
theorem kt (b : Bool) : (kindS b == (⟨#[116, 101, 120, 116]⟩ : Str)) = b := kind_text b
section
variable (C : Str → List D → Hs → R D)
theorem at_last {α : Type} (xs : List α) (x : α) : L2.atI (xs ++ [x]) (-1) = some x := by
  have e : L2.ixN (xs ++ [x]).length (-1) = some xs.length := by
    unfold L2.ixN
    rw [if_neg (by decide), if_pos (by simp; omega)]
    simp
    omega
  unfold L2.atI
  rw [e]
  simp
theorem ix_last {α : Type} (xs : List α) (x : α) : L2.ixN (xs ++ [x]).length (-1) = some xs.length := by
  unfold L2.ixN
  rw [if_neg (by decide), if_pos (by simp; omega)]
  simp
  omega
theorem at0 {α : Type} (x y : α) : L2.atI [x, y] 0 = some x := by simp [L2.atI, L2.ixN]
theorem at1 {α : Type} (x y : α) : L2.atI [x, y] 1 = some y := by simp [L2.atI, L2.ixN]
theorem pd0 (p : Pc) (h : Hs) : ixD (.d (pd p)) (.d (.int 0)) h = .ok (.d (.str (kindS p.1))) h := by simp [ixD, seqIx, pd, vw, at0]
theorem pd1 (p : Pc) (h : Hs) : ixD (.d (pd p)) (.d (.int 1)) h = .ok (.d (.str p.2)) h := by simp [ixD, seqIx, pd, vw, at1]
theorem ne_nil_cel {h : Hs} {n : Nat} {ps : List Pc} (hn : h[n]? = some (.lst (ps.map pd))) : cmpD .NotEq (.cel n) (.d (.list [])) h = .ok (.d (.bool (!ps.isEmpty))) h := by
  have e : shal (.list (ps.map pd)) (.list []) = true := by
    simp only [shal, PyData.plain, pds_plain, PyData.plainAll, Bool.and_self, Bool.true_and, decide_eq_true_eq]
    have : (PyData.list []).depth ≤ 1 := by simp [PyData.depth, PyData.depthAll]
    omega
  have e2 : PyData.eqv (.list (ps.map pd)) (.list []) = ps.isEmpty := by
    cases ps with
    | nil => simp [PyData.eqv, PyData.eqvAll]
    | cons p ps => simp [PyData.eqv, PyData.eqvAll]
  simp [cmpD, snp, hn, lstC, cmpP, e, e2]
def jlB : S := match f__law_joined.body with
  | .seq _ (.seq (.for_ _ _ b) _) => b
  | _ => .nil
theorem last_pd (h : Hs) (n : Nat) (fs : List Pc) (q : Pc) (hn : h[n]? = some (.lst ((fs ++ [q]).map pd))) : ixD (.cel n) (.d (.int (-1))) h = .ok (.d (pd q)) h := by
  have e := at_last (fs.map pd) (pd q)
  simp only [List.map_append, List.map_cons, List.map_nil] at hn
  simp [ixD, seqIx, vw, hn, lstC, e]
theorem jl_step {h : Hs} {n : Nat} {found : List Pc} {p : Pc} {b : D} {z : Option D} (hn : h[n]? = some (.lst (found.map pd))) (hs : tot found + p.2.length ≤ 10000) (hl : found.length ≤ 10000) :
    run C jlB [some b, some (.cel n), some (.d (pd p))] h = .ok (.nx, [some b, some (.cel n), some (.d (pd p))]) (h.set n (.lst ((jstep found p).map pd))) := by
  have hz : sizeLine = 16777216 := sizeLine_eq
  have nn := ne_nil_cel hn
  have hlt : found.length < sizeLine := by omega
  obtain ⟨t, x⟩ := p
  rcases List.eq_nil_or_concat found with rfl | ⟨fs, q, rfl⟩
  · cases t <;> simp [jlB, f__law_joined, rcvOk, vwL, hn, lstC, mthD, run, sem, mkV, mkT, smCons, smNil, R.bind, bs_ok, noX_ok, kt, pd0, eq_str, truD, sel, jstep, lstD, plainL, mkL, hz, nn]
  · have lp := last_pd h n fs q (by simpa using hn)
    obtain ⟨t', x'⟩ := q
    have ii := ix_last (fs.map pd) (pd (t', x'))
    have hlt2 : fs.length + 1 < 16777216 := by rw [hz] at hlt; simpa using hlt
    have hn2 : h[n]? = some (.lst (fs.map pd ++ [pd (t', x')])) := by simpa using hn
    have hx : x'.length + x.length ≤ 16777216 := by
      rw [List.concat_eq_append, tot_app] at hs
      simp [tot] at hs
      omega
    have ii2 : L2.ixN (fs.length + 1) (-1) = some fs.length := by simpa using ii
    have nn2 : cmpD .NotEq (.cel n) (.d (.list [])) h = .ok (.d (.bool true)) h := by rw [nn]; simp
    clear ii hn hlt hs hl nn
    cases t <;> cases t' <;> simp [jlB, f__law_joined, rcvOk, vwL, hn2, lstC, mthD, hlt2, run, sem, mkV, mkT, smCons, smNil, R.bind, bs_ok, noX_ok, kt, pd0, pd1, eq_str, truD, sel, jstep, lstD, plainL, mkL, hz, nn2, negD, lp, binD, hx, tupD, stoD, ii2]
    simp [pd, kindS]
end
end En
namespace En
open PySem L2
section
variable (C : Str → List D → Hs → R D)
theorem set_snoc {α : Type} (h : List α) (a b : α) : (h ++ [a]).set h.length b = h ++ [b] := by simp
theorem get_snoc {α : Type} (h : List α) (a : α) : (h ++ [a])[h.length]? = some a := by simp
theorem loop_nx {f : D → Env → Hs → R (Fl × Env)} {x : D} {xs : List D} {σ σ' : Env} {h h' : Hs} (e : f x σ h = .ok (.nx, σ') h') : loopF f (x :: xs) σ h = loopF f xs σ' h' := by
  rw [loopF, e]
theorem loop_rt {f : D → Env → Hs → R (Fl × Env)} {x y : D} {xs : List D} {σ σ' : Env} {h h' : Hs} (e : f x σ h = .ok (.rt y, σ') h') : loopF f (x :: xs) σ h = .ok (.rt y, σ') h' := by
  rw [loopF, e]
theorem loop_nil {f : D → Env → Hs → R (Fl × Env)} {σ : Env} {h : Hs} : loopF f [] σ h = .ok (.nx, σ) h := by rw [loopF]
theorem seq_nx {s r : S} {σ σ' : Env} {h h' : Hs} (e : run C s σ h = .ok (.nx, σ') h') : run C (.seq s r) σ h = run C r σ' h' := by
  rw [run, e]
theorem seq_rt {s r : S} {σ σ' : Env} {h h' : Hs} {x : D} (e : run C s σ h = .ok (.rt x, σ') h') : run C (.seq s r) σ h = .ok (.rt x, σ') h' := by
  rw [run, e]
theorem runF_rt {fn : Fn} {ds : List D} {h h1 : Hs} {x : D} {σ : Env} (hl : ds.length = fn.np) (e : run C fn.body (startE fn ds) h = .ok (.rt x, σ) h1) : runF C fn ds h = leave h.length x h1 := by
  rw [runF, if_pos hl, e]
  rfl
theorem bind_tg2 (p : Pc) (b c : Option D) (y z : Option D) : bindTg (.tp [2, 3]) (.d (pd p)) [b, c, y, z] = some [b, c, some (.d (.str (kindS p.1))), some (.d (.str p.2))] := rfl
abbrev jlF : D → Env → Hs → R (Fl × Env) := fun x σ1 h2 => match bindTg (.nm 2) x σ1 with
  | some σ2 => run C jlB σ2 h2
  | none => .no
theorem jl_loop {b : D} {h : Hs} : ∀ (ps found : List Pc) (z : Option D), tot found + tot ps ≤ 10000 → found.length + ps.length ≤ 10000 →
    ∃ z', loopF (jlF C) (ps.map fun p => D.d (pd p)) [some b, some (.cel h.length), z] (h ++ [.lst (found.map pd)]) = .ok (.nx, [some b, some (.cel h.length), z']) (h ++ [.lst ((ps.foldl jstep found).map pd)])
  | [], found, z, _, _ => ⟨z, rfl⟩
  | p :: ps, found, z, ht, hl => by
    simp only [tot, List.length_cons] at ht hl
    have st := jl_step C (h := h ++ [.lst (found.map pd)]) (n := h.length) (found := found) (p := p) (b := b) (z := z) (get_snoc _ _) (by omega) (by omega)
    rw [set_snoc] at st
    obtain ⟨z', e⟩ := jl_loop (b := b) (h := h) ps (jstep found p) (some (.d (pd p))) (by rw [tot_step]; omega) (by have := len_step found p; omega)
    refine ⟨z', ?_⟩
    have st2 : jlF C (.d (pd p)) [some b, some (.cel h.length), z] (h ++ [.lst (found.map pd)]) = .ok (.nx, [some b, some (.cel h.length), some (.d (pd p))]) (h ++ [.lst ((jstep found p).map pd)]) := st
    rw [List.map_cons, loop_nx st2]
    exact e
/-- _law_joined -/
theorem jl_ok {x : D} {h : Hs} {ps : List Pc} (hx : seqD x = some (ps.map fun p => D.d (pd p))) (ht : tot ps ≤ 10000) (hl : ps.length ≤ 10000) : runF C f__law_joined [x] h = .ok (.d (tpd (jn ps))) h := by
  have hz : sizeLine = 16777216 := sizeLine_eq
  obtain ⟨z', e⟩ := jl_loop C (b := x) (h := h) ps [] none (by simpa [tot] using ht) (by simpa using hl)
  have e2 : run C f__law_joined.body [some x, none, none] h = .ok (.rt (.d (tpd (jn ps))), [some x, some (.cel h.length), z']) (h ++ [.lst ((jn ps).map pd)]) := by
    have e1 : run C (.asg 1 (.lst true .nil)) [some x, none, none] h = .ok (.nx, [some x, some (.cel h.length), none]) (h ++ [.lst []]) := by
      simp [run, sem, mkV, smNil, R.bind, bs_ok, noX_ok, lstD, plainL, mkL, hz]
    have ei : (sem C (.var 0)).it [some x, some (.cel h.length), none] (h ++ [.lst []]) = .ok (ps.map fun p => D.d (pd p)) (h ++ [.lst []]) := by
      simp [sem, mkV, R.bind, seqR, hx, noX_ok]
    have e3 : run C (.for_ (.nm 2) (.var 0) jlB) [some x, some (.cel h.length), none] (h ++ [.lst []]) = .ok (.nx, [some x, some (.cel h.length), z']) (h ++ [.lst ((jn ps).map pd)]) := by
      rw [run, ei, bs_ok]
      exact e
    have e4 : run C (.ret (.bi .tuple false (.cons (.var 1) .nil))) [some x, some (.cel h.length), z'] (h ++ [.lst ((jn ps).map pd)]) = .ok (.rt (.d (tpd (jn ps))), [some x, some (.cel h.length), z']) (h ++ [.lst ((jn ps).map pd)]) := by
      simp [run, sem, mkV, smCons, smNil, R.bind, bs_ok, noX_ok, biD, vw, lstC, tpd]
    have eb : f__law_joined.body = .seq (.asg 1 (.lst true .nil)) (.seq (.for_ (.nm 2) (.var 0) jlB) (.seq (.ret (.bi .tuple false (.cons (.var 1) .nil))) .nil)) := rfl
    rw [eb, seq_nx C e1, seq_nx C e3, seq_rt C e4]
  rw [runF_rt C rfl e2]
  simp [leave]
/-! the program's joined -/
def jpB : S := match f_joined.body with
  | .seq _ (.seq (.for_ _ _ b) _) => b
  | _ => .nil
theorem len_cel {h : Hs} {n : Nat} {xs : List PyData} (hn : h[n]? = some (.lst xs)) : lenD (.cel n) h = some xs.length := by simp [lenD, vw, hn, lstC]
theorem jp_step {h : Hs} {n : Nat} {found : List Pc} {p : Pc} {b : D} (hn : h[n]? = some (.lst (found.map pd))) (hs : tot found + p.2.length ≤ 10000) (hl : found.length ≤ 10000) :
    run C jpB [some b, some (.cel n), some (.d (.str (kindS p.1))), some (.d (.str p.2))] h = .ok (.nx, [some b, some (.cel n), some (.d (.str (kindS p.1))), some (.d (.str p.2))]) (h.set n (.lst ((jstep found p).map pd))) := by
  have hz : sizeLine = 16777216 := sizeLine_eq
  have hlt : found.length < sizeLine := by omega
  obtain ⟨t, x⟩ := p
  rcases List.eq_nil_or_concat found with rfl | ⟨fs, q, rfl⟩
  · cases t <;> simp [jpB, f_joined, rcvOk, vwL, hn, lstC, mthD, run, sem, mkV, mkT, smCons, smNil, R.bind, bs_ok, noX_ok, kt, eq_str, truD, sel, jstep, hz, biD, lenD, vw, gt_int, tupD, plainL]
    all_goals simp [pd, kindS]
  · have lp := last_pd h n fs q (by simpa using hn)
    obtain ⟨t', x'⟩ := q
    have ii := ix_last (fs.map pd) (pd (t', x'))
    have hlt2 : fs.length + 1 < 16777216 := by rw [hz] at hlt; simpa using hlt
    have hn2 : h[n]? = some (.lst (fs.map pd ++ [pd (t', x')])) := by simpa using hn
    have hx : x'.length + x.length ≤ 16777216 := by
      rw [List.concat_eq_append, tot_app] at hs
      simp [tot] at hs
      omega
    have ii2 : L2.ixN (fs.length + 1) (-1) = some fs.length := by simpa using ii
    have hp : (0 : Int) < (fs.length : Int) + 1 := by omega
    clear ii hn hlt hs hl
    cases t <;> cases t' <;> simp [jpB, f_joined, rcvOk, vwL, hn2, lstC, mthD, hlt2, run, sem, mkV, mkT, smCons, smNil, R.bind, bs_ok, noX_ok, kt, pd0, pd1, eq_str, truD, sel, jstep, plainL, hz, negD, lp, binD, hx, tupD, stoD, ii2, biD, lenD, vw, gt_int, hp]
    all_goals simp [pd, kindS]
abbrev jpF : D → Env → Hs → R (Fl × Env) := fun x σ1 h2 => match bindTg (.tp [2, 3]) x σ1 with
  | some σ2 => run C jpB σ2 h2
  | none => .no
theorem jp_loop {b : D} {h : Hs} : ∀ (ps found : List Pc) (y z : Option D), tot found + tot ps ≤ 10000 → found.length + ps.length ≤ 10000 →
    ∃ y' z', loopF (jpF C) (ps.map fun p => D.d (pd p)) [some b, some (.cel h.length), y, z] (h ++ [.lst (found.map pd)]) = .ok (.nx, [some b, some (.cel h.length), y', z']) (h ++ [.lst ((ps.foldl jstep found).map pd)])
  | [], found, y, z, _, _ => ⟨y, z, rfl⟩
  | p :: ps, found, y, z, ht, hl => by
    simp only [tot, List.length_cons] at ht hl
    have st := jp_step C (h := h ++ [.lst (found.map pd)]) (n := h.length) (found := found) (p := p) (b := b) (get_snoc _ _) (by omega) (by omega)
    rw [set_snoc] at st
    obtain ⟨y', z', e⟩ := jp_loop (b := b) (h := h) ps (jstep found p) (some (.d (.str (kindS p.1)))) (some (.d (.str p.2))) (by rw [tot_step]; omega) (by have := len_step found p; omega)
    refine ⟨y', z', ?_⟩
    have st2 : jpF C (.d (pd p)) [some b, some (.cel h.length), y, z] (h ++ [.lst (found.map pd)]) = .ok (.nx, [some b, some (.cel h.length), some (.d (.str (kindS p.1))), some (.d (.str p.2))]) (h ++ [.lst ((jstep found p).map pd)]) := by
      unfold jpF
      rw [bind_tg2]
      exact st
    rw [List.map_cons, loop_nx st2]
    exact e
theorem seq_tpd (ps : List Pc) : seqD (.d (tpd ps)) = some (ps.map fun p => D.d (pd p)) := by simp [seqD, tpd]
theorem jp_ok {h : Hs} {ps : List Pc} (ht : tot ps ≤ 10000) (hl : ps.length ≤ 10000) : runF C f_joined [.d (tpd ps)] h = .ok (.d (tpd (jn ps))) h := by
  have hz : sizeLine = 16777216 := sizeLine_eq
  obtain ⟨y', z', e⟩ := jp_loop C (b := .d (tpd ps)) (h := h) ps [] none none (by simpa [tot] using ht) (by simpa using hl)
  have hx := seq_tpd ps
  generalize hX : D.d (tpd ps) = x at e hx
  have e2 : run C f_joined.body [some x, none, none, none] h = .ok (.rt (.d (tpd (jn ps))), [some x, some (.cel h.length), y', z']) (h ++ [.lst ((jn ps).map pd)]) := by
    have e1 : run C (.asg 1 (.lst true .nil)) [some x, none, none, none] h = .ok (.nx, [some x, some (.cel h.length), none, none]) (h ++ [.lst []]) := by
      simp [run, sem, mkV, smNil, R.bind, bs_ok, noX_ok, lstD, plainL, mkL, hz]
    have ei : (sem C (.var 0)).it [some x, some (.cel h.length), none, none] (h ++ [.lst []]) = .ok (ps.map fun p => D.d (pd p)) (h ++ [.lst []]) := by
      simp [sem, mkV, R.bind, seqR, hx, noX_ok]
    have e3 : run C (.for_ (.tp [2, 3]) (.var 0) jpB) [some x, some (.cel h.length), none, none] (h ++ [.lst []]) = .ok (.nx, [some x, some (.cel h.length), y', z']) (h ++ [.lst ((jn ps).map pd)]) := by
      rw [run, ei, bs_ok]
      exact e
    have e4 : run C (.ret (.bi .tuple false (.cons (.var 1) .nil))) [some x, some (.cel h.length), y', z'] (h ++ [.lst ((jn ps).map pd)]) = .ok (.rt (.d (tpd (jn ps))), [some x, some (.cel h.length), y', z']) (h ++ [.lst ((jn ps).map pd)]) := by
      simp [run, sem, mkV, smCons, smNil, R.bind, bs_ok, noX_ok, biD, vw, lstC, tpd]
    have eb : f_joined.body = .seq (.asg 1 (.lst true .nil)) (.seq (.for_ (.tp [2, 3]) (.var 0) jpB) (.seq (.ret (.bi .tuple false (.cons (.var 1) .nil))) .nil)) := rfl
    rw [eb, seq_nx C e1, seq_nx C e3, seq_rt C e4]
  rw [runF_rt C rfl e2]
  simp [leave]
end
end En
/-! what begins what -/
namespace En
open PySem L2
/-- by the program -/
def dob (ps qs : List Pc) : Bool :=
  if ps.length = 0 ∨ qs.length < ps.length then decide (ps.length = 0) else
  match ps.getLast?, qs[ps.length - 1]? with
  | some l, some f => if ps.dropLast = qs.take (ps.length - 1) then decide (l = f) || (l.1 && (f.1 && Txt.startswith f.2 l.2)) else false
  | _, _ => false
/-- by the law -/
def ldb (ps qs : List Pc) : Bool :=
  if ps = [] then true else if qs.length < ps.length ∨ ps.dropLast ≠ qs.take (ps.length - 1) then false else
  match ps.getLast?, qs[ps.length - 1]? with
  | some l, some f => if l.1 = f.1 then (l.2 == f.2) || (l.1 && (L2.cutS f.2 none (some (l.2.length : Int)) == l.2)) else false
  | _, _ => false
theorem starts_cut (a b : Str) : Txt.startswith a b = (L2.cutS a none (some (b.length : Int)) == b) := by
  have e0 : ¬ ((b.length : Int) < 0) := by omega
  have e : L2.cutS a none (some (b.length : Int)) = ⟨(a.cps.toList.take (min b.length a.length)).toArray⟩ := by
    simp only [L2.cutS, HT.sIx, e0, if_false, List.drop_zero, Nat.sub_zero, Int.toNat_natCast]
  rw [e]
  obtain ⟨x⟩ := a
  obtain ⟨y⟩ := b
  have hx : Str.length ⟨x⟩ = x.size := rfl
  have hy : Str.length ⟨y⟩ = y.size := rfl
  unfold Txt.startswith Builtin.Str.subAt
  rw [hx, hy, Nat.zero_add]
  by_cases h : y.size ≤ x.size
  · rw [Nat.min_eq_left h, decide_eq_true h, Bool.true_and]
    have e2 : x.extract 0 y.size = (x.toList.take y.size).toArray := by
      apply Array.ext'
      simp
    rw [e2]
    by_cases h3 : (x.toList.take y.size).toArray = y
    · simp [h3]
    · have : ¬ (⟨(x.toList.take y.size).toArray⟩ : Str) = ⟨y⟩ := fun z => h3 (congrArg Str.cps z)
      rw [beq_eq_false_iff_ne.mpr h3, beq_eq_false_iff_ne.mpr this]
  · have h2 : ¬ (⟨(x.toList.take (min y.size x.size)).toArray⟩ : Str) = ⟨y⟩ := fun z => by
      have := congrArg (fun s : Str => s.cps.size) z
      simp at this
      omega
    rw [decide_eq_false h, Bool.false_and, beq_eq_false_iff_ne.mpr h2]
theorem dob_ldb (ps qs : List Pc) : dob ps qs = ldb ps qs := by
  unfold dob ldb
  by_cases h0 : ps = []
  · subst h0; simp
  · have hl : ps.length ≠ 0 := fun z => h0 (List.length_eq_zero_iff.mp z)
    rw [if_neg h0]
    by_cases h1 : qs.length < ps.length
    · rw [if_pos (.inr h1), if_pos (.inl h1)]
      exact decide_eq_false hl
    · rw [if_neg (fun z => z.elim hl h1)]
      by_cases h2 : ps.dropLast = qs.take (ps.length - 1)
      · rw [if_neg (fun z => z.elim h1 (fun w => w h2))]
        split
        · rename_i l f _ _
          rw [if_pos h2]
          obtain ⟨a, x⟩ := l
          obtain ⟨b, y⟩ := f
          rw [starts_cut]
          have hd : decide (x = y) = (x == y) := by by_cases h : x = y <;> simp [h]
          simp only [Prod.mk.injEq]
          cases a <;> cases b <;> simp [hd]
        · rfl
      · rw [if_pos (.inr h2)]
        split
        · rw [if_neg h2]
        · rfl
theorem starts_len {a b : Str} (h : Txt.startswith a b = true) : b.length ≤ a.length := by
  unfold Txt.startswith at h
  simp only [Bool.and_eq_true, decide_eq_true_eq] at h
  omega
theorem starts_anti {a b : Str} (h1 : Txt.startswith a b = true) (h2 : Txt.startswith b a = true) : a = b := by
  have l1 := starts_len h1
  have l2 := starts_len h2
  unfold Txt.startswith Builtin.Str.subAt at h1
  simp only [Bool.and_eq_true, beq_iff_eq] at h1
  have hl : b.length = a.cps.size := by
    have : a.length = a.cps.size := rfl
    omega
  rw [Nat.zero_add, hl, Array.extract_size] at h1
  obtain ⟨x⟩ := a
  obtain ⟨y⟩ := b
  rw [show x = y from h1.2]
theorem dob_anti {ps qs : List Pc} (h1 : dob ps qs = true) (h2 : dob qs ps = true) : ps = qs := by
  unfold dob at h1 h2
  by_cases a0 : ps.length = 0
  · have b0 : qs.length = 0 := by
      by_cases b0 : qs.length = 0
      · exact b0
      · rw [if_pos (.inr (by omega))] at h2
        simp [b0] at h2
    rw [List.length_eq_zero_iff.mp a0, List.length_eq_zero_iff.mp b0]
  · have b0 : qs.length ≠ 0 := fun b0 => by
      rw [if_pos (.inr (by omega))] at h1
      simp [a0] at h1
    have c1 : ¬ qs.length < ps.length := fun c => by rw [if_pos (.inr c)] at h1; simp [a0] at h1
    have c2 : ¬ ps.length < qs.length := fun c => by rw [if_pos (.inr c)] at h2; simp [b0] at h2
    rw [if_neg (fun z => z.elim a0 c1)] at h1
    rw [if_neg (fun z => z.elim b0 c2)] at h2
    have hl : ps.length = qs.length := by omega
    have eq1 : qs[ps.length - 1]? = qs.getLast? := by rw [List.getLast?_eq_getElem?, hl]
    have eq2 : ps[qs.length - 1]? = ps.getLast? := by rw [List.getLast?_eq_getElem?, hl]
    rw [eq1] at h1
    rw [eq2] at h2
    cases hp : ps.getLast? with
    | none => rw [hp] at h1; simp at h1
    | some l =>
      cases hq : qs.getLast? with
      | none => rw [hp, hq] at h1; simp at h1
      | some f =>
        rw [hp, hq] at h1
        rw [hq, hp] at h2
        dsimp only at h1 h2
        split at h1
        · rename_i e1
          split at h2
          · have d1 : qs.take (ps.length - 1) = qs.dropLast := by rw [List.dropLast_eq_take, hl]
            rw [d1] at e1
            have hlf : l = f := by
              obtain ⟨a, x⟩ := l
              obtain ⟨b, y⟩ := f
              simp only [Prod.mk.injEq, Bool.or_eq_true, decide_eq_true_eq, Bool.and_eq_true] at h1 h2 ⊢
              rcases h1 with h1 | ⟨k1, k2, k3⟩
              · exact h1
              · rcases h2 with h2 | ⟨m1, m2, m3⟩
                · exact ⟨h2.1.symm, h2.2.symm⟩
                · exact ⟨by rw [k1, k2], (starts_anti m3 k3)⟩
            rw [last_snoc hp, last_snoc hq, e1, hlf]
          · cases h2
        · cases h1
end En
/-! do_begin, tupled, Template -/
namespace En
open PySem L2
section
variable (C : Str → List D → Hs → R D)
theorem len_tpd (ps : List Pc) (h : Hs) : biD .len false [.d (tpd ps)] h = .ok (.d (.int (ps.length : Int))) h := by simp [biD, lenD, tpd, vw]
theorem sl_tpd_last (ps : List Pc) (h : Hs) : slD (.d (tpd ps)) none (some (.d (.int (-1)))) h = .ok (.d (tpd ps.dropLast)) h := by
  simp only [slD, bnd, tpd, vw, cutP_last, List.map_dropLast]
theorem sl_tpd_to (ps : List Pc) (k : Nat) (h : Hs) : slD (.d (tpd ps)) none (some (.d (.int (k : Int)))) h = .ok (.d (tpd (ps.take k))) h := by
  simp only [slD, bnd, tpd, vw, cutP_to, List.map_take]
theorem sl_tpd_from (ps : List Pc) (k : Nat) (h : Hs) : slD (.d (tpd ps)) (some (.d (.int (k : Int)))) none h = .ok (.d (tpd (ps.drop k))) h := by
  simp only [slD, bnd, tpd, vw, cutP_from, List.map_drop]
theorem ix_tpd_last (ps : List Pc) (p : Pc) (h : Hs) : ixD (.d (tpd (ps ++ [p]))) (.d (.int (-1))) h = .ok (.d (pd p)) h := by
  have e := at_last (ps.map pd) (pd p)
  simp only [ixD, seqIx, tpd, vw, List.map_append, List.map_cons, List.map_nil, e]
theorem at_nat {α : Type} {xs : List α} {k : Nat} {v : α} (h : xs[k]? = some v) : L2.atI xs (k : Int) = some v := by
  have hk : k < xs.length := (List.getElem?_eq_some_iff.mp h).1
  unfold L2.atI L2.ixN
  rw [if_pos (by omega), if_pos (by omega), Int.toNat_natCast]
  exact h
theorem ix_tpd {ps : List Pc} {k : Nat} {p : Pc} (hk : ps[k]? = some p) (h : Hs) : ixD (.d (tpd ps)) (.d (.int (k : Int))) h = .ok (.d (pd p)) h := by
  have e : L2.atI (ps.map pd) (k : Int) = some (pd p) := at_nat (by simp [hk])
  simp only [ixD, seqIx, tpd, vw, e]
theorem ite_t {c : E} {a b : S} {σ : Env} {h h' : Hs} (e : (sem C c).t σ h = .ok true h') : run C (.ite c a b) σ h = run C a σ h' := by rw [run, e, bs_ok, if_pos rfl]
theorem ite_f {c : E} {a b : S} {σ : Env} {h h' : Hs} (e : (sem C c).t σ h = .ok false h') : run C (.ite c a b) σ h = run C b σ h' := by rw [run, e, bs_ok, if_neg (by decide)]
theorem run_nil {σ : Env} {h : Hs} : run C .nil σ h = .ok (.nx, σ) h := by rw [run]
theorem ret_ok {e : E} {σ : Env} {h h' : Hs} {x : D} (q : (sem C e).v σ h = .ok x h') : run C (.ret e) σ h = .ok (.rt x, σ) h' := by rw [run, q, bs_ok]
theorem asg_ok {i : Nat} {e : E} {σ : Env} {h h' : Hs} {x : D} (q : (sem C e).v σ h = .ok x h') : run C (.asg i e) σ h = .ok (.nx, σ.set i (some x)) h' := by rw [run, q, bs_ok]
theorem exp_ok {e : E} {σ : Env} {h h' : Hs} {x : D} (q : (sem C e).v σ h = .ok x h') : run C (.exp e) σ h = .ok (.nx, σ) h' := by rw [run, q, bs_ok]
theorem par_ok {i j : Nat} {a b : E} {σ : Env} {h h1 h2 : Hs} {x y : D} (q : (sem C a).v σ h = .ok x h1) (r : (sem C b).v σ h1 = .ok y h2) : run C (.par i j a b) σ h = .ok (.nx, (σ.set i (some x)).set j (some y)) h2 := by
  rw [run, q]
  simp only [R.bind, r, bs_ok]
def sHd : S → S
  | .seq s _ => s
  | s => s
def sTl : S → S
  | .seq _ r => r
  | s => s
def sCnd : S → E
  | .ite c _ _ => c
  | _ => .nil
def sThn : S → S
  | .ite _ a _ => a
  | s => s
def sEls : S → S
  | .ite _ _ b => b
  | s => s
def sVal : S → E
  | .ret e => e
  | .asg _ e => e
  | .exp e => e
  | _ => .nil
theorem do_begin_ok (ps qs : List Pc) (h : Hs) : runF C f_do_begin [.d (tpd ps), .d (tpd qs)] h = .ok (.d (.bool (dob ps qs))) h := by
  have hz : sizeLine = 16777216 := sizeLine_eq
  have eb : f_do_begin.body = .seq (.ite (sCnd (sHd f_do_begin.body)) (.seq (.ret (sVal (sHd (sThn (sHd f_do_begin.body))))) .nil) .nil) (.seq (.par 2 3 (.ix (.var 0) (.neg (.cst (.int (1))))) (.ix (.var 1) (.bin .Sub false (.bi .len false (.cons (.var 0) .nil)) (.cst (.int (1)))))) (.seq (.ite (sCnd (sHd (sTl (sTl f_do_begin.body)))) (.seq (.ret (.cst (.bool false))) .nil) .nil) (.seq (.ret (sVal (sHd (sTl (sTl (sTl f_do_begin.body)))))) .nil))) := rfl
  have hst : startE f_do_begin [.d (tpd ps), .d (tpd qs)] = [some (.d (tpd ps)), some (.d (tpd qs)), none, none] := rfl
  have hnp : ([.d (tpd ps), .d (tpd qs)] : List D).length = f_do_begin.np := rfl
  have done : ∀ {b : Bool} {σ : Env}, run C f_do_begin.body (startE f_do_begin [.d (tpd ps), .d (tpd qs)]) h = .ok (.rt (.d (.bool b)), σ) h → runF C f_do_begin [.d (tpd ps), .d (tpd qs)] h = .ok (.d (.bool b)) h := fun {b σ} e => by
    rw [runF_rt C hnp e]
    simp [leave]
  unfold dob
  by_cases h0 : ps.length = 0 ∨ qs.length < ps.length
  · rw [if_pos h0]
    have c1 : (sem C (sCnd (sHd f_do_begin.body))).t [some (.d (tpd ps)), some (.d (tpd qs)), none, none] h = .ok true h := by
      by_cases hp : ps.length = 0
      · simp [f_do_begin, sCnd, sHd, sem, mkV, mkT, smCons, smNil, R.bind, noX_ok, len_tpd, eq_int, truD, sel, hp]
      · have hlt : (qs.length : Int) < (ps.length : Int) := by omega
        have hp2 : ¬ ((ps.length : Int) = 0) := by omega
        simp [f_do_begin, sCnd, sHd, sem, mkV, mkT, smCons, smNil, R.bind, noX_ok, len_tpd, eq_int, gt_int, truD, sel, hp, hp2, hlt]
    have r1 : (sem C (sVal (sHd (sThn (sHd f_do_begin.body))))).v [some (.d (tpd ps)), some (.d (tpd qs)), none, none] h = .ok (.d (.bool (decide (ps.length = 0)))) h := by
      simp [f_do_begin, sVal, sThn, sHd, sem, mkV, mkT, smCons, smNil, R.bind, noX_ok, len_tpd, eq_int]
    refine done (σ := [some (.d (tpd ps)), some (.d (tpd qs)), none, none]) ?_
    rw [eb, hst, seq_rt C (by rw [ite_t C c1, seq_rt C (ret_ok C r1)])]
  · rw [if_neg h0]
    have hp : ps.length ≠ 0 := fun z => h0 (.inl z)
    have hq : ¬ qs.length < ps.length := fun z => h0 (.inr z)
    obtain ⟨fs, l, rfl⟩ : ∃ fs l, ps = fs ++ [l] := by
      rcases List.eq_nil_or_concat ps with e | ⟨fs, l, e⟩
      · exact absurd (by rw [e]; rfl) hp
      · exact ⟨fs, l, by simpa using e⟩
    have hk : fs.length < qs.length := by simp at hq; omega
    have c1 : (sem C (sCnd (sHd f_do_begin.body))).t [some (.d (tpd (fs ++ [l]))), some (.d (tpd qs)), none, none] h = .ok false h := by
      have a1 : ¬ (((fs ++ [l]).length : Int) = 0) := by simp; omega
      have a2 : ¬ ((qs.length : Int) < ((fs ++ [l]).length : Int)) := by omega
      simp only [f_do_begin, sCnd, sHd, sem, mkV, mkT, smCons, smNil, R.bind, noX_ok, len_tpd, eq_int, gt_int, truD, sel, List.getElem?_cons_zero, List.getElem?_cons_succ, if_false, Bool.false_eq_true, a1, a2, decide_false, if_true]
    have hqs : qs[fs.length]? = some qs[fs.length] := List.getElem?_eq_getElem hk
    have i1 := ix_tpd hqs h
    have i2 := ix_tpd_last fs l h
    have s1 := sl_tpd_last (fs ++ [l]) h
    have s2 := sl_tpd_to qs fs.length h
    have e1 : ((fs ++ [l]).length : Int) - 1 = (fs.length : Int) := by simp
    have e2 : (fs ++ [l]).length - 1 = fs.length := by simp
    rw [e2, hqs]
    generalize qs[fs.length] = g at i1
    rw [List.dropLast_concat] at s1
    have n1 := ne_tpd fs (qs.take fs.length) h
    have p1 : run C (.par 2 3 (.ix (.var 0) (.neg (.cst (.int (1))))) (.ix (.var 1) (.bin .Sub false (.bi .len false (.cons (.var 0) .nil)) (.cst (.int (1)))))) [some (.d (tpd (fs ++ [l]))), some (.d (tpd qs)), none, none] h = .ok (.nx, [some (.d (tpd (fs ++ [l]))), some (.d (tpd qs)), some (.d (pd l)), some (.d (pd g))]) h := by
      rw [par_ok C (x := .d (pd l)) (y := .d (pd g)) (h1 := h) (h2 := h)]
      · rfl
      · simp only [sem, mkV, R.bind, noX_ok, negD, List.getElem?_cons_zero, i2]
      · simp only [sem, mkV, smCons, smNil, R.bind, noX_ok, len_tpd, binD, arI, List.getElem?_cons_zero, List.getElem?_cons_succ, e1, i1]
    have c2 : (sem C (sCnd (sHd (sTl (sTl f_do_begin.body))))).t [some (.d (tpd (fs ++ [l]))), some (.d (tpd qs)), some (.d (pd l)), some (.d (pd g))] h = .ok (!decide (fs = qs.take fs.length)) h := by
      simp only [f_do_begin, sCnd, sHd, sTl, sem, mkV, mkT, smCons, smNil, R.bind, noX_ok, len_tpd, binD, arI, negD, if_true, List.getElem?_cons_zero, List.getElem?_cons_succ, e1, s1, s2, n1, truD]
    have q1 := eq_pd l g h
    have r2 : (sem C (sVal (sHd (sTl (sTl (sTl f_do_begin.body)))))).v [some (.d (tpd (fs ++ [l]))), some (.d (tpd qs)), some (.d (pd l)), some (.d (pd g))] h = .ok (.d (.bool (decide (l = g) || (l.1 && (g.1 && Txt.startswith g.2 l.2))))) h := by
      have u0 := pd0 l h
      have u1 := pd1 l h
      have w0 := pd0 g h
      have w1 := pd1 g h
      clear p1 c1 c2 done hst hnp eb s1 s2 n1 i1 i2 e1 e2
      obtain ⟨a, x⟩ := l
      obtain ⟨b, y⟩ := g
      by_cases h3 : ((a, x) : Pc) = (b, y)
      · rw [decide_eq_true h3] at q1 ⊢
        simp only [f_do_begin, sVal, sHd, sTl, sem, mkV, mkT, smCons, smNil, R.bind, noX_ok, List.getElem?_cons_zero, List.getElem?_cons_succ, q1, truD, sel, Bool.true_or, if_false, Bool.false_eq_true]
      · rw [decide_eq_false h3] at q1 ⊢
        clear h3
        cases a <;> cases b <;> simp [f_do_begin, sVal, sHd, sTl, sem, mkV, mkT, smCons, smNil, R.bind, noX_ok, q1, truD, sel, u0, u1, w0, w1, eq_str, kt, rcvOk, mthD]
    simp only [List.getLast?_concat, List.dropLast_concat]
    by_cases h2 : fs = qs.take fs.length
    · rw [if_pos h2]
      rw [decide_eq_true h2] at c2
      refine done (σ := [some (.d (tpd (fs ++ [l]))), some (.d (tpd qs)), some (.d (pd l)), some (.d (pd g))]) ?_
      rw [eb, hst, seq_nx C (by rw [ite_f C c1, run_nil]), seq_nx C p1, seq_nx C (by rw [ite_f C c2, run_nil]), seq_rt C (ret_ok C r2)]
    · rw [if_neg h2]
      rw [decide_eq_false h2] at c2
      refine done (σ := [some (.d (tpd (fs ++ [l]))), some (.d (tpd qs)), some (.d (pd l)), some (.d (pd g))]) ?_
      rw [eb, hst, seq_nx C (by rw [ite_f C c1, run_nil]), seq_nx C p1, seq_rt C (by rw [ite_t C c2, seq_rt C (ret_ok C (x := .d (.bool false)) (h' := h) rfl)])]
end
end En
/-! tupled, lists -/
namespace En
open PySem L2
theorem cn {P : Prog} {k : Nat} {x : Str} {fn : Fn} (hl : P.lookup x = some fn) (ds : List D) (h : Hs) : callN P (k + 1) x ds h = runF (callN P k) fn ds h := by
  show (match P.lookup x with | some fn => runF (callN P k) fn ds h | none => .no) = _
  rw [hl]
section
variable (C : Str → List D → Hs → R D)
theorem isi_lt (x : PyData) (h : Hs) : isiR (.d (.tuple [x])) [.list, .tuple] h = .ok (.d (.bool true)) h := rfl
theorem keep_d (x : PyData) (h : Hs) : keepR false (.d x) h = .ok (.d x) h := rfl
/-- a comprehension of calls -/
theorem comp_map {n : Nat} {f : D → Hs → R (Option PyData)} {α : Type} (u : α → D) (g : α → PyData) {h : Hs} (hn : h.take n = h) : ∀ xs : List α, (∀ x ∈ xs, f (u x) h = .ok (some (g x)) h) → compL n f (xs.map u) h = .ok (xs.map g) h
  | [], _ => rfl
  | x :: xs, hf => by
    rw [List.map_cons, compL, hf x List.mem_cons_self]
    simp only [R.bind, hn]
    rw [comp_map u g hn xs fun y hy => hf y (List.mem_cons_of_mem _ hy)]
    rfl
theorem turn_ok {own : List Nat} {tg : Tg} {me : Env → Hs → R D} {σ σ2 : Env} {x : D} {y : PyData} {h h3 : Hs} (hb : bindTg tg x (wipeE σ own) = some σ2) (he : me σ2 h = .ok (.d y) h3) : turn own tg (sem C .nil) (fun σ2 h3 => some1 (me σ2 h3)) σ x h = .ok (some y) h3 := by
  unfold turn
  rw [hb]
  show noX (some1 (me σ2 h)) = _
  rw [he]
  rfl
theorem lc_ok {own : List Nat} {tg : Tg} {it ifs elt : E} {σ : Env} {h h1 h2 : Hs} {ds : List D} {ys : List PyData} (hi : (sem C it).it σ h = .ok ds h1)
    (hc : compL h1.length (turn own tg (sem C ifs) (fun σ2 h3 => some1 ((sem C elt).v σ2 h3)) σ) ds h1 = .ok ys h2) (hl : ys.length ≤ 16777216) : (sem C (.lc false own tg it ifs elt)).v σ h = .ok (.d (.list ys)) h2 := by
  have hz : sizeLine = 16777216 := sizeLine_eq
  show ((sem C it).it σ h).bind _ = _
  rw [hi]
  show (compL h1.length (turn own tg (sem C ifs) (fun σ2 h3 => some1 ((sem C elt).v σ2 h3)) σ) ds h1).bind _ = _
  rw [hc]
  show noX (mkL false ys h2) = _
  unfold mkL
  rw [hz, if_pos hl]
  rfl
theorem ife_t {c a b : E} {σ : Env} {h h1 : Hs} (hc : (sem C c).t σ h = .ok true h1) : (sem C (.ife c a b)).v σ h = (sem C a).v σ h1 := by
  show ((sem C c).t σ h).bind _ = _
  rw [hc]
  rfl
theorem ife_f {c a b : E} {σ : Env} {h h1 : Hs} (hc : (sem C c).t σ h = .ok false h1) : (sem C (.ife c a b)).v σ h = (sem C b).v σ h1 := by
  show ((sem C c).t σ h).bind _ = _
  rw [hc]
  rfl
/-- one argument -/
theorem bi1 {b : Bi} {m : Bool} {a : E} {σ : Env} {h h1 h2 : Hs} {x y : D} (ha : (sem C a).v σ h = .ok x h1) (hb : biD b m [x] h1 = .ok y h2) : (sem C (.bi b m (.cons a .nil))).v σ h = .ok y h2 := by
  show (((sem C a).v σ h).bind fun x h1 => (R.ok [] h1).bind fun xs h2 => .ok (x :: xs) h2).bind _ = _
  rw [ha]
  show noX (biD b m [x] h1) = _
  rw [hb]
  rfl
theorem call1 {f : Str} {a : E} {σ : Env} {h h1 h2 : Hs} {x : D} {y : PyData} (ha : (sem C a).v σ h = .ok x h1) (hc : C f [x] h1 = .ok (.d y) h2) : (sem C (.call f false (.cons a .nil))).v σ h = .ok (.d y) h2 := by
  show (((sem C a).v σ h).bind fun x h1 => (R.ok [] h1).bind fun xs h2 => .ok (x :: xs) h2).bind _ = _
  rw [ha]
  show (C f [x] h1).bind _ = _
  rw [hc]
  rfl
theorem call2 {f : Str} {a b : E} {σ : Env} {h h1 h2 h3 : Hs} {x y : D} {z : PyData} (ha : (sem C a).v σ h = .ok x h1) (hb : (sem C b).v σ h1 = .ok y h2) (hc : C f [x, y] h2 = .ok (.d z) h3) : (sem C (.call f false (.cons a (.cons b .nil)))).v σ h = .ok (.d z) h3 := by
  show (((sem C a).v σ h).bind fun x h1 => (((sem C b).v σ h1).bind fun y h2 => (R.ok [] h2).bind fun xs h3 => .ok (y :: xs) h3).bind fun xs h2 => .ok (x :: xs) h2).bind _ = _
  rw [ha]
  show ((((sem C b).v σ h1).bind fun y h2 => (R.ok [] h2).bind fun xs h3 => .ok (y :: xs) h3).bind fun xs h2 => .ok (x :: xs) h2).bind _ = _
  rw [hb]
  show (C f [x, y] h2).bind _ = _
  rw [hc]
  rfl
theorem call3 {f : Str} {a b c : E} {σ : Env} {h h1 h2 h3 h4 : Hs} {x y w : D} {z : PyData} (ha : (sem C a).v σ h = .ok x h1) (hb : (sem C b).v σ h1 = .ok y h2) (hc' : (sem C c).v σ h2 = .ok w h3) (hc : C f [x, y, w] h3 = .ok (.d z) h4) : (sem C (.call f false (.cons a (.cons b (.cons c .nil))))).v σ h = .ok (.d z) h4 := by
  show (((sem C a).v σ h).bind fun x h1 => (((sem C b).v σ h1).bind fun y h2 => (((sem C c).v σ h2).bind fun w h3 => (R.ok [] h3).bind fun xs h4 => .ok (w :: xs) h4).bind fun xs h3 => .ok (y :: xs) h3).bind fun xs h2 => .ok (x :: xs) h2).bind _ = _
  rw [ha]
  show ((((sem C b).v σ h1).bind fun y h2 => (((sem C c).v σ h2).bind fun w h3 => (R.ok [] h3).bind fun xs h4 => .ok (w :: xs) h4).bind fun xs h3 => .ok (y :: xs) h3).bind fun xs h2 => .ok (x :: xs) h2).bind _ = _
  rw [hb]
  show (((((sem C c).v σ h2).bind fun w h3 => (R.ok [] h3).bind fun xs h4 => .ok (w :: xs) h4).bind fun xs h3 => .ok (y :: xs) h3).bind fun xs h2 => .ok (x :: xs) h2).bind _ = _
  rw [hc']
  show (C f [x, y, w] h3).bind _ = _
  rw [hc]
  rfl
theorem tp_str (s : Str) (h : Hs) : runF C f_tupled [.d (.str s)] h = .ok (.d (.str s)) h := by
  simp [f_tupled, runF, startE, run, sem, mkV, mkT, smCons, smNil, R.bind, bs_ok, noX_ok, isiR, isiD, isNoneD, liveD, tyD, subTy, truD, leave]
/-- tupled of a row whose things are known -/
theorem tp_row {α : Type} (u : α → PyData) (g : α → PyData) (xs : List α) {w : PyData} (hw : w = .tuple (xs.map u) ∨ w = .list (xs.map u)) (h : Hs) (hl : xs.length ≤ 16777216) (hc : ∀ x ∈ xs, C (Str.ofString "tupled") [.d (u x)] h = .ok (.d (g x)) h) :
    runF C f_tupled [.d w] h = .ok (.d (.tuple (xs.map g))) h := by
  have hk : h.take h.length = h := List.take_length
  have sq : seqD (.d w) = some (xs.map fun x => D.d (u x)) := by rcases hw with rfl | rfl <;> simp [seqD]
  have is : isiR (.d w) [.list, .tuple] h = .ok (.d (.bool true)) h := by rcases hw with rfl | rfl <;> rfl
  generalize hW : D.d w = W at sq is
  have cm := comp_map (n := h.length) (f := turn [1] (.nm 1) (sem C .nil) (fun σ2 h3 => some1 ((sem C (.call (Str.ofString "tupled") false (.cons (.var 1) .nil))).v σ2 h3)) [some W, none]) (fun x => D.d (u x)) g hk xs (fun x hx => by
    exact turn_ok C (me := (sem C (.call (Str.ofString "tupled") false (.cons (.var 1) .nil))).v) (σ2 := [some W, some (D.d (u x))]) rfl (call1 C rfl (hc x hx)))
  have e1 : (sem C (.lc false [1] (.nm 1) (.var 0) .nil (.call (Str.ofString "tupled") false (.cons (.var 1) .nil)))).v [some W, none] h = .ok (.d (.list (xs.map g))) h := by
    refine lc_ok C (ds := xs.map fun x => D.d (u x)) (h1 := h) ?_ cm (by simpa using hl)
    simp only [sem, mkV, List.getElem?_cons_zero, R.bind, seqR, sq, noX_ok]
  have c1 : (sem C (.isi (.var 0) [.list, .tuple] true)).t [some W, none] h = .ok true h := by
    simp only [sem, mkV, List.getElem?_cons_zero, R.bind, is, noX_ok, truD]
  have e2 : run C f_tupled.body [some W, none] h = .ok (.rt (.d (.tuple (xs.map g))), [some W, none]) h := by
    have eb : f_tupled.body = .seq (.ret (.ife (.isi (.var 0) [.list, .tuple] true) (.bi .tuple false (.cons (.lc false [1] (.nm 1) (.var 0) .nil (.call (Str.ofString "tupled") false (.cons (.var 1) .nil))) .nil)) (.var 0))) .nil := rfl
    rw [eb]
    exact seq_rt C (ret_ok C (by rw [ife_t C c1]; exact bi1 C e1 rfl))
  rw [runF_rt C rfl e2]
  simp [leave]
theorem ls_str (s : Str) (h : Hs) : runF C f__law_lists [.d (.str s)] h = .ok (.d (.str s)) h := by
  simp [f__law_lists, runF, startE, run, sem, mkV, mkT, smCons, smNil, R.bind, bs_ok, noX_ok, isiR, isiD, isNoneD, liveD, tyD, subTy, truD, leave]
theorem ls_row {α : Type} (u : α → PyData) (g : α → PyData) (xs : List α) {w : PyData} (hw : w = .tuple (xs.map u) ∨ w = .list (xs.map u)) (h : Hs) (hl : xs.length ≤ 16777216) (hc : ∀ x ∈ xs, C (Str.ofString "_law_lists") [.d (u x)] h = .ok (.d (g x)) h) :
    runF C f__law_lists [.d w] h = .ok (.d (.list (xs.map g))) h := by
  have hk : h.take h.length = h := List.take_length
  have sq : seqD (.d w) = some (xs.map fun x => D.d (u x)) := by rcases hw with rfl | rfl <;> simp [seqD]
  have is : isiR (.d w) [.list, .tuple] h = .ok (.d (.bool true)) h := by rcases hw with rfl | rfl <;> rfl
  generalize hW : D.d w = W at sq is
  have cm := comp_map (n := h.length) (f := turn [1] (.nm 1) (sem C .nil) (fun σ2 h3 => some1 ((sem C (.call (Str.ofString "_law_lists") false (.cons (.var 1) .nil))).v σ2 h3)) [some W, none]) (fun x => D.d (u x)) g hk xs (fun x hx => by
    exact turn_ok C (me := (sem C (.call (Str.ofString "_law_lists") false (.cons (.var 1) .nil))).v) (σ2 := [some W, some (D.d (u x))]) rfl (call1 C rfl (hc x hx)))
  have e1 : (sem C (.lc false [1] (.nm 1) (.var 0) .nil (.call (Str.ofString "_law_lists") false (.cons (.var 1) .nil)))).v [some W, none] h = .ok (.d (.list (xs.map g))) h := by
    refine lc_ok C (ds := xs.map fun x => D.d (u x)) (h1 := h) ?_ cm (by simpa using hl)
    simp only [sem, mkV, List.getElem?_cons_zero, R.bind, seqR, sq, noX_ok]
  have c1 : (sem C (.isi (.var 0) [.list, .tuple] true)).t [some W, none] h = .ok true h := by
    simp only [sem, mkV, List.getElem?_cons_zero, R.bind, is, noX_ok, truD]
  have e2 : run C f__law_lists.body [some W, none] h = .ok (.rt (.d (.list (xs.map g))), [some W, none]) h := by
    have eb : f__law_lists.body = .seq (.ret (.ife (.isi (.var 0) [.list, .tuple] true) (.lc false [1] (.nm 1) (.var 0) .nil (.call (Str.ofString "_law_lists") false (.cons (.var 1) .nil))) (.var 0))) .nil := rfl
    rw [eb]
    exact seq_rt C (ret_ok C (by rw [ife_t C c1]; exact e1))
  rw [runF_rt C rfl e2]
  simp [leave]
end
/-! within a program -/
theorem tp_pd {P : Prog} (hp : P.lookup (Str.ofString "tupled") = some f_tupled) (k : Nat) (p : Pc) {w : PyData} (hw : w = pd p ∨ w = pl p) (h : Hs) : callN P (k + 2) (Str.ofString "tupled") [.d w] h = .ok (.d (pd p)) h := by
  rw [cn hp]
  refine tp_row (callN P (k + 1)) (α := Str) (fun s => .str s) (fun s => .str s) [kindS p.1, p.2] hw h (by simp) fun x hx => ?_
  rw [cn hp]
  exact tp_str _ x h
theorem tp_tpd {P : Prog} (hp : P.lookup (Str.ofString "tupled") = some f_tupled) (k : Nat) (ps : List Pc) {w : PyData} (hw : w = tpd ps ∨ w = .list (ps.map pl)) (hl : ps.length ≤ 10000) (h : Hs) : callN P (k + 3) (Str.ofString "tupled") [.d w] h = .ok (.d (tpd ps)) h := by
  rw [cn hp]
  rcases hw with rfl | rfl
  · exact tp_row (callN P (k + 2)) pd pd ps (.inl rfl) h (by omega) fun x hx => tp_pd hp k x (.inl rfl) h
  · exact tp_row (callN P (k + 2)) pl pd ps (.inr rfl) h (by omega) fun x hx => tp_pd hp k x (.inr rfl) h
theorem ls_pd {P : Prog} (hp : P.lookup (Str.ofString "_law_lists") = some f__law_lists) (k : Nat) (p : Pc) (h : Hs) : callN P (k + 2) (Str.ofString "_law_lists") [.d (pd p)] h = .ok (.d (pl p)) h := by
  rw [cn hp]
  refine ls_row (callN P (k + 1)) (α := Str) (fun s => .str s) (fun s => .str s) [kindS p.1, p.2] (.inl rfl) h (by simp) fun x hx => ?_
  rw [cn hp]
  exact ls_str _ x h
theorem ls_tpd {P : Prog} (hp : P.lookup (Str.ofString "_law_lists") = some f__law_lists) (k : Nat) (ps : List Pc) (hl : ps.length ≤ 10000) (h : Hs) : callN P (k + 3) (Str.ofString "_law_lists") [.d (tpd ps)] h = .ok (.d (.list (ps.map pl))) h := by
  rw [cn hp]
  exact ls_row (callN P (k + 2)) pd pl ps (.inl rfl) h (by omega) fun x hx => ls_pd hp k x h
end En
/-! Template -/
namespace En
open PySem L2
abbrev sT : Str := Str.ofString "Template"
abbrev sI : Str := Str.ofString "Template.__init__"
section
variable (C : Str → List D → Hs → R D)
theorem runF_nx {fn : Fn} {ds : List D} {h h1 : Hs} {σ : Env} (hl : ds.length = fn.np) (e : run C fn.body (startE fn ds) h = .ok (.nx, σ) h1) : runF C fn ds h = leave h.length (.d .none) h1 := by
  rw [runF, if_pos hl, e]
  rfl
theorem init_ok {n : Nat} {h : Hs} {w : PyData} {ps : List Pc} (hn : h[n]? = some (.ins sT [])) (h1 : C (Str.ofString "tupled") [.d w] h = .ok (.d (tpd ps)) h) (h2 : C (Str.ofString "joined") [.d (tpd ps)] h = .ok (.d (tpd (jn ps))) h) :
    runF C f_Template_o___init__ [.cel n, .d w] h = .ok (.d .none) (h.set n (.ins sT [some (tpd (jn ps))])) := by
  have ec : (sem C (.call (Str.ofString "joined") false (.cons (.call (Str.ofString "tupled") false (.cons (.var 1) .nil)) .nil))).v [some (.cel n), some (.d w)] h = .ok (.d (tpd (jn ps))) h := call1 C (call1 C rfl h1) h2
  have e1 : run C (.sfl sT (Str.ofString "own_pieces") 0 (.var 0) (.call (Str.ofString "joined") false (.cons (.call (Str.ofString "tupled") false (.cons (.var 1) .nil)) .nil))) [some (.cel n), some (.d w)] h = .ok (.nx, [some (.cel n), some (.d w)]) (h.set n (.ins sT [some (tpd (jn ps))])) := by
    rw [run, ec]
    have e0 : (sem C (.var 0)).v [some (.cel n), some (.d w)] h = .ok (.cel n) h := rfl
    simp only [R.bind, e0, sflD, hn, if_true, bs_ok]
    rfl
  have eb : f_Template_o___init__.body = .seq (.sfl sT (Str.ofString "own_pieces") 0 (.var 0) (.call (Str.ofString "joined") false (.cons (.call (Str.ofString "tupled") false (.cons (.var 1) .nil)) .nil))) .nil := rfl
  have e2 : run C f_Template_o___init__.body (startE f_Template_o___init__ [.cel n, .d w]) h = .ok (.nx, [some (.cel n), some (.d w)]) (h.set n (.ins sT [some (tpd (jn ps))])) := by
    show run C f_Template_o___init__.body [some (.cel n), some (.d w)] h = _
    rw [eb, seq_nx C e1, run_nil]
  rw [runF_nx C rfl e2]
  have : (h.set n (Cell.ins sT [some (tpd (jn ps))])).take h.length = h.set n (.ins sT [some (tpd (jn ps))]) := List.take_of_length_le (by simp)
  simp only [leave, this]
theorem make_ok {a : E} {σ : Env} {h h1 : Hs} {w : PyData} {ps : List Pc} (ha : (sem C a).v σ h = .ok (.d w) h1)
    (hc : C sI [.cel (h1.length + 1), .d w] (h1 ++ [Cell.dead, Cell.ins sT []]) = .ok (.d .none) ((h1 ++ [Cell.dead, Cell.ins sT []]).set (h1.length + 1) (.ins sT [some (tpd ps)]))) :
    (sem C (.make sT sI (.cons a .nil))).v σ h = .ok (.ins sT [tpd ps]) (h1 ++ [.dead, .dead]) := by
  show (((sem C a).v σ h).bind fun x h1 => (R.ok [] h1).bind fun xs h2 => .ok (x :: xs) h2).bind _ = _
  rw [ha]
  show (C sI [.cel (h1.length + 1), .d w] (h1 ++ [.dead, .ins sT []])).bind _ = _
  rw [hc]
  have e : (h1 ++ [Cell.dead, .ins sT []]).set (h1.length + 1) (.ins sT [some (tpd ps)]) = h1 ++ [.dead, .ins sT [some (tpd ps)]] := by
    rw [List.set_append_right _ _ (by omega)]
    simp
  rw [e]
  show (if isNoneD (.d .none) then noX (rdyI sT (h1.length + 1) (h1 ++ [.dead, .ins sT [some (tpd ps)]])) else .no) = _
  have g : (h1 ++ [Cell.dead, .ins sT [some (tpd ps)]])[h1.length + 1]? = some (.ins sT [some (tpd ps)]) := by
    rw [List.getElem?_append_right (by omega)]
    simp
  have e2 : (h1 ++ [Cell.dead, .ins sT [some (tpd ps)]]).set (h1.length + 1) .dead = h1 ++ [.dead, .dead] := by
    rw [List.set_append_right _ _ (by omega)]
    simp
  simp only [isNoneD, rdyI, g, allS, Option.map_some, if_true, e2, noX_ok]
theorem begins_ok {h : Hs} {ps qs : List Pc} (hc : C (Str.ofString "do_begin") [.d (tpd ps), .d (tpd qs)] h = .ok (.d (.bool (dob ps qs))) h) : runF C f_Template_o_begins [.ins sT [tpd ps], .ins sT [tpd qs]] h = .ok (.d (.bool (dob ps qs))) h := by
  have e2 : run C f_Template_o_begins.body (startE f_Template_o_begins [.ins sT [tpd ps], .ins sT [tpd qs]]) h = .ok (.rt (.d (.bool (dob ps qs))), [some (.ins sT [tpd ps]), some (.ins sT [tpd qs])]) h := by
    have eb : f_Template_o_begins.body = .seq (.ret (.call (Str.ofString "do_begin") false (.cons (.slt sT (Str.ofString "own_pieces") 0 (.var 0)) (.cons (.slt sT (Str.ofString "own_pieces") 0 (.var 1)) .nil)))) .nil := rfl
    show run C f_Template_o_begins.body [some (.ins sT [tpd ps]), some (.ins sT [tpd qs])] h = _
    rw [eb]
    refine seq_rt C (ret_ok C (call2 C (x := .d (tpd ps)) (y := .d (tpd qs)) (h1 := h) (h2 := h) ?_ ?_ hc))
    · simp only [sem, mkV, List.getElem?_cons_zero, R.bind, sltD, if_true, noX_ok]
    · simp only [sem, mkV, List.getElem?_cons_zero, List.getElem?_cons_succ, R.bind, sltD, if_true, noX_ok]
  rw [runF_rt C rfl e2]
  simp [leave]
theorem eqo_ok {h : Hs} {ps qs : List Pc} : runF C f_Template_o___eq__ [.ins sT [tpd ps], .ins sT [tpd qs]] h = .ok (.d (.bool (decide (ps = qs)))) h := by
  have e2 : run C f_Template_o___eq__.body (startE f_Template_o___eq__ [.ins sT [tpd ps], .ins sT [tpd qs]]) h = .ok (.rt (.d (.bool (decide (ps = qs)))), [some (.ins sT [tpd ps]), some (.ins sT [tpd qs])]) h := by
    have eb : f_Template_o___eq__.body = .seq (.ret (.bop .And (.cons (.isc (.var 1) sT) (.cons (.cmp .Eq (.slt sT (Str.ofString "own_pieces") 0 (.var 0)) (.slt sT (Str.ofString "own_pieces") 0 (.var 1))) .nil)))) .nil := rfl
    show run C f_Template_o___eq__.body [some (.ins sT [tpd ps]), some (.ins sT [tpd qs])] h = _
    rw [eb]
    refine seq_rt C (ret_ok C ?_)
    simp only [sem, mkV, mkT, smCons, smNil, List.getElem?_cons_zero, List.getElem?_cons_succ, R.bind, iscD, sltD, if_true, noX_ok, truD, sel, eq_tpd, if_false, Bool.false_eq_true]
  rw [runF_rt C rfl e2]
  simp [leave]
theorem mcl_ok {m g : Str} {o a : E} {σ : Env} {h h1 h2 h3 : Hs} {fs : List PyData} {x : D} {y : PyData} (ho : (sem C o).v σ h = .ok (.ins sT fs) h1) (ha : (sem C a).v σ h1 = .ok x h2) (hc : C g [.ins sT fs, x] h2 = .ok (.d y) h3) : (sem C (.mcl sT m g o (.cons a .nil))).v σ h = .ok (.d y) h3 := by
  show ((sem C o).v σ h).bind _ = _
  rw [ho]
  show (if insOf sT (.ins sT fs) then ((((sem C a).v σ h1).bind fun x h1 => (R.ok [] h1).bind fun xs h2 => .ok (x :: xs) h2).bind fun ds h2 => (C g (.ins sT fs :: ds) h2).bind fun y h3 => noX (fzD y h3)) else .no) = _
  have e : insOf sT (.ins sT fs) = true := by simp [insOf]
  rw [e, if_pos rfl, ha]
  show (C g [.ins sT fs, x] h2).bind _ = _
  rw [hc]
  rfl
theorem mclk_ok {m g kn : Str} {o a es : E} {σ : Env} {h h1 h2 h3 : Hs} {fs : List PyData} {x : D} {y : PyData} (ho : (sem C o).v σ h = .ok (.ins sT fs) h1) (ha : (sem C a).v σ h1 = .ok x h2) (hc : C g [.ins sT fs, x] h2 = .ok (.d y) h3) : (sem C (.mclk sT m g o es [kn] [0] (.cons a .nil))).v σ h = .ok (.d y) h3 := by
  show ((sem C o).v σ h).bind _ = _
  rw [ho]
  show (if insOf sT (.ins sT fs) then ((((sem C a).v σ h1).bind fun x h1 => (R.ok [] h1).bind fun xs h2 => .ok (x :: xs) h2).bind fun ks h3 => if ks.length = [kn].length then (match pickO ks [0] with
    | some as => (C g (.ins sT fs :: as) h3).bind fun y h4 => noX (fzD y h4)
    | none => .no) else .no) else .no) = _
  have e : insOf sT (.ins sT fs) = true := by simp [insOf]
  rw [e, if_pos rfl, ha]
  show (C g [.ins sT fs, x] h2).bind _ = _
  rw [hc]
  rfl
theorem eqe_ok {g : Str} {a b : E} {σ : Env} {h h1 h2 h3 : Hs} {fs gs : List PyData} {y : Bool} (ha : (sem C a).v σ h = .ok (.ins sT fs) h1) (hb : (sem C b).v σ h1 = .ok (.ins sT gs) h2) (hc : C g [.ins sT fs, .ins sT gs] h2 = .ok (.d (.bool y)) h3) : (sem C (.eqo false sT g a b)).v σ h = .ok (.d (.bool y)) h3 := by
  show ((sem C a).v σ h).bind _ = _
  rw [ha]
  show ((sem C b).v σ h1).bind _ = _
  rw [hb]
  show (if insOf sT (.ins sT fs) && insOf sT (.ins sT gs) then (noX (C g [.ins sT fs, .ins sT gs] h2)).bind fun z h3 => noX (negB false z h3) else .no) = _
  have e : ∀ l, insOf sT (.ins sT l) = true := fun l => by simp [insOf]
  rw [e, e, Bool.and_self, if_pos rfl, hc]
  rfl
/-! ### the same -/
set_option maxHeartbeats 8000000 in
theorem same_bool (b c : Bool) (h : Hs) : runF C f__law_same [.d (.bool b), .d (.bool c)] h = .ok (.d (.bool (b == c))) h := by
  have hk : h.take h.length = h := List.take_length
  cases b <;> cases c <;> simp [f__law_same, runF, startE, run, sem, mkV, mkT, smCons, smNil, R.bind, bs_ok, noX_ok, isiR, isiD, isNoneD, isNoneP, liveD, tyD, subTy, truD, sel, cmpD, snp, cmpP, shal, PyData.plain, PyData.depth, PyData.eqv, leave, hk]
set_option maxHeartbeats 8000000 in
theorem same_two (a b c d : Bool) (h : Hs) (hc : ∀ x y : Bool, C (Str.ofString "_law_same") [.d (.bool x), .d (.bool y)] h = .ok (.d (.bool (x == y))) h) :
    runF C f__law_same [.d (.list [.bool a, .bool b]), .d (.list [.bool c, .bool d])] h = .ok (.d (.bool (a == c && b == d))) h := by
  have hz : sizeLine = 16777216 := sizeLine_eq
  have hk : h.take h.length = h := List.take_length
  have h1 := hc a c
  have h2 := hc b d
  simp [f__law_same, runF, startE, run, sem, mkV, mkT, mkI, smCons, smNil, R.bind, bs_ok, noX_ok, isiR, isiD, isNoneD, liveD, tyD, subTy, truD, sel, cmpD, snp, cmpP, shal, PyData.plain, PyData.depth, PyData.eqv, lenD, vw, biD, zipW, vwF, compL, turn, bindTg, tupItems, setAll, wipeE, h1, h2, keepR, fzD, some1, plain1, hk, mkL, hz, boolsOf, leave]
end
end En
/-! draws -/
namespace En
open PySem L2
section
variable (C : Str → List D → Hs → R D)
theorem take_big {n : Nat} {h : Hs} {a b c m : Int} (hn : h[n]? = some (.lst [.int a, .int b, .int c])) (hm : 0 < m) (hm2 : m < 1073741824) (ha : 0 < a) :
    runF C f__law_take [.cel n, .d (.int m)] h = .ok (.d (.int (a % m))) (h.set n (.lst [.int (a / m), .int b, .int c])) := by
  have hl : n < h.length := (List.getElem?_eq_some_iff.mp hn).1
  simp [f__law_take, runF, startE, run, sem, mkV, mkT, smCons, smNil, R.bind, bs_ok, noX_ok, L2.atI, L2.ixN, gt_int, truD, ha, biD, binD, arI, hm, hm2, stoD, hn, lstC, leave, ixD, seqIx, vw]
  exact List.take_of_length_le (by simp)
def tkR : S := match f__law_take.body with
  | .seq _ (.seq _ r) => r
  | _ => .nil
def tkV (b c m : Int) : Int :=
  let once := (b + 48271 * c) * (39373 + c) % 2147483647
  let far := once % 40009 + 7
  let twice := (once + c + b / 1000003) * far % 2147483629
  (twice * 48271 + once) % 2147483587 / 64 % m
theorem take_rest {n : Nat} {h : Hs} {a b c m : Int} (hn : h[n]? = some (.lst [.int a, .int b, .int c])) (hm : 0 < m) (hc : 0 ≤ c) (hc2 : c < 1000000) :
    ∃ σ, run C tkR [some (.cel n), some (.d (.int m)), none, none, none, none] h = .ok (.rt (.d (.int (tkV b c m))), σ) h := by
  have m1 : ∀ x : Int, cmul x (39373 + c) = true := fun x => by unfold cmul; exact decide_eq_true (.inr (by omega))
  have m2 : cmul 48271 c = true := by unfold cmul; exact decide_eq_true (.inl (by omega))
  have m3 : ∀ x y : Int, cmul x (y % 40009 + 7) = true := fun x y => by unfold cmul; exact decide_eq_true (.inr (by omega))
  have m4 : ∀ x : Int, cmul x 48271 = true := fun x => by unfold cmul; exact decide_eq_true (.inr (by omega))
  simp [tkR, f__law_take, run, sem, mkV, mkT, smCons, smNil, R.bind, bs_ok, noX_ok, L2.atI, L2.ixN, biD, binD, arI, hm, hn, lstC, ixD, seqIx, vw, m1, m2, m3, m4, tkV]
theorem take_small {n : Nat} {h : Hs} {a b c m : Int} (hn : h[n]? = some (.lst [.int a, .int b, .int c])) (hm : 0 < m) (ha : ¬ 0 < a) (hc : 0 ≤ c) (hc2 : c < 999999) :
    runF C f__law_take [.cel n, .d (.int m)] h = .ok (.d (.int (tkV b (c + 1) m))) (h.set n (.lst [.int a, .int b, .int (c + 1)])) := by
  have hl : n < h.length := (List.getElem?_eq_some_iff.mp hn).1
  have hn2 : (h.set n (.lst [.int a, .int b, .int (c + 1)]))[n]? = some (.lst [.int a, .int b, .int (c + 1)]) := List.getElem?_set_self hl
  obtain ⟨σ, e⟩ := take_rest C (a := a) (b := b) (c := c + 1) (m := m) hn2 hm (by omega) (by omega)
  have e1 : run C (sHd f__law_take.body) [some (.cel n), some (.d (.int m)), none, none, none, none] h = .ok (.nx, [some (.cel n), some (.d (.int m)), none, none, none, none]) h := by
    simp [f__law_take, sHd, run, sem, mkV, mkT, smCons, smNil, R.bind, bs_ok, noX_ok, L2.atI, L2.ixN, gt_int, truD, ha, hn, lstC, ixD, seqIx, vw]
  have e2 : run C (sHd (sTl f__law_take.body)) [some (.cel n), some (.d (.int m)), none, none, none, none] h = .ok (.nx, [some (.cel n), some (.d (.int m)), none, none, none, none]) (h.set n (.lst [.int a, .int b, .int (c + 1)])) := by
    simp [f__law_take, sHd, sTl, run, sem, mkV, mkT, smCons, smNil, R.bind, bs_ok, noX_ok, L2.atI, L2.ixN, binD, arI, stoD, hn, lstC, ixD, seqIx, vw]
  have eb : f__law_take.body = .seq (sHd f__law_take.body) (.seq (sHd (sTl f__law_take.body)) tkR) := rfl
  have e3 : run C f__law_take.body (startE f__law_take [.cel n, .d (.int m)]) h = .ok (.rt (.d (.int (tkV b (c + 1) m))), σ) (h.set n (.lst [.int a, .int b, .int (c + 1)])) := by
    show run C f__law_take.body [some (.cel n), some (.d (.int m)), none, none, none, none] h = _
    rw [eb, seq_nx C e1, seq_nx C e2, e]
  rw [runF_rt C rfl e3]
  have : (h.set n (Cell.lst [.int a, .int b, .int (c + 1)])).take h.length = h.set n (.lst [.int a, .int b, .int (c + 1)]) := List.take_of_length_le (by simp)
  simp only [leave, this]
theorem tkV_lt (b c : Int) {m : Int} (hm : 0 < m) : 0 ≤ tkV b c m ∧ tkV b c m < m := by
  unfold tkV
  exact ⟨Int.emod_nonneg _ (by omega), Int.emod_lt_of_pos _ hm⟩
/-- a box of draws at n, of which c at the most are done -/
def BoxAt (n : Nat) (h : Hs) (c : Nat) : Prop := ∃ a b c' : Int, h[n]? = some (.lst [.int a, .int b, .int c']) ∧ 0 ≤ c' ∧ c' ≤ c
/-- nothing but the box is changed -/
def OB (n : Nat) (h h' : Hs) : Prop := h'.length = h.length ∧ ∀ j, j ≠ n → h'[j]? = h[j]?
theorem OB.refl (n : Nat) (h : Hs) : OB n h h := ⟨rfl, fun _ _ => rfl⟩
theorem OB.trans {n : Nat} {h h1 h2 : Hs} (a : OB n h h1) (b : OB n h1 h2) : OB n h h2 := ⟨b.1.trans a.1, fun j hj => (b.2 j hj).trans (a.2 j hj)⟩
theorem OB.get {n j : Nat} {h h' : Hs} (a : OB n h h') {c : Cell} (ne : j ≠ n) (e : h[j]? = some c) : h'[j]? = some c := (a.2 j ne).trans e
theorem ob_set {n : Nat} {h : Hs} {c : Cell} : OB n h (h.set n c) := ⟨by simp, fun j hj => List.getElem?_set_ne (fun z => hj z.symm)⟩
theorem BoxAt.mono {n : Nat} {h : Hs} {c d : Nat} (b : BoxAt n h c) (hd : c ≤ d) : BoxAt n h d := by
  obtain ⟨a, b, c', h1, h2, h3⟩ := b
  exact ⟨a, b, c', h1, h2, by omega⟩
theorem take_ok {n c : Nat} {h : Hs} {m : Int} (hb : BoxAt n h c) (hm : 0 < m) (hm2 : m < 1073741824) (hc2 : c < 999999) :
    ∃ (r : Nat) (h' : Hs), (r : Int) < m ∧ BoxAt n h' (c + 1) ∧ OB n h h' ∧ runF C f__law_take [.cel n, .d (.int m)] h = .ok (.d (.int (r : Int))) h' := by
  obtain ⟨a, b, c', hn, h0, h1⟩ := hb
  have hl : n < h.length := (List.getElem?_eq_some_iff.mp hn).1
  by_cases ha : 0 < a
  · obtain ⟨j, hj⟩ := Int.eq_ofNat_of_zero_le (Int.emod_nonneg a (by omega : m ≠ 0))
    refine ⟨j, h.set n (.lst [.int (a / m), .int b, .int c']), ?_, ⟨_, _, _, List.getElem?_set_self hl, h0, by omega⟩, ob_set, ?_⟩
    · rw [← hj]; exact Int.emod_lt_of_pos _ hm
    · rw [← hj]; exact take_big C hn hm hm2 ha
  · obtain ⟨k0, k1⟩ := tkV_lt b (c' + 1) hm
    obtain ⟨j, hj⟩ := Int.eq_ofNat_of_zero_le k0
    refine ⟨j, h.set n (.lst [.int a, .int b, .int (c' + 1)]), ?_, ⟨_, _, _, List.getElem?_set_self hl, by omega, by omega⟩, ob_set, ?_⟩
    · rw [← hj]; exact k1
    · rw [← hj]; exact take_small C hn hm ha h0 (by omega)
/-- one of a row -/
theorem of_ok {n : Nat} {h h' : Hs} {w : PyData} {xs : List PyData} {r : Nat} {v : PyData} (hw : w = .list xs ∨ w = .tuple xs) (hc : C (Str.ofString "_law_take") [.cel n, .d (.int (xs.length : Int))] h = .ok (.d (.int (r : Int))) h') (hv : xs[r]? = some v) (hl : h'.length = h.length) :
    runF C f__law_of [.cel n, .d w] h = .ok (.d v) h' := by
  have e := at_nat hv
  have ln : biD .len false [.d w] h = .ok (.d (.int (xs.length : Int))) h := by rcases hw with rfl | rfl <;> rfl
  have ix : ixD (.d w) (.d (.int (r : Int))) h' = .ok (.d v) h' := by
    rcases hw with rfl | rfl <;> simp only [ixD, seqIx, vw, e]
  have e2 : run C f__law_of.body (startE f__law_of [.cel n, .d w]) h = .ok (.rt (.d v), [some (.cel n), some (.d w)]) h' := by
    have eb : f__law_of.body = .seq (.ret (.ix (.var 1) (.call (Str.ofString "_law_take") false (.cons (.var 0) (.cons (.bi .len false (.cons (.var 1) .nil)) .nil))))) .nil := rfl
    show run C f__law_of.body [some (.cel n), some (.d w)] h = _
    rw [eb]
    refine seq_rt C (ret_ok C ?_)
    have ec : (sem C (.call (Str.ofString "_law_take") false (.cons (.var 0) (.cons (.bi .len false (.cons (.var 1) .nil)) .nil)))).v [some (.cel n), some (.d w)] h = .ok (.d (.int (r : Int))) h' := call2 C (x := .cel n) (y := .d (.int (xs.length : Int))) (h1 := h) (h2 := h) rfl (bi1 C (x := .d w) (h1 := h) rfl ln) hc
    show ((R.ok (D.d w) h).bind fun x h1 => ((sem C (.call (Str.ofString "_law_take") false (.cons (.var 0) (.cons (.bi .len false (.cons (.var 1) .nil)) .nil)))).v [some (.cel n), some (.d w)] h1).bind fun y h2 => noX (ixD x y h2)) = _
    simp only [R.bind, ec, ix, noX_ok]
  rw [runF_rt C rfl e2]
  simp only [leave]
  rw [List.take_of_length_le (by omega)]
end
end En
/-! cells and boxes -/
namespace En
open PySem L2
section
variable (C : Str → List D → Hs → R D)
def clB : S := match f__law_cells.body with
  | .seq _ (.seq (.for_ _ _ b) _) => b
  | _ => .nil
abbrev clF : D → Env → Hs → R (Fl × Env) := fun x σ1 h2 => match bindTg (.tp [3, 4]) x σ1 with
  | some σ2 => run C clB σ2 h2
  | none => .no
theorem ixN_nat {n j : Nat} {i : Int} (h0 : i = (j : Int)) (h1 : j < n) : L2.ixN n i = some j := by
  subst h0
  unfold L2.ixN
  rw [if_pos (by omega), if_pos (by omega), Int.toNat_natCast]
theorem cells_step {n : Nat} {h : Hs} {cs : List Int} {m : Nat} {k : Nat} {y : Int} {s : D} {z3 z4 z5 : Option D} (hn : h[n]? = some (.lst (cs.map .int))) (hm : 0 < m) (hl : cs.length = m) (hk : k < 1000) :
    ∃ v, clF C (.wtp [.int (k : Int), .int y]) [some s, some (.d (.int (m : Int))), some (.cel n), z3, z4, z5] h =
      .ok (.nx, [some s, some (.d (.int (m : Int))), some (.cel n), some (.d (.int (k : Int))), some (.d (.int y)), some (.d (.int ((k : Int) % (m : Int))))]) (h.set n (.lst ((cs.set (k % m) v).map .int))) := by
  have hj : k % m < m := Nat.mod_lt _ hm
  have e1 : (k : Int) % (m : Int) = ((k % m : Nat) : Int) := by simp
  have e2 : L2.ixN (cs.map PyData.int).length ((k : Int) % (m : Int)) = some (k % m) := ixN_nat e1 (by simp; omega)
  have e3 : L2.atI (cs.map PyData.int) ((k : Int) % (m : Int)) = some (.int (cs[k % m]'(by omega))) := by
    unfold L2.atI
    rw [e2]
    simp only [Option.bind_some, List.getElem?_map]
    rw [List.getElem?_eq_getElem (by omega)]
    rfl
  have e4 : cmul y ((k : Int) + 2) = true := by unfold cmul; exact decide_eq_true (.inr (by omega))
  have e5 : (0 : Int) < (m : Int) := by omega
  refine ⟨cs[k % m]'(by omega) + y * ((k : Int) + 2), ?_⟩
  rw [List.map_set]
  simp [clF, clB, f__law_cells, bindTg, tupItems, setAll, run, sem, mkV, mkT, smCons, smNil, R.bind, bs_ok, noX_ok, biD, binD, arI, ixD, seqIx, vw, hn, lstC, e2, e3, e4, e5, hm, stoD, -List.length_map]
theorem cells_loop {n m : Nat} {s : D} (hm : 0 < m) : ∀ (ys : List Int) (k : Nat) (h : Hs) (cs : List Int) (z3 z4 z5 : Option D), h[n]? = some (.lst (cs.map .int)) → cs.length = m → k + ys.length ≤ 1000 →
    ∃ (cs' : List Int) (w3 w4 w5 : Option D), cs'.length = m ∧ loopF (clF C) (enumP k (ys.map .int)) [some s, some (.d (.int (m : Int))), some (.cel n), z3, z4, z5] h =
      .ok (.nx, [some s, some (.d (.int (m : Int))), some (.cel n), w3, w4, w5]) (h.set n (.lst (cs'.map .int)))
  | [], k, h, cs, z3, z4, z5, hn, hl, hk => by
    refine ⟨cs, z3, z4, z5, hl, ?_⟩
    have : h.set n (.lst (cs.map .int)) = h := by
      obtain ⟨h1, h2⟩ := List.getElem?_eq_some_iff.mp hn
      rw [← h2, List.set_getElem_self]
    rw [this]
    rfl
  | y :: ys, k, h, cs, z3, z4, z5, hn, hl, hk => by
    have hlen : n < h.length := (List.getElem?_eq_some_iff.mp hn).1
    simp only [List.length_cons] at hk
    obtain ⟨v, e⟩ := cells_step C (y := y) (s := s) (z3 := z3) (z4 := z4) (z5 := z5) hn hm hl (k := k) (by omega)
    obtain ⟨cs', w3, w4, w5, q1, q2⟩ := cells_loop hm ys (k + 1) (h.set n (.lst ((cs.set (k % m) v).map .int))) (cs.set (k % m) v) (some (.d (.int (k : Int)))) (some (.d (.int y))) (some (.d (.int ((k : Int) % (m : Int))))) (List.getElem?_set_self hlen) (by simp [hl]) (by omega)
    refine ⟨cs', w3, w4, w5, q1, ?_⟩
    rw [List.set_set] at q2
    rw [List.map_cons, enumP, loop_nx e]
    exact q2
theorem cut_lo (ns : List Int) (m : Nat) : cutP (ns.map PyData.int) none (some (m : Int)) = (ns.take m).map .int := by rw [cutP_to, List.map_take]
theorem cut_hi (ns : List Int) (m : Nat) (hl : ns.length ≤ 63) : cutP (ns.map PyData.int) (some (m : Int)) (some 63) = (ns.drop m).map .int := by
  have e : (63 : Int) = ((63 : Nat) : Int) := rfl
  unfold cutP
  rw [e, HT.sIx_nat, HT.sIx_nat, List.length_map, ← List.map_drop, ← List.map_take]
  congr 1
  rw [Nat.min_eq_right hl]
  by_cases h : m ≤ ns.length
  · rw [Nat.min_eq_left h, List.take_of_length_le (by simp)]
  · rw [Nat.min_eq_right (by omega), List.drop_of_length_le (Nat.le_refl _), List.drop_of_length_le (by omega), List.take_nil]
def clR : S := match f__law_cells.body with
  | .seq _ r => r
  | _ => .nil
theorem cells_ok {ns : List Int} {m : Nat} {h : Hs} (hm : 0 < m) (hl : ns.length ≤ 63) : ∃ cs : List Int, 0 < cs.length ∧ cs.length ≤ m ∧ runF C f__law_cells [.scr ns, .d (.int (m : Int))] h = .ok (.d (.list (cs.map .int))) h := by
  have hz : sizeLine = 16777216 := sizeLine_eq
  have rest : ∀ (hh : Hs) (n : Nat) (cs : List Int), hh[n]? = some (.lst (cs.map .int)) → (ns.length ≤ m ∨ cs.length = m) → ∃ (cs' : List Int) (σ : Env), cs'.length = cs.length ∧
      run C clR [some (.scr ns), some (.d (.int (m : Int))), some (.cel n), none, none, none] hh = .ok (.rt (.d (.list (cs'.map .int))), σ) (hh.set n (.frz (cs'.map .int))) := by
    intro hh n cs hn hc
    have hlen : n < hh.length := (List.getElem?_eq_some_iff.mp hn).1
    have lp : ∃ (cs' : List Int) (w3 w4 w5 : Option D), cs'.length = cs.length ∧ loopF (clF C) (enumP 0 ((ns.drop m).map .int)) [some (.scr ns), some (.d (.int (m : Int))), some (.cel n), none, none, none] hh = .ok (.nx, [some (.scr ns), some (.d (.int (m : Int))), some (.cel n), w3, w4, w5]) (hh.set n (.lst (cs'.map .int))) := by
      rcases hc with hc | hc
      · refine ⟨cs, none, none, none, rfl, ?_⟩
        rw [List.drop_of_length_le hc]
        have : hh.set n (.lst (cs.map .int)) = hh := by
          obtain ⟨h1, h2⟩ := List.getElem?_eq_some_iff.mp hn
          rw [← h2, List.set_getElem_self]
        rw [this]
        rfl
      · obtain ⟨cs', w3, w4, w5, q1, q2⟩ := cells_loop C (s := .scr ns) hm (ns.drop m) 0 hh cs none none none hn hc (by simp; omega)
        exact ⟨cs', w3, w4, w5, by omega, q2⟩
    obtain ⟨cs', w3, w4, w5, q1, q2⟩ := lp
    refine ⟨cs', [some (.scr ns), some (.d (.int (m : Int))), some (.cel n), w3, w4, w5], q1, ?_⟩
    have hs : (hh.set n (.lst (cs'.map .int)))[n]? = some (.lst (cs'.map .int)) := List.getElem?_set_self hlen
    have er : clR = .seq (.for_ (.tp [3, 4]) (.enu (.sl (.var 0) (.cons (.var 1) .nil) (.cons (.cst (.int (63))) .nil))) clB) (.seq (.ret (.fz (.var 2))) .nil) := rfl
    have ei : (sem C (.enu (.sl (.var 0) (.cons (.var 1) .nil) (.cons (.cst (.int (63))) .nil)))).it [some (.scr ns), some (.d (.int (m : Int))), some (.cel n), none, none, none] hh = .ok (enumP 0 ((ns.drop m).map .int)) hh := by
      simp [sem, mkV, mkI, smCons, smNil, R.bind, noX_ok, slD, bnd, vw, cut_hi ns m hl, enuW, vwF]
    have e1 : run C (.for_ (.tp [3, 4]) (.enu (.sl (.var 0) (.cons (.var 1) .nil) (.cons (.cst (.int (63))) .nil))) clB) [some (.scr ns), some (.d (.int (m : Int))), some (.cel n), none, none, none] hh = .ok (.nx, [some (.scr ns), some (.d (.int (m : Int))), some (.cel n), w3, w4, w5]) (hh.set n (.lst (cs'.map .int))) := by
      rw [run, ei, bs_ok]
      exact q2
    rw [er, seq_nx C e1]
    refine seq_rt C (ret_ok C ?_)
    simp [sem, mkV, R.bind, noX_ok, fzD, hs]
  have eb : f__law_cells.body = .seq (.asg 2 (.bop .Or (.cons (.bi .list true (.cons (.sl (.var 0) .nil (.cons (.var 1) .nil)) .nil)) (.cons (.lst true (.cons (.cst (.int (0))) .nil)) .nil)))) clR := rfl
  have fin : ∀ (hh : Hs) (n : Nat) (cs : List Int), (sem C (.bop .Or (.cons (.bi .list true (.cons (.sl (.var 0) .nil (.cons (.var 1) .nil)) .nil)) (.cons (.lst true (.cons (.cst (.int (0))) .nil)) .nil)))).v [some (.scr ns), some (.d (.int (m : Int))), none, none, none, none] h = .ok (.cel n) hh →
      hh[n]? = some (.lst (cs.map .int)) → h.length ≤ n → hh.take h.length = h → (ns.length ≤ m ∨ cs.length = m) → ∃ cs' : List Int, cs'.length = cs.length ∧ runF C f__law_cells [.scr ns, .d (.int (m : Int))] h = .ok (.d (.list (cs'.map .int))) h := by
    intro hh n cs e hn hle ht hc
    obtain ⟨cs', σ, q1, q2⟩ := rest hh n cs hn hc
    refine ⟨cs', q1, ?_⟩
    have e2 : run C f__law_cells.body (startE f__law_cells [.scr ns, .d (.int (m : Int))]) h = .ok (.rt (.d (.list (cs'.map .int))), σ) (hh.set n (.frz (cs'.map .int))) := by
      show run C f__law_cells.body [some (.scr ns), some (.d (.int (m : Int))), none, none, none, none] h = _
      rw [eb, seq_nx C (asg_ok C e)]
      exact q2
    rw [runF_rt C rfl e2]
    simp only [leave]
    rw [List.take_set_of_le hle, ht]
  cases ns with
  | nil =>
    obtain ⟨cs', q1, q2⟩ := fin (h ++ [.lst []] ++ [.lst [.int 0]]) (h.length + 1) [0] (by simp [sem, mkV, mkT, smCons, smNil, R.bind, noX_ok, slD, bnd, vw, cutP, biD, mkL, truD, lstC, sel, lstD, plainL, hz]) (by simp) (by omega) (by simp) (.inl (by simp))
    exact ⟨cs', by simp at q1; omega, by simp at q1; omega, q2⟩
  | cons x ns =>
    have hx : (x :: ns).take m ≠ [] := by
      cases m with
      | zero => omega
      | succ m => simp
    obtain ⟨cs', q1, q2⟩ := fin (h ++ [.lst (((x :: ns).take m).map .int)]) h.length ((x :: ns).take m) (by
      have c := cut_lo (x :: ns) m
      have hl2 : (((x :: ns).take m).map PyData.int).length ≤ sizeLine := by simp at hl ⊢; omega
      have he : (((x :: ns).take m).map PyData.int).isEmpty = false := by
        cases hq : (x :: ns).take m with
        | nil => exact absurd hq hx
        | cons _ _ => rfl
      generalize x :: ns = ws at c hl2 he
      generalize (ws.take m).map PyData.int = us at c hl2 he
      simp [sem, mkV, mkT, smCons, smNil, R.bind, noX_ok, slD, bnd, vw, biD, c, mkL, hl2, truD, lstC, sel, he]) (by simp) (Nat.le_refl _) (by simp) (by
      by_cases hh : (x :: ns).length ≤ m
      · exact .inl hh
      · refine .inr ?_
        rw [List.length_take]
        omega)
    refine ⟨cs', ?_, ?_, q2⟩
    · rw [q1]
      exact List.length_pos_iff.mpr hx
    · rw [q1, List.length_take]
      omega
theorem box_ok {cs : List Int} {k : Nat} {h : Hs} (hk : k < cs.length) (hl : cs.length ≤ 1000) : ∃ a b : Int, runF C f__law_box [.d (.list (cs.map .int)), .d (.int (k : Int))] h = .ok (.cel h.length) (h ++ [.lst [.int a, .int b, .int 0]]) := by
  have e1 : L2.atI (cs.map PyData.int) (k : Int) = some (.int cs[k]) := at_nat (by simp [hk])
  generalize cs[k] = v at e1
  have hlt : (k : Int) < (cs.length : Int) := by omega
  have hz : sizeLine = 16777216 := sizeLine_eq
  have m1 : cmul 39373 (k : Int) = true := by unfold cmul; exact decide_eq_true (.inl (by omega))
  have m2 : ∀ (x : Int) (p : Prop) [Decidable p], cmul x (if p then 1 else 0) = true := fun x p _ => by
    unfold cmul
    refine decide_eq_true (.inr ?_)
    by_cases hp : p <;> simp [hp]
  refine ⟨(if v < 0 then -v else v) * (if decide (1000000000000000000 ≤ (if v < 0 then -v else v)) = true then 1 else 0), v % 2305843009213693951 + 39373 * (k : Int) + 281, ?_⟩
  simp only [f__law_box, runF, startE, run, sem, mkV, mkT, smCons, smNil, R.bind, bs_ok, noX_ok, List.length_cons, List.length_nil, List.map_cons, List.map_nil, List.cons_append, List.nil_append]
  simp [lt_int, ge_int, lenD, vw, lstC, hlt, hk, truD, R.bind, bs_ok, noX_ok, ixD, seqIx, e1, biD, binD, arI, m1, m2, lstD, plainL, mkL, hz, leave]
end
end En
/-! drawn templates -/
namespace En
open PySem L2
/-- draws and joins, as called -/
structure Dr0 (C : Str → List D → Hs → R D) : Prop where
  T : ∀ {n c : Nat} {h : Hs} {m : Int}, BoxAt n h c → 0 < m → m < 1073741824 → c < 999999 → ∃ (r : Nat) (h' : Hs), (r : Int) < m ∧ BoxAt n h' (c + 1) ∧ OB n h h' ∧ C (Str.ofString "_law_take") [.cel n, .d (.int m)] h = .ok (.d (.int (r : Int))) h'
  O : ∀ {n c : Nat} {h : Hs} {w : PyData} {xs : List PyData}, BoxAt n h c → (w = .list xs ∨ w = .tuple xs) → 0 < xs.length → xs.length < 1000 → c < 999999 → ∃ (v : PyData) (h' : Hs), v ∈ xs ∧ BoxAt n h' (c + 1) ∧ OB n h h' ∧ C (Str.ofString "_law_of") [.cel n, .d w] h = .ok (.d v) h'
structure Dr (C : Str → List D → Hs → R D) : Prop extends Dr0 C where
  J : ∀ {x : D} {h : Hs} {ps : List Pc}, seqD x = some (ps.map fun p => D.d (pd p)) → tot ps ≤ 10000 → ps.length ≤ 10000 → C (Str.ofString "_law_joined") [x] h = .ok (.d (tpd (jn ps))) h
theorem dr0_of {P : Prog} (h1 : P.lookup (Str.ofString "_law_take") = some f__law_take) (h2 : P.lookup (Str.ofString "_law_of") = some f__law_of) (k : Nat) : Dr0 (callN P (k + 2)) where
  T := fun hb hm hm2 hc => by
    obtain ⟨r, h', a, b, c, d⟩ := take_ok (callN P (k + 1)) hb hm hm2 hc
    exact ⟨r, h', a, b, c, by rw [cn h1]; exact d⟩
  O := fun {n c h w xs} hb hw hx hx2 hc => by
    obtain ⟨r, h', a, b, e, d⟩ := take_ok (callN P k) hb (m := (xs.length : Int)) (by omega) (by omega) hc
    have hr : r < xs.length := by omega
    refine ⟨xs[r], h', List.getElem_mem hr, b, e, ?_⟩
    rw [cn h2]
    exact of_ok (callN P (k + 1)) hw (by rw [cn h1]; exact d) (List.getElem?_eq_getElem hr) e.1
theorem dr_of {P : Prog} (h1 : P.lookup (Str.ofString "_law_take") = some f__law_take) (h2 : P.lookup (Str.ofString "_law_of") = some f__law_of) (h3 : P.lookup (Str.ofString "_law_joined") = some f__law_joined) (k : Nat) : Dr (callN P (k + 2)) where
  toDr0 := dr0_of h1 h2 k
  J := fun hx ht hl => by
    rw [cn h3]
    exact jl_ok (callN P (k + 1)) hx ht hl
section
variable (C : Str → List D → Hs → R D)
theorem tup2 {a b : E} {σ : Env} {h h1 h2 : Hs} {x y : PyData} (ha : (sem C a).v σ h = .ok (.d x) h1) (hb : (sem C b).v σ h1 = .ok (.d y) h2) : (sem C (.tup (.cons a (.cons b .nil)))).v σ h = .ok (.d (.tuple [x, y])) h2 := by
  have hz : sizeLine = 16777216 := sizeLine_eq
  show (((sem C a).v σ h).bind fun x h1 => (((sem C b).v σ h1).bind fun y h2 => (R.ok [] h2).bind fun xs h3 => .ok (y :: xs) h3).bind fun xs h2 => .ok (x :: xs) h2).bind _ = _
  rw [ha]
  show ((((sem C b).v σ h1).bind fun y h2 => (R.ok [] h2).bind fun xs h3 => .ok (y :: xs) h3).bind fun xs h2 => .ok (D.d x :: xs) h2).bind _ = _
  rw [hb]
  show noX (tupD [.d x, .d y] h2) = _
  simp [tupD, plainL, hz, noX_ok]
theorem app_ok {i L : Nat} {a : E} {σ : Env} {h h' : Hs} {xs xs' : List PyData} {v : PyData} (hi : σ[i]? = some (some (.cel L))) (h0 : h[L]? = some (.lst xs')) (ha : (sem C a).v σ h = .ok (.d v) h') (hL : h'[L]? = some (.lst xs)) (hl : xs.length ≤ 10000) :
    run C (.exp (.mth .append (.var i) (.cons a .nil))) σ h = .ok (.nx, σ) (h'.set L (.lst (xs ++ [v]))) := by
  have hz : sizeLine = 16777216 := sizeLine_eq
  refine exp_ok C (x := .d .none) ?_
  have e0 : (sem C (.var i)).v σ h = .ok (.cel L) h := by simp only [sem, mkV, hi]
  have e1 : rcvOk .append (.cel L) h = true := by simp [rcvOk, vwL, h0, lstC]
  show ((sem C (.var i)).v σ h).bind _ = _
  rw [e0]
  show (if rcvOk .append (.cel L) h then ((((sem C a).v σ h).bind fun x h1 => (R.ok [] h1).bind fun xs h2 => .ok (x :: xs) h2).bind fun ds h2 => noX (mthD .append (.cel L) ds h2)) else .no) = _
  rw [e1, if_pos rfl, ha]
  show noX (mthD .append (.cel L) [.d v] h') = _
  have e2 : mthD .append (.cel L) [.d v] h' = .ok (.d .none) (h'.set L (.lst (xs ++ [v]))) := by
    simp only [mthD, hL]
    rw [if_pos (by omega)]
  rw [e2, noX_ok]
def FI (n L : Nat) (h g : Hs) (bits : List Pc) (c : Nat) : Prop := n < L ∧ g.length = L + 1 ∧ BoxAt n g c ∧ (∀ j, j ≠ n → j < L → g[j]? = h[j]?) ∧ g[L]? = some (.lst (bits.map pd))
theorem FI.ob {n L c c' : Nat} {h g g' : Hs} {bits : List Pc} (I : FI n L h g bits c) (o : OB n g g') (b : BoxAt n g' c') : FI n L h g' bits c' :=
  ⟨I.1, o.1.trans I.2.1, b, fun j hj hl => (o.2 j hj).trans (I.2.2.2.1 j hj hl), (o.2 L (by have := I.1; omega)).trans I.2.2.2.2⟩
theorem FI.set {n L c : Nat} {h g : Hs} {bits bits' : List Pc} (I : FI n L h g bits c) : FI n L h (g.set L (.lst (bits'.map pd))) bits' c := by
  obtain ⟨a, b, ⟨x, y, z, hb, hb2⟩, d, e⟩ := I
  have nL : ∀ j, j < L → (g.set L (.lst (bits'.map pd)))[j]? = g[j]? := fun j hj => List.getElem?_set_ne (by omega)
  exact ⟨a, by simpa using b, ⟨x, y, z, (nL n a).trans hb, hb2⟩, fun j hj hl => (nL j hl).trans (d j hj hl), List.getElem?_set_self (by omega)⟩
abbrev tagsP : PyData := .tuple [.str ⟨#[97]⟩, .str ⟨#[108, 111, 99, 107]⟩]
abbrev wordsP : List PyData := [.str ⟨#[45]⟩, .str ⟨#[45]⟩, .str ⟨#[45]⟩, .str ⟨#[46]⟩, .str ⟨#[97]⟩, .str ⟨#[49]⟩, .str ⟨#[108, 111, 99, 107, 45]⟩]
theorem tag_is {v : PyData} (h : v ∈ [.str ⟨#[97]⟩, .str ⟨#[108, 111, 99, 107]⟩]) : ∃ s : Str, v = .str s ∧ s.length ≤ 4 := by
  simp only [List.mem_cons, List.not_mem_nil, or_false] at h
  rcases h with rfl | rfl <;> exact ⟨_, rfl, by decide⟩
theorem word_is {v : PyData} (h : v ∈ wordsP) : ∃ s : Str, v = .str s ∧ s.length ≤ 5 := by
  simp only [List.mem_cons, List.not_mem_nil, or_false] at h
  rcases h with rfl | rfl | rfl | rfl | rfl | rfl | rfl <;> exact ⟨_, rfl, by decide⟩
def fmB : S := match f__law_form.body with
  | .seq _ (.seq (.for_ _ _ b) _) => b
  | _ => .nil
abbrev fmC : E := .cmp .Lt (.call (Str.ofString "_law_take") false (.cons (.var 0) (.cons (.cst (.int (5))) .nil))) (.cst (.int (3)))
abbrev fmF : E := .tup (.cons (.cst (.str ⟨#[102, 105, 101, 108, 100]⟩)) (.cons (.call (Str.ofString "_law_of") false (.cons (.var 0) (.cons (.var 1) .nil))) .nil))
abbrev fmW : E := .lst false (.cons (.cst (.str ⟨#[45]⟩)) (.cons (.cst (.str ⟨#[45]⟩)) (.cons (.cst (.str ⟨#[45]⟩)) (.cons (.cst (.str ⟨#[46]⟩)) (.cons (.cst (.str ⟨#[97]⟩)) (.cons (.cst (.str ⟨#[49]⟩)) (.cons (.cst (.str ⟨#[108, 111, 99, 107, 45]⟩)) .nil)))))))
abbrev fmT : E := .tup (.cons (.cst (.str ⟨#[116, 101, 120, 116]⟩)) (.cons (.call (Str.ofString "_law_of") false (.cons (.var 0) (.cons fmW .nil))) .nil))
theorem fmB_eq : fmB = .seq (.ite fmC (.seq (.exp (.mth .append (.var 3) (.cons fmF .nil))) .nil) .nil) (.seq (.exp (.mth .append (.var 3) (.cons fmT .nil))) .nil) := rfl
theorem fmW_ok (σ : Env) (h : Hs) : (sem C fmW).v σ h = .ok (.d (.list wordsP)) h := by
  have hz : sizeLine = 16777216 := sizeLine_eq
  simp [sem, mkV, smCons, smNil, R.bind, lstD, plainL, mkL, hz, noX_ok]
theorem form_step (dr : Dr C) {n L c : Nat} {h g : Hs} {bits : List Pc} {s t : D} (I : FI n L h g bits c) (hc : c ≤ 990000) (hl : bits.length ≤ 5000) :
    ∃ (g' : Hs) (ex : List Pc), ex.length ≤ 2 ∧ tot ex ≤ 9 ∧ FI n L h g' (bits ++ ex) (c + 3) ∧ run C fmB [some (.cel n), some (.d tagsP), some s, some (.cel L), some t] g = .ok (.nx, [some (.cel n), some (.d tagsP), some s, some (.cel L), some t]) g' := by
  obtain ⟨r, g1, hr, b1, o1, e1⟩ := dr.T I.2.2.1 (m := 5) (by omega) (by omega) (by omega)
  have I1 := I.ob o1 b1
  have ec : (sem C fmC).t [some (.cel n), some (.d tagsP), some s, some (.cel L), some t] g = .ok (decide ((r : Int) < 3)) g1 := by
    have q := call2 C (f := Str.ofString "_law_take") (a := .var 0) (b := .cst (.int 5)) (σ := [some (.cel n), some (.d tagsP), some s, some (.cel L), some t]) (h := g) (h1 := g) (h2 := g) rfl rfl e1
    show (((sem C (.call (Str.ofString "_law_take") false (.cons (.var 0) (.cons (.cst (.int (5))) .nil)))).v [some (.cel n), some (.d tagsP), some s, some (.cel L), some t] g).bind fun x h1 => (R.ok (D.d (.int 3)) h1).bind fun y h2 => noX (cmpD .Lt x y h2)).bind _ = _
    rw [q]
    simp only [R.bind, lt_int, noX_ok, truD]
  -- the text that ends a turn
  have fin : ∀ {g2 : Hs} {bb : List Pc} {c2 : Nat}, FI n L h g2 bb c2 → c2 ≤ 990002 → bb.length ≤ 5001 → ∃ (g' : Hs) (w : Str), w.length ≤ 5 ∧ FI n L h g' (bb ++ [(true, w)]) (c2 + 1) ∧ run C (.seq (.exp (.mth .append (.var 3) (.cons fmT .nil))) .nil) [some (.cel n), some (.d tagsP), some s, some (.cel L), some t] g2 = .ok (.nx, [some (.cel n), some (.d tagsP), some s, some (.cel L), some t]) g' := by
    intro g2 bb c2 I2 hc2 hl2
    obtain ⟨v, g3, hv, b3, o3, e3⟩ := dr.O I2.2.2.1 (w := .list wordsP) (xs := wordsP) (.inl rfl) (by simp) (by simp) (by omega)
    obtain ⟨w, rfl, hw⟩ := word_is hv
    have I3 := I2.ob o3 b3
    have et : (sem C fmT).v [some (.cel n), some (.d tagsP), some s, some (.cel L), some t] g2 = .ok (.d (pd (true, w))) g3 := tup2 C (x := .str sTEXT) (h1 := g2) rfl (call2 C (x := .cel n) (h1 := g2) rfl (fmW_ok C _ _) e3)
    have ea := app_ok C (i := 3) rfl I2.2.2.2.2 et I3.2.2.2.2 (by simp; omega)
    refine ⟨g3.set L (.lst ((bb ++ [(true, w)]).map pd)), w, hw, I3.set, ?_⟩
    rw [seq_nx C ea, run_nil]
    simp
  by_cases h3 : (r : Int) < 3
  · rw [decide_eq_true h3] at ec
    obtain ⟨v, g2, hv, b2, o2, e2⟩ := dr.O b1 (w := tagsP) (xs := [.str ⟨#[97]⟩, .str ⟨#[108, 111, 99, 107]⟩]) (.inr rfl) (by simp) (by simp) (by omega)
    obtain ⟨w, rfl, hw⟩ := tag_is hv
    have I2 := I1.ob o2 b2
    have ef : (sem C fmF).v [some (.cel n), some (.d tagsP), some s, some (.cel L), some t] g1 = .ok (.d (pd (false, w))) g2 := tup2 C (x := .str sFIELD) (h1 := g1) rfl (call2 C (x := .cel n) (y := .d tagsP) (h1 := g1) (h2 := g1) rfl rfl e2)
    have ea := app_ok C (i := 3) rfl I1.2.2.2.2 ef I2.2.2.2.2 (by simp; omega)
    have I3 : FI n L h (g2.set L (.lst ((bits ++ [(false, w)]).map pd))) (bits ++ [(false, w)]) (c + 1 + 1) := I2.set
    obtain ⟨g', w', hw', I', e'⟩ := fin I3 (by omega) (by simp; omega)
    refine ⟨g', [(false, w), (true, w')], by simp, by simp [tot]; omega, by simpa using I', ?_⟩
    rw [fmB_eq, seq_nx C (by rw [ite_t C ec, seq_nx C ea, run_nil])]
    simpa using e'
  · rw [decide_eq_false h3] at ec
    obtain ⟨g', w', hw', I', e'⟩ := fin I1 (by omega) (by omega)
    refine ⟨g', [(true, w')], by simp, by simp [tot]; omega, ?_, ?_⟩
    · obtain ⟨a, b, d, e⟩ := I'
      exact ⟨a, b, d.mono (by omega), e⟩
    · rw [fmB_eq, seq_nx C (by rw [ite_f C ec, run_nil])]
      exact e'
abbrev fmL : D → Env → Hs → R (Fl × Env) := fun x σ1 h2 => match bindTg (.nm 4) x σ1 with
  | some σ2 => run C fmB σ2 h2
  | none => .no
theorem form_loop (dr : Dr C) {n L : Nat} {h : Hs} {s : D} : ∀ (ds : List D) (c : Nat) (g : Hs) (bits : List Pc) (z : Option D), FI n L h g bits c → c + 3 * ds.length ≤ 990000 → bits.length + 2 * ds.length ≤ 5000 →
    ∃ (g' : Hs) (ex : List Pc) (z' : Option D), ex.length ≤ 2 * ds.length ∧ tot ex ≤ 9 * ds.length ∧ FI n L h g' (bits ++ ex) (c + 3 * ds.length) ∧ loopF (fmL C) ds [some (.cel n), some (.d tagsP), some s, some (.cel L), z] g = .ok (.nx, [some (.cel n), some (.d tagsP), some s, some (.cel L), z']) g'
  | [], c, g, bits, z, I, _, _ => ⟨g, [], z, by simp, by simp [tot], by simpa using I, loop_nil⟩
  | t :: ds, c, g, bits, z, I, hc, hl => by
    simp only [List.length_cons] at hc hl
    obtain ⟨g1, ex, q1, q2, I1, e1⟩ := form_step C dr (s := s) (t := t) I (by omega) (by omega)
    obtain ⟨g2, ex2, z', r1, r2, I2, e2⟩ := form_loop dr (s := s) ds (c + 3) g1 (bits ++ ex) (some t) I1 (by omega) (by simp; omega)
    refine ⟨g2, ex ++ ex2, z', by simp; omega, by rw [tot_app]; simp; omega, ?_, ?_⟩
    · obtain ⟨a, b, d, e⟩ := I2
      rw [List.append_assoc] at e
      exact ⟨a, b, d.mono (by simp; omega), e⟩
    · rw [loop_nx (σ' := [some (.cel n), some (.d tagsP), some s, some (.cel L), some t]) (h' := g1) e1]
      exact e2
theorem rngP_ln : ∀ (n : Nat) (i : Int), (rngP i n).length = n
  | 0, _ => rfl
  | n + 1, i => by simp [rngP, rngP_ln n]
theorem rngW_ok {z : Nat} (hz : z ≤ 1000) (h : Hs) : rngW (.d (.int (z : Int))) h = .ok (rngP 0 z) h := by
  simp only [rngW, Int.toNat_natCast]
  rw [if_pos]
  rw [decide_eq_true_eq]
  omega
abbrev fmR : E := .call (Str.ofString "_law_joined") false (.cons (.sl (.var 3) .nil (.cons (.bin .Add false (.call (Str.ofString "_law_take") false (.cons (.var 0) (.cons (.cst (.int (3))) .nil))) (.var 2)) .nil)) .nil)
end
end En
namespace En
open PySem L2
section
variable (C : Str → List D → Hs → R D)
theorem rng_it {a : E} {σ : Env} {h h1 : Hs} {z : Nat} (ha : (sem C a).v σ h = .ok (.d (.int (z : Int))) h1) (hz : z ≤ 1000) : (sem C (.rng a)).it σ h = .ok (rngP 0 z) h1 := by
  have e : (sem C (.rng a)).it σ h = ((sem C a).v σ h).bind fun x h1 => noX (rngW x h1) := rfl
  rw [e, ha, rb_ok, rngW_ok hz, noX_ok]
theorem tform_ok (dr : Dr C) {n c z : Nat} {h : Hs} (hb : BoxAt n h c) (hc : c ≤ 900000) (hz : z ≤ 4) :
    ∃ (ps : List Pc) (h' : Hs), Jd ps ∧ tot ps ≤ 36 ∧ ps.length ≤ 8 ∧ BoxAt n h' (c + 13) ∧ OB n h h' ∧ runF C f__law_form [.cel n, .d tagsP, .d (.int (z : Int))] h = .ok (.d (tpd ps)) h' := by
  have hs : sizeLine = 16777216 := sizeLine_eq
  have hn : n < h.length := by
    obtain ⟨_, _, _, e, _⟩ := hb
    exact (List.getElem?_eq_some_iff.mp e).1
  have I0 : FI n h.length h (h ++ [.lst ([].map pd)]) [] c := by
    obtain ⟨x, y, w, e, e2⟩ := hb
    exact ⟨hn, by simp, ⟨x, y, w, by rw [List.getElem?_append_left hn]; exact e, e2⟩, fun j _ hj => List.getElem?_append_left hj, by simp⟩
  obtain ⟨g1, ex, z', q1, q2, I1, e1⟩ := form_loop C dr (s := .d (.int (z : Int))) (rngP 0 z) c (h ++ [.lst ([].map pd)]) [] none I0 (by rw [rngP_ln]; omega) (by rw [rngP_ln]; simp; omega)
  rw [rngP_ln] at q1 q2 I1
  rw [List.nil_append] at I1
  obtain ⟨r, g2, hr, b2, o2, e2⟩ := dr.T I1.2.2.1 (m := 3) (by omega) (by omega) (by omega)
  have I2 := I1.ob o2 b2
  have ei : (sem C (.rng (.var 2))).it [some (.cel n), some (.d tagsP), some (.d (.int (z : Int))), some (.cel h.length), none] (h ++ [.lst []]) = .ok (rngP 0 z) (h ++ [.lst []]) := by
    refine rng_it C (z := z) (h1 := h ++ [.lst []]) ?_ (by omega)
    rfl
  have ea : run C (.asg 3 (.lst true .nil)) [some (.cel n), some (.d tagsP), some (.d (.int (z : Int))), none, none] h = .ok (.nx, [some (.cel n), some (.d tagsP), some (.d (.int (z : Int))), some (.cel h.length), none]) (h ++ [.lst []]) := by
    simp [run, sem, mkV, smNil, R.bind, bs_ok, noX_ok, lstD, plainL, mkL, hs]
  have ef : run C (.for_ (.nm 4) (.rng (.var 2)) fmB) [some (.cel n), some (.d tagsP), some (.d (.int (z : Int))), some (.cel h.length), none] (h ++ [.lst []]) = .ok (.nx, [some (.cel n), some (.d tagsP), some (.d (.int (z : Int))), some (.cel h.length), z']) g1 := by
    rw [run, ei, bs_ok]
    exact e1
  have esl : (sem C (.sl (.var 3) .nil (.cons (.bin .Add false (.call (Str.ofString "_law_take") false (.cons (.var 0) (.cons (.cst (.int (3))) .nil))) (.var 2)) .nil))).v [some (.cel n), some (.d tagsP), some (.d (.int (z : Int))), some (.cel h.length), z'] g1 = .ok (.d (.list ((ex.take (r + z)).map pd))) g2 := by
    have q := call2 C (f := Str.ofString "_law_take") (a := .var 0) (b := .cst (.int 3)) (σ := [some (.cel n), some (.d tagsP), some (.d (.int (z : Int))), some (.cel h.length), z']) (h := g1) (h1 := g1) (h2 := g1) rfl rfl e2
    have ct := cutP_to (ex.map pd) (r + z)
    have ecst : ((r : Int) + (z : Int)) = ((r + z : Nat) : Int) := by omega
    have eL := I2.2.2.2.2
    have sd : slD (.cel h.length) none (some (.d (.int ((r : Int) + (z : Int))))) g2 = .ok (.d (.list ((ex.take (r + z)).map pd))) g2 := by
      rw [ecst]
      simp only [slD, bnd, vw, eL, lstC, ct, List.map_take]
    show ((R.ok (D.cel h.length) g1).bind fun x h1 => (noX (R.ok none h1)).bind fun y h2 => (noX ((((sem C (.call (Str.ofString "_law_take") false (.cons (.var 0) (.cons (.cst (.int (3))) .nil)))).v [some (.cel n), some (.d tagsP), some (.d (.int (z : Int))), some (.cel h.length), z'] h2).bind fun x h1 => (R.ok (D.d (.int (z : Int))) h1).bind fun y h2 => noX (binD .Add false x y h2)).bind fun x h1 => R.ok (some x) h1)).bind fun z h3 => noX (slD x y z h3)) = _
    simp only [R.bind, noX_ok, q, binD, arI, sd]
  have hj := dr.J (x := .d (.list ((ex.take (r + z)).map pd))) (h := g2) (ps := ex.take (r + z)) (by simp only [seqD, List.map_map]; rfl) (by have := tot_take ex (r + z); omega) (by simp; omega)
  have er : (sem C fmR).v [some (.cel n), some (.d tagsP), some (.d (.int (z : Int))), some (.cel h.length), z'] g1 = .ok (.d (tpd (jn (ex.take (r + z))))) g2 := call1 C esl hj
  have eb : f__law_form.body = .seq (.asg 3 (.lst true .nil)) (.seq (.for_ (.nm 4) (.rng (.var 2)) fmB) (.seq (.ret fmR) .nil)) := rfl
  have e3 : run C f__law_form.body (startE f__law_form [.cel n, .d tagsP, .d (.int (z : Int))]) h = .ok (.rt (.d (tpd (jn (ex.take (r + z))))), [some (.cel n), some (.d tagsP), some (.d (.int (z : Int))), some (.cel h.length), z']) g2 := by
    show run C f__law_form.body [some (.cel n), some (.d tagsP), some (.d (.int (z : Int))), none, none] h = _
    rw [eb, seq_nx C ea, seq_nx C ef]
    exact seq_rt C (ret_ok C er)
  refine ⟨jn (ex.take (r + z)), g2.take h.length, jd_jn _, ?_, ?_, ?_, ?_, ?_⟩
  · rw [tot_jn]
    have := tot_take ex (r + z)
    omega
  · have := len_jn (ex.take (r + z))
    have : (ex.take (r + z)).length ≤ ex.length := by simp; omega
    omega
  · obtain ⟨x, y, w, e, e2, e3⟩ := I2.2.2.1
    exact ⟨x, y, w, by rw [List.getElem?_take_of_lt hn]; exact e, e2, by omega⟩
  · refine ⟨by rw [List.length_take, I2.2.1]; omega, fun j hj => ?_⟩
    by_cases hl : j < h.length
    · rw [List.getElem?_take_of_lt hl]
      exact I2.2.2.2.1 j hj hl
    · rw [List.getElem?_eq_none (by rw [List.length_take]; omega), List.getElem?_eq_none (by omega)]
  · rw [runF_rt C rfl e3]
    simp only [leave]
end
end En
/-! steps of expressions -/
namespace En
open PySem L2
section
variable (C : Str → List D → Hs → R D)
theorem vbin {o : Operator} {m : Bool} {a b : E} {σ : Env} {h h1 h2 h3 : Hs} {x y z : D} (ha : (sem C a).v σ h = .ok x h1) (hb : (sem C b).v σ h1 = .ok y h2) (hc : binD o m x y h2 = .ok z h3) : (sem C (.bin o m a b)).v σ h = .ok z h3 := by
  have e : (sem C (.bin o m a b)).v σ h = ((sem C a).v σ h).bind fun x h1 => ((sem C b).v σ h1).bind fun y h2 => noX (binD o m x y h2) := rfl
  rw [e, ha, rb_ok, hb, rb_ok, hc, noX_ok]
theorem vix {a b : E} {σ : Env} {h h1 h2 h3 : Hs} {x y z : D} (ha : (sem C a).v σ h = .ok x h1) (hb : (sem C b).v σ h1 = .ok y h2) (hc : ixD x y h2 = .ok z h3) : (sem C (.ix a b)).v σ h = .ok z h3 := by
  have e : (sem C (.ix a b)).v σ h = ((sem C a).v σ h).bind fun x h1 => ((sem C b).v σ h1).bind fun y h2 => noX (ixD x y h2) := rfl
  rw [e, ha, rb_ok, hb, rb_ok, hc, noX_ok]
theorem vcmp {o : CmpOp} {a b : E} {σ : Env} {h h1 h2 h3 : Hs} {x y z : D} (ha : (sem C a).v σ h = .ok x h1) (hb : (sem C b).v σ h1 = .ok y h2) (hc : cmpD o x y h2 = .ok z h3) : (sem C (.cmp o a b)).v σ h = .ok z h3 := by
  have e : (sem C (.cmp o a b)).v σ h = ((sem C a).v σ h).bind fun x h1 => ((sem C b).v σ h1).bind fun y h2 => noX (cmpD o x y h2) := rfl
  rw [e, ha, rb_ok, hb, rb_ok, hc, noX_ok]
theorem cmp_t {o : CmpOp} {a b : E} {σ : Env} {h h1 h2 h3 : Hs} {x y : D} {z : Bool} (ha : (sem C a).v σ h = .ok x h1) (hb : (sem C b).v σ h1 = .ok y h2) (hc : cmpD o x y h2 = .ok (.d (.bool z)) h3) : (sem C (.cmp o a b)).t σ h = .ok z h3 := by
  have e : (sem C (.cmp o a b)).t σ h = ((sem C (.cmp o a b)).v σ h).bind fun x h1 => noX (truD x h1) := rfl
  rw [e, vcmp C ha hb hc]
  rfl
theorem call_t {f : Str} {m : Bool} {es : E} {σ : Env} {h h3 : Hs} {z : Bool} (hc : (sem C (.call f m es)).v σ h = .ok (.d (.bool z)) h3) : (sem C (.call f m es)).t σ h = .ok z h3 := by
  have e : (sem C (.call f m es)).t σ h = ((sem C (.call f m es)).v σ h).bind fun x h1 => noX (truD x h1) := rfl
  rw [e, hc]
  rfl
theorem not_t {a : E} {σ : Env} {h h1 : Hs} {z : Bool} (ha : (sem C a).t σ h = .ok z h1) : (sem C (.not a)).t σ h = .ok (!z) h1 := by
  have e : (sem C (.not a)).t σ h = ((sem C a).t σ h).bind fun b h1 => .ok (!b) h1 := rfl
  rw [e, ha, rb_ok]
theorem sl_to {a b : E} {σ : Env} {h h1 h2 h3 : Hs} {x y z : D} (ha : (sem C a).v σ h = .ok x h1) (hb : (sem C b).v σ h1 = .ok y h2) (hc : slD x none (some y) h2 = .ok z h3) : (sem C (.sl a .nil (.cons b .nil))).v σ h = .ok z h3 := by
  have e : (sem C (.sl a .nil (.cons b .nil))).v σ h = ((sem C a).v σ h).bind fun x h1 => (noX (((sem C b).v σ h1).bind fun x h1 => .ok (some x) h1)).bind fun z h3 => noX (slD x none z h3) := rfl
  rw [e, ha, rb_ok, hb, rb_ok, noX_ok, rb_ok, hc, noX_ok]
theorem sl_from {a b : E} {σ : Env} {h h1 h2 h3 : Hs} {x y z : D} (ha : (sem C a).v σ h = .ok x h1) (hb : (sem C b).v σ h1 = .ok y h2) (hc : slD x (some y) none h2 = .ok z h3) : (sem C (.sl a (.cons b .nil) .nil)).v σ h = .ok z h3 := by
  have e : (sem C (.sl a (.cons b .nil) .nil)).v σ h = ((sem C a).v σ h).bind fun x h1 => (noX (((sem C b).v σ h1).bind fun x h1 => .ok (some x) h1)).bind fun y h2 => (noX (R.ok none h2)).bind fun z h3 => noX (slD x y z h3) := rfl
  rw [e, ha, rb_ok, hb, rb_ok, noX_ok, rb_ok, noX_ok, rb_ok, hc, noX_ok]
theorem tup1 {a : E} {σ : Env} {h h1 : Hs} {x : PyData} (ha : (sem C a).v σ h = .ok (.d x) h1) : (sem C (.tup (.cons a .nil))).v σ h = .ok (.d (.tuple [x])) h1 := by
  have hz : sizeLine = 16777216 := sizeLine_eq
  have e : (sem C (.tup (.cons a .nil))).v σ h = (((sem C a).v σ h).bind fun x h1 => (R.ok [] h1).bind fun xs h2 => .ok (x :: xs) h2).bind fun ds h1 => noX (tupD ds h1) := rfl
  rw [e, ha]
  show noX (tupD [.d x] h1) = _
  simp [tupD, plainL, hz, noX_ok]
theorem lst2 {a b : E} {σ : Env} {h h1 h2 : Hs} {x y : PyData} (ha : (sem C a).v σ h = .ok (.d x) h1) (hb : (sem C b).v σ h1 = .ok (.d y) h2) : (sem C (.lst false (.cons a (.cons b .nil)))).v σ h = .ok (.d (.list [x, y])) h2 := by
  have hz : sizeLine = 16777216 := sizeLine_eq
  have e : (sem C (.lst false (.cons a (.cons b .nil)))).v σ h = (((sem C a).v σ h).bind fun x h1 => (((sem C b).v σ h1).bind fun y h2 => (R.ok [] h2).bind fun xs h3 => .ok (y :: xs) h3).bind fun xs h2 => .ok (x :: xs) h2).bind fun ds h1 => noX (lstD false ds h1) := rfl
  rw [e, ha, rb_ok, hb]
  show noX (lstD false [.d x, .d y] h2) = _
  simp [lstD, mkL, plainL, hz, noX_ok]
theorem and2_f {a b : E} {σ : Env} {h h1 : Hs} (ha : (sem C a).t σ h = .ok false h1) : (sem C (.bop .And (.cons a (.cons b .nil)))).t σ h = .ok false h1 := by
  have e : (sem C (.bop .And (.cons a (.cons b .nil)))).t σ h = ((sem C a).t σ h).bind fun t h2 => sel .And t ((sem C b).t σ h2) (.ok t h2) := rfl
  rw [e, ha]
  rfl
theorem and2_t {a b : E} {σ : Env} {h h1 h2 : Hs} {z : Bool} (ha : (sem C a).t σ h = .ok true h1) (hb : (sem C b).t σ h1 = .ok z h2) : (sem C (.bop .And (.cons a (.cons b .nil)))).t σ h = .ok z h2 := by
  have e : (sem C (.bop .And (.cons a (.cons b .nil)))).t σ h = ((sem C a).t σ h).bind fun t h2 => sel .And t ((sem C b).t σ h2) (.ok t h2) := rfl
  rw [e, ha, rb_ok]
  exact hb
theorem and3_f {a b c : E} {σ : Env} {h h1 : Hs} (ha : (sem C a).t σ h = .ok false h1) : (sem C (.bop .And (.cons a (.cons b (.cons c .nil))))).t σ h = .ok false h1 := by
  have e : (sem C (.bop .And (.cons a (.cons b (.cons c .nil))))).t σ h = ((sem C a).t σ h).bind fun t h2 => sel .And t ((sem C (.bop .And (.cons b (.cons c .nil)))).t σ h2) (.ok t h2) := rfl
  rw [e, ha]
  rfl
theorem and3_t {a b c : E} {σ : Env} {h h1 h2 : Hs} {z : Bool} (ha : (sem C a).t σ h = .ok true h1) (hb : (sem C (.bop .And (.cons b (.cons c .nil)))).t σ h1 = .ok z h2) : (sem C (.bop .And (.cons a (.cons b (.cons c .nil))))).t σ h = .ok z h2 := by
  have e : (sem C (.bop .And (.cons a (.cons b (.cons c .nil))))).t σ h = ((sem C a).t σ h).bind fun t h2 => sel .And t ((sem C (.bop .And (.cons b (.cons c .nil)))).t σ h2) (.ok t h2) := rfl
  rw [e, ha, rb_ok]
  exact hb
theorem ne_nil (ps : List Pc) (σ : Env) (i : Nat) (h : Hs) (hi : σ[i]? = some (some (.d (tpd ps)))) : (sem C (.cmp .NotEq (.var i) (.tup .nil))).t σ h = .ok (!decide (ps = [])) h := by
  have q := ne_tpd ps [] h
  refine cmp_t C (x := .d (tpd ps)) (y := .d (.tuple [])) (h1 := h) (h2 := h) ?_ ?_ q
  · simp only [sem, mkV, hi]
  · simp [sem, mkV, smNil, R.bind, tupD, plainL, noX_ok]
theorem vvar {i : Nat} {σ : Env} {h : Hs} {x : D} (hi : σ[i]? = some (some x)) : (sem C (.var i)).v σ h = .ok x h := by simp only [sem, mkV, hi]
theorem cat_tpd (ps qs : List Pc) (h : Hs) (hl : ps.length + qs.length ≤ 10000) : binD .Add false (.d (tpd ps)) (.d (tpd qs)) h = .ok (.d (tpd (ps ++ qs))) h := by
  have hz : sizeLine = 16777216 := sizeLine_eq
  simp only [binD, tpd, List.length_map, List.map_append]
  rw [if_pos (by omega)]
theorem cut1_len (s : Str) : (L2.cutS s none (some 1)).length ≤ s.length := by
  show (L2.cutS s none (some ((1 : Nat) : Int))).cps.size ≤ s.cps.size
  have e0 : ¬ (((1 : Nat) : Int) < 0) := by omega
  have hs : s.length = s.cps.toList.length := rfl
  simp only [L2.cutS, HT.sIx, e0, if_false, List.drop_zero, Nat.sub_zero, Int.toNat_natCast]
  simp
  omega
end
end En
/-! a law that is right in every box -/
namespace En
open PySem L2
section
variable (C : Str → List D → Hs → R D)
theorem call2m {f : Str} {a b : E} {σ : Env} {h h1 h2 h3 : Hs} {x y z : D} (ha : (sem C a).v σ h = .ok x h1) (hb : (sem C b).v σ h1 = .ok y h2) (hc : C f [x, y] h2 = .ok z h3) : (sem C (.call f true (.cons a (.cons b .nil)))).v σ h = .ok z h3 := by
  have e : (sem C (.call f true (.cons a (.cons b .nil)))).v σ h = (((sem C a).v σ h).bind fun x h1 => (((sem C b).v σ h1).bind fun y h2 => (R.ok [] h2).bind fun xs h3 => .ok (y :: xs) h3).bind fun xs h2 => .ok (x :: xs) h2).bind fun ds h1 => (C f ds h1).bind fun x h2 => noX (keepR true x h2) := rfl
  rw [e, ha, rb_ok, hb]
  show (C f [x, y] h2).bind _ = _
  rw [hc]
  rfl
theorem rngP_mem : ∀ (n : Nat) (i : Int) (x : D), x ∈ rngP i n → ∃ k : Nat, k < n ∧ x = .d (.int (i + (k : Int)))
  | 0, _, _, h => by simp [rngP] at h
  | n + 1, i, x, h => by
    rw [rngP, List.mem_cons] at h
    rcases h with rfl | h
    · exact ⟨0, by omega, by simp⟩
    · obtain ⟨k, hk, rfl⟩ := rngP_mem n (i + 1) x h
      exact ⟨k + 1, by omega, by rw [show i + 1 + (k : Int) = i + ((k + 1 : Nat) : Int) by omega]⟩
theorem comp_true {f : D → Hs → R (Option PyData)} : ∀ ds : List D, (∀ x ∈ ds, ∃ h', f x [] = .ok (some (.bool true)) h') → compL 0 f ds [] = .ok (ds.map fun _ => .bool true) []
  | [], _ => rfl
  | x :: ds, hf => by
    obtain ⟨h', e⟩ := hf x List.mem_cons_self
    rw [compL, e, rb_ok, List.take_zero, comp_true ds fun y hy => hf y (List.mem_cons_of_mem _ hy), rb_ok]
    rfl
theorem bools_true : ∀ ds : List D, boolsOf (ds.map fun _ => PyData.bool true) = some (ds.map fun _ => true)
  | [] => rfl
  | x :: ds => by simp only [List.map_cons, boolsOf, bools_true ds, Option.map_some]
theorem all_true (ds : List D) (h : Hs) : biD .all false [.d (.list (ds.map fun _ => .bool true))] h = .ok (.d (.bool true)) h := by
  have e : (ds.map fun _ => true).all id = true := by simp
  simp only [biD, vw, bools_true, e]
abbrev lwC (m : Int) : E := .call (Str.ofString "_law_cells") false (.cons (.var 0) (.cons (.cst (.int m)) .nil))
abbrev lwR : E := .call (Str.ofString "_law_right") false (.cons (.call (Str.ofString "_law_box") true (.cons (.var 1) (.cons (.var 2) .nil))) .nil)
abbrev lwB (m : Int) : S := .seq (.asg 1 (lwC m)) (.seq (.ret (.bi .all false (.cons (.lc false [2] (.nm 2) (.rng (.bi .len false (.cons (.var 1) .nil))) .nil lwR) .nil))) .nil)
/-- a law of this shape -/
theorem law_boxes {m : Nat} (hm : 0 < m) (hm2 : m ≤ 100) {ns : List Int} (hl : ns.length ≤ 63)
    (hc : ∃ cs : List Int, 0 < cs.length ∧ cs.length ≤ m ∧ C (Str.ofString "_law_cells") [.scr ns, .d (.int (m : Int))] [] = .ok (.d (.list (cs.map .int))) [])
    (hb : ∀ (cs : List Int) (k : Nat), k < cs.length → cs.length ≤ m → ∃ a b : Int, C (Str.ofString "_law_box") [.d (.list (cs.map .int)), .d (.int (k : Int))] [] = .ok (.cel 0) [.lst [.int a, .int b, .int 0]])
    (hr : ∀ a b : Int, ∃ h', C (Str.ofString "_law_right") [.cel 0] [.lst [.int a, .int b, .int 0]] = .ok (.d (.bool true)) h') :
    ∃ σ h2, run C (lwB m) [some (.scr ns), none, none] [] = .ok (.rt (.d (.bool true)), σ) h2 := by
  obtain ⟨cs, c1, c2, e1⟩ := hc
  have a1 : (sem C (lwC m)).v [some (.scr ns), none, none] [] = .ok (.d (.list (cs.map .int))) [] := call2 C (x := .scr ns) (y := .d (.int (m : Int))) (h1 := []) (h2 := []) rfl rfl e1
  have ln : biD .len false [.d (.list (cs.map .int))] [] = .ok (.d (.int (cs.length : Int))) [] := by simp [biD, lenD, vw]
  have hi : (sem C (.rng (.bi .len false (.cons (.var 1) .nil)))).it [some (.scr ns), some (.d (.list (cs.map .int))), none] [] = .ok (rngP 0 cs.length) [] := rng_it C (z := cs.length) (h1 := []) (bi1 C (x := .d (.list (cs.map .int))) (h1 := []) rfl ln) (by omega)
  have cp := comp_true (f := turn [2] (.nm 2) (sem C .nil) (fun σ2 h3 => some1 ((sem C lwR).v σ2 h3)) [some (.scr ns), some (.d (.list (cs.map .int))), none]) (rngP 0 cs.length) (fun x hx => by
    obtain ⟨k, hk, rfl⟩ := rngP_mem _ _ _ hx
    rw [Int.zero_add]
    obtain ⟨a, b, eb⟩ := hb cs k hk c2
    obtain ⟨h', er⟩ := hr a b
    refine ⟨h', turn_ok C (me := (sem C lwR).v) (σ2 := [some (.scr ns), some (.d (.list (cs.map .int))), some (.d (.int (k : Int)))]) rfl ?_⟩
    exact call1 C (call2m C (x := .d (.list (cs.map .int))) (y := .d (.int (k : Int))) (h1 := []) (h2 := []) rfl rfl eb) er)
  have el := lc_ok C hi cp (by rw [List.length_map, rngP_ln]; omega)
  refine ⟨[some (.scr ns), some (.d (.list (cs.map .int))), none], [], ?_⟩
  refine (seq_nx C (asg_ok C a1)).trans ?_
  exact seq_rt C (ret_ok C (bi1 C el (all_true _ _)))
end
end En
/-! picks, words, a drawn ground -/
namespace En
open PySem L2
section
variable (C : Str → List D → Hs → R D)
/-- of the heap h: the box at n, and behind it two lists -/
def PI (n L : Nat) (h g : Hs) (rest some_ : List PyData) (c : Nat) : Prop := n < L ∧ g.length = L + 2 ∧ BoxAt n g c ∧ (∀ j, j ≠ n → j < L → g[j]? = h[j]?) ∧ g[L]? = some (.lst rest) ∧ g[L + 1]? = some (.lst some_)
theorem PI.ob {n L c c' : Nat} {h g g' : Hs} {r s : List PyData} (I : PI n L h g r s c) (o : OB n g g') (b : BoxAt n g' c') : PI n L h g' r s c' :=
  ⟨I.1, o.1.trans I.2.1, b, fun j hj hl => (o.2 j hj).trans (I.2.2.2.1 j hj hl), (o.2 L (by have := I.1; omega)).trans I.2.2.2.2.1, (o.2 (L + 1) (by have := I.1; omega)).trans I.2.2.2.2.2⟩
theorem PI.put {n L c : Nat} {h g : Hs} {r s r' s' : List PyData} (I : PI n L h g r s c) : PI n L h ((g.set L (.lst r')).set (L + 1) (.lst s')) r' s' c := by
  obtain ⟨a, b, ⟨x, y, z, hb, hb2⟩, d, e, f⟩ := I
  have nL : ∀ j, j < L → ((g.set L (.lst r')).set (L + 1) (.lst s'))[j]? = g[j]? := fun j hj => by
    rw [List.getElem?_set_ne (by omega), List.getElem?_set_ne (by omega)]
  refine ⟨a, by simpa using b, ⟨x, y, z, (nL n a).trans hb, hb2⟩, fun j hj hl => (nL j hl).trans (d j hj hl), ?_, ?_⟩
  · rw [List.getElem?_set_ne (by omega), List.getElem?_set_self (by omega)]
  · rw [List.getElem?_set_self (by simp; omega)]
abbrev pkX : E := .mth .pop (.var 3) (.cons (.call (Str.ofString "_law_take") false (.cons (.var 0) (.cons (.bi .len false (.cons (.var 3) .nil)) .nil))) .nil)
abbrev pkB : S := .seq (.exp (.mth .append (.var 4) (.cons pkX .nil))) .nil
theorem pop_ok {i L r : Nat} {a : E} {σ : Env} {h h' : Hs} {xs ys : List PyData} {v : PyData} (hi : σ[i]? = some (some (.cel L))) (h0 : h[L]? = some (.lst ys)) (ha : (sem C a).v σ h = .ok (.d (.int (r : Int))) h') (hL : h'[L]? = some (.lst xs)) (hv : xs[r]? = some v) (hl : xs.length ≤ 10000) :
    (sem C (.mth .pop (.var i) (.cons a .nil))).v σ h = .ok (.d v) (h'.set L (.lst (xs.eraseIdx r))) := by
  have hz : sizeLine = 16777216 := sizeLine_eq
  have e0 : (sem C (.var i)).v σ h = .ok (.cel L) h := vvar C hi
  have e1 : rcvOk .pop (.cel L) h = true := by simp [rcvOk, vwL, h0, lstC]
  have e : (sem C (.mth .pop (.var i) (.cons a .nil))).v σ h = ((sem C (.var i)).v σ h).bind fun x h1 => if rcvOk .pop x h1 then ((((sem C a).v σ h1).bind fun x h1 => (R.ok [] h1).bind fun xs h2 => .ok (x :: xs) h2).bind fun ds h2 => noX (mthD .pop x ds h2)) else .no := rfl
  have hr : r < xs.length := (List.getElem?_eq_some_iff.mp hv).1
  have e2 : mthD .pop (.cel L) [.d (.int (r : Int))] h' = .ok (.d v) (h'.set L (.lst (xs.eraseIdx r))) := by
    simp only [mthD, hL]
    rw [if_pos (by omega), ixN_nat rfl hr]
    simp only [hv]
  rw [e, e0, rb_ok, e1, if_pos rfl, ha]
  show noX (mthD .pop (.cel L) [.d (.int (r : Int))] h') = _
  rw [e2, noX_ok]
theorem pick_step (dr : Dr0 C) {n L c : Nat} {h g : Hs} {rest so : List PyData} {b1 b2 t : D} (I : PI n L h g rest so c) (hc : c ≤ 990000) (hp : 0 < rest.length) (hl : rest.length ≤ 1000) (hs : so.length ≤ 1000) :
    ∃ (g' : Hs) (r : Nat) (v : PyData), rest[r]? = some v ∧ PI n L h g' (rest.eraseIdx r) (so ++ [v]) (c + 1) ∧ run C pkB [some (.cel n), some b1, some b2, some (.cel L), some (.cel (L + 1)), some t] g = .ok (.nx, [some (.cel n), some b1, some b2, some (.cel L), some (.cel (L + 1)), some t]) g' := by
  obtain ⟨r, g1, hr, bb, o1, e1⟩ := dr.T I.2.2.1 (m := (rest.length : Int)) (by omega) (by omega) (by omega)
  have I1 := I.ob o1 bb
  have hr' : r < rest.length := by omega
  have hv : rest[r]? = some rest[r] := List.getElem?_eq_getElem hr'
  generalize rest[r] = v at hv
  have ln : biD .len false [.cel L] g = .ok (.d (.int (rest.length : Int))) g := by simp [biD, lenD, vw, I.2.2.2.2.1, lstC]
  have et : (sem C (.call (Str.ofString "_law_take") false (.cons (.var 0) (.cons (.bi .len false (.cons (.var 3) .nil)) .nil)))).v [some (.cel n), some b1, some b2, some (.cel L), some (.cel (L + 1)), some t] g = .ok (.d (.int (r : Int))) g1 := call2 C (x := .cel n) (y := .d (.int (rest.length : Int))) (h1 := g) (h2 := g) rfl (bi1 C (x := .cel L) (h1 := g) rfl ln) e1
  have ep := pop_ok C (i := 3) (σ := [some (.cel n), some b1, some b2, some (.cel L), some (.cel (L + 1)), some t]) rfl I.2.2.2.2.1 et I1.2.2.2.2.1 hv (by omega)
  have ea := app_ok C (i := 4) (L := L + 1) (xs := so) rfl I.2.2.2.2.2 ep (by rw [List.getElem?_set_ne (by omega)]; exact I1.2.2.2.2.2) (by omega)
  exact ⟨_, r, v, hv, I1.put, (seq_nx C ea).trans (run_nil C)⟩
abbrev pkL : D → Env → Hs → R (Fl × Env) := fun x σ1 h2 => match bindTg (.nm 5) x σ1 with
  | some σ2 => run C pkB σ2 h2
  | none => .no
theorem perm_erase : ∀ {xs : List PyData} {r : Nat} {v : PyData}, xs[r]? = some v → (v :: xs.eraseIdx r).Perm xs
  | [], r, v, h => by simp at h
  | x :: xs, 0, v, h => by
    simp only [List.getElem?_cons_zero, Option.some.injEq] at h
    subst h
    exact List.Perm.refl _
  | x :: xs, r + 1, v, h => by
    simp only [List.getElem?_cons_succ] at h
    rw [List.eraseIdx_cons_succ]
    exact (List.Perm.swap x v _).trans ((perm_erase h).cons x)
theorem pick_loop (dr : Dr0 C) {n L : Nat} {h : Hs} {b1 b2 : D} {xs : List PyData} : ∀ (ds : List D) (c : Nat) (g : Hs) (rest so : List PyData) (z : Option D), PI n L h g rest so c → c + ds.length ≤ 990000 → ds.length ≤ rest.length → rest.length ≤ 1000 → so.length + ds.length ≤ 1000 → (so ++ rest).Perm xs →
    ∃ (g' : Hs) (rest' so' : List PyData) (z' : Option D), so'.length = so.length + ds.length ∧ (so' ++ rest').Perm xs ∧ PI n L h g' rest' so' (c + ds.length) ∧ loopF (pkL C) ds [some (.cel n), some b1, some b2, some (.cel L), some (.cel (L + 1)), z] g = .ok (.nx, [some (.cel n), some b1, some b2, some (.cel L), some (.cel (L + 1)), z']) g'
  | [], c, g, rest, so, z, I, _, _, _, _, p => ⟨g, rest, so, z, by simp, p, by simpa using I, loop_nil⟩
  | t :: ds, c, g, rest, so, z, I, hc, hd, hl, hs, p => by
    simp only [List.length_cons] at hc hd hs
    obtain ⟨g1, r, v, hv, I1, e1⟩ := pick_step C dr (b1 := b1) (b2 := b2) (t := t) I (by omega) (by omega) (by omega) (by omega)
    have hr : r < rest.length := (List.getElem?_eq_some_iff.mp hv).1
    have le : (rest.eraseIdx r).length = rest.length - 1 := List.length_eraseIdx_of_lt hr
    have p1 : (so ++ [v] ++ rest.eraseIdx r).Perm xs := by
      rw [List.append_assoc]
      exact ((List.perm_append_left_iff so).mpr (perm_erase hv)).trans p
    obtain ⟨g2, rest', so', z', q1, q2, I2, e2⟩ := pick_loop dr (b1 := b1) (b2 := b2) ds (c + 1) g1 (rest.eraseIdx r) (so ++ [v]) (some t) I1 (by omega) (by omega) (by omega) (by simp; omega) p1
    refine ⟨g2, rest', so', z', by simp at q1; simp; omega, q2, ?_, ?_⟩
    · rw [List.length_cons, Nat.add_comm ds.length 1, ← Nat.add_assoc]
      exact I2
    · have st : pkL C t [some (.cel n), some b1, some b2, some (.cel L), some (.cel (L + 1)), z] g = .ok (.nx, [some (.cel n), some b1, some b2, some (.cel L), some (.cel (L + 1)), some t]) g1 := e1
      exact (loop_nx st).trans e2
/-- a pick: so many, each once -/
theorem pick_ok (dr : Dr0 C) {n c z : Nat} {h : Hs} {xs : List PyData} (hb : BoxAt n h c) (hc : c + z ≤ 900000) (hx : xs.length ≤ 1000) (hz : z ≤ 1000) :
    ∃ (so rest : List PyData) (h' : Hs), so.length = min z xs.length ∧ (so ++ rest).Perm xs ∧ BoxAt n h' (c + z) ∧ OB n h h' ∧ runF C f__law_pick [.cel n, .d (.list xs), .d (.int (z : Int))] h = .ok (.d (.list so)) h' := by
  have hs : sizeLine = 16777216 := sizeLine_eq
  have hn : n < h.length := by
    obtain ⟨_, _, _, e, _⟩ := hb
    exact (List.getElem?_eq_some_iff.mp e).1
  have I0 : PI n h.length h (h ++ [.lst xs] ++ [.lst []]) xs [] c := by
    obtain ⟨x, y, w, e, e2⟩ := hb
    refine ⟨hn, by simp, ⟨x, y, w, ?_, e2⟩, fun j _ hj => ?_, ?_, ?_⟩
    · rw [List.append_assoc, List.getElem?_append_left hn]; exact e
    · rw [List.append_assoc, List.getElem?_append_left hj]
    · rw [List.append_assoc, List.getElem?_append_right (by omega)]; simp
    · rw [List.append_assoc, List.getElem?_append_right (by omega)]; simp
  obtain ⟨g1, rest, so, z', q1, q2, I1, e1⟩ := pick_loop C dr (b1 := .d (.list xs)) (b2 := .d (.int (z : Int))) (xs := xs) (rngP 0 (min z xs.length)) c _ xs [] none I0 (by rw [rngP_ln]; omega) (by rw [rngP_ln]; omega) hx (by rw [rngP_ln]; simp; omega) (by simp)
  rw [rngP_ln] at q1 I1
  have ea : run C (.par 3 4 (.bi .list true (.cons (.var 1) .nil)) (.lst true .nil)) [some (.cel n), some (.d (.list xs)), some (.d (.int (z : Int))), none, none, none] h = .ok (.nx, [some (.cel n), some (.d (.list xs)), some (.d (.int (z : Int))), some (.cel h.length), some (.cel (h.length + 1)), none]) (h ++ [.lst xs] ++ [.lst []]) := by
    have a1 : biD .list true [.d (.list xs)] h = .ok (.cel h.length) (h ++ [.lst xs]) := by
      simp only [biD, vw, mkL]
      rw [if_pos (by omega)]
      rfl
    have a2 : (sem C (.lst true .nil)).v [some (.cel n), some (.d (.list xs)), some (.d (.int (z : Int))), none, none, none] (h ++ [.lst xs]) = .ok (.cel (h.length + 1)) (h ++ [.lst xs] ++ [.lst []]) := by
      simp [sem, mkV, smNil, R.bind, noX_ok, lstD, plainL, mkL, hs]
    exact par_ok C (bi1 C (x := .d (.list xs)) (h1 := h) rfl a1) a2
  have em : (sem C (.bi .min false (.cons (.var 2) (.cons (.bi .len false (.cons (.var 3) .nil)) .nil)))).v [some (.cel n), some (.d (.list xs)), some (.d (.int (z : Int))), some (.cel h.length), some (.cel (h.length + 1)), none] (h ++ [.lst xs] ++ [.lst []]) = .ok (.d (.int ((min z xs.length : Nat) : Int))) (h ++ [.lst xs] ++ [.lst []]) := by
    have ln : biD .len false [.cel h.length] (h ++ [.lst xs] ++ [.lst []]) = .ok (.d (.int (xs.length : Int))) (h ++ [.lst xs] ++ [.lst []]) := by
      simp only [biD, lenD, vw, I0.2.2.2.2.1, lstC]
      rfl
    have l := bi1 C (m := false) (a := .var 3) (σ := [some (.cel n), some (.d (.list xs)), some (.d (.int (z : Int))), some (.cel h.length), some (.cel (h.length + 1)), none]) (x := .cel h.length) (h := h ++ [.lst xs] ++ [.lst []]) (h1 := h ++ [.lst xs] ++ [.lst []]) rfl ln
    have e : (sem C (.bi .min false (.cons (.var 2) (.cons (.bi .len false (.cons (.var 3) .nil)) .nil)))).v [some (.cel n), some (.d (.list xs)), some (.d (.int (z : Int))), some (.cel h.length), some (.cel (h.length + 1)), none] (h ++ [.lst xs] ++ [.lst []]) = ((R.ok (D.d (.int (z : Int))) (h ++ [.lst xs] ++ [.lst []])).bind fun x h1 => (((sem C (.bi .len false (.cons (.var 3) .nil))).v [some (.cel n), some (.d (.list xs)), some (.d (.int (z : Int))), some (.cel h.length), some (.cel (h.length + 1)), none] h1).bind fun x h1 => (R.ok [] h1).bind fun xs h2 => .ok (x :: xs) h2).bind fun xs h2 => .ok (x :: xs) h2).bind fun ds h1 => noX (biD .min false ds h1) := rfl
    rw [e, rb_ok, l]
    show noX (biD .min false [.d (.int (z : Int)), .d (.int (xs.length : Int))] _) = _
    have mm : (if (xs.length : Int) < (z : Int) then (xs.length : Int) else (z : Int)) = ((min z xs.length : Nat) : Int) := by
      by_cases hh : xs.length < z
      · rw [if_pos (by omega), Nat.min_eq_right (by omega)]
      · rw [if_neg (by omega), Nat.min_eq_left (by omega)]
    simp only [biD, mm, noX_ok]
  have ef : run C (.for_ (.nm 5) (.rng (.bi .min false (.cons (.var 2) (.cons (.bi .len false (.cons (.var 3) .nil)) .nil)))) pkB) [some (.cel n), some (.d (.list xs)), some (.d (.int (z : Int))), some (.cel h.length), some (.cel (h.length + 1)), none] (h ++ [.lst xs] ++ [.lst []]) = .ok (.nx, [some (.cel n), some (.d (.list xs)), some (.d (.int (z : Int))), some (.cel h.length), some (.cel (h.length + 1)), z']) g1 := by
    rw [run, rng_it C em (by omega), bs_ok]
    exact e1
  have er : (sem C (.fz (.var 4))).v [some (.cel n), some (.d (.list xs)), some (.d (.int (z : Int))), some (.cel h.length), some (.cel (h.length + 1)), z'] g1 = .ok (.d (.list so)) (g1.set (h.length + 1) (.frz so)) := by
    have hv : ([some (.cel n), some (.d (.list xs)), some (.d (.int (z : Int))), some (.cel h.length), some (.cel (h.length + 1)), z'] : Env)[4]? = some (some (.cel (h.length + 1))) := rfl
    simp only [sem, mkV, hv, R.bind, fzD, I1.2.2.2.2.2, noX_ok]
  have eb : f__law_pick.body = .seq (.par 3 4 (.bi .list true (.cons (.var 1) .nil)) (.lst true .nil)) (.seq (.for_ (.nm 5) (.rng (.bi .min false (.cons (.var 2) (.cons (.bi .len false (.cons (.var 3) .nil)) .nil)))) pkB) (.seq (.ret (.fz (.var 4))) .nil)) := rfl
  have e3 : run C f__law_pick.body (startE f__law_pick [.cel n, .d (.list xs), .d (.int (z : Int))]) h = .ok (.rt (.d (.list so)), [some (.cel n), some (.d (.list xs)), some (.d (.int (z : Int))), some (.cel h.length), some (.cel (h.length + 1)), z']) (g1.set (h.length + 1) (.frz so)) := by
    show run C f__law_pick.body [some (.cel n), some (.d (.list xs)), some (.d (.int (z : Int))), none, none, none] h = _
    rw [eb, seq_nx C ea, seq_nx C ef]
    exact seq_rt C (ret_ok C er)
  refine ⟨so, rest, g1.take h.length, by simpa using q1, q2, ?_, ?_, ?_⟩
  · obtain ⟨x, y, w, e, e2, e3⟩ := I1.2.2.1
    exact ⟨x, y, w, by rw [List.getElem?_take_of_lt hn]; exact e, e2, by omega⟩
  · refine ⟨by rw [List.length_take, I1.2.1]; omega, fun j hj => ?_⟩
    by_cases hl : j < h.length
    · rw [List.getElem?_take_of_lt hl]
      exact I1.2.2.2.1 j hj hl
    · rw [List.getElem?_eq_none (by rw [List.length_take]; omega), List.getElem?_eq_none (by omega)]
  · rw [runF_rt C rfl e3]
    simp only [leave]
    rw [List.take_set_of_le (by omega)]
end
end En
/-! sorted, words -/
namespace En
open PySem L2
theorem insP_perm (x : PyData) : ∀ l : List PyData, (insP x l).Perm (x :: l)
  | [] => List.Perm.refl _
  | y :: r => by
    rw [insP]
    split
    · exact ((insP_perm x r).cons y).trans (List.Perm.swap x y r)
    · exact List.Perm.refl _
theorem sortP_perm : ∀ l : List PyData, (sortP l).Perm l
  | [] => List.Perm.refl _
  | x :: r => by
    rw [sortP]
    exact (insP_perm x _).trans ((sortP_perm r).cons x)
theorem perm_map {α : Type} {f : α → PyData} {l m : List PyData} (p : l.Perm m) : ∀ ss : List α, m = ss.map f → ∃ ts : List α, l = ts.map f ∧ ts.Perm ss := by
  induction p with
  | nil =>
    intro ss e
    cases ss with
    | nil => exact ⟨[], rfl, List.Perm.refl _⟩
    | cons _ _ => simp at e
  | cons x _ ih =>
    intro ss e
    cases ss with
    | nil => simp at e
    | cons s ss =>
      simp only [List.map_cons, List.cons.injEq] at e
      obtain ⟨ts, h1, h2⟩ := ih ss e.2
      exact ⟨s :: ts, by rw [List.map_cons, e.1, h1], h2.cons s⟩
  | swap x y l =>
    intro ss e
    cases ss with
    | nil => simp at e
    | cons s ss =>
      cases ss with
      | nil => simp at e
      | cons t ss =>
        simp only [List.map_cons, List.cons.injEq] at e
        exact ⟨t :: s :: ss, by simp only [List.map_cons, e.1, e.2.1, e.2.2], List.Perm.swap s t ss⟩
  | trans _ _ i1 i2 =>
    intro ss e
    obtain ⟨ts, h1, h2⟩ := i2 ss e
    obtain ⟨us, h3, h4⟩ := i1 ts h1
    exact ⟨us, h3, h4.trans h2⟩
theorem perm_split {α : Type} {f : α → PyData} {a b : List PyData} {ss : List α} (p : (a ++ b).Perm (ss.map f)) : ∃ us vs : List α, a = us.map f ∧ (us ++ vs).Perm ss := by
  obtain ⟨ts, h1, h2⟩ := perm_map p ss rfl
  obtain ⟨us, vs, rfl, h3, h4⟩ := List.append_eq_map_iff.mp h1
  exact ⟨us, vs, h3.symm, h2⟩
theorem sort_map {α : Type} {f : α → PyData} (ss : List α) : ∃ ts : List α, sortP (ss.map f) = ts.map f ∧ ts.Perm ss := perm_map (sortP_perm _) ss rfl
theorem sortOk_str (ss : List Str) : sortOk (ss.map .str) = true := by
  have h1 : (ss.map PyData.str).all (fun x => (nk x).isSome && decide (x.depth ≤ 64)) = true := by
    rw [List.all_map, List.all_eq_true]
    intro s _
    simp [nk, PyData.depth]
  have h2 : (ss.map PyData.str).all (fun x => (ss.map PyData.str).all fun y => PySem.W.alike x y) = true := by
    rw [List.all_map, List.all_eq_true]
    intro s _
    simp only [Function.comp, List.all_map, List.all_eq_true]
    intro t _
    simp [PySem.W.alike]
  have h3 : (ss.map PyData.str).all notTupN = true := by
    rw [List.all_map, List.all_eq_true]
    intro s _
    rfl
  rw [sortOk, h1, h2, h3]
  simp
/-- a tuple of texts -/
def tst (s : List Str) : PyData := .tuple (s.map .str)
theorem alikeAll_str : ∀ s t : List Str, PySem.W.alikeAll (s.map .str) (t.map .str) = true
  | [], _ => by simp [PySem.W.alikeAll]
  | a :: s, [] => by simp [PySem.W.alikeAll]
  | a :: s, b :: t => by simp [PySem.W.alikeAll, PySem.W.alike, alikeAll_str s t]
theorem nks_str : ∀ s : List Str, (nks (s.map .str)).isSome = true
  | [] => by simp [nks]
  | a :: s => by
    have := nks_str s
    obtain ⟨x, hx⟩ := Option.isSome_iff_exists.mp this
    simp [nks, nk, hx]
theorem depthAll_str : ∀ s : List Str, PyData.depthAll (s.map .str) ≤ 1
  | [] => by simp [PyData.depthAll]
  | a :: s => by
    have := depthAll_str s
    simp only [List.map_cons, PyData.depthAll, PyData.depth]
    omega
theorem sortOk_tst (ss : List (List Str)) (hn : ∀ s ∈ ss, s ≠ []) : sortOk (ss.map tst) = true := by
  have h1 : (ss.map tst).all (fun x => (nk x).isSome && decide (x.depth ≤ 64)) = true := by
    rw [List.all_map, List.all_eq_true]
    intro s _
    have a := nks_str s
    have b := depthAll_str s
    simp only [Function.comp, tst, nk, PyData.depth, Option.isSome_map, a, Bool.true_and, decide_eq_true_eq]
    omega
  have h2 : (ss.map tst).all (fun x => (ss.map tst).all fun y => PySem.W.alike x y) = true := by
    rw [List.all_map, List.all_eq_true]
    intro s _
    simp only [Function.comp, List.all_map, List.all_eq_true]
    intro t _
    simp only [tst, PySem.W.alike, alikeAll_str]
  have h3 : (ss.map tst).all tupCons = true := by
    rw [List.all_map, List.all_eq_true]
    intro s hs
    cases s with
    | nil => exact absurd rfl (hn _ hs)
    | cons a s => rfl
  rw [sortOk, h1, h2, h3]
  simp
section
variable (C : Str → List D → Hs → R D)
def PkOk : Prop := ∀ {n c z : Nat} {h : Hs} {xs : List PyData}, BoxAt n h c → c + z ≤ 900000 → xs.length ≤ 1000 → z ≤ 1000 → ∃ (so rest : List PyData) (h' : Hs), so.length = min z xs.length ∧ (so ++ rest).Perm xs ∧ BoxAt n h' (c + z) ∧ OB n h h' ∧ C (Str.ofString "_law_pick") [.cel n, .d (.list xs), .d (.int (z : Int))] h = .ok (.d (.list so)) h'
/-- tuple(sorted(pick of texts)) -/
theorem tsp_ok (pk : PkOk C) {n c z : Nat} {h h0 h1 h2 : Hs} {σ : Env} {a b d : E} {ss : List Str} (hb : BoxAt n h2 c) (hc : c + z ≤ 900000) (hx : ss.length ≤ 1000) (hz : z ≤ 1000)
    (ea : (sem C a).v σ h = .ok (.cel n) h0) (eb : (sem C b).v σ h0 = .ok (.d (.list (ss.map .str))) h1) (ed : (sem C d).v σ h1 = .ok (.d (.int (z : Int))) h2) :
    ∃ (ts rest : List Str) (h' : Hs), ts.length = min z ss.length ∧ (ts ++ rest).Perm ss ∧ BoxAt n h' (c + z) ∧ OB n h2 h' ∧ (sem C (.bi .tuple false (.cons (.bi .sorted false (.cons (.call (Str.ofString "_law_pick") false (.cons a (.cons b (.cons d .nil)))) .nil)) .nil))).v σ h = .ok (.d (tst ts)) h' := by
  have hs : sizeLine = 16777216 := sizeLine_eq
  obtain ⟨so, rest, h', q1, q2, q3, q4, q5⟩ := pk hb hc (xs := ss.map .str) (by simpa using hx) hz
  obtain ⟨us, vs, rfl, p1⟩ := perm_split q2
  obtain ⟨ts, e1, p2⟩ := sort_map (f := PyData.str) us
  rw [List.length_map, List.length_map] at q1
  refine ⟨ts, vs, h', by rw [p2.length_eq]; exact q1, ((List.perm_append_right_iff vs).mpr p2).trans p1, q3, q4, ?_⟩
  have s1 : biD .sorted false [.d (.list (us.map .str))] h' = .ok (.d (.list (ts.map .str))) h' := by
    have hl : (ts.map PyData.str).length ≤ sizeLine := by rw [List.length_map, p2.length_eq, q1]; omega
    simp only [biD, vwL, sortOk_str, if_true, e1, mkL, hl, Bool.false_eq_true, if_false]
  exact bi1 C (bi1 C (call3 C ea eb ed q5) s1) rfl
abbrev W7 : List Str := [⟨#[49]⟩, ⟨#[49, 50]⟩, ⟨#[50]⟩, ⟨#[97]⟩, ⟨#[97, 98]⟩, ⟨#[98]⟩, ⟨#[120, 49]⟩]
abbrev T5 : List Str := [⟨#[97]⟩, ⟨#[108, 97, 110, 103]⟩, ⟨#[108, 111, 99, 107]⟩, ⟨#[111, 115]⟩, ⟨#[119, 101, 101, 107]⟩]
theorem words_ok (pk : PkOk C) {n c z : Nat} {h : Hs} (hb : BoxAt n h c) (hc : c + z ≤ 900000) (hz : z ≤ 1000) :
    ∃ (ws : List Str) (h' : Hs), ws.length = min z 7 ∧ (∀ w ∈ ws, w ∈ W7) ∧ BoxAt n h' (c + z) ∧ OB n h h' ∧ runF C f__law_words [.cel n, .d (.int (z : Int))] h = .ok (.d (tst ws)) h' := by
  have hs : sizeLine = 16777216 := sizeLine_eq
  have e7 : (sem C (.lst false (.cons (.cst (.str ⟨#[49]⟩)) (.cons (.cst (.str ⟨#[49, 50]⟩)) (.cons (.cst (.str ⟨#[50]⟩)) (.cons (.cst (.str ⟨#[97]⟩)) (.cons (.cst (.str ⟨#[97, 98]⟩)) (.cons (.cst (.str ⟨#[98]⟩)) (.cons (.cst (.str ⟨#[120, 49]⟩)) .nil))))))))).v [some (.cel n), some (.d (.int (z : Int)))] h = .ok (.d (.list (W7.map .str))) h := by
    simp [sem, mkV, smCons, smNil, R.bind, lstD, plainL, mkL, hs, noX_ok]
  obtain ⟨ts, rest, h', q1, q2, q3, q4, q5⟩ := tsp_ok C pk (n := n) (c := c) (z := z) (h := h) (h0 := h) (h1 := h) (h2 := h) (σ := [some (.cel n), some (.d (.int (z : Int)))]) (a := .var 0) (d := .var 1) (ss := W7) hb hc (by simp) hz rfl e7 rfl
  refine ⟨ts, h', q1, fun w hw => q2.mem_iff.mp (List.mem_append_left _ hw), q3, q4, ?_⟩
  have e2 : run C f__law_words.body (startE f__law_words [.cel n, .d (.int (z : Int))]) h = .ok (.rt (.d (tst ts)), [some (.cel n), some (.d (.int (z : Int)))]) h' := seq_rt C (ret_ok C q5)
  rw [runF_rt C rfl e2]
  simp only [leave]
  rw [List.take_of_length_le (by rw [q4.1]; omega)]
/-- a comprehension that draws -/
theorem comp_box {f : D → Hs → R (Option PyData)} {α : Type} (u : α → PyData) (good : α → Prop) {n k B : Nat} : ∀ (ds : List D) (c : Nat) (h : Hs), BoxAt n h c → c + k * ds.length ≤ B →
    (∀ x ∈ ds, ∀ (c : Nat) (h : Hs), BoxAt n h c → c + k ≤ B → ∃ (y : α) (h' : Hs), good y ∧ BoxAt n h' (c + k) ∧ OB n h h' ∧ f x h = .ok (some (u y)) h') →
    ∃ (ys : List α) (h' : Hs), ys.length = ds.length ∧ (∀ y ∈ ys, good y) ∧ BoxAt n h' (c + k * ds.length) ∧ OB n h h' ∧ compL h.length f ds h = .ok (ys.map u) h'
  | [], c, h, hb, _, _ => ⟨[], h, rfl, by simp, by simpa using hb, OB.refl n h, rfl⟩
  | x :: ds, c, h, hb, hB, hf => by
    rw [List.length_cons, Nat.mul_succ] at hB
    obtain ⟨y, h1, g1, b1, o1, e1⟩ := hf x List.mem_cons_self c h hb (by omega)
    obtain ⟨ys, h2, l2, g2, b2, o2, e2⟩ := comp_box u good ds (c + k) h1 b1 (by omega) fun z hz => hf z (List.mem_cons_of_mem _ hz)
    refine ⟨y :: ys, h2, by simp [l2], fun w hw => ?_, ?_, o1.trans o2, ?_⟩
    · rcases List.mem_cons.mp hw with rfl | hw
      · exact g1
      · exact g2 w hw
    · rw [List.length_cons, Nat.mul_succ]
      exact b2.mono (by omega)
    · rw [compL, e1, rb_ok, List.take_of_length_le (by rw [o1.1]; omega)]
      rw [o1.1] at e2
      rw [e2, rb_ok]
      rfl
end
end En
/-! a drawn ground -/
namespace En
open PySem L2
def prodS (every : List (List Str)) (ws : List Str) : List (List Str) := every.flatMap fun own => ws.map fun w => own ++ [w]
theorem prodS_len (every : List (List Str)) (ws : List Str) : (prodS every ws).length = every.length * ws.length := by
  induction every with
  | nil => simp [prodS]
  | cons e es ih =>
    have : prodS (e :: es) ws = (ws.map fun w => e ++ [w]) ++ prodS es ws := rfl
    rw [this, List.length_append, ih, List.length_map, List.length_cons, Nat.succ_mul, Nat.add_comm]
/-- settings: so long, of the words -/
def Gs (i : Nat) (s : List Str) : Prop := s.length = i ∧ ∀ w ∈ s, w ∈ W7
theorem prodS_good {i : Nat} {every : List (List Str)} {ws : List Str} (he : ∀ s ∈ every, Gs i s) (hw : ∀ w ∈ ws, w ∈ W7) : ∀ s ∈ prodS every ws, Gs (i + 1) s := by
  intro s hs
  obtain ⟨own, ho, hs⟩ := List.mem_flatMap.mp hs
  obtain ⟨w, hww, rfl⟩ := List.mem_map.mp hs
  refine ⟨by rw [List.length_append, (he own ho).1]; rfl, fun v hv => ?_⟩
  rcases List.mem_append.mp hv with hv | hv
  · exact (he own ho).2 v hv
  · rw [List.mem_singleton] at hv
    rw [hv]; exact hw w hww
section
variable (C : Str → List D → Hs → R D)
def WdOk : Prop := ∀ {n c z : Nat} {h : Hs}, BoxAt n h c → c + z ≤ 900000 → z ≤ 1000 → ∃ (ws : List Str) (h' : Hs), ws.length = min z 7 ∧ (∀ w ∈ ws, w ∈ W7) ∧ BoxAt n h' (c + z) ∧ OB n h h' ∧ C (Str.ofString "_law_words") [.cel n, .d (.int (z : Int))] h = .ok (.d (tst ws)) h'
theorem seq_tst (ss : List Str) : seqD (.d (tst ss)) = some (ss.map fun s => D.d (.str s)) := by simp [seqD, tst]
theorem seq_list {α : Type} (f : α → PyData) (ss : List α) : seqD (.d (.list (ss.map f))) = some (ss.map fun s => D.d (f s)) := by simp [seqD]
theorem var_it {i : Nat} {σ : Env} {h : Hs} {x : D} {ds : List D} (hi : σ[i]? = some (some x)) (hs : seqD x = some ds) : (sem C (.var i)).it σ h = .ok ds h := by
  simp only [sem, mkV, hi, R.bind, seqR, hs, noX_ok]
theorem cat_tst (a b : List Str) (h : Hs) (hl : a.length + b.length ≤ 10000) : binD .Add false (.d (tst a)) (.d (tst b)) h = .ok (.d (tst (a ++ b))) h := by
  have hz : sizeLine = 16777216 := sizeLine_eq
  simp only [binD, tst, List.length_map, List.map_append]
  rw [if_pos (by omega)]
theorem cat_list {α : Type} (f : α → PyData) (a b : List α) (h : Hs) (hl : a.length + b.length ≤ 10000) : binD .Add false (.d (.list (a.map f))) (.d (.list (b.map f))) h = .ok (.d (.list ((a ++ b).map f))) h := by
  have hz : sizeLine = 16777216 := sizeLine_eq
  simp only [binD, catD, vwL, mkL, List.map_append]
  rw [if_pos (by simp; omega)]
  rfl
abbrev gdI : S := .seq (.asg 7 (.bin .Add false (.var 7) (.lc false [10] (.nm 10) (.var 6) .nil (.bin .Add false (.var 8) (.tup (.cons (.var 10) .nil)))))) .nil
abbrev gdIL : D → Env → Hs → R (Fl × Env) := fun x σ1 h2 => match bindTg (.nm 8) x σ1 with
  | some σ2 => run C gdI σ2 h2
  | none => .no
abbrev gE (a0 a1 a2 a3 a4 : Option D) (every : List (List Str)) (z6 : Option D) (later : List (List Str)) (z8 z9 : Option D) : Env := [a0, a1, a2, a3, a4, some (.d (.list (every.map tst))), z6, some (.d (.list (later.map tst))), z8, z9, none]
theorem gd_in {a0 a1 a2 a3 a4 z8 z9 : Option D} {ev later : List (List Str)} {own ws : List Str} {h : Hs} (ho : own.length ≤ 100) (hw : ws.length ≤ 7) (hl : later.length ≤ 2000) :
    run C gdI (gE a0 a1 a2 a3 a4 ev (some (.d (tst ws))) later (some (.d (tst own))) z9) h = .ok (.nx, gE a0 a1 a2 a3 a4 ev (some (.d (tst ws))) (later ++ ws.map fun w => own ++ [w]) (some (.d (tst own))) z9) h := by
  have hk : h.take h.length = h := List.take_length
  have cm := comp_map (n := h.length) (f := turn [10] (.nm 10) (sem C .nil) (fun σ2 h3 => some1 ((sem C (.bin .Add false (.var 8) (.tup (.cons (.var 10) .nil)))).v σ2 h3)) (gE a0 a1 a2 a3 a4 ev (some (.d (tst ws))) later (some (.d (tst own))) z9)) (fun s : Str => D.d (.str s)) (fun w => tst (own ++ [w])) hk ws (fun w hww => by
    refine turn_ok C (me := (sem C (.bin .Add false (.var 8) (.tup (.cons (.var 10) .nil)))).v) (σ2 := [a0, a1, a2, a3, a4, some (.d (.list (ev.map tst))), some (.d (tst ws)), some (.d (.list (later.map tst))), some (.d (tst own)), z9, some (.d (.str w))]) rfl ?_
    exact vbin C (x := .d (tst own)) (y := .d (tst [w])) (h1 := h) (h2 := h) rfl (tup1 C (x := .str w) (h1 := h) rfl) (cat_tst own [w] h (by simp; omega)))
  have e1 := lc_ok C (own := [10]) (tg := .nm 10) (it := .var 6) (σ := gE a0 a1 a2 a3 a4 ev (some (.d (tst ws))) later (some (.d (tst own))) z9) (h := h) (var_it C rfl (seq_tst ws)) cm (by simp; omega)
  have em : (ws.map fun w => tst (own ++ [w])) = (ws.map fun w => own ++ [w]).map tst := by rw [List.map_map]; rfl
  rw [em] at e1
  have e2 := vbin C (o := .Add) (m := false) (a := .var 7) (σ := gE a0 a1 a2 a3 a4 ev (some (.d (tst ws))) later (some (.d (tst own))) z9) (h := h) (x := .d (.list (later.map tst))) (h1 := h) rfl e1 (cat_list tst later _ h (by simp; omega))
  exact (seq_nx C (asg_ok C e2)).trans (run_nil C)
theorem gd_in_loop {a0 a1 a2 a3 a4 z9 : Option D} {ev : List (List Str)} {ws : List Str} {h : Hs} (hw : ws.length ≤ 7) : ∀ (os later : List (List Str)) (z8 : Option D), (∀ s ∈ os, s.length ≤ 100) → later.length + 7 * os.length ≤ 2000 →
    ∃ z8', loopF (gdIL C) (os.map fun s => D.d (tst s)) (gE a0 a1 a2 a3 a4 ev (some (.d (tst ws))) later z8 z9) h = .ok (.nx, gE a0 a1 a2 a3 a4 ev (some (.d (tst ws))) (later ++ prodS os ws) z8' z9) h
  | [], later, z8, _, _ => ⟨z8, by simp only [prodS, List.flatMap_nil, List.append_nil]; exact loop_nil⟩
  | o :: os, later, z8, ho, hl => by
    rw [List.length_cons] at hl
    have e1 := gd_in C (a0 := a0) (a1 := a1) (a2 := a2) (a3 := a3) (a4 := a4) (z9 := z9) (z8 := z8) (ev := ev) (later := later) (own := o) (ws := ws) (h := h) (ho o List.mem_cons_self) hw (by omega)
    obtain ⟨z8', e2⟩ := gd_in_loop (a0 := a0) (a1 := a1) (a2 := a2) (a3 := a3) (a4 := a4) (z9 := z9) (ev := ev) (h := h) hw os (later ++ ws.map fun w => o ++ [w]) (some (.d (tst o))) (fun s hs => ho s (List.mem_cons_of_mem _ hs)) (by simp; omega)
    refine ⟨z8', ?_⟩
    have st : gdIL C (.d (tst o)) (gE a0 a1 a2 a3 a4 ev (some (.d (tst ws))) later z8 z9) h = .ok (.nx, gE a0 a1 a2 a3 a4 ev (some (.d (tst ws))) (later ++ ws.map fun w => o ++ [w]) (some (.d (tst o))) z9) h := e1
    have pe : later ++ prodS (o :: os) ws = (later ++ ws.map fun w => o ++ [w]) ++ prodS os ws := by
      rw [List.append_assoc]; rfl
    rw [pe]
    exact (loop_nx st).trans e2
abbrev gdO : S := .seq (.asg 7 (.lst false .nil)) (.seq (.for_ (.nm 8) (.var 5) gdI) (.seq (.asg 5 (.var 7)) .nil))
abbrev gdOL : D → Env → Hs → R (Fl × Env) := fun x σ1 h2 => match bindTg (.nm 6) x σ1 with
  | some σ2 => run C gdO σ2 h2
  | none => .no
theorem gd_out {a0 a1 a2 a3 a4 z7 z8 z9 : Option D} {ev : List (List Str)} {ws : List Str} {h : Hs} (hw : ws.length ≤ 7) (he : ∀ s ∈ ev, s.length ≤ 100) (hl : 7 * ev.length ≤ 2000) :
    ∃ z7' z8', run C gdO [a0, a1, a2, a3, a4, some (.d (.list (ev.map tst))), some (.d (tst ws)), z7, z8, z9, none] h = .ok (.nx, [a0, a1, a2, a3, a4, some (.d (.list ((prodS ev ws).map tst))), some (.d (tst ws)), z7', z8', z9, none]) h := by
  have hz : sizeLine = 16777216 := sizeLine_eq
  obtain ⟨z8', e1⟩ := gd_in_loop C (a0 := a0) (a1 := a1) (a2 := a2) (a3 := a3) (a4 := a4) (z9 := z9) (ev := ev) (ws := ws) (h := h) hw ev [] z8 he (by simpa using hl)
  rw [List.nil_append] at e1
  have e0 : (sem C (.lst false .nil)).v [a0, a1, a2, a3, a4, some (.d (.list (ev.map tst))), some (.d (tst ws)), z7, z8, z9, none] h = .ok (.d (.list [])) h := by
    simp [sem, mkV, smNil, R.bind, noX_ok, lstD, plainL, mkL, hz]
  have ef : run C (.for_ (.nm 8) (.var 5) gdI) (gE a0 a1 a2 a3 a4 ev (some (.d (tst ws))) [] z8 z9) h = .ok (.nx, gE a0 a1 a2 a3 a4 ev (some (.d (tst ws))) (prodS ev ws) z8' z9) h := by
    rw [run, var_it C rfl (seq_list tst ev), bs_ok]
    exact e1
  refine ⟨some (.d (.list ((prodS ev ws).map tst))), z8', ?_⟩
  refine (seq_nx C (asg_ok C e0)).trans ?_
  refine (seq_nx C ef).trans ?_
  exact (seq_nx C (asg_ok C (x := .d (.list ((prodS ev ws).map tst))) rfl)).trans (run_nil C)
theorem pow3 (i : Nat) : 3 ^ (i + 1) = 3 * 3 ^ i := by rw [Nat.pow_succ, Nat.mul_comm]
theorem gd_out_loop {a0 a1 a2 a3 a4 z9 : Option D} {h : Hs} : ∀ (pools : List (List Str)) (i : Nat) (ev : List (List Str)) (z6 z7 z8 : Option D), i + pools.length ≤ 5 → (∀ ws ∈ pools, ws.length ≤ 3 ∧ ∀ w ∈ ws, w ∈ W7) → (∀ s ∈ ev, Gs i s) → ev.length ≤ 3 ^ i →
    ∃ (ev' : List (List Str)) (z6' z7' z8' : Option D), (∀ s ∈ ev', Gs (i + pools.length) s) ∧ ev'.length ≤ 3 ^ (i + pools.length) ∧ loopF (gdOL C) (pools.map fun s => D.d (tst s)) [a0, a1, a2, a3, a4, some (.d (.list (ev.map tst))), z6, z7, z8, z9, none] h = .ok (.nx, [a0, a1, a2, a3, a4, some (.d (.list (ev'.map tst))), z6', z7', z8', z9, none]) h
  | [], i, ev, z6, z7, z8, _, _, he, hl => ⟨ev, z6, z7, z8, by simpa using he, by simpa using hl, loop_nil⟩
  | ws :: pools, i, ev, z6, z7, z8, hi, hp, he, hl => by
    rw [List.length_cons] at hi
    obtain ⟨w3, w7⟩ := hp ws List.mem_cons_self
    have h81 : 3 ^ i ≤ 3 ^ 4 := Nat.pow_le_pow_right (by omega) (by omega)
    obtain ⟨y7, y8, e1⟩ := gd_out C (a0 := a0) (a1 := a1) (a2 := a2) (a3 := a3) (a4 := a4) (z7 := z7) (z8 := z8) (z9 := z9) (ev := ev) (ws := ws) (h := h) (by omega) (fun s hs => by rw [(he s hs).1]; omega) (by simp at h81; omega)
    have lp : (prodS ev ws).length ≤ 3 ^ (i + 1) := by
      rw [prodS_len, pow3, Nat.mul_comm]
      exact Nat.mul_le_mul w3 hl
    obtain ⟨ev', x6, x7, x8, q1, q2, e2⟩ := gd_out_loop (a0 := a0) (a1 := a1) (a2 := a2) (a3 := a3) (a4 := a4) (z9 := z9) (h := h) pools (i + 1) (prodS ev ws) (some (.d (tst ws))) y7 y8 (by omega) (fun v hv => hp v (List.mem_cons_of_mem _ hv)) (prodS_good he w7) lp
    have ei : i + (ws :: pools).length = i + 1 + pools.length := by rw [List.length_cons]; omega
    rw [ei]
    refine ⟨ev', x6, x7, x8, q1, q2, ?_⟩
    have st : gdOL C (.d (tst ws)) [a0, a1, a2, a3, a4, some (.d (.list (ev.map tst))), z6, z7, z8, z9, none] h = .ok (.nx, [a0, a1, a2, a3, a4, some (.d (.list ((prodS ev ws).map tst))), some (.d (tst ws)), y7, y8, z9, none]) h := e1
    exact (loop_nx st).trans e2
end
end En
namespace En
open PySem L2
section
variable (C : Str → List D → Hs → R D)
abbrev gd3 : E := .bi .tuple false (.cons (.bi .sorted false (.cons (.call (Str.ofString "_law_pick") false (.cons (.var 0) (.cons (.lst false (.cons (.cst (.str ⟨#[97]⟩)) (.cons (.cst (.str ⟨#[108, 97, 110, 103]⟩)) (.cons (.cst (.str ⟨#[108, 111, 99, 107]⟩)) (.cons (.cst (.str ⟨#[111, 115]⟩)) (.cons (.cst (.str ⟨#[119, 101, 101, 107]⟩)) .nil)))))) (.cons (.bin .Add false (.cst (.int (1))) (.call (Str.ofString "_law_take") false (.cons (.var 0) (.cons (.var 1) .nil)))) .nil)))) .nil)) .nil)
abbrev gdW : E := .call (Str.ofString "_law_words") false (.cons (.var 0) (.cons (.bin .Add false (.cst (.int (2))) (.call (Str.ofString "_law_take") false (.cons (.var 0) (.cons (.cst (.int (2))) .nil)))) .nil))
abbrev gd4 : E := .lc false [8] (.nm 8) (.var 3) .nil gdW
abbrev gd9 : E := .call (Str.ofString "_law_pick") false (.cons (.var 0) (.cons (.var 5) (.cons (.bin .Add false (.cst (.int (2))) (.call (Str.ofString "_law_take") false (.cons (.var 0) (.cons (.bin .Sub false (.var 2) (.cst (.int (1)))) .nil)))) .nil)))
abbrev gdR : E := .tup (.cons (.var 3) (.cons (.bi .tuple false (.cons (.bi .sorted false (.cons (.var 9) .nil)) .nil)) .nil))
theorem gd_body : f__law_ground.body = .seq (.asg 3 gd3) (.seq (.asg 4 gd4) (.seq (.asg 5 (.lst false (.cons (.tup .nil) .nil))) (.seq (.for_ (.nm 6) (.var 4) gdO) (.seq (.asg 9 gd9) (.seq (.ret gdR) .nil))))) := rfl
/-- take, with something added -/
theorem add_take (dr : Dr0 C) {n c k : Nat} {m : Int} {g h h1 : Hs} {σ : Env} {d : E} (hi : σ[0]? = some (some (.cel n))) (ed : (sem C d).v σ h = .ok (.d (.int m)) h) (hb : BoxAt n h c) (hm : 0 < m) (hm2 : m < 1000) (hc : c < 999999) :
    ∃ (r : Nat) (h' : Hs), (r : Int) < m ∧ BoxAt n h' (c + 1) ∧ OB n h h' ∧ (sem C (.bin .Add false (.cst (.int (k : Int))) (.call (Str.ofString "_law_take") false (.cons (.var 0) (.cons d .nil))))).v σ h = .ok (.d (.int ((k + r : Nat) : Int))) h' := by
  obtain ⟨r, h', a, b, c', e⟩ := dr.T hb hm (by omega) hc
  exact ⟨r, h', a, b, c', vbin C (x := .d (.int (k : Int))) (y := .d (.int (r : Int))) (h1 := h) (h2 := h') rfl (call2 C (x := .cel n) (y := .d (.int m)) (h1 := h) (h2 := h) (vvar C hi) ed e) rfl⟩
structure Ground (tags : List Str) (st : List (List Str)) : Prop where
  nd : tags.Nodup
  mem : ∀ t ∈ tags, t ∈ T5
  pos : 0 < tags.length
  le : tags.length ≤ 5
  each : ∀ s ∈ st, Gs tags.length s
  few : st.length ≤ 1000
theorem ground_ok (dr : Dr0 C) (pk : PkOk C) (wd : WdOk C) {n c a b : Nat} {h : Hs} (hb : BoxAt n h c) (hc : c ≤ 800000) (ha : 0 < a) (ha2 : a ≤ 5) (hb2 : 2 ≤ b) (hb3 : b ≤ 100) :
    ∃ (tags : List Str) (st : List (List Str)) (h' : Hs), Ground tags st ∧ BoxAt n h' (c + 200) ∧ OB n h h' ∧ runF C f__law_ground [.cel n, .d (.int (a : Int)), .d (.int (b : Int))] h = .ok (.d (.tuple [tst tags, .tuple (st.map tst)])) h' := by
  have hz : sizeLine = 16777216 := sizeLine_eq
  -- the tags
  have e5 : (sem C (.lst false (.cons (.cst (.str ⟨#[97]⟩)) (.cons (.cst (.str ⟨#[108, 97, 110, 103]⟩)) (.cons (.cst (.str ⟨#[108, 111, 99, 107]⟩)) (.cons (.cst (.str ⟨#[111, 115]⟩)) (.cons (.cst (.str ⟨#[119, 101, 101, 107]⟩)) .nil))))))).v [some (.cel n), some (.d (.int (a : Int))), some (.d (.int (b : Int))), none, none, none, none, none, none, none, none] h = .ok (.d (.list (T5.map .str))) h := by
    simp [sem, mkV, smCons, smNil, R.bind, lstD, plainL, mkL, hz, noX_ok]
  obtain ⟨r1, h1, lr1, b1, o1, t1⟩ := add_take C dr (k := 1) (m := (a : Int)) (g := h) (h1 := h) (σ := [some (.cel n), some (.d (.int (a : Int))), some (.d (.int (b : Int))), none, none, none, none, none, none, none, none]) (d := .var 1) rfl rfl hb (by omega) (by omega) (by omega)
  obtain ⟨tags, rest, h2, ql, qp, b2, o2, e3⟩ := tsp_ok C pk (a := .var 0) (h := h) (h0 := h) (ss := T5) b1 (by omega) (by simp) (by omega) rfl e5 t1
  have tl : tags.length = min (1 + r1) 5 := ql
  have tn : tags.Nodup := by
    have : (tags ++ rest).Nodup := (List.Perm.nodup_iff qp).mpr (by decide)
    exact (List.nodup_append.mp this).1
  have tm : ∀ t ∈ tags, t ∈ T5 := fun t ht => qp.mem_iff.mp (List.mem_append_left _ ht)
  -- the pools
  obtain ⟨pools, h3, pl, pg, b3, o3, e4⟩ := comp_box (f := turn [8] (.nm 8) (sem C .nil) (fun σ2 h3 => some1 ((sem C gdW).v σ2 h3)) [some (.cel n), some (.d (.int (a : Int))), some (.d (.int (b : Int))), some (.d (tst tags)), none, none, none, none, none, none, none]) tst (fun ws => ws.length ≤ 3 ∧ ∀ w ∈ ws, w ∈ W7) (n := n) (k := 4) (B := 900000) (tags.map fun s => D.d (.str s)) (c + 1 + (1 + r1)) h2 b2 (by simp; omega) (fun x hx c' g hb' hB => by
    obtain ⟨s, hs, rfl⟩ := List.mem_map.mp hx
    obtain ⟨r, g1, lr, bb, oo, tt⟩ := add_take C dr (k := 2) (m := 2) (g := g) (h1 := g) (σ := [some (.cel n), some (.d (.int (a : Int))), some (.d (.int (b : Int))), some (.d (tst tags)), none, none, none, none, some (.d (.str s)), none, none]) (d := .cst (.int 2)) rfl rfl hb' (by omega) (by omega) (by omega)
    obtain ⟨ws, g2, wl, wm, wb, wo, we⟩ := wd bb (z := 2 + r) (by omega) (by omega)
    refine ⟨ws, g2, ⟨by omega, wm⟩, wb.mono (by omega), oo.trans wo, ?_⟩
    exact turn_ok C (me := (sem C gdW).v) (σ2 := [some (.cel n), some (.d (.int (a : Int))), some (.d (.int (b : Int))), some (.d (tst tags)), none, none, none, none, some (.d (.str s)), none, none]) rfl (call2 C (x := .cel n) (y := .d (.int ((2 + r : Nat) : Int))) (h1 := g) (h2 := g1) rfl tt we))
  have pll : pools.length = tags.length := by rw [pl, List.length_map]
  have e4' := lc_ok C (own := [8]) (tg := .nm 8) (it := .var 3) (σ := [some (.cel n), some (.d (.int (a : Int))), some (.d (.int (b : Int))), some (.d (tst tags)), none, none, none, none, none, none, none]) (h := h2) (var_it C rfl (seq_tst tags)) e4 (by rw [List.length_map, pll]; omega)
  -- all settings
  have e0 : (sem C (.lst false (.cons (.tup .nil) .nil))).v [some (.cel n), some (.d (.int (a : Int))), some (.d (.int (b : Int))), some (.d (tst tags)), some (.d (.list (pools.map tst))), none, none, none, none, none, none] h3 = .ok (.d (.list (([[]] : List (List Str)).map tst))) h3 := by
    simp [sem, mkV, smCons, smNil, R.bind, lstD, tupD, plainL, mkL, hz, noX_ok, tst]
  obtain ⟨ev, z6, z7, z8, eg, el, e6⟩ := gd_out_loop C (a0 := some (.cel n)) (a1 := some (.d (.int (a : Int)))) (a2 := some (.d (.int (b : Int)))) (a3 := some (.d (tst tags))) (a4 := some (.d (.list (pools.map tst)))) (z9 := none) (h := h3) pools 0 [[]] none none none (by omega) pg (fun s hs => by rw [List.mem_singleton] at hs; rw [hs]; exact ⟨rfl, by simp⟩) (by simp)
  rw [Nat.zero_add, pll] at eg el
  have ef : run C (.for_ (.nm 6) (.var 4) gdO) [some (.cel n), some (.d (.int (a : Int))), some (.d (.int (b : Int))), some (.d (tst tags)), some (.d (.list (pools.map tst))), some (.d (.list (([[]] : List (List Str)).map tst))), none, none, none, none, none] h3 = .ok (.nx, [some (.cel n), some (.d (.int (a : Int))), some (.d (.int (b : Int))), some (.d (tst tags)), some (.d (.list (pools.map tst))), some (.d (.list (ev.map tst))), z6, z7, z8, none, none]) h3 := by
    rw [run, var_it C rfl (seq_list tst pools), bs_ok]
    exact e6
  have el2 : ev.length ≤ 243 := Nat.le_trans el (Nat.le_trans (Nat.pow_le_pow_right (by omega) (by omega : tags.length ≤ 5)) (by decide))
  -- some of them
  obtain ⟨r9, h4, lr9, b4, o4, t9⟩ := add_take C dr (k := 2) (m := (b : Int) - 1) (g := h3) (h1 := h3) (σ := [some (.cel n), some (.d (.int (a : Int))), some (.d (.int (b : Int))), some (.d (tst tags)), some (.d (.list (pools.map tst))), some (.d (.list (ev.map tst))), z6, z7, z8, none, none]) (d := .bin .Sub false (.var 2) (.cst (.int 1))) rfl (vbin C (x := .d (.int (b : Int))) (y := .d (.int 1)) (h1 := h3) (h2 := h3) rfl rfl rfl) b3 (by omega) (by omega) (by simp; omega)
  have hkc : (tags.map fun s => D.d (.str s)).length ≤ 5 := by rw [List.length_map]; omega
  obtain ⟨so, rest9, h5, s1, s2, b5, o5, e9⟩ := pk b4 (z := 2 + r9) (xs := ev.map tst) (by omega) (by rw [List.length_map]; omega) (by omega)
  obtain ⟨us, vs, rfl, p1⟩ := perm_split s2
  obtain ⟨st, e10, p2⟩ := sort_map (f := tst) us
  have ug : ∀ s ∈ us, Gs tags.length s := fun s hs => eg s (p1.mem_iff.mp (List.mem_append_left _ hs))
  have sg : ∀ s ∈ st, Gs tags.length s := fun s hs => ug s (p2.mem_iff.mp hs)
  have hsl : st.length ≤ 243 := by
    have := p1.length_eq
    rw [List.length_append] at this
    rw [p2.length_eq]
    omega
  have a9 : (sem C gd9).v [some (.cel n), some (.d (.int (a : Int))), some (.d (.int (b : Int))), some (.d (tst tags)), some (.d (.list (pools.map tst))), some (.d (.list (ev.map tst))), z6, z7, z8, none, none] h3 = .ok (.d (.list (us.map tst))) h5 := call3 C (x := .cel n) (y := .d (.list (ev.map tst))) (h1 := h3) (h2 := h3) (h3 := h4) rfl rfl t9 e9
  have a10 : biD .sorted false [.d (.list (us.map tst))] h5 = .ok (.d (.list (st.map tst))) h5 := by
    have hl : (st.map tst).length ≤ sizeLine := by rw [List.length_map]; omega
    have ok := sortOk_tst us (fun s hs z => by have := (ug s hs).1; rw [z] at this; simp at this; omega)
    simp only [biD, vwL, ok, if_true, e10, mkL, hl, Bool.false_eq_true, if_false]
  have ar : (sem C gdR).v [some (.cel n), some (.d (.int (a : Int))), some (.d (.int (b : Int))), some (.d (tst tags)), some (.d (.list (pools.map tst))), some (.d (.list (ev.map tst))), z6, z7, z8, some (.d (.list (us.map tst))), none] h5 = .ok (.d (.tuple [tst tags, .tuple (st.map tst)])) h5 := tup2 C (x := tst tags) (h1 := h5) rfl (bi1 C (x := .d (.list (st.map tst))) (h1 := h5) (bi1 C (x := .d (.list (us.map tst))) (h1 := h5) rfl a10) rfl)
  have e11 : run C f__law_ground.body (startE f__law_ground [.cel n, .d (.int (a : Int)), .d (.int (b : Int))]) h = .ok (.rt (.d (.tuple [tst tags, .tuple (st.map tst)])), [some (.cel n), some (.d (.int (a : Int))), some (.d (.int (b : Int))), some (.d (tst tags)), some (.d (.list (pools.map tst))), some (.d (.list (ev.map tst))), z6, z7, z8, some (.d (.list (us.map tst))), none]) h5 := by
    show run C f__law_ground.body [some (.cel n), some (.d (.int (a : Int))), some (.d (.int (b : Int))), none, none, none, none, none, none, none, none] h = _
    rw [gd_body]
    refine (seq_nx C (asg_ok C e3)).trans ?_
    refine (seq_nx C (asg_ok C e4')).trans ?_
    refine (seq_nx C (asg_ok C e0)).trans ?_
    refine (seq_nx C ef).trans ?_
    refine (seq_nx C (asg_ok C a9)).trans ?_
    exact seq_rt C (ret_ok C ar)
  have oo : OB n h h5 := (((o1.trans o2).trans o3).trans o4).trans o5
  refine ⟨tags, st, h5, ⟨tn, tm, by omega, by omega, sg, by omega⟩, b5.mono (by omega), oo, ?_⟩
  rw [runF_rt C rfl e11]
  simp only [leave]
  rw [List.take_of_length_le (by rw [oo.1]; omega)]
end
theorem pk_of {P : Prog} (h1 : P.lookup (Str.ofString "_law_take") = some f__law_take) (h2 : P.lookup (Str.ofString "_law_of") = some f__law_of) (h4 : P.lookup (Str.ofString "_law_pick") = some f__law_pick) (k : Nat) : PkOk (callN P (k + 3)) := fun hb hc hx hz => by
  obtain ⟨so, rest, h', a, b, c, d, e⟩ := pick_ok (callN P (k + 2)) (dr0_of h1 h2 k) hb hc hx hz
  exact ⟨so, rest, h', a, b, c, d, by rw [cn h4]; exact e⟩
end En
/-! plans: jobs, values, texts -/
namespace En
open PySem L2
/-- a job: its name, its key, its prefixes, what it writes -/
structure Jb where
  nm : Str
  key : List Pc
  pre : List (List Pc)
  ex : PyData
def jbD (j : Jb) : PyData := .tuple [.str j.nm, tpd j.key, .tuple (j.pre.map tpd), j.ex]
def plD (tags : List Str) (st : List (List Str)) (js : List Jb) : PyData := .tuple [tst tags, .tuple (st.map tst), .tuple (js.map jbD)]
/-- the value of a field -/
def vl (tags : List Str) (s : List Str) (x : Str) : Str := ((tags.zip s).lookup x).getD ⟨#[]⟩
def vls (tags : List Str) (s : List Str) : List (PyData × PyData) := (tags.zip s).map fun p => (.str p.1, .str p.2)
theorem keyEq_s (j k : Str) : keyEq (.str j) (.str k) = decide (j = k) := by simp [keyEq, nk, NestedKey.beq]
theorem strsOf_map : ∀ ss : List Str, strsOf (ss.map .str) = some ss
  | [] => rfl
  | s :: ss => by simp only [List.map_cons, strsOf, strsOf_map ss, Option.map_some]
theorem put_new {m : List (Str × Str)} {k : Str} {v : PyData} (h : k ∉ m.map (·.1)) : dicPut (m.map fun p => (PyData.str p.1, PyData.str p.2)) (.str k) v = (m.map fun p => (PyData.str p.1, PyData.str p.2)) ++ [(.str k, v)] := by
  have e : ((m.map fun p => (PyData.str p.1, PyData.str p.2)).any fun p => keyEq p.1 (.str k)) = false := by
    rw [List.any_map, List.any_eq_false]
    intro p hp
    simp only [Function.comp, keyEq_s, decide_eq_true_eq]
    exact fun z => h (List.mem_map.mpr ⟨p, hp, z⟩)
  rw [dicPut, e]
  rfl
theorem fold_put : ∀ (tags s : List Str) (m : List (Str × Str)), tags.Nodup → (∀ t ∈ tags, t ∉ m.map (·.1)) → (tags.zip (s.map PyData.str)).foldl (fun m p => dicPut m (.str p.1) p.2) (m.map fun p => (PyData.str p.1, PyData.str p.2)) = ((m ++ tags.zip s).map fun p => (PyData.str p.1, PyData.str p.2))
  | [], s, m, _, _ => by simp
  | t :: tags, [], m, _, _ => by simp
  | t :: tags, v :: s, m, hn, hm => by
    rw [List.nodup_cons] at hn
    rw [List.map_cons, List.zip_cons_cons, List.foldl_cons, put_new (hm t List.mem_cons_self), List.zip_cons_cons]
    have e : (m.map fun p => (PyData.str p.1, PyData.str p.2)) ++ [(.str t, .str v)] = ((m ++ [(t, v)]).map fun p => (PyData.str p.1, PyData.str p.2)) := by simp
    rw [e, fold_put tags s (m ++ [(t, v)]) hn.2 (fun u hu z => by
      rw [List.map_append, List.mem_append] at z
      rcases z with z | z
      · exact hm u (List.mem_cons_of_mem _ hu) z
      · simp only [List.map_cons, List.map_nil, List.mem_singleton] at z
        exact hn.1 (z ▸ hu)), List.append_assoc]
    rfl
theorem get_vls (x : Str) : ∀ m : List (Str × Str), dicGet (m.map fun p => (PyData.str p.1, PyData.str p.2)) (.str x) = (m.lookup x).map .str
  | [] => rfl
  | p :: m => by
    have ih := get_vls x m
    unfold dicGet at ih ⊢
    obtain ⟨a, b⟩ := p
    rw [List.map_cons, List.find?_cons, keyEq_s, List.lookup_cons]
    by_cases h : a = x
    · subst h
      simp
    · have h' : (x == a) = false := by rw [beq_eq_false_iff_ne]; exact fun z => h z.symm
      simp only [h, decide_false, h', Bool.false_eq_true, if_false]
      exact ih
theorem look_zip {x : Str} : ∀ {tags s : List Str}, x ∈ tags → s.length = tags.length → ∃ v, (tags.zip s).lookup x = some v
  | [], _, h, _ => by cases h
  | t :: tags, [], _, h => by simp at h
  | t :: tags, v :: s, h, hl => by
    rw [List.zip_cons_cons, List.lookup_cons]
    by_cases e : x = t
    · exact ⟨v, by simp [e]⟩
    · have e' : (x == t) = false := by simp [e]
      rw [e']
      exact look_zip ((List.mem_cons.mp h).resolve_left e) (by simpa using hl)
theorem get_vl {tags s : List Str} {x : Str} (hx : x ∈ tags) (hl : s.length = tags.length) (h : Hs) : ixD (.dic (vls tags s)) (.d (.str x)) h = .ok (.d (.str (vl tags s x))) h := by
  obtain ⟨v, e⟩ := look_zip hx hl
  have g := get_vls x (tags.zip s)
  simp only [ixD, dicIx, vls, g, e, Option.map_some, vl, Option.getD_some]
section
variable (C : Str → List D → Hs → R D)
theorem ix_nat {x : PyData} {xs : List PyData} {k : Nat} {v : PyData} (hx : x = .tuple xs ∨ x = .list xs) (hv : xs[k]? = some v) (h : Hs) : ixD (.d x) (.d (.int (k : Int))) h = .ok (.d v) h := by
  have e := at_nat hv
  rcases hx with rfl | rfl <;> simp only [ixD, seqIx, vw, e]
theorem pl0 (tags : List Str) (st : List (List Str)) (js : List Jb) (h : Hs) : ixD (.d (plD tags st js)) (.d (.int 0)) h = .ok (.d (tst tags)) h := ix_nat (k := 0) (.inl rfl) rfl h
theorem pl1 (tags : List Str) (st : List (List Str)) (js : List Jb) (h : Hs) : ixD (.d (plD tags st js)) (.d (.int 1)) h = .ok (.d (.tuple (st.map tst))) h := ix_nat (k := 1) (.inl rfl) rfl h
theorem pl2 (tags : List Str) (st : List (List Str)) (js : List Jb) (h : Hs) : ixD (.d (plD tags st js)) (.d (.int 2)) h = .ok (.d (.tuple (js.map jbD))) h := ix_nat (k := 2) (.inl rfl) rfl h
theorem jb0 (j : Jb) (h : Hs) : ixD (.d (jbD j)) (.d (.int 0)) h = .ok (.d (.str j.nm)) h := ix_nat (k := 0) (.inl rfl) rfl h
theorem jb1 (j : Jb) (h : Hs) : ixD (.d (jbD j)) (.d (.int 1)) h = .ok (.d (tpd j.key)) h := ix_nat (k := 1) (.inl rfl) rfl h
theorem jb2 (j : Jb) (h : Hs) : ixD (.d (jbD j)) (.d (.int 2)) h = .ok (.d (.tuple (j.pre.map tpd))) h := ix_nat (k := 2) (.inl rfl) rfl h
theorem values_ok {tags s : List Str} {st : List (List Str)} {js : List Jb} {h : Hs} (hn : tags.Nodup) (hl : tags.length ≤ 1000) : runF C f_values_of [.d (plD tags st js), .d (tst s)] h = .ok (.dic (vls tags s)) h := by
  have z : zipD (.d (tst tags)) (.d (tst s)) h = .ok (.dic (vls tags s)) h := by
    have f := fold_put tags s [] hn (by simp)
    simp only [zipD, vwF, tst, strsOf_map, List.length_map]
    rw [if_pos hl]
    rw [List.map_nil, List.nil_append] at f
    rw [f]
    rfl
  have e0 : (sem C (.ix (.var 0) (.cst (.int (0))))).v [some (.d (plD tags st js)), some (.d (tst s))] h = .ok (.d (tst tags)) h := vix C (x := .d (plD tags st js)) (y := .d (.int 0)) (h1 := h) (h2 := h) rfl rfl (pl0 ..)
  have e1 : (sem C (.dz (.ix (.var 0) (.cst (.int (0)))) (.var 1))).v [some (.d (plD tags st js)), some (.d (tst s))] h = .ok (.dic (vls tags s)) h := by
    have e : (sem C (.dz (.ix (.var 0) (.cst (.int (0)))) (.var 1))).v [some (.d (plD tags st js)), some (.d (tst s))] h = ((sem C (.ix (.var 0) (.cst (.int (0))))).v [some (.d (plD tags st js)), some (.d (tst s))] h).bind fun x h1 => (R.ok (D.d (tst s)) h1).bind fun y h2 => noX (zipD x y h2) := rfl
    rw [e, e0, rb_ok, rb_ok, z, noX_ok]
  have e2 : run C f_values_of.body (startE f_values_of [.d (plD tags st js), .d (tst s)]) h = .ok (.rt (.dic (vls tags s)), [some (.d (plD tags st js)), some (.d (tst s))]) h := seq_rt C (ret_ok C e1)
  rw [runF_rt C rfl e2]
  simp only [leave, List.take_length]
abbrev jrB : S := .seq (.ite (.cmp .Eq (.ix (.var 2) (.cst (.int (0)))) (.var 1)) (.seq (.ret (.var 2)) .nil) .nil) .nil
abbrev jrL : D → Env → Hs → R (Fl × Env) := fun x σ1 h2 => match bindTg (.nm 2) x σ1 with
  | some σ2 => run C jrB σ2 h2
  | none => .no
theorem jr_loop {p : D} {nm : Str} {j : Jb} {h : Hs} : ∀ (js : List Jb) (z : Option D), js.find? (fun j => decide (j.nm = nm)) = some j → ∃ z', loopF (jrL C) (js.map fun j => D.d (jbD j)) [some p, some (.d (.str nm)), z] h = .ok (.rt (.d (jbD j)), [some p, some (.d (.str nm)), z']) h
  | [], z, e => by simp at e
  | i :: js, z, e => by
    have c : (sem C (.cmp .Eq (.ix (.var 2) (.cst (.int (0)))) (.var 1))).t [some p, some (.d (.str nm)), some (.d (jbD i))] h = .ok (i.nm == nm) h := cmp_t C (vix C (x := .d (jbD i)) (y := .d (.int 0)) (h1 := h) (h2 := h) rfl rfl (jb0 i h)) (y := .d (.str nm)) (h2 := h) rfl (eq_str _ _ h)
    rw [List.find?_cons] at e
    by_cases hi : i.nm = nm
    · simp only [hi, decide_true, Option.some.injEq] at e
      subst e
      have b : (i.nm == nm) = true := by simp [hi]
      rw [b] at c
      have st : jrL C (.d (jbD i)) [some p, some (.d (.str nm)), z] h = .ok (.rt (.d (jbD i)), [some p, some (.d (.str nm)), some (.d (jbD i))]) h := seq_rt C ((ite_t C c).trans (seq_rt C (ret_ok C rfl)))
      exact ⟨_, loop_rt st⟩
    · simp only [hi, decide_false] at e
      have b : (i.nm == nm) = false := by simp [hi]
      rw [b] at c
      have st : jrL C (.d (jbD i)) [some p, some (.d (.str nm)), z] h = .ok (.nx, [some p, some (.d (.str nm)), some (.d (jbD i))]) h := (seq_nx C ((ite_f C c).trans (run_nil C))).trans (run_nil C)
      obtain ⟨z', e2⟩ := jr_loop (p := p) js (some (.d (jbD i))) e
      exact ⟨z', (loop_nx st).trans e2⟩
theorem job_row_ok {tags : List Str} {st : List (List Str)} {js : List Jb} {nm : Str} {j : Jb} {h : Hs} (hj : js.find? (fun j => decide (j.nm = nm)) = some j) : runF C f_job_row [.d (plD tags st js), .d (.str nm)] h = .ok (.d (jbD j)) h := by
  obtain ⟨z', e⟩ := jr_loop C (p := .d (plD tags st js)) (h := h) js none hj
  have ei : (sem C (.ix (.var 0) (.cst (.int (2))))).it [some (.d (plD tags st js)), some (.d (.str nm)), none] h = .ok (js.map fun j => D.d (jbD j)) h := by
    have v : (sem C (.ix (.var 0) (.cst (.int (2))))).v [some (.d (plD tags st js)), some (.d (.str nm)), none] h = .ok (.d (.tuple (js.map jbD))) h := vix C (x := .d (plD tags st js)) (y := .d (.int 2)) (h1 := h) (h2 := h) rfl rfl (pl2 ..)
    have e' : (sem C (.ix (.var 0) (.cst (.int (2))))).it [some (.d (plD tags st js)), some (.d (.str nm)), none] h = ((sem C (.ix (.var 0) (.cst (.int (2))))).v [some (.d (plD tags st js)), some (.d (.str nm)), none] h).bind fun x h1 => noX (seqR x h1) := rfl
    rw [e', v, rb_ok]
    simp only [seqR, seqD, List.map_map, noX_ok]
    rfl
  have ef : run C (.for_ (.nm 2) (.ix (.var 0) (.cst (.int (2)))) jrB) [some (.d (plD tags st js)), some (.d (.str nm)), none] h = .ok (.rt (.d (jbD j)), [some (.d (plD tags st js)), some (.d (.str nm)), z']) h := by
    rw [run, ei, bs_ok]
    exact e
  have e2 : run C f_job_row.body (startE f_job_row [.d (plD tags st js), .d (.str nm)]) h = .ok (.rt (.d (jbD j)), [some (.d (plD tags st js)), some (.d (.str nm)), z']) h := seq_rt C ef
  rw [runF_rt C rfl e2]
  simp only [jbD, leave, List.take_length]
end
end En
/-! texts of templates -/
namespace En
open PySem L2
def pcs (v : Str → Str) (p : Pc) : Str := if p.1 then p.2 else v p.2
def tl (v : Str → Str) (ps : List Pc) : List Nat := ps.flatMap fun p => (pcs v p).cps.toList
def tx (v : Str → Str) (ps : List Pc) : Str := ⟨(tl v ps).toArray⟩
theorem str_app (a b : Str) : (a ++ b).cps.toList = a.cps.toList ++ b.cps.toList := by
  show (a.cps ++ b.cps).toList = _
  simp
theorem str_ext {a b : Str} (h : a.cps.toList = b.cps.toList) : a = b := by
  obtain ⟨x⟩ := a
  obtain ⟨y⟩ := b
  have : x = y := Array.toList_inj.mp h
  rw [this]
theorem join_cps : ∀ ys : List Str, (Str.join ⟨#[]⟩ ys).cps.toList = ys.flatMap fun s => s.cps.toList
  | [] => rfl
  | [x] => by simp [Str.join]
  | x :: y :: r => by
    have ih := join_cps (y :: r)
    rw [Str.join, str_app, str_app, ih]
    · simp
    · simp
theorem join_tx (v : Str → Str) (ps : List Pc) : Txt.join ⟨#[]⟩ (ps.map (pcs v)) = tx v ps := by
  show Builtin.Str.glued ⟨#[]⟩ (ps.map (pcs v)) = _
  rw [PySem.StrLaws.glued_eq_join]
  apply str_ext
  rw [join_cps]
  simp only [tx, tl, List.flatMap_map]
theorem kf (b : Bool) : (kindS b == (⟨#[102, 105, 101, 108, 100]⟩ : Str)) = !b := by cases b <;> decide
theorem sum_le (v : Str → Str) (hv : ∀ x, (v x).length ≤ 100) : ∀ ps : List Pc, ((ps.map (pcs v)).map (·.length)).sum ≤ tot ps + 100 * ps.length
  | [] => by simp [tot]
  | p :: ps => by
    have := sum_le v hv ps
    have h1 : (pcs v p).length ≤ p.2.length + 100 := by
      unfold pcs
      split
      · omega
      · have := hv p.2; omega
    simp only [List.map_cons, List.sum_cons, tot, List.length_cons]
    omega
/-- a template whose fields are known -/
def Fd (tags : List Str) (ps : List Pc) : Prop := ∀ p ∈ ps, p.1 = false → p.2 ∈ tags
section
variable (C : Str → List D → Hs → R D)
abbrev toE : E := .ife (.cmp .Eq (.var 2) (.glo (Str.ofString "FIELD") (.str ⟨#[102, 105, 101, 108, 100]⟩))) (.ix (.var 1) (.var 3)) (.var 3)
theorem toE_ok {tags s : List Str} {a : D} {p : Pc} {h : Hs} (hp : p.1 = false → p.2 ∈ tags) (hs : s.length = tags.length) : (sem C toE).v [some a, some (.dic (vls tags s)), some (.d (.str (kindS p.1))), some (.d (.str p.2))] h = .ok (.d (.str (pcs (vl tags s) p))) h := by
  have c : (sem C (.cmp .Eq (.var 2) (.glo (Str.ofString "FIELD") (.str ⟨#[102, 105, 101, 108, 100]⟩)))).t [some a, some (.dic (vls tags s)), some (.d (.str (kindS p.1))), some (.d (.str p.2))] h = .ok (!p.1) h := by
    have := cmp_t C (o := .Eq) (a := .var 2) (b := .glo (Str.ofString "FIELD") (.str ⟨#[102, 105, 101, 108, 100]⟩)) (σ := [some a, some (.dic (vls tags s)), some (.d (.str (kindS p.1))), some (.d (.str p.2))]) (h := h) (h1 := h) (h2 := h) (x := .d (.str (kindS p.1))) (y := .d (.str ⟨#[102, 105, 101, 108, 100]⟩)) rfl rfl (eq_str _ _ h)
    rw [kf] at this
    exact this
  unfold pcs
  cases hk : p.1 with
  | true =>
    rw [hk] at c
    exact (ife_f C c).trans rfl
  | false =>
    rw [hk] at c
    refine (ife_t C c).trans ?_
    exact vix C (x := .dic (vls tags s)) (y := .d (.str p.2)) (h1 := h) (h2 := h) rfl rfl (get_vl (hp hk) hs h)
theorem text_ok {tags s : List Str} {ps : List Pc} {h : Hs} (hp : Fd tags ps) (hs : s.length = tags.length) (hv : ∀ x, (vl tags s x).length ≤ 100) (ht : tot ps ≤ 10000) (hl : ps.length ≤ 10000) :
    runF C f_text_of [.d (tpd ps), .dic (vls tags s)] h = .ok (.d (.str (tx (vl tags s) ps))) h := by
  have hk : h.take h.length = h := List.take_length
  have cm := comp_map (n := h.length) (f := turn [2, 3] (.tp [2, 3]) (sem C .nil) (fun σ2 h3 => some1 ((sem C toE).v σ2 h3)) [some (.d (tpd ps)), some (.dic (vls tags s)), none, none]) (fun p : Pc => D.d (pd p)) (fun p => .str (pcs (vl tags s) p)) hk ps (fun p hpp => by
    exact turn_ok C (me := (sem C toE).v) (σ2 := [some (.d (tpd ps)), some (.dic (vls tags s)), some (.d (.str (kindS p.1))), some (.d (.str p.2))]) rfl (toE_ok C (hp p hpp) hs))
  have e1 := lc_ok C (own := [2, 3]) (tg := .tp [2, 3]) (it := .var 0) (σ := [some (.d (tpd ps)), some (.dic (vls tags s)), none, none]) (h := h) (var_it C rfl (seq_tpd ps)) cm (by rw [List.length_map]; omega)
  have em : (ps.map fun p => PyData.str (pcs (vl tags s) p)) = (ps.map (pcs (vl tags s))).map .str := by rw [List.map_map]; rfl
  rw [em] at e1
  have sl := sum_le (vl tags s) hv ps
  have ej : mthD .join (.d (.str ⟨#[]⟩)) [.d (.list ((ps.map (pcs (vl tags s))).map .str))] h = .ok (.d (.str (tx (vl tags s) ps))) h := by
    have z : (⟨#[]⟩ : Str).length = 0 := rfl
    simp only [mthD, vw, strsOf_map, join_tx, z]
    rw [if_pos (by omega)]
  have e2 : (sem C (.mth .join (.cst (.str ⟨#[]⟩)) (.cons (.lc false [2, 3] (.tp [2, 3]) (.var 0) .nil toE) .nil))).v [some (.d (tpd ps)), some (.dic (vls tags s)), none, none] h = .ok (.d (.str (tx (vl tags s) ps))) h := by
    have e : (sem C (.mth .join (.cst (.str ⟨#[]⟩)) (.cons (.lc false [2, 3] (.tp [2, 3]) (.var 0) .nil toE) .nil))).v [some (.d (tpd ps)), some (.dic (vls tags s)), none, none] h = (((sem C (.lc false [2, 3] (.tp [2, 3]) (.var 0) .nil toE)).v [some (.d (tpd ps)), some (.dic (vls tags s)), none, none] h).bind fun x h1 => (R.ok [] h1).bind fun xs h2 => .ok (x :: xs) h2).bind fun ds h2 => noX (mthD .join (.d (.str ⟨#[]⟩)) ds h2) := rfl
    rw [e, e1]
    show noX (mthD .join (.d (.str ⟨#[]⟩)) [.d (.list ((ps.map (pcs (vl tags s))).map .str))] h) = _
    rw [ej, noX_ok]
  have e3 : run C f_text_of.body (startE f_text_of [.d (tpd ps), .dic (vls tags s)]) h = .ok (.rt (.d (.str (tx (vl tags s) ps))), [some (.d (tpd ps)), some (.dic (vls tags s)), none, none]) h := seq_rt C (ret_ok C e2)
  rw [runF_rt C rfl e3]
  simp only [leave, List.take_length]
/-- a row of a key -/
def rwD (v : Str → Str) (p : Pc) : PyData := .tuple [.str (kindS p.1), .str p.2, .str (if p.1 then ⟨#[]⟩ else v p.2)]
def rowD (v : Str → Str) (ps : List Pc) : PyData := .tuple (ps.map (rwD v))
abbrev roE : E := .ife (.cmp .Eq (.var 2) (.glo (Str.ofString "FIELD") (.str ⟨#[102, 105, 101, 108, 100]⟩))) (.ix (.var 1) (.var 3)) (.cst (.str ⟨#[]⟩))
theorem tup3 {a b c : E} {σ : Env} {h h1 h2 h3 : Hs} {x y z : PyData} (ha : (sem C a).v σ h = .ok (.d x) h1) (hb : (sem C b).v σ h1 = .ok (.d y) h2) (hc : (sem C c).v σ h2 = .ok (.d z) h3) : (sem C (.tup (.cons a (.cons b (.cons c .nil))))).v σ h = .ok (.d (.tuple [x, y, z])) h3 := by
  have hz : sizeLine = 16777216 := sizeLine_eq
  have e : (sem C (.tup (.cons a (.cons b (.cons c .nil))))).v σ h = (((sem C a).v σ h).bind fun x h1 => (((sem C b).v σ h1).bind fun y h2 => (((sem C c).v σ h2).bind fun w h3 => (R.ok [] h3).bind fun xs h4 => .ok (w :: xs) h4).bind fun xs h3 => .ok (y :: xs) h3).bind fun xs h2 => .ok (x :: xs) h2).bind fun ds h1 => noX (tupD ds h1) := rfl
  rw [e, ha, rb_ok, hb, rb_ok, hc]
  show noX (tupD [.d x, .d y, .d z] h3) = _
  simp [tupD, plainL, hz, noX_ok]
theorem row_ok {tags s : List Str} {ps : List Pc} {h : Hs} (hp : Fd tags ps) (hs : s.length = tags.length) (hl : ps.length ≤ 10000) :
    runF C f_row_of [.d (tpd ps), .dic (vls tags s)] h = .ok (.d (rowD (vl tags s) ps)) h := by
  have hk : h.take h.length = h := List.take_length
  have cm := comp_map (n := h.length) (f := turn [2, 3] (.tp [2, 3]) (sem C .nil) (fun σ2 h3 => some1 ((sem C (.tup (.cons (.var 2) (.cons (.var 3) (.cons roE .nil))))).v σ2 h3)) [some (.d (tpd ps)), some (.dic (vls tags s)), none, none]) (fun p : Pc => D.d (pd p)) (fun p => rwD (vl tags s) p) hk ps (fun p hpp => by
    refine turn_ok C (me := (sem C (.tup (.cons (.var 2) (.cons (.var 3) (.cons roE .nil))))).v) (σ2 := [some (.d (tpd ps)), some (.dic (vls tags s)), some (.d (.str (kindS p.1))), some (.d (.str p.2))]) rfl ?_
    refine tup3 C (x := .str (kindS p.1)) (y := .str p.2) (h1 := h) (h2 := h) rfl rfl ?_
    have c : (sem C (.cmp .Eq (.var 2) (.glo (Str.ofString "FIELD") (.str ⟨#[102, 105, 101, 108, 100]⟩)))).t [some (.d (tpd ps)), some (.dic (vls tags s)), some (.d (.str (kindS p.1))), some (.d (.str p.2))] h = .ok (!p.1) h := by
      have := cmp_t C (o := .Eq) (a := .var 2) (b := .glo (Str.ofString "FIELD") (.str ⟨#[102, 105, 101, 108, 100]⟩)) (σ := [some (.d (tpd ps)), some (.dic (vls tags s)), some (.d (.str (kindS p.1))), some (.d (.str p.2))]) (h := h) (h1 := h) (h2 := h) (x := .d (.str (kindS p.1))) (y := .d (.str ⟨#[102, 105, 101, 108, 100]⟩)) rfl rfl (eq_str _ _ h)
      rw [kf] at this
      exact this
    cases hkk : p.1 with
    | true =>
      rw [hkk] at c
      exact (ife_f C c).trans rfl
    | false =>
      rw [hkk] at c
      refine (ife_t C c).trans ?_
      exact vix C (x := .dic (vls tags s)) (y := .d (.str p.2)) (h1 := h) (h2 := h) rfl rfl (get_vl (hp p hpp hkk) hs h))
  have e1 := lc_ok C (own := [2, 3]) (tg := .tp [2, 3]) (it := .var 0) (σ := [some (.d (tpd ps)), some (.dic (vls tags s)), none, none]) (h := h) (var_it C rfl (seq_tpd ps)) cm (by rw [List.length_map]; omega)
  have e3 : run C f_row_of.body (startE f_row_of [.d (tpd ps), .dic (vls tags s)]) h = .ok (.rt (.d (rowD (vl tags s) ps)), [some (.d (tpd ps)), some (.dic (vls tags s)), none, none]) h := seq_rt C (ret_ok C (bi1 C e1 rfl))
  rw [runF_rt C rfl e3]
  simp only [rowD, leave, List.take_length]
end
end En
/-! keys and prefixes of cases -/
namespace En
open PySem L2
def caD (nm : Str) (s : List Str) : PyData := .tuple [.str nm, tst s]
theorem vl_len {tags s : List Str} (hs : ∀ w ∈ s, w.length ≤ 100) (x : Str) : (vl tags s x).length ≤ 100 := by
  unfold vl
  cases e : (tags.zip s).lookup x with
  | none => exact Nat.zero_le _
  | some v =>
    have : ∀ (l : List (Str × Str)), l.lookup x = some v → (x, v) ∈ l := by
      intro l
      induction l with
      | nil => intro e; cases e
      | cons p l ih =>
        intro e
        obtain ⟨a, b⟩ := p
        rw [List.lookup_cons] at e
        by_cases h : x = a
        · subst h
          simp at e
          subst e
          exact List.mem_cons_self
        · have h' : (x == a) = false := by simp [h]
          rw [h'] at e
          exact List.mem_cons_of_mem _ (ih e)
    exact hs v (List.of_mem_zip (this _ e)).2
/-- a template small enough, its fields known -/
def Ft (tags : List Str) (ps : List Pc) : Prop := Fd tags ps ∧ tot ps ≤ 10000 ∧ ps.length ≤ 10000
/-- a setting -/
def St1 (tags : List Str) (s : List Str) : Prop := s.length = tags.length ∧ ∀ w ∈ s, w.length ≤ 100
structure WfP (tags : List Str) (st : List (List Str)) (js : List Jb) : Prop where
  nd : tags.Nodup
  few : tags.length ≤ 1000
  sts : ∀ s ∈ st, St1 tags s
  stl : st.length ≤ 1000
  jsl : js.length ≤ 1000
  key : ∀ j ∈ js, Ft tags j.key
  pre : ∀ j ∈ js, ∀ p ∈ j.pre, Ft tags p
  prl : ∀ j ∈ js, j.pre.length ≤ 1000
/-- the lower functions, as called -/
structure Kc (C : Str → List D → Hs → R D) : Prop where
  V : ∀ {tags s : List Str} {st : List (List Str)} {js : List Jb} {h : Hs}, tags.Nodup → tags.length ≤ 1000 → C (Str.ofString "values_of") [.d (plD tags st js), .d (tst s)] h = .ok (.dic (vls tags s)) h
  J : ∀ {tags : List Str} {st : List (List Str)} {js : List Jb} {nm : Str} {j : Jb} {h : Hs}, js.find? (fun j => decide (j.nm = nm)) = some j → C (Str.ofString "job_row") [.d (plD tags st js), .d (.str nm)] h = .ok (.d (jbD j)) h
  X : ∀ {tags s : List Str} {ps : List Pc} {h : Hs}, Ft tags ps → St1 tags s → C (Str.ofString "text_of") [.d (tpd ps), .dic (vls tags s)] h = .ok (.d (.str (tx (vl tags s) ps))) h
  W : ∀ {tags s : List Str} {ps : List Pc} {h : Hs}, Ft tags ps → St1 tags s → C (Str.ofString "row_of") [.d (tpd ps), .dic (vls tags s)] h = .ok (.d (rowD (vl tags s) ps)) h
  U : ∀ {ps : List Pc} {h : Hs}, ps.length ≤ 10000 → C (Str.ofString "tupled") [.d (tpd ps)] h = .ok (.d (tpd ps)) h
  S : ∀ {st : List (List Str)} {h : Hs}, st.length ≤ 1000 → (∀ s ∈ st, s.length ≤ 1000) → C (Str.ofString "tupled") [.d (.tuple (st.map tst))] h = .ok (.d (.tuple (st.map tst))) h
  N : ∀ {k : Nat} {h : Hs}, C (Str.ofString "is_number") [.d (.int (k : Int)), .d (.int 0)] h = .ok (.d (.bool true)) h
theorem tp_tst {P : Prog} (hp : P.lookup (Str.ofString "tupled") = some f_tupled) (k : Nat) (s : List Str) (hl : s.length ≤ 1000) (h : Hs) : callN P (k + 2) (Str.ofString "tupled") [.d (tst s)] h = .ok (.d (tst s)) h := by
  rw [cn hp]
  refine tp_row (callN P (k + 1)) (α := Str) (fun s => .str s) (fun s => .str s) s (.inl rfl) h (by omega) fun x hx => ?_
  rw [cn hp]
  exact tp_str _ x h
theorem num_ok (C : Str → List D → Hs → R D) (k : Nat) (h : Hs) : runF C f_is_number [.d (.int (k : Int)), .d (.int 0)] h = .ok (.d (.bool true)) h := by
  have e : (0 : Int) ≤ (k : Int) := by omega
  simp [f_is_number, runF, startE, run, sem, mkV, mkT, smCons, smNil, R.bind, bs_ok, noX_ok, isiR, isiD, isNoneD, liveD, tyD, subTy, truD, sel, ge_int, e, leave]
theorem kc_of {P : Prog} (h1 : P.lookup (Str.ofString "values_of") = some f_values_of) (h2 : P.lookup (Str.ofString "job_row") = some f_job_row) (h3 : P.lookup (Str.ofString "text_of") = some f_text_of) (h4 : P.lookup (Str.ofString "row_of") = some f_row_of) (h5 : P.lookup (Str.ofString "tupled") = some f_tupled) (h6 : P.lookup (Str.ofString "is_number") = some f_is_number) (k : Nat) : Kc (callN P (k + 3)) where
  V := fun hn hl => by rw [cn h1]; exact values_ok _ hn hl
  J := fun hj => by rw [cn h2]; exact job_row_ok _ hj
  X := fun hf hs => by rw [cn h3]; exact text_ok _ hf.1 hs.1 (vl_len hs.2) hf.2.1 hf.2.2
  W := fun hf hs => by rw [cn h4]; exact row_ok _ hf.1 hs.1 hf.2.2
  U := fun hl => tp_tpd h5 k _ (.inl rfl) hl _
  S := fun hl hs => by
    rw [cn h5]
    exact tp_row (callN P (k + 2)) tst tst _ (.inl rfl) _ (by omega) fun x hx => tp_tst h5 k x (hs x hx) _
  N := by
    intro k' h
    rw [cn h6]
    exact num_ok _ k' h
section
variable (C : Str → List D → Hs → R D)
theorem call2d {f : Str} {a b : E} {σ : Env} {h h1 h2 h3 : Hs} {x y z : D} (ha : (sem C a).v σ h = .ok x h1) (hb : (sem C b).v σ h1 = .ok y h2) (hc : C f [x, y] h2 = .ok z h3) (hz : fzD z h3 = .ok z h3) : (sem C (.call f false (.cons a (.cons b .nil)))).v σ h = .ok z h3 := by
  have e : (sem C (.call f false (.cons a (.cons b .nil)))).v σ h = (((sem C a).v σ h).bind fun x h1 => (((sem C b).v σ h1).bind fun y h2 => (R.ok [] h2).bind fun xs h3 => .ok (y :: xs) h3).bind fun xs h2 => .ok (x :: xs) h2).bind fun ds h1 => (C f ds h1).bind fun x h2 => noX (keepR false x h2) := rfl
  rw [e, ha, rb_ok, hb]
  show (C f [x, y] h2).bind _ = _
  rw [hc, rb_ok]
  show noX (fzD z h3) = _
  rw [hz, noX_ok]
theorem unp_ok {is : List Nat} {e : E} {σ σ' : Env} {h h' : Hs} {x : D} (q : (sem C e).v σ h = .ok x h') (hb : bindTg (.tp is) x σ = some σ') : run C (.unp is e) σ h = .ok (.nx, σ') h' := by
  rw [run, q, bs_ok, hb]
abbrev kcV : E := .call (Str.ofString "values_of") false (.cons (.var 0) (.cons (.var 3) .nil))
abbrev kcJ : E := .call (Str.ofString "job_row") false (.cons (.var 0) (.cons (.var 2) .nil))
section
variable {tags s : List Str} {st : List (List Str)} {js : List Jb} {nm : Str} {j : Jb} {h : Hs}
theorem key_text_ok (kc : Kc C) (w : WfP tags st js) (hj : js.find? (fun j => decide (j.nm = nm)) = some j) (hs : St1 tags s) :
    runF C f_key_text [.d (plD tags st js), .d (caD nm s)] h = .ok (.d (.str (tx (vl tags s) j.key))) h := by
  have jm : j ∈ js := List.mem_of_find?_eq_some hj
  have ev : (sem C kcV).v [some (.d (plD tags st js)), some (.d (caD nm s)), some (.d (.str nm)), some (.d (tst s))] h = .ok (.dic (vls tags s)) h := call2d C (x := .d (plD tags st js)) (y := .d (tst s)) (h1 := h) (h2 := h) rfl rfl (kc.V w.nd w.few) rfl
  have ej : (sem C kcJ).v [some (.d (plD tags st js)), some (.d (caD nm s)), some (.d (.str nm)), some (.d (tst s))] h = .ok (.d (jbD j)) h := call2 C (x := .d (plD tags st js)) (y := .d (.str nm)) (h1 := h) (h2 := h) rfl rfl (kc.J hj)
  have e1 := call2 C (vix C ej (y := .d (.int 1)) (b := .cst (.int 1)) (h2 := h) rfl (jb1 j h)) ev (kc.X (w.key j jm) hs)
  have e2 : run C f_key_text.body (startE f_key_text [.d (plD tags st js), .d (caD nm s)]) h = .ok (.rt (.d (.str (tx (vl tags s) j.key))), [some (.d (plD tags st js)), some (.d (caD nm s)), some (.d (.str nm)), some (.d (tst s))]) h := by
    refine (seq_nx C (unp_ok C (x := .d (caD nm s)) (h' := h) rfl rfl)).trans ?_
    exact seq_rt C (ret_ok C e1)
  rw [runF_rt C rfl e2]
  simp only [leave, List.take_length]
theorem key_row_ok (kc : Kc C) (w : WfP tags st js) (hj : js.find? (fun j => decide (j.nm = nm)) = some j) (hs : St1 tags s) :
    runF C f_key_row [.d (plD tags st js), .d (caD nm s)] h = .ok (.d (rowD (vl tags s) j.key)) h := by
  have jm : j ∈ js := List.mem_of_find?_eq_some hj
  have ev : (sem C kcV).v [some (.d (plD tags st js)), some (.d (caD nm s)), some (.d (.str nm)), some (.d (tst s))] h = .ok (.dic (vls tags s)) h := call2d C (x := .d (plD tags st js)) (y := .d (tst s)) (h1 := h) (h2 := h) rfl rfl (kc.V w.nd w.few) rfl
  have ej : (sem C kcJ).v [some (.d (plD tags st js)), some (.d (caD nm s)), some (.d (.str nm)), some (.d (tst s))] h = .ok (.d (jbD j)) h := call2 C (x := .d (plD tags st js)) (y := .d (.str nm)) (h1 := h) (h2 := h) rfl rfl (kc.J hj)
  have e1 := call2 C (vix C ej (y := .d (.int 1)) (b := .cst (.int 1)) (h2 := h) rfl (jb1 j h)) ev (kc.W (w.key j jm) hs)
  have e2 : run C f_key_row.body (startE f_key_row [.d (plD tags st js), .d (caD nm s)]) h = .ok (.rt (.d (rowD (vl tags s) j.key)), [some (.d (plD tags st js)), some (.d (caD nm s)), some (.d (.str nm)), some (.d (tst s))]) h := by
    refine (seq_nx C (unp_ok C (x := .d (caD nm s)) (h' := h) rfl rfl)).trans ?_
    exact seq_rt C (ret_ok C e1)
  rw [runF_rt C rfl e2]
  simp only [rowD, leave, List.take_length]
theorem val_it {e : E} {σ : Env} {h h1 : Hs} {x : D} {ds : List D} (hv : (sem C e).it σ h = ((sem C e).v σ h).bind fun x h1 => noX (seqR x h1)) (q : (sem C e).v σ h = .ok x h1) (hs : seqD x = some ds) : (sem C e).it σ h = .ok ds h1 := by
  rw [hv, q, rb_ok]
  simp only [seqR, hs, noX_ok]
theorem prefix_texts_ok (kc : Kc C) (w : WfP tags st js) (hj : js.find? (fun j => decide (j.nm = nm)) = some j) (hs : St1 tags s) :
    runF C f_prefix_texts [.d (plD tags st js), .d (caD nm s)] h = .ok (.d (.list (j.pre.map fun p => .str (tx (vl tags s) p)))) h := by
  have jm : j ∈ js := List.mem_of_find?_eq_some hj
  have hk : h.take h.length = h := List.take_length
  have ej : (sem C kcJ).v [some (.d (plD tags st js)), some (.d (caD nm s)), some (.d (.str nm)), some (.d (tst s)), none] h = .ok (.d (jbD j)) h := call2 C (x := .d (plD tags st js)) (y := .d (.str nm)) (h1 := h) (h2 := h) rfl rfl (kc.J hj)
  have ei := val_it C (e := .ix kcJ (.cst (.int 2))) (ds := j.pre.map fun p => D.d (tpd p)) rfl (vix C ej (y := .d (.int 2)) (b := .cst (.int 2)) (h2 := h) rfl (jb2 j h)) (by simp only [seqD, List.map_map]; rfl)
  have cm := comp_map (n := h.length) (f := turn [4] (.nm 4) (sem C .nil) (fun σ2 h3 => some1 ((sem C (.call (Str.ofString "text_of") false (.cons (.var 4) (.cons kcV .nil)))).v σ2 h3)) [some (.d (plD tags st js)), some (.d (caD nm s)), some (.d (.str nm)), some (.d (tst s)), none]) (fun p : List Pc => D.d (tpd p)) (fun p => .str (tx (vl tags s) p)) hk j.pre (fun p hp => by
    refine turn_ok C (me := (sem C (.call (Str.ofString "text_of") false (.cons (.var 4) (.cons kcV .nil)))).v) (σ2 := [some (.d (plD tags st js)), some (.d (caD nm s)), some (.d (.str nm)), some (.d (tst s)), some (.d (tpd p))]) rfl ?_
    exact call2 C (x := .d (tpd p)) (y := .dic (vls tags s)) (h1 := h) (h2 := h) rfl (call2d C (x := .d (plD tags st js)) (y := .d (tst s)) (h1 := h) (h2 := h) rfl rfl (kc.V w.nd w.few) rfl) (kc.X (w.pre j jm p hp) hs))
  have e1 := lc_ok C (own := [4]) (tg := .nm 4) ei cm (by rw [List.length_map]; have := w.prl j jm; omega)
  have e2 : run C f_prefix_texts.body (startE f_prefix_texts [.d (plD tags st js), .d (caD nm s)]) h = .ok (.rt (.d (.list (j.pre.map fun p => .str (tx (vl tags s) p)))), [some (.d (plD tags st js)), some (.d (caD nm s)), some (.d (.str nm)), some (.d (tst s)), none]) h := by
    refine (seq_nx C (unp_ok C (x := .d (caD nm s)) (h' := h) rfl rfl)).trans ?_
    exact seq_rt C (ret_ok C e1)
  rw [runF_rt C rfl e2]
  simp only [leave, List.take_length]
theorem prefix_of_ok (kc : Kc C) (w : WfP tags st js) (hj : js.find? (fun j => decide (j.nm = nm)) = some j) {k : Nat} {p : List Pc} (hk : j.pre[k]? = some p) :
    runF C f_prefix_of [.d (plD tags st js), .d (.str nm), .d (.int (k : Int))] h = .ok (.d (tpd p)) h := by
  have jm : j ∈ js := List.mem_of_find?_eq_some hj
  have hp : p ∈ j.pre := List.mem_of_getElem? hk
  have kl : k < j.pre.length := (List.getElem?_eq_some_iff.mp hk).1
  have ej := vix C (call2 C (f := Str.ofString "job_row") (a := .var 0) (b := .var 1) (σ := [some (.d (plD tags st js)), some (.d (.str nm)), some (.d (.int (k : Int))), none]) (h := h) (x := .d (plD tags st js)) (y := .d (.str nm)) (h1 := h) (h2 := h) rfl rfl (kc.J hj)) (y := .d (.int 2)) (b := .cst (.int 2)) (h2 := h) rfl (jb2 j h)
  have c1 : (sem C (.not (.call (Str.ofString "is_number") false (.cons (.var 2) (.cons (.cst (.int (0))) .nil))))).t [some (.d (plD tags st js)), some (.d (.str nm)), some (.d (.int (k : Int))), some (.d (.tuple (j.pre.map tpd)))] h = .ok false h := not_t C (call_t C (call2 C (x := .d (.int (k : Int))) (y := .d (.int 0)) (h1 := h) (h2 := h) rfl rfl kc.N))
  have ln : biD .len false [.d (.tuple (j.pre.map tpd))] h = .ok (.d (.int (j.pre.length : Int))) h := by simp [biD, lenD, vw]
  have c2 : (sem C (.cmp .GtE (.var 2) (.bi .len false (.cons (.var 3) .nil)))).t [some (.d (plD tags st js)), some (.d (.str nm)), some (.d (.int (k : Int))), some (.d (.tuple (j.pre.map tpd)))] h = .ok false h := by
    have := cmp_t C (o := .GtE) (a := .var 2) (σ := [some (.d (plD tags st js)), some (.d (.str nm)), some (.d (.int (k : Int))), some (.d (.tuple (j.pre.map tpd)))]) (x := .d (.int (k : Int))) (h := h) (h1 := h) rfl (bi1 C (a := .var 3) (m := false) (x := .d (.tuple (j.pre.map tpd))) (h1 := h) rfl ln) (ge_int _ _ h)
    rw [decide_eq_false (by omega)] at this
    exact this
  have c : (sem C (.bop .Or (.cons (.not (.call (Str.ofString "is_number") false (.cons (.var 2) (.cons (.cst (.int (0))) .nil)))) (.cons (.cmp .GtE (.var 2) (.bi .len false (.cons (.var 3) .nil))) .nil)))).t [some (.d (plD tags st js)), some (.d (.str nm)), some (.d (.int (k : Int))), some (.d (.tuple (j.pre.map tpd)))] h = .ok false h := by
    have e : ∀ (a b : E) (σ : Env) (h : Hs), (sem C (.bop .Or (.cons a (.cons b .nil)))).t σ h = ((sem C a).t σ h).bind fun t h2 => sel .Or t ((sem C b).t σ h2) (.ok t h2) := fun a b σ h => rfl
    rw [e, c1, rb_ok]
    exact c2
  have er : (sem C (.call (Str.ofString "tupled") false (.cons (.ix (.var 3) (.var 2)) .nil))).v [some (.d (plD tags st js)), some (.d (.str nm)), some (.d (.int (k : Int))), some (.d (.tuple (j.pre.map tpd)))] h = .ok (.d (tpd p)) h := call1 C (vix C (x := .d (.tuple (j.pre.map tpd))) (y := .d (.int (k : Int))) (h1 := h) (h2 := h) rfl rfl (ix_nat (.inl rfl) (by rw [List.getElem?_map, hk]; rfl) h)) (kc.U (w.pre j jm p hp).2.2)
  have e2 : run C f_prefix_of.body (startE f_prefix_of [.d (plD tags st js), .d (.str nm), .d (.int (k : Int))]) h = .ok (.rt (.d (tpd p)), [some (.d (plD tags st js)), some (.d (.str nm)), some (.d (.int (k : Int))), some (.d (.tuple (j.pre.map tpd)))]) h := by
    refine (seq_nx C (asg_ok C ej)).trans ?_
    refine (seq_nx C ((ite_f C c).trans (run_nil C))).trans ?_
    exact seq_rt C (ret_ok C er)
  rw [runF_rt C rfl e2]
  simp only [tpd, leave, List.take_length]
end
end
end En
/-! cases, and what begins them -/
namespace En
open PySem L2
section
variable (C : Str → List D → Hs → R D)
theorem turn_k {own : List Nat} {tg : Tg} {k : Env → Hs → R (Option PyData)} {σ σ2 : Env} {x : D} {y : Option PyData} {h h3 : Hs} (hb : bindTg tg x (wipeE σ own) = some σ2) (he : k σ2 h = .ok y h3) : turn own tg (sem C .nil) k σ x h = .ok y h3 := by
  unfold turn
  rw [hb]
  show noX (k σ2 h) = _
  rw [he, noX_ok]
/-- with a test -/
theorem turn_if {own : List Nat} {tg : Tg} {c : E} {me : Env → Hs → R D} {σ σ2 : Env} {x : D} {y : PyData} {h : Hs} {b : Bool} (hb : bindTg tg x (wipeE σ own) = some σ2) (hc : (sem C c).t σ2 h = .ok b h) (he : me σ2 h = .ok (.d y) h) : turn own tg (sem C (.cons c .nil)) (fun σ2 h3 => some1 (me σ2 h3)) σ x h = .ok (if b then some y else none) h := by
  unfold turn
  rw [hb]
  show noX (((sem C c).t σ2 h).bind fun b h3 => if b then some1 (me σ2 h3) else .ok none h3) = _
  rw [hc, rb_ok]
  cases b with
  | false => rfl
  | true =>
    show noX (some1 (me σ2 h)) = _
    rw [he]
    rfl
theorem comp_filter {n : Nat} {f : D → Hs → R (Option PyData)} {α : Type} (u : α → D) (c : α → Bool) (g : α → PyData) {h : Hs} (hn : h.take n = h) : ∀ xs : List α, (∀ x ∈ xs, f (u x) h = .ok (if c x then some (g x) else none) h) → compL n f (xs.map u) h = .ok ((xs.filter c).map g) h
  | [], _ => rfl
  | x :: xs, hf => by
    rw [List.map_cons, compL, hf x List.mem_cons_self, rb_ok, hn, comp_filter u c g hn xs fun y hy => hf y (List.mem_cons_of_mem _ hy), rb_ok, List.filter_cons]
    cases c x <;> rfl
theorem flat_unL {α : Type} (g : α → List PyData) : ∀ xs : List α, (xs.map fun x => PyData.list (g x)).flatMap unL = xs.flatMap g
  | [] => rfl
  | x :: xs => by rw [List.map_cons, List.flatMap_cons, List.flatMap_cons, flat_unL g xs]; rfl
theorem lc2_ok {own vs1 : List Nat} {tg tg1 : Tg} {it ifs it1 ifs1 elt : E} {σ : Env} {h : Hs} {α : Type} {xs : List α} {u : α → D} {g : α → List PyData} (hi : (sem C it).it σ h = .ok (xs.map u) h)
    (hf : ∀ x ∈ xs, turn own tg (sem C ifs) (in2 (sem C it1).it vs1 tg1 (sem C ifs1) (sem C elt).v) σ (u x) h = .ok (some (.list (g x))) h) (hl : (xs.flatMap g).length ≤ 16777216) : (sem C (.lc2 own vs1 tg it ifs tg1 it1 ifs1 elt)).v σ h = .ok (.d (.list (xs.flatMap g))) h := by
  have hz : sizeLine = 16777216 := sizeLine_eq
  have e : (sem C (.lc2 own vs1 tg it ifs tg1 it1 ifs1 elt)).v σ h = ((sem C it).it σ h).bind fun ds h1 => (compL h1.length (turn own tg (sem C ifs) (in2 (sem C it1).it vs1 tg1 (sem C ifs1) (sem C elt).v) σ) ds h1).bind fun yss h2 => noX (mkL false (yss.flatMap unL) h2) := rfl
  rw [e, hi, rb_ok, comp_map u (fun x => PyData.list (g x)) List.take_length xs hf, rb_ok, flat_unL]
  unfold mkL
  rw [hz, if_pos hl]
  rfl
theorem in2_ok {it1 ifs1 elt : E} {vs1 : List Nat} {tg1 : Tg} {σ2 : Env} {h : Hs} {ds : List D} {ys : List PyData} (hi : (sem C it1).it σ2 h = .ok ds h) (hc : compL h.length (turn vs1 tg1 (sem C ifs1) (fun σ3 h6 => some1 ((sem C elt).v σ3 h6)) σ2) ds h = .ok ys h) : in2 (sem C it1).it vs1 tg1 (sem C ifs1) (sem C elt).v σ2 h = .ok (some (.list ys)) h := by
  unfold in2
  rw [hi, rb_ok, hc, rb_ok]
/-- all cases -/
def cas (st : List (List Str)) (js : List Jb) : List (Jb × List Str) := js.flatMap fun j => st.map fun s => (j, s)
def casD (q : Jb × List Str) : PyData := caD q.1.nm q.2
theorem cas_len (st : List (List Str)) (js : List Jb) : (cas st js).length = js.length * st.length := by
  induction js with
  | nil => simp [cas]
  | cons j js ih =>
    have : cas st (j :: js) = (st.map fun s => (j, s)) ++ cas st js := rfl
    rw [this, List.length_append, ih, List.length_map, List.length_cons, Nat.succ_mul, Nat.add_comm]
theorem cas_map (st : List (List Str)) : ∀ js : List Jb, (js.flatMap fun j => st.map fun s => caD j.nm s) = (cas st js).map casD
  | [] => rfl
  | j :: js => by
    have : cas st (j :: js) = (st.map fun s => (j, s)) ++ cas st js := rfl
    rw [this, List.map_append, List.flatMap_cons, cas_map st js, List.map_map]
    rfl
theorem cas_mem {st : List (List Str)} {js : List Jb} {q : Jb × List Str} (h : q ∈ cas st js) : q.1 ∈ js ∧ q.2 ∈ st := by
  obtain ⟨j, hj, h⟩ := List.mem_flatMap.mp h
  obtain ⟨s, hs, rfl⟩ := List.mem_map.mp h
  exact ⟨hj, hs⟩
theorem seq_tup {α : Type} (f : α → PyData) (ss : List α) : seqD (.d (.tuple (ss.map f))) = some (ss.map fun s => D.d (f s)) := by simp [seqD]
theorem cases_ok {tags : List Str} {st : List (List Str)} {js : List Jb} {h : Hs} (kc : Kc C) (w : WfP tags st js) :
    runF C f_cases [.d (plD tags st js)] h = .ok (.d (.list ((cas st js).map casD))) h := by
  have sl : ∀ s ∈ st, s.length ≤ 1000 := fun s hs => by rw [(w.sts s hs).1]; exact w.few
  have e1 : (sem C (.call (Str.ofString "tupled") false (.cons (.ix (.var 0) (.cst (.int (1)))) .nil))).v [some (.d (plD tags st js)), none, none, none] h = .ok (.d (.tuple (st.map tst))) h := call1 C (vix C (x := .d (plD tags st js)) (y := .d (.int 1)) (h1 := h) (h2 := h) rfl rfl (pl1 tags st js h)) (kc.S w.stl sl)
  have ei : (sem C (.ix (.var 0) (.cst (.int (2))))).it [some (.d (plD tags st js)), some (.d (.tuple (st.map tst))), none, none] h = .ok (js.map fun j => D.d (jbD j)) h := val_it C rfl (vix C (x := .d (plD tags st js)) (y := .d (.int 2)) (h1 := h) (h2 := h) rfl rfl (pl2 tags st js h)) (seq_tup jbD js)
  have e2 := lc2_ok C (own := [2, 3]) (vs1 := [3]) (tg := .nm 2) (tg1 := .nm 3) (ifs := .nil) (it1 := .var 1) (ifs1 := .nil) (elt := .tup (.cons (.ix (.var 2) (.cst (.int (0)))) (.cons (.var 3) .nil))) (g := fun j => st.map fun s => caD j.nm s) ei (fun j hj => by
    refine turn_k C (σ2 := [some (.d (plD tags st js)), some (.d (.tuple (st.map tst))), some (.d (jbD j)), none]) rfl ?_
    refine in2_ok C (ds := st.map fun s => D.d (tst s)) (var_it C rfl (seq_tup tst st)) ?_
    refine comp_map (fun s : List Str => D.d (tst s)) (fun s => caD j.nm s) List.take_length st (fun s hs => ?_)
    refine turn_ok C (me := (sem C (.tup (.cons (.ix (.var 2) (.cst (.int (0)))) (.cons (.var 3) .nil)))).v) (σ2 := [some (.d (plD tags st js)), some (.d (.tuple (st.map tst))), some (.d (jbD j)), some (.d (tst s))]) rfl ?_
    exact tup2 C (x := .str j.nm) (y := tst s) (h1 := h) (h2 := h) (vix C (x := .d (jbD j)) (y := .d (.int 0)) (h1 := h) (h2 := h) rfl rfl (jb0 j h)) rfl) (by
    rw [cas_map, List.length_map, cas_len]
    have := Nat.mul_le_mul w.jsl w.stl
    omega)
  rw [cas_map] at e2
  have e3 : run C f_cases.body (startE f_cases [.d (plD tags st js)]) h = .ok (.rt (.d (.list ((cas st js).map casD))), [some (.d (plD tags st js)), some (.d (.tuple (st.map tst))), none, none]) h := (seq_nx C (asg_ok C e1)).trans (seq_rt C (ret_ok C e2))
  rw [runF_rt C rfl e3]
  simp only [leave, List.take_length]
end
end En
/-! begun -/
namespace En
open PySem L2
/-- names are told apart -/
def WfN (js : List Jb) : Prop := ∀ j ∈ js, js.find? (fun i => decide (i.nm = j.nm)) = some j
structure Kd (C : Str → List D → Hs → R D) : Prop where
  A : ∀ {tags : List Str} {st : List (List Str)} {js : List Jb} {h : Hs}, WfP tags st js → C (Str.ofString "cases") [.d (plD tags st js)] h = .ok (.d (.list ((cas st js).map casD))) h
  K : ∀ {tags s : List Str} {st : List (List Str)} {js : List Jb} {nm : Str} {j : Jb} {h : Hs}, WfP tags st js → js.find? (fun j => decide (j.nm = nm)) = some j → St1 tags s → C (Str.ofString "key_text") [.d (plD tags st js), .d (caD nm s)] h = .ok (.d (.str (tx (vl tags s) j.key))) h
  R : ∀ {tags s : List Str} {st : List (List Str)} {js : List Jb} {nm : Str} {j : Jb} {h : Hs}, WfP tags st js → js.find? (fun j => decide (j.nm = nm)) = some j → St1 tags s → C (Str.ofString "key_row") [.d (plD tags st js), .d (caD nm s)] h = .ok (.d (rowD (vl tags s) j.key)) h
  P : ∀ {tags : List Str} {st : List (List Str)} {js : List Jb} {nm : Str} {j : Jb} {h : Hs} {k : Nat} {p : List Pc}, WfP tags st js → js.find? (fun j => decide (j.nm = nm)) = some j → j.pre[k]? = some p → C (Str.ofString "prefix_of") [.d (plD tags st js), .d (.str nm), .d (.int (k : Int))] h = .ok (.d (tpd p)) h
theorem kd_of {P : Prog} {k : Nat} (kc : Kc (callN P k)) (h1 : P.lookup (Str.ofString "cases") = some f_cases) (h2 : P.lookup (Str.ofString "key_text") = some f_key_text) (h3 : P.lookup (Str.ofString "key_row") = some f_key_row) (h4 : P.lookup (Str.ofString "prefix_of") = some f_prefix_of) : Kd (callN P (k + 1)) where
  A := fun w => by rw [cn h1]; exact cases_ok _ kc w
  K := fun w hj hs => by rw [cn h2]; exact key_text_ok _ kc w hj hs
  R := fun w hj hs => by rw [cn h3]; exact key_row_ok _ kc w hj hs
  P := fun w hj hk => by rw [cn h4]; exact prefix_of_ok _ kc w hj hk
section
variable (C : Str → List D → Hs → R D)
theorem vext {i L : Nat} {a : E} {σ : Env} {h h' : Hs} {xs xs' ys : List PyData} (hi : σ[i]? = some (some (.cel L))) (h0 : h[L]? = some (.lst xs')) (ha : (sem C a).v σ h = .ok (.d (.list ys)) h') (hL : h'[L]? = some (.lst xs)) (hl : xs.length + ys.length ≤ 16777216) :
    run C (.exp (.mth .extend (.var i) (.cons a .nil))) σ h = .ok (.nx, σ) (h'.set L (.lst (xs ++ ys))) := by
  have hz : sizeLine = 16777216 := sizeLine_eq
  refine exp_ok C (x := .d .none) ?_
  have e0 : (sem C (.var i)).v σ h = .ok (.cel L) h := vvar C hi
  have e1 : rcvOk .extend (.cel L) h = true := by simp [rcvOk, vwL, h0, lstC]
  have e : (sem C (.mth .extend (.var i) (.cons a .nil))).v σ h = ((sem C (.var i)).v σ h).bind fun x h1 => if rcvOk .extend x h1 then ((((sem C a).v σ h1).bind fun x h1 => (R.ok [] h1).bind fun xs h2 => .ok (x :: xs) h2).bind fun ds h2 => noX (mthD .extend x ds h2)) else .no := rfl
  have e2 : mthD .extend (.cel L) [.d (.list ys)] h' = .ok (.d .none) (h'.set L (.lst (xs ++ ys))) := by
    simp only [mthD, hL]
    rw [if_pos (by omega)]
  rw [e, e0, rb_ok, e1, if_pos rfl, ha]
  show noX (mthD .extend (.cel L) [.d (.list ys)] h') = _
  rw [e2, noX_ok]
/-- what a case's key is, beside it -/
def ckD (tags : List Str) (q : Jb × List Str) : PyData := .tuple [casD q, .str (tx (vl tags q.2) q.1.key)]
def bg1 (tags : List Str) (p : List Pc) (cs : List (Jb × List Str)) (s : List Str) : List (Jb × List Str) := cs.filter fun q => Txt.startswith (tx (vl tags q.2) q.1.key) (tx (vl tags s) p)
def bgD (x : List Str × (Jb × List Str)) : PyData := .tuple [tst x.1, casD x.2]
def bgn (tags : List Str) (p : List Pc) (cs : List (Jb × List Str)) (st : List (List Str)) : List (List Str × (Jb × List Str)) := st.flatMap fun s => (bg1 tags p cs s).map fun q => (s, q)
abbrev bnX : E := .lc false [8, 9] (.tp [8, 9]) (.var 4) (.cons (.mth .startswith (.var 9) (.cons (.var 7) .nil)) .nil) (.tup (.cons (.var 6) (.cons (.var 8) .nil)))
abbrev bnB : S := .seq (.asg 7 (.call (Str.ofString "text_of") false (.cons (.var 3) (.cons (.call (Str.ofString "values_of") false (.cons (.var 0) (.cons (.var 6) .nil))) .nil)))) (.seq (.exp (.mth .extend (.var 5) (.cons bnX .nil))) .nil)
abbrev bnL : D → Env → Hs → R (Fl × Env) := fun x σ1 h2 => match bindTg (.nm 6) x σ1 with
  | some σ2 => run C bnB σ2 h2
  | none => .no
section
variable {tags : List Str} {st : List (List Str)} {js : List Jb} {h : Hs} {a1 a2 : D} {p : List Pc} {cs : List (Jb × List Str)}
theorem bn_step (kc : Kc C) (w : WfP tags st js) (hp : Ft tags p) {s : List Str} (hs : St1 tags s) {found : List (List Str × (Jb × List Str))} {z7 : Option D} (hl : found.length + cs.length ≤ 16000000) :
    ∃ z7', run C bnB [some (.d (plD tags st js)), some a1, some a2, some (.d (tpd p)), some (.d (.list (cs.map (ckD tags)))), some (.cel h.length), some (.d (tst s)), z7, none, none] (h ++ [.lst (found.map bgD)]) = .ok (.nx, [some (.d (plD tags st js)), some a1, some a2, some (.d (tpd p)), some (.d (.list (cs.map (ckD tags)))), some (.cel h.length), some (.d (tst s)), z7', none, none]) (h ++ [.lst ((found ++ (bg1 tags p cs s).map fun q => (s, q)).map bgD)]) := by
  generalize hg : h ++ [Cell.lst (found.map bgD)] = g
  have gL : g[h.length]? = some (.lst (found.map bgD)) := by rw [← hg]; exact get_snoc _ _
  have e7 : (sem C (.call (Str.ofString "text_of") false (.cons (.var 3) (.cons (.call (Str.ofString "values_of") false (.cons (.var 0) (.cons (.var 6) .nil))) .nil)))).v [some (.d (plD tags st js)), some a1, some a2, some (.d (tpd p)), some (.d (.list (cs.map (ckD tags)))), some (.cel h.length), some (.d (tst s)), z7, none, none] g = .ok (.d (.str (tx (vl tags s) p))) g := call2 C (x := .d (tpd p)) (y := .dic (vls tags s)) (h1 := g) (h2 := g) rfl (call2d C (x := .d (plD tags st js)) (y := .d (tst s)) (h1 := g) (h2 := g) rfl rfl (kc.V w.nd w.few) rfl) (kc.X hp hs)
  have cm := comp_filter (n := g.length) (f := turn [8, 9] (.tp [8, 9]) (sem C (.cons (.mth .startswith (.var 9) (.cons (.var 7) .nil)) .nil)) (fun σ2 h3 => some1 ((sem C (.tup (.cons (.var 6) (.cons (.var 8) .nil)))).v σ2 h3)) [some (.d (plD tags st js)), some a1, some a2, some (.d (tpd p)), some (.d (.list (cs.map (ckD tags)))), some (.cel h.length), some (.d (tst s)), some (.d (.str (tx (vl tags s) p))), none, none]) (fun q => D.d (ckD tags q)) (fun q => Txt.startswith (tx (vl tags q.2) q.1.key) (tx (vl tags s) p)) (fun q => bgD (s, q)) List.take_length cs (fun q hq => by
    refine turn_if C (me := (sem C (.tup (.cons (.var 6) (.cons (.var 8) .nil)))).v) (σ2 := [some (.d (plD tags st js)), some a1, some a2, some (.d (tpd p)), some (.d (.list (cs.map (ckD tags)))), some (.cel h.length), some (.d (tst s)), some (.d (.str (tx (vl tags s) p))), some (.d (casD q)), some (.d (.str (tx (vl tags q.2) q.1.key)))]) rfl rfl ?_
    exact tup2 C (x := tst s) (y := casD q) (h1 := g) (h2 := g) rfl rfl)
  have fl : ((cs.filter fun q => Txt.startswith (tx (vl tags q.2) q.1.key) (tx (vl tags s) p)).map fun q => bgD (s, q)).length ≤ cs.length := by
    rw [List.length_map]; exact List.length_filter_le _ _
  have e8 := lc_ok C (own := [8, 9]) (tg := .tp [8, 9]) (it := .var 4) (σ := [some (.d (plD tags st js)), some a1, some a2, some (.d (tpd p)), some (.d (.list (cs.map (ckD tags)))), some (.cel h.length), some (.d (tst s)), some (.d (.str (tx (vl tags s) p))), none, none]) (h := g) (var_it C rfl (seq_list (ckD tags) cs)) cm (by omega)
  have e9 := vext C (i := 5) (L := h.length) rfl gL e8 gL (by rw [List.length_map]; omega)
  refine ⟨some (.d (.str (tx (vl tags s) p))), ?_⟩
  refine (seq_nx C (asg_ok C e7)).trans ?_
  refine (seq_nx C e9).trans ?_
  rw [run_nil, ← hg, set_snoc, List.map_append, List.map_map]
  rfl
theorem bn_loop (kc : Kc C) (w : WfP tags st js) (hp : Ft tags p) : ∀ (ss : List (List Str)) (found : List (List Str × (Jb × List Str))) (z6 z7 : Option D), (∀ s ∈ ss, St1 tags s) → found.length + ss.length * cs.length ≤ 16000000 →
    ∃ z6' z7', loopF (bnL C) (ss.map fun s => D.d (tst s)) [some (.d (plD tags st js)), some a1, some a2, some (.d (tpd p)), some (.d (.list (cs.map (ckD tags)))), some (.cel h.length), z6, z7, none, none] (h ++ [.lst (found.map bgD)]) = .ok (.nx, [some (.d (plD tags st js)), some a1, some a2, some (.d (tpd p)), some (.d (.list (cs.map (ckD tags)))), some (.cel h.length), z6', z7', none, none]) (h ++ [.lst ((found ++ bgn tags p cs ss).map bgD)])
  | [], found, z6, z7, _, _ => ⟨z6, z7, by simp only [bgn, List.flatMap_nil, List.append_nil]; exact loop_nil⟩
  | s :: ss, found, z6, z7, hs, hl => by
    rw [List.length_cons, Nat.succ_mul] at hl
    obtain ⟨z7', e1⟩ := bn_step C (a1 := a1) (a2 := a2) (h := h) (cs := cs) (z7 := z7) (found := found) kc w hp (hs s List.mem_cons_self) (by omega)
    have fl : ((bg1 tags p cs s).map fun q => (s, q)).length ≤ cs.length := by
      rw [List.length_map]; exact List.length_filter_le _ _
    obtain ⟨y6, y7, e2⟩ := bn_loop kc w hp ss (found ++ (bg1 tags p cs s).map fun q => (s, q)) (some (.d (tst s))) z7' (fun t ht => hs t (List.mem_cons_of_mem _ ht)) (by rw [List.length_append]; omega)
    refine ⟨y6, y7, ?_⟩
    have st' : bnL C (.d (tst s)) [some (.d (plD tags st js)), some a1, some a2, some (.d (tpd p)), some (.d (.list (cs.map (ckD tags)))), some (.cel h.length), z6, z7, none, none] (h ++ [.lst (found.map bgD)]) = .ok (.nx, [some (.d (plD tags st js)), some a1, some a2, some (.d (tpd p)), some (.d (.list (cs.map (ckD tags)))), some (.cel h.length), some (.d (tst s)), z7', none, none]) (h ++ [.lst ((found ++ (bg1 tags p cs s).map fun q => (s, q)).map bgD)]) := e1
    have be : found ++ bgn tags p cs (s :: ss) = (found ++ (bg1 tags p cs s).map fun q => (s, q)) ++ bgn tags p cs ss := by
      rw [List.append_assoc]; rfl
    rw [be]
    exact (loop_nx st').trans e2
abbrev bnC : E := .lc false [8] (.nm 8) (.call (Str.ofString "cases") false (.cons (.var 0) .nil)) .nil (.tup (.cons (.var 8) (.cons (.call (Str.ofString "key_text") false (.cons (.var 0) (.cons (.var 8) .nil))) .nil)))
theorem begun_ok {nm : Str} {j : Jb} {k : Nat} (kc : Kc C) (kd : Kd C) (w : WfP tags st js) (wn : WfN js) (hj : js.find? (fun j => decide (j.nm = nm)) = some j) (hk : j.pre[k]? = some p) (hb : st.length * (cas st js).length ≤ 16000000) :
    runF C f_begun [.d (plD tags st js), .d (.str nm), .d (.int (k : Int))] h = .ok (.d (.list ((bgn tags p (cas st js) st).map bgD))) h := by
  have hz : sizeLine = 16777216 := sizeLine_eq
  have jm : j ∈ js := List.mem_of_find?_eq_some hj
  have hp : Ft tags p := w.pre j jm p (List.mem_of_getElem? hk)
  have sl : ∀ s ∈ st, s.length ≤ 1000 := fun s hs => by rw [(w.sts s hs).1]; exact w.few
  have cl : (cas st js).length ≤ 1000000 := by
    rw [cas_len]
    have := Nat.mul_le_mul w.jsl w.stl
    omega
  have e3 : (sem C (.call (Str.ofString "prefix_of") false (.cons (.var 0) (.cons (.var 1) (.cons (.var 2) .nil))))).v [some (.d (plD tags st js)), some (.d (.str nm)), some (.d (.int (k : Int))), none, none, none, none, none, none, none] h = .ok (.d (tpd p)) h := call3 C (x := .d (plD tags st js)) (y := .d (.str nm)) (w := .d (.int (k : Int))) (h1 := h) (h2 := h) (h3 := h) rfl rfl rfl (kd.P w hj hk)
  have ei : (sem C (.call (Str.ofString "cases") false (.cons (.var 0) .nil))).it [some (.d (plD tags st js)), some (.d (.str nm)), some (.d (.int (k : Int))), none, none, none, none, none, none, none] h = .ok ((cas st js).map fun q => D.d (casD q)) h := val_it C rfl (call1 C (x := .d (plD tags st js)) (h1 := h) rfl (kd.A w)) (seq_list casD (cas st js))
  have cm := comp_map (n := h.length) (f := turn [8] (.nm 8) (sem C .nil) (fun σ2 h3 => some1 ((sem C (.tup (.cons (.var 8) (.cons (.call (Str.ofString "key_text") false (.cons (.var 0) (.cons (.var 8) .nil))) .nil)))).v σ2 h3)) [some (.d (plD tags st js)), some (.d (.str nm)), some (.d (.int (k : Int))), none, none, none, none, none, none, none]) (fun q => D.d (casD q)) (fun q => ckD tags q) List.take_length (cas st js) (fun q hq => by
    obtain ⟨q1, q2⟩ := cas_mem hq
    refine turn_ok C (me := (sem C (.tup (.cons (.var 8) (.cons (.call (Str.ofString "key_text") false (.cons (.var 0) (.cons (.var 8) .nil))) .nil)))).v) (σ2 := [some (.d (plD tags st js)), some (.d (.str nm)), some (.d (.int (k : Int))), none, none, none, none, none, some (.d (casD q)), none]) rfl ?_
    exact tup2 C (x := casD q) (h1 := h) rfl (call2 C (x := .d (plD tags st js)) (y := .d (casD q)) (h1 := h) (h2 := h) rfl rfl (kd.K w (wn q.1 q1) (w.sts q.2 q2))))
  have e4 := lc_ok C (own := [8]) (tg := .nm 8) ei cm (by rw [List.length_map]; omega)
  have e5 : (sem C (.lst true .nil)).v [some (.d (plD tags st js)), some (.d (.str nm)), some (.d (.int (k : Int))), some (.d (tpd p)), some (.d (.list ((cas st js).map (ckD tags)))), none, none, none, none, none] h = .ok (.cel h.length) (h ++ [.lst []]) := by
    simp [sem, mkV, smNil, R.bind, noX_ok, lstD, plainL, mkL, hz]
  obtain ⟨z6, z7, e6⟩ := bn_loop C (a1 := .d (.str nm)) (a2 := .d (.int (k : Int))) (h := h) (cs := cas st js) kc w hp st [] none none w.sts (by simpa using hb)
  rw [List.nil_append] at e6
  have es : (sem C (.call (Str.ofString "tupled") false (.cons (.ix (.var 0) (.cst (.int (1)))) .nil))).it [some (.d (plD tags st js)), some (.d (.str nm)), some (.d (.int (k : Int))), some (.d (tpd p)), some (.d (.list ((cas st js).map (ckD tags)))), some (.cel h.length), none, none, none, none] (h ++ [.lst []]) = .ok (st.map fun s => D.d (tst s)) (h ++ [.lst []]) := val_it C rfl (call1 C (vix C (x := .d (plD tags st js)) (y := .d (.int 1)) (h1 := h ++ [.lst []]) (h2 := h ++ [.lst []]) rfl rfl (pl1 tags st js _)) (kc.S w.stl sl)) (seq_tup tst st)
  have ef : run C (.for_ (.nm 6) (.call (Str.ofString "tupled") false (.cons (.ix (.var 0) (.cst (.int (1)))) .nil)) bnB) [some (.d (plD tags st js)), some (.d (.str nm)), some (.d (.int (k : Int))), some (.d (tpd p)), some (.d (.list ((cas st js).map (ckD tags)))), some (.cel h.length), none, none, none, none] (h ++ [.lst []]) = .ok (.nx, [some (.d (plD tags st js)), some (.d (.str nm)), some (.d (.int (k : Int))), some (.d (tpd p)), some (.d (.list ((cas st js).map (ckD tags)))), some (.cel h.length), z6, z7, none, none]) (h ++ [.lst ((bgn tags p (cas st js) st).map bgD)]) := by
    rw [run, es, bs_ok]
    exact e6
  have er : (sem C (.fz (.var 5))).v [some (.d (plD tags st js)), some (.d (.str nm)), some (.d (.int (k : Int))), some (.d (tpd p)), some (.d (.list ((cas st js).map (ckD tags)))), some (.cel h.length), z6, z7, none, none] (h ++ [.lst ((bgn tags p (cas st js) st).map bgD)]) = .ok (.d (.list ((bgn tags p (cas st js) st).map bgD))) (h ++ [.frz ((bgn tags p (cas st js) st).map bgD)]) := by
    have hv : ([some (.d (plD tags st js)), some (.d (.str nm)), some (.d (.int (k : Int))), some (.d (tpd p)), some (.d (.list ((cas st js).map (ckD tags)))), some (.cel h.length), z6, z7, none, none] : Env)[5]? = some (some (.cel h.length)) := rfl
    simp only [sem, mkV, hv, R.bind, fzD, get_snoc, set_snoc, noX_ok]
  have e7 : run C f_begun.body (startE f_begun [.d (plD tags st js), .d (.str nm), .d (.int (k : Int))]) h = .ok (.rt (.d (.list ((bgn tags p (cas st js) st).map bgD))), [some (.d (plD tags st js)), some (.d (.str nm)), some (.d (.int (k : Int))), some (.d (tpd p)), some (.d (.list ((cas st js).map (ckD tags)))), some (.cel h.length), z6, z7, none, none]) (h ++ [.frz ((bgn tags p (cas st js) st).map bgD)]) := by
    refine (seq_nx C (par_ok C e3 e4)).trans ?_
    refine (seq_nx C (asg_ok C e5)).trans ?_
    refine (seq_nx C ef).trans ?_
    exact seq_rt C (ret_ok C er)
  rw [runF_rt C rfl e7]
  simp only [leave, List.take_left]
end
end
end En
/-! what begins what, of rows -/
namespace En
open PySem L2
/-- a piece of a row: is it a text; what; its value -/
abbrev Rc := Bool × Str × Str
def rd (p : Rc) : PyData := .tuple [.str (kindS p.1), .str p.2.1, .str p.2.2]
def rtd (ps : List Rc) : PyData := .tuple (ps.map rd)
def dobR (ps qs : List Rc) : Bool :=
  if ps.length = 0 ∨ qs.length < ps.length then decide (ps.length = 0) else
  match ps.getLast?, qs[ps.length - 1]? with
  | some l, some f => if ps.dropLast = qs.take (ps.length - 1) then decide (l = f) || (l.1 && (f.1 && Txt.startswith f.2.1 l.2.1)) else false
  | _, _ => false
section
variable (C : Str → List D → Hs → R D)
theorem pd_eqvR (p q : Rc) : PyData.eqv (rd p) (rd q) = decide (p = q) := by
  obtain ⟨a, x, x'⟩ := p
  obtain ⟨b, y, y'⟩ := q
  simp only [rd, PyData.eqv, PyData.eqvAll, kind_inj, Bool.and_true, Prod.mk.injEq]
  by_cases h1 : a = b <;> by_cases h2 : x = y <;> by_cases h3 : x' = y' <;> simp [h1, h2, h3]
theorem pds_eqvR : ∀ ps qs : List Rc, PyData.eqvAll (ps.map rd) (qs.map rd) = decide (ps = qs)
  | [], [] => by simp [PyData.eqvAll]
  | [], q :: qs => by simp [PyData.eqvAll]
  | p :: ps, [] => by simp [PyData.eqvAll]
  | p :: ps, q :: qs => by
    simp only [List.map_cons, PyData.eqvAll, pd_eqvR, pds_eqvR ps qs, List.cons.injEq]
    by_cases h1 : p = q <;> by_cases h2 : ps = qs <;> simp [h1, h2]
theorem tpd_eqvR (ps qs : List Rc) : PyData.eqv (rtd ps) (rtd qs) = decide (ps = qs) := by
  unfold rtd
  rw [PyData.eqv, pds_eqvR]
theorem pd_plainR (p : Rc) : (rd p).plain = true := by simp [rd, PyData.plain, PyData.plainAll]
theorem pds_plainR : ∀ ps : List Rc, PyData.plainAll (ps.map rd) = true
  | [] => by simp [PyData.plainAll]
  | p :: ps => by simp [PyData.plainAll, pd_plainR, pds_plainR ps]
theorem pd_depthR (p : Rc) : (rd p).depth ≤ 2 := by simp [rd, PyData.depth, PyData.depthAll]
theorem pds_depthR : ∀ ps : List Rc, PyData.depthAll (ps.map rd) ≤ 2
  | [] => by simp [PyData.depthAll]
  | p :: ps => by
    have := pd_depthR p
    have := pds_depthR ps
    simp only [List.map_cons, PyData.depthAll]
    omega
theorem tpd_depthR (ps : List Rc) : (rtd ps).depth ≤ 3 := by
  have := pds_depthR ps
  simp only [rtd, PyData.depth]
  omega
theorem shal_tpdR (ps qs : List Rc) : shal (rtd ps) (rtd qs) = true := by
  have := tpd_depthR ps
  have e : ∀ rs : List Rc, (rtd rs).plain = true := fun rs => by simp only [rtd, PyData.plain, pds_plainR]
  simp only [shal, e, Bool.and_self, Bool.true_and, decide_eq_true_eq]
  omega
theorem shal_pdR (p q : Rc) : shal (rd p) (rd q) = true := by
  have := pd_depthR p
  simp only [shal, pd_plainR, Bool.and_self, Bool.true_and, decide_eq_true_eq]
  omega
theorem eq_pdR (p q : Rc) (h : Hs) : cmpD .Eq (.d (rd p)) (.d (rd q)) h = .ok (.d (.bool (decide (p = q)))) h := by simp [cmpD, snp, cmpP, shal_pdR, pd_eqvR]
theorem eq_tpdR (ps qs : List Rc) (h : Hs) : cmpD .Eq (.d (rtd ps)) (.d (rtd qs)) h = .ok (.d (.bool (decide (ps = qs)))) h := by simp [cmpD, snp, cmpP, shal_tpdR, tpd_eqvR]
theorem ne_tpdR (ps qs : List Rc) (h : Hs) : cmpD .NotEq (.d (rtd ps)) (.d (rtd qs)) h = .ok (.d (.bool (!decide (ps = qs)))) h := by simp [cmpD, snp, cmpP, shal_tpdR, tpd_eqvR]
theorem pd0R (p : Rc) (h : Hs) : ixD (.d (rd p)) (.d (.int 0)) h = .ok (.d (.str (kindS p.1))) h := ix_nat (k := 0) (.inl rfl) rfl h
theorem pd1R (p : Rc) (h : Hs) : ixD (.d (rd p)) (.d (.int 1)) h = .ok (.d (.str p.2.1)) h := ix_nat (k := 1) (.inl rfl) rfl h
theorem len_tpdR (ps : List Rc) (h : Hs) : biD .len false [.d (rtd ps)] h = .ok (.d (.int (ps.length : Int))) h := by simp [biD, lenD, rtd, vw]
theorem sl_tpd_lastR (ps : List Rc) (h : Hs) : slD (.d (rtd ps)) none (some (.d (.int (-1)))) h = .ok (.d (rtd ps.dropLast)) h := by
  simp only [slD, bnd, rtd, vw, cutP_last, List.map_dropLast]
theorem sl_tpd_toR (ps : List Rc) (k : Nat) (h : Hs) : slD (.d (rtd ps)) none (some (.d (.int (k : Int)))) h = .ok (.d (rtd (ps.take k))) h := by
  simp only [slD, bnd, rtd, vw, cutP_to, List.map_take]
theorem ix_tpd_lastR (ps : List Rc) (p : Rc) (h : Hs) : ixD (.d (rtd (ps ++ [p]))) (.d (.int (-1))) h = .ok (.d (rd p)) h := by
  have e := at_last (ps.map rd) (rd p)
  simp only [ixD, seqIx, rtd, vw, List.map_append, List.map_cons, List.map_nil, e]
theorem ix_tpdR {ps : List Rc} {k : Nat} {p : Rc} (hk : ps[k]? = some p) (h : Hs) : ixD (.d (rtd ps)) (.d (.int (k : Int))) h = .ok (.d (rd p)) h := by
  have e : L2.atI (ps.map rd) (k : Int) = some (rd p) := at_nat (by simp [hk])
  simp only [ixD, seqIx, rtd, vw, e]
theorem do_begin_okR (ps qs : List Rc) (h : Hs) : runF C f_do_begin [.d (rtd ps), .d (rtd qs)] h = .ok (.d (.bool (dobR ps qs))) h := by
  have hz : sizeLine = 16777216 := sizeLine_eq
  have eb : f_do_begin.body = .seq (.ite (sCnd (sHd f_do_begin.body)) (.seq (.ret (sVal (sHd (sThn (sHd f_do_begin.body))))) .nil) .nil) (.seq (.par 2 3 (.ix (.var 0) (.neg (.cst (.int (1))))) (.ix (.var 1) (.bin .Sub false (.bi .len false (.cons (.var 0) .nil)) (.cst (.int (1)))))) (.seq (.ite (sCnd (sHd (sTl (sTl f_do_begin.body)))) (.seq (.ret (.cst (.bool false))) .nil) .nil) (.seq (.ret (sVal (sHd (sTl (sTl (sTl f_do_begin.body)))))) .nil))) := rfl
  have hst : startE f_do_begin [.d (rtd ps), .d (rtd qs)] = [some (.d (rtd ps)), some (.d (rtd qs)), none, none] := rfl
  have hnp : ([.d (rtd ps), .d (rtd qs)] : List D).length = f_do_begin.np := rfl
  have done : ∀ {b : Bool} {σ : Env}, run C f_do_begin.body (startE f_do_begin [.d (rtd ps), .d (rtd qs)]) h = .ok (.rt (.d (.bool b)), σ) h → runF C f_do_begin [.d (rtd ps), .d (rtd qs)] h = .ok (.d (.bool b)) h := fun {b σ} e => by
    rw [runF_rt C hnp e]
    simp [leave]
  unfold dobR
  by_cases h0 : ps.length = 0 ∨ qs.length < ps.length
  · rw [if_pos h0]
    have c1 : (sem C (sCnd (sHd f_do_begin.body))).t [some (.d (rtd ps)), some (.d (rtd qs)), none, none] h = .ok true h := by
      by_cases hp : ps.length = 0
      · simp [f_do_begin, sCnd, sHd, sem, mkV, mkT, smCons, smNil, R.bind, noX_ok, len_tpdR, eq_int, truD, sel, hp]
      · have hlt : (qs.length : Int) < (ps.length : Int) := by omega
        have hp2 : ¬ ((ps.length : Int) = 0) := by omega
        simp [f_do_begin, sCnd, sHd, sem, mkV, mkT, smCons, smNil, R.bind, noX_ok, len_tpdR, eq_int, gt_int, truD, sel, hp, hp2, hlt]
    have r1 : (sem C (sVal (sHd (sThn (sHd f_do_begin.body))))).v [some (.d (rtd ps)), some (.d (rtd qs)), none, none] h = .ok (.d (.bool (decide (ps.length = 0)))) h := by
      simp [f_do_begin, sVal, sThn, sHd, sem, mkV, mkT, smCons, smNil, R.bind, noX_ok, len_tpdR, eq_int]
    refine done (σ := [some (.d (rtd ps)), some (.d (rtd qs)), none, none]) ?_
    rw [eb, hst, seq_rt C (by rw [ite_t C c1, seq_rt C (ret_ok C r1)])]
  · rw [if_neg h0]
    have hp : ps.length ≠ 0 := fun z => h0 (.inl z)
    have hq : ¬ qs.length < ps.length := fun z => h0 (.inr z)
    obtain ⟨fs, l, rfl⟩ : ∃ fs l, ps = fs ++ [l] := by
      rcases List.eq_nil_or_concat ps with e | ⟨fs, l, e⟩
      · exact absurd (by rw [e]; rfl) hp
      · exact ⟨fs, l, by simpa using e⟩
    have hk : fs.length < qs.length := by simp at hq; omega
    have c1 : (sem C (sCnd (sHd f_do_begin.body))).t [some (.d (rtd (fs ++ [l]))), some (.d (rtd qs)), none, none] h = .ok false h := by
      have a1 : ¬ (((fs ++ [l]).length : Int) = 0) := by simp; omega
      have a2 : ¬ ((qs.length : Int) < ((fs ++ [l]).length : Int)) := by omega
      simp only [f_do_begin, sCnd, sHd, sem, mkV, mkT, smCons, smNil, R.bind, noX_ok, len_tpdR, eq_int, gt_int, truD, sel, List.getElem?_cons_zero, List.getElem?_cons_succ, if_false, Bool.false_eq_true, a1, a2, decide_false, if_true]
    have hqs : qs[fs.length]? = some qs[fs.length] := List.getElem?_eq_getElem hk
    have i1 := ix_tpdR hqs h
    have i2 := ix_tpd_lastR fs l h
    have s1 := sl_tpd_lastR (fs ++ [l]) h
    have s2 := sl_tpd_toR qs fs.length h
    have e1 : ((fs ++ [l]).length : Int) - 1 = (fs.length : Int) := by simp
    have e2 : (fs ++ [l]).length - 1 = fs.length := by simp
    rw [e2, hqs]
    generalize qs[fs.length] = g at i1
    rw [List.dropLast_concat] at s1
    have n1 := ne_tpdR fs (qs.take fs.length) h
    have p1 : run C (.par 2 3 (.ix (.var 0) (.neg (.cst (.int (1))))) (.ix (.var 1) (.bin .Sub false (.bi .len false (.cons (.var 0) .nil)) (.cst (.int (1)))))) [some (.d (rtd (fs ++ [l]))), some (.d (rtd qs)), none, none] h = .ok (.nx, [some (.d (rtd (fs ++ [l]))), some (.d (rtd qs)), some (.d (rd l)), some (.d (rd g))]) h := by
      rw [par_ok C (x := .d (rd l)) (y := .d (rd g)) (h1 := h) (h2 := h)]
      · rfl
      · simp only [sem, mkV, R.bind, noX_ok, negD, List.getElem?_cons_zero, i2]
      · simp only [sem, mkV, smCons, smNil, R.bind, noX_ok, len_tpdR, binD, arI, List.getElem?_cons_zero, List.getElem?_cons_succ, e1, i1]
    have c2 : (sem C (sCnd (sHd (sTl (sTl f_do_begin.body))))).t [some (.d (rtd (fs ++ [l]))), some (.d (rtd qs)), some (.d (rd l)), some (.d (rd g))] h = .ok (!decide (fs = qs.take fs.length)) h := by
      simp only [f_do_begin, sCnd, sHd, sTl, sem, mkV, mkT, smCons, smNil, R.bind, noX_ok, len_tpdR, binD, arI, negD, if_true, List.getElem?_cons_zero, List.getElem?_cons_succ, e1, s1, s2, n1, truD]
    have q1 := eq_pdR l g h
    have r2 : (sem C (sVal (sHd (sTl (sTl (sTl f_do_begin.body)))))).v [some (.d (rtd (fs ++ [l]))), some (.d (rtd qs)), some (.d (rd l)), some (.d (rd g))] h = .ok (.d (.bool (decide (l = g) || (l.1 && (g.1 && Txt.startswith g.2.1 l.2.1))))) h := by
      have u0 := pd0R l h
      have u1 := pd1R l h
      have w0 := pd0R g h
      have w1 := pd1R g h
      clear p1 c1 c2 done hst hnp eb s1 s2 n1 i1 i2 e1 e2
      obtain ⟨a, x, x'⟩ := l
      obtain ⟨b, y, y'⟩ := g
      by_cases h3 : ((a, x, x') : Rc) = (b, y, y')
      · rw [decide_eq_true h3] at q1 ⊢
        simp only [f_do_begin, sVal, sHd, sTl, sem, mkV, mkT, smCons, smNil, R.bind, noX_ok, List.getElem?_cons_zero, List.getElem?_cons_succ, q1, truD, sel, Bool.true_or, if_false, Bool.false_eq_true]
      · rw [decide_eq_false h3] at q1 ⊢
        clear h3
        cases a <;> cases b <;> simp [f_do_begin, sVal, sHd, sTl, sem, mkV, mkT, smCons, smNil, R.bind, noX_ok, q1, truD, sel, u0, u1, w0, w1, eq_str, kt, rcvOk, mthD]
    simp only [List.getLast?_concat, List.dropLast_concat]
    by_cases h2 : fs = qs.take fs.length
    · rw [if_pos h2]
      rw [decide_eq_true h2] at c2
      refine done (σ := [some (.d (rtd (fs ++ [l]))), some (.d (rtd qs)), some (.d (rd l)), some (.d (rd g))]) ?_
      rw [eb, hst, seq_nx C (by rw [ite_f C c1, run_nil]), seq_nx C p1, seq_nx C (by rw [ite_f C c2, run_nil]), seq_rt C (ret_ok C r2)]
    · rw [if_neg h2]
      rw [decide_eq_false h2] at c2
      refine done (σ := [some (.d (rtd (fs ++ [l]))), some (.d (rtd qs)), some (.d (rd l)), some (.d (rd g))]) ?_
      rw [eb, hst, seq_nx C (by rw [ite_f C c1, run_nil]), seq_nx C p1, seq_rt C (by rw [ite_t C c2, seq_rt C (ret_ok C (x := .d (.bool false)) (h' := h) rfl)])]
end
end En
/-! signs behind fields -/
namespace En
open PySem L2
def sgn (c : Nat) : Bool := c == 45 || c == 46
def Free (l : List Nat) : Prop := ∀ c ∈ l, sgn c = false
theorem span_sign : ∀ (a b s t : List Nat) (c d : Nat), Free a → Free b → sgn c = true → sgn d = true → (a ++ c :: s) <+: (b ++ d :: t) → a = b ∧ c = d ∧ s <+: t
  | [], [], s, t, c, d, _, _, _, _, h => by
    obtain ⟨h1, h2⟩ := List.cons_prefix_cons.mp h
    exact ⟨rfl, h1, h2⟩
  | [], y :: b, s, t, c, d, _, hb, hc, _, h => by
    obtain ⟨h1, _⟩ := List.cons_prefix_cons.mp h
    have := hb y List.mem_cons_self
    rw [← h1, hc] at this
    cases this
  | x :: a, [], s, t, c, d, ha, _, _, hd, h => by
    obtain ⟨h1, _⟩ := List.cons_prefix_cons.mp h
    have := ha x List.mem_cons_self
    rw [h1, hd] at this
    cases this
  | x :: a, y :: b, s, t, c, d, ha, hb, hc, hd, h => by
    obtain ⟨h1, h2⟩ := List.cons_prefix_cons.mp h
    obtain ⟨e1, e2, e3⟩ := span_sign a b s t c d (fun z hz => ha z (List.mem_cons_of_mem _ hz)) (fun z hz => hb z (List.mem_cons_of_mem _ hz)) hc hd h2
    exact ⟨by rw [h1, e1], e2, e3⟩
/-- each field is followed by a text that begins with a sign -/
def Sgn : List Pc → Prop
  | [] => True
  | (true, _) :: r => Sgn r
  | (false, _) :: r => (∃ c x r', r = (true, ⟨(c :: x).toArray⟩) :: r' ∧ sgn c = true) ∧ Sgn r
/-- a start of a template -/
inductive Beg : List Pc → List Pc → Prop
  | nil (ws : List Pc) : Beg [] ws
  | cut (w u : List Nat) (r : List Pc) : Beg [(true, ⟨w.toArray⟩)] ((true, ⟨(w ++ u).toArray⟩) :: r)
  | cons (p : Pc) {f r : List Pc} : Beg f r → Beg (p :: f) (p :: r)
theorem tl_cons (v : Str → Str) (p : Pc) (r : List Pc) : tl v (p :: r) = (pcs v p).cps.toList ++ tl v r := rfl
/-- agree on the fields -/
def Agr (v v' : Str → Str) (f : List Pc) : Prop := ∀ p ∈ f, p.1 = false → v p.2 = v' p.2
theorem agr_cons {v v' : Str → Str} {p : Pc} {f : List Pc} : Agr v v' (p :: f) ↔ (p.1 = false → v p.2 = v' p.2) ∧ Agr v v' f := by
  unfold Agr
  rw [List.forall_mem_cons]
theorem beg_iff {v v' : Str → Str} (hv : ∀ x, Free (v x).cps.toList) (hv' : ∀ x, Free (v' x).cps.toList) {f w : List Pc} (b : Beg f w) : Sgn f → (tl v f <+: tl v' w ↔ Agr v v' f) := by
  induction b with
  | nil ws =>
    intro _
    exact ⟨fun _ p hp => (List.not_mem_nil hp).elim, fun _ => List.nil_prefix⟩
  | cut w u r =>
    intro _
    refine ⟨fun _ p hp hf => ?_, fun _ => ?_⟩
    · rw [List.mem_singleton] at hp
      subst hp
      cases hf
    · rw [tl_cons, tl_cons]
      show w ++ [] <+: (w ++ u) ++ _
      rw [List.append_nil, List.append_assoc]
      exact List.prefix_append _ _
  | cons p b ih =>
    rename_i f r
    intro hs
    obtain ⟨k, x⟩ := p
    rw [tl_cons, tl_cons, agr_cons]
    cases k with
    | true =>
      have e : (pcs v (true, x)).cps.toList = (pcs v' (true, x)).cps.toList := rfl
      rw [e, List.prefix_append_right_inj]
      rw [ih hs]
      exact ⟨fun h => ⟨fun z => (by cases z), h⟩, fun h => h.2⟩
    | false =>
      obtain ⟨⟨c, y, f', rfl, hc⟩, hs'⟩ := hs
      have e1 : (pcs v (false, x)).cps.toList = (v x).cps.toList := rfl
      have e2 : (pcs v' (false, x)).cps.toList = (v' x).cps.toList := rfl
      rw [e1, e2]
      refine ⟨fun h => ?_, fun h => ?_⟩
      · have hr : ∃ z r', r = (true, ⟨(c :: z).toArray⟩) :: r' := by
          cases b with
          | cut w u r' => exact ⟨y ++ u, r', rfl⟩
          | cons _ b' => exact ⟨y, _, rfl⟩
        obtain ⟨z, r', rfl⟩ := hr
        have h' := h
        rw [tl_cons, tl_cons] at h'
        have a1 : (pcs v (true, ⟨(c :: y).toArray⟩)).cps.toList = c :: y := rfl
        have a2 : (pcs v' (true, ⟨(c :: z).toArray⟩)).cps.toList = c :: z := rfl
        rw [a1, a2, List.cons_append, List.cons_append] at h'
        obtain ⟨q1, _, _⟩ := span_sign _ _ _ _ c c (hv x) (hv' x) hc hc h'
        rw [q1, List.prefix_append_right_inj] at h
        exact ⟨fun _ => str_ext q1, (ih hs').mp h⟩
      · rw [h.1 rfl, List.prefix_append_right_inj]
        exact (ih hs').mpr h.2
end En
/-! rows that begin -/
namespace En
open PySem L2
def rws (v : Str → Str) (ps : List Pc) : List Rc := ps.map fun p => (p.1, p.2, if p.1 then ⟨#[]⟩ else v p.2)
theorem rowD_eq (v : Str → Str) (ps : List Pc) : rowD v ps = rtd (rws v ps) := by
  simp only [rowD, rtd, rws, List.map_map]
  rfl
theorem rws_agr {v v' : Str → Str} : ∀ {ps : List Pc}, Agr v v' ps → rws v ps = rws v' ps
  | [], _ => rfl
  | p :: ps, h => by
    rw [agr_cons] at h
    have ih := rws_agr h.2
    unfold rws at ih ⊢
    rw [List.map_cons, List.map_cons, ih]
    obtain ⟨k, x⟩ := p
    cases k with
    | true => rfl
    | false => simp only [h.1 rfl]
theorem beg_split {f w : List Pc} (b : Beg f w) : f = [] ∨ ∃ fs l l' r, f = fs ++ [l] ∧ w = fs ++ l' :: r ∧ (l = l' ∨ (l.1 = true ∧ l'.1 = true ∧ l.2.cps.toList <+: l'.2.cps.toList)) := by
  induction b with
  | nil ws => exact .inl rfl
  | cut w u r => exact .inr ⟨[], _, _, r, rfl, rfl, .inr ⟨rfl, rfl, List.prefix_append _ _⟩⟩
  | cons p b ih =>
    rename_i f r
    rcases ih with rfl | ⟨fs, l, l', r', rfl, rfl, h⟩
    · exact .inr ⟨[], p, p, r, rfl, rfl, .inl rfl⟩
    · exact .inr ⟨p :: fs, l, l', r', rfl, rfl, h⟩
theorem starts_pre {a b : Str} (h : b.cps.toList <+: a.cps.toList) : Txt.startswith a b = true := by
  obtain ⟨u, hu⟩ := h
  obtain ⟨x⟩ := a
  obtain ⟨y⟩ := b
  dsimp only at hu
  have hx : Str.length ⟨x⟩ = x.size := rfl
  have hy : Str.length ⟨y⟩ = y.size := rfl
  have hl : y.size ≤ x.size := by
    have := congrArg List.length hu
    simp at this
    omega
  unfold Txt.startswith Builtin.Str.subAt
  rw [hx, hy, Nat.zero_add, decide_eq_true hl, Bool.true_and, beq_iff_eq]
  apply Array.ext'
  rw [Array.toList_extract, ← hu]
  simp
theorem pre_starts {a b : Str} (h : Txt.startswith a b = true) : b.cps.toList <+: a.cps.toList := by
  obtain ⟨x⟩ := a
  obtain ⟨y⟩ := b
  have hy : Str.length ⟨y⟩ = y.size := rfl
  unfold Txt.startswith Builtin.Str.subAt at h
  rw [hy, Nat.zero_add] at h
  simp only [Bool.and_eq_true, beq_iff_eq] at h
  show y.toList <+: x.toList
  rw [← h.2, Array.toList_extract]
  simp
  exact List.take_prefix _ _
theorem beg_dob {v v' : Str → Str} {f w : List Pc} (b : Beg f w) (a : Agr v v' f) : dobR (rws v f) (rws v' w) = true := by
  rcases beg_split b with rfl | ⟨fs, l, l', r, rfl, rfl, h⟩
  · rfl
  · have af : Agr v v' fs := fun p hp => a p (List.mem_append_left _ hp)
    have al := a l (by simp)
    have e1 : rws v (fs ++ [l]) = rws v' fs ++ [(l.1, l.2, if l.1 then ⟨#[]⟩ else v l.2)] := by
      rw [← rws_agr af]
      simp [rws]
    have e2 : rws v' (fs ++ l' :: r) = rws v' fs ++ (l'.1, l'.2, if l'.1 then ⟨#[]⟩ else v' l'.2) :: rws v' r := by simp [rws]
    rw [e1, e2]
    generalize rws v' fs = gs
    generalize rws v' r = gr
    unfold dobR
    have n1 : ¬ ((gs ++ [((l.1, l.2, if l.1 then ⟨#[]⟩ else v l.2) : Rc)]).length = 0 ∨ (gs ++ ((l'.1, l'.2, if l'.1 then ⟨#[]⟩ else v' l'.2) : Rc) :: gr).length < (gs ++ [((l.1, l.2, if l.1 then ⟨#[]⟩ else v l.2) : Rc)]).length) := by
      simp
    have n2 : (gs ++ [((l.1, l.2, if l.1 then ⟨#[]⟩ else v l.2) : Rc)]).length - 1 = gs.length := by simp
    rw [if_neg n1, n2, List.getLast?_concat, List.getElem?_append_right (Nat.le_refl _), Nat.sub_self, List.getElem?_cons_zero, List.dropLast_concat, List.take_left]
    simp only [if_true]
    rcases h with rfl | ⟨h1, h2, h3⟩
    · have : ((l.1, l.2, if l.1 then ⟨#[]⟩ else v l.2) : Rc) = (l.1, l.2, if l.1 then ⟨#[]⟩ else v' l.2) := by
        cases hk : l.1 with
        | true => rfl
        | false => simp only [al hk]
      rw [decide_eq_true this, Bool.true_or]
    · rw [h1, h2, starts_pre h3]
      simp
theorem beg_self : ∀ w : List Pc, Beg w w
  | [] => .nil _
  | p :: w => .cons p (beg_self w)
/-- equal keys have equal rows -/
theorem key_rows {v v' : Str → Str} (hv : ∀ x, Free (v x).cps.toList) (hv' : ∀ x, Free (v' x).cps.toList) {w : List Pc} (hs : Sgn w) (h : tx v w = tx v' w) : rws v w = rws v' w := by
  have e : tl v w = tl v' w := by
    have := congrArg (fun s : Str => s.cps.toList) h
    simpa [tx] using this
  exact rws_agr ((beg_iff hv hv' (beg_self w) hs).mp (by rw [e]; exact List.prefix_refl _))
end En
/-! a dict whose values hang on the keys -/
namespace En
open PySem L2
section
variable {κ : Type} [DecidableEq κ] {enc : κ → PyData} (F : κ → PyData) (he : ∀ a b, keyEq (enc a) (enc b) = decide (a = b))
def addK (ks : List κ) (a : κ) : List κ := if a ∈ ks then ks else ks ++ [a]
include he in
theorem any_K (a : κ) (ks : List κ) : ((ks.map fun b => (enc b, F b)).any fun p => keyEq p.1 (enc a)) = decide (a ∈ ks) := by
  induction ks with
  | nil => rfl
  | cons b ks ih =>
    rw [List.map_cons, List.any_cons, ih, he]
    by_cases h1 : b = a
    · subst h1
      simp
    · by_cases h2 : a ∈ ks
      · simp [h2]
      · have : ¬ a = b := fun z => h1 z.symm
        simp [h1, h2, this]
include he in
theorem put_K (a : κ) (ks : List κ) : dicPut (ks.map fun b => (enc b, F b)) (enc a) (F a) = (addK ks a).map fun b => (enc b, F b) := by
  unfold dicPut addK
  rw [any_K F he]
  by_cases h : a ∈ ks
  · rw [decide_eq_true h, if_pos rfl, if_pos h, List.map_map]
    refine List.map_congr_left fun b hb => ?_
    simp only [Function.comp, he]
    by_cases h1 : b = a
    · subst h1; simp
    · simp [h1]
  · rw [decide_eq_false h, if_neg (by decide), if_neg h, List.map_append]
    rfl
include he in
theorem get_K {a : κ} : ∀ {ks : List κ}, a ∈ ks → dicGet (ks.map fun b => (enc b, F b)) (enc a) = some (F a)
  | [], h => by cases h
  | b :: ks, h => by
    unfold dicGet
    rw [List.map_cons, List.find?_cons, he]
    by_cases h1 : b = a
    · subst h1; simp
    · simp only [h1, decide_false]
      exact get_K ((List.mem_cons.mp h).resolve_left fun z => h1 z.symm)
include he in
theorem fold_K : ∀ (qs ks : List κ), qs.foldl (fun m q => dicPut m (enc q) (F q)) (ks.map fun b => (enc b, F b)) = (qs.foldl addK ks).map fun b => (enc b, F b)
  | [], _ => rfl
  | q :: qs, ks => by rw [List.foldl_cons, List.foldl_cons, put_K F he, fold_K qs]
theorem add_mem {a b : κ} {ks : List κ} (h : a ∈ ks) : a ∈ addK ks b := by
  unfold addK
  split
  · exact h
  · exact List.mem_append_left _ h
theorem foldl_mem {a : κ} : ∀ (qs ks : List κ), a ∈ ks ∨ a ∈ qs → a ∈ qs.foldl addK ks
  | [], ks, h => h.resolve_right List.not_mem_nil
  | q :: qs, ks, h => by
    rw [List.foldl_cons]
    refine foldl_mem qs _ ?_
    rcases h with h | h
    · exact .inl (add_mem h)
    · rcases List.mem_cons.mp h with rfl | h
      · left
        unfold addK
        split
        · assumption
        · exact List.mem_append_right _ (List.mem_singleton.mpr rfl)
      · exact .inr h
end
/-! the key of a case -/
theorem nks_txt : ∀ s : List Str, nks (s.map .str) = some (s.map .text)
  | [] => by simp [nks]
  | a :: s => by simp [nks, nk, nks_txt s]
theorem beqAll_txt : ∀ s t : List Str, NestedKey.beqAll (s.map .text) (t.map .text) = decide (s = t)
  | [], [] => by simp [NestedKey.beqAll]
  | [], b :: t => by simp [NestedKey.beqAll]
  | a :: s, [] => by simp [NestedKey.beqAll]
  | a :: s, b :: t => by
    simp only [List.map_cons, NestedKey.beqAll, NestedKey.beq, beqAll_txt s t, List.cons.injEq]
    by_cases h1 : a = b <;> by_cases h2 : s = t <;> simp [h1, h2]
theorem nk_ca (nm : Str) (s : List Str) : nk (caD nm s) = some (.tup [.text nm, .tup (s.map .text)]) := by
  simp only [caD, tst, nk, nks, nks_txt, Option.map_some]
theorem keyEq_ca (a b : Str × List Str) : keyEq (caD a.1 a.2) (caD b.1 b.2) = decide (a = b) := by
  obtain ⟨x, s⟩ := a
  obtain ⟨y, t⟩ := b
  unfold keyEq
  rw [nk_ca, nk_ca]
  simp only [NestedKey.beq, NestedKey.beqAll, beqAll_txt, Bool.and_true, Prod.mk.injEq]
  by_cases h1 : x = y <;> by_cases h2 : s = t <;> simp [h1, h2]
end En
/-! accident -/
namespace En
open PySem L2
def keyOf (js : List Jb) (nm : Str) : List Pc := ((js.find? fun j => decide (j.nm = nm)).map (·.key)).getD []
def FK (tags : List Str) (js : List Jb) (a : Str × List Str) : PyData := rowD (vl tags a.2) (keyOf js a.1)
theorem FK_of {tags : List Str} {js : List Jb} (wn : WfN js) {j : Jb} (hj : j ∈ js) (s : List Str) : FK tags js (j.nm, s) = rowD (vl tags s) j.key := by
  unfold FK keyOf
  rw [wn j hj]
  rfl
theorem depthAll_txt : ∀ s : List Str, NestedKey.depthAll (s.map .text) ≤ 1
  | [] => by simp [NestedKey.depthAll]
  | a :: s => by
    have := depthAll_txt s
    simp only [List.map_cons, NestedKey.depthAll, NestedKey.depth]
    omega
theorem tupKey_ca (nm : Str) (s : List Str) : tupKey (caD nm s) = true := by
  have := depthAll_txt s
  unfold tupKey
  rw [nk_ca]
  have e : (NestedKey.tup [.text nm, .tup (s.map .text)]).depth = NestedKey.depthAll (s.map .text) + 1 + 1 := by simp [NestedKey.depth, NestedKey.depthAll]
  dsimp only
  rw [e, decide_eq_true_eq]
  omega
section
variable (C : Str → List D → Hs → R D)
def dK (tags : List Str) (st : List (List Str)) (js : List Jb) : List (PyData × PyData) := (((cas st js).map fun q => (q.1.nm, q.2)).foldl addK []).map fun b => (caD b.1 b.2, FK tags js b)
theorem dcR_ca {tags : List Str} {st : List (List Str)} {js : List Jb} (wn : WfN js) (hne : cas st js ≠ []) (hl : (cas st js).length ≤ 100000) (h : Hs) : dcR ((cas st js).map fun q => .tuple [casD q, rowD (vl tags q.2) q.1.key]) h = .ok (.dit (dK tags st js)) h := by
  have a1 : ((cas st js).map fun q => PyData.tuple [casD q, rowD (vl tags q.2) q.1.key]).all strP = false := by
    cases hc : cas st js with
    | nil => exact absurd hc hne
    | cons q r => rfl
  have a2 : ((cas st js).map fun q => PyData.tuple [casD q, rowD (vl tags q.2) q.1.key]).all tupP = true := by
    rw [List.all_map, List.all_eq_true]
    intro q _
    exact tupKey_ca _ _
  have a3 : ((cas st js).map fun q => PyData.tuple [casD q, rowD (vl tags q.2) q.1.key]).foldl dcPut [] = dK tags st js := by
    have f := fold_K (FK tags js) (enc := fun b : Str × List Str => caD b.1 b.2) keyEq_ca ((cas st js).map fun q => (q.1.nm, q.2)) []
    rw [List.map_nil, List.foldl_map] at f
    unfold dK
    rw [← f, List.foldl_map]
    have hm : ∀ q ∈ cas st js, q.1 ∈ js := fun q hq => (cas_mem hq).1
    generalize cas st js = cs at hm
    generalize ([] : List (PyData × PyData)) = m
    induction cs generalizing m with
    | nil => rfl
    | cons q cs ih =>
      rw [List.foldl_cons, List.foldl_cons, ih (fun x hx => hm x (List.mem_cons_of_mem _ hx)), FK_of wn (hm q List.mem_cons_self)]
      rfl
  unfold dcR
  rw [List.length_map, if_pos hl, a1, if_neg (by decide), a2, if_pos rfl, a3]
theorem get_dK {tags : List Str} {st : List (List Str)} {js : List Jb} (wn : WfN js) {q : Jb × List Str} (hq : q ∈ cas st js) (h : Hs) : ixD (.dit (dK tags st js)) (.d (casD q)) h = .ok (.d (rowD (vl tags q.2) q.1.key)) h := by
  have g := get_K (FK tags js) (enc := fun b : Str × List Str => caD b.1 b.2) keyEq_ca (foldl_mem (a := (q.1.nm, q.2)) ((cas st js).map fun q => (q.1.nm, q.2)) [] (.inr (List.mem_map_of_mem hq)))
  rw [FK_of wn (cas_mem hq).1] at g
  have t := tupKey_ca q.1.nm q.2
  unfold dK casD
  simp only [ixD, ditIx, t, if_true]
  rw [g]
end
end En
namespace En
open PySem L2
structure Ke (C : Str → List D → Hs → R D) : Prop where
  B : ∀ {tags : List Str} {st : List (List Str)} {js : List Jb} {nm : Str} {j : Jb} {k : Nat} {p : List Pc} {h : Hs}, WfP tags st js → WfN js → js.find? (fun j => decide (j.nm = nm)) = some j → j.pre[k]? = some p → st.length * (cas st js).length ≤ 16000000 → C (Str.ofString "begun") [.d (plD tags st js), .d (.str nm), .d (.int (k : Int))] h = .ok (.d (.list ((bgn tags p (cas st js) st).map bgD))) h
  D : ∀ (a b : List Rc) (h : Hs), C (Str.ofString "do_begin") [.d (rtd a), .d (rtd b)] h = .ok (.d (.bool (dobR a b))) h
theorem ke_of {P : Prog} {k : Nat} (kc : Kc (callN P k)) (kd : Kd (callN P k)) (h1 : P.lookup (Str.ofString "begun") = some f_begun) (h2 : P.lookup (Str.ofString "do_begin") = some f_do_begin) : Ke (callN P (k + 1)) where
  B := fun w wn hj hk hb => by rw [cn h1]; exact begun_ok _ kc kd w wn hj hk hb
  D := fun a b h => by rw [cn h2]; exact do_begin_okR _ a b h
theorem bgn_mem {tags : List Str} {p : List Pc} {cs : List (Jb × List Str)} {st : List (List Str)} {x : List Str × (Jb × List Str)} (h : x ∈ bgn tags p cs st) : x.1 ∈ st ∧ x.2 ∈ cs ∧ Txt.startswith (tx (vl tags x.2.2) x.2.1.key) (tx (vl tags x.1) p) = true := by
  obtain ⟨s, hs, h⟩ := List.mem_flatMap.mp h
  obtain ⟨q, hq, rfl⟩ := List.mem_map.mp h
  obtain ⟨h1, h2⟩ := List.mem_filter.mp hq
  exact ⟨hs, h1, h2⟩
section
variable (C : Str → List D → Hs → R D)
abbrev acC : E := .call (Str.ofString "do_begin") false (.cons (.call (Str.ofString "row_of") false (.cons (.var 3) (.cons (.call (Str.ofString "values_of") false (.cons (.var 0) (.cons (.var 5) .nil))) .nil))) (.cons (.ix (.var 4) (.var 6)) .nil))
abbrev acB : S := .seq (.ite (.not acC) (.seq (.ret (.tup (.cons (.var 5) (.cons (.var 6) .nil)))) .nil) .nil) .nil
abbrev acL : D → Env → Hs → R (Fl × Env) := fun x σ1 h2 => match bindTg (.tp [5, 6]) x σ1 with
  | some σ2 => run C acB σ2 h2
  | none => .no
section
variable {tags : List Str} {st : List (List Str)} {js : List Jb} {h : Hs} {a1 a2 : D} {p : List Pc}
theorem ac_loop (kc : Kc C) (ke : Ke C) (w : WfP tags st js) (wn : WfN js) (hp : Ft tags p) : ∀ (xs : List (List Str × (Jb × List Str))) (z5 z6 : Option D), (∀ x ∈ xs, x.1 ∈ st ∧ x.2 ∈ cas st js ∧ dobR (rws (vl tags x.1) p) (rws (vl tags x.2.2) x.2.1.key) = true) →
    ∃ z5' z6', loopF (acL C) (xs.map fun x => D.d (bgD x)) [some (.d (plD tags st js)), some a1, some a2, some (.d (tpd p)), some (.dit (dK tags st js)), z5, z6] h = .ok (.nx, [some (.d (plD tags st js)), some a1, some a2, some (.d (tpd p)), some (.dit (dK tags st js)), z5', z6']) h
  | [], z5, z6, _ => ⟨z5, z6, loop_nil⟩
  | x :: xs, z5, z6, hx => by
    obtain ⟨x1, x2, x3⟩ := hx x List.mem_cons_self
    have er := call2 C (f := Str.ofString "row_of") (a := .var 3) (σ := [some (.d (plD tags st js)), some a1, some a2, some (.d (tpd p)), some (.dit (dK tags st js)), some (.d (tst x.1)), some (.d (casD x.2))]) (h := h) (x := .d (tpd p)) (y := .dic (vls tags x.1)) (h1 := h) (h2 := h) rfl (call2d C (f := Str.ofString "values_of") (a := .var 0) (b := .var 5) (x := .d (plD tags st js)) (y := .d (tst x.1)) (h1 := h) (h2 := h) rfl rfl (kc.V w.nd w.few) rfl) (kc.W hp (w.sts x.1 x1))
    have ei := vix C (a := .var 4) (b := .var 6) (σ := [some (.d (plD tags st js)), some a1, some a2, some (.d (tpd p)), some (.dit (dK tags st js)), some (.d (tst x.1)), some (.d (casD x.2))]) (h := h) (x := .dit (dK tags st js)) (y := .d (casD x.2)) (h1 := h) (h2 := h) rfl rfl (get_dK wn x2 h)
    rw [rowD_eq] at er ei
    have c := call_t C (call2 C (f := Str.ofString "do_begin") er ei (ke.D _ _ h))
    rw [x3] at c
    obtain ⟨y5, y6, e2⟩ := ac_loop kc ke w wn hp xs (some (.d (tst x.1))) (some (.d (casD x.2))) (fun y hy => hx y (List.mem_cons_of_mem _ hy))
    refine ⟨y5, y6, ?_⟩
    have st' : acL C (.d (bgD x)) [some (.d (plD tags st js)), some a1, some a2, some (.d (tpd p)), some (.dit (dK tags st js)), z5, z6] h = .ok (.nx, [some (.d (plD tags st js)), some a1, some a2, some (.d (tpd p)), some (.dit (dK tags st js)), some (.d (tst x.1)), some (.d (casD x.2))]) h := (seq_nx C ((ite_f C (not_t C c)).trans (run_nil C))).trans (run_nil C)
    exact (loop_nx st').trans e2
abbrev acD : E := .dc [6] (.nm 6) (.call (Str.ofString "cases") false (.cons (.var 0) .nil)) .nil (.var 6) (.call (Str.ofString "key_row") false (.cons (.var 0) (.cons (.var 6) .nil)))
theorem accident_none {nm : Str} {j : Jb} {k : Nat} (kc : Kc C) (kd : Kd C) (ke : Ke C) (w : WfP tags st js) (wn : WfN js) (hj : js.find? (fun j => decide (j.nm = nm)) = some j) (hk : j.pre[k]? = some p) (hb : st.length * (cas st js).length ≤ 16000000) (hne : cas st js ≠ []) (hl : (cas st js).length ≤ 100000)
    (hd : ∀ x ∈ bgn tags p (cas st js) st, dobR (rws (vl tags x.1) p) (rws (vl tags x.2.2) x.2.1.key) = true) :
    runF C f_accident [.d (plD tags st js), .d (.str nm), .d (.int (k : Int))] h = .ok (.d .none) h := by
  have jm : j ∈ js := List.mem_of_find?_eq_some hj
  have hp : Ft tags p := w.pre j jm p (List.mem_of_getElem? hk)
  have e3 : (sem C (.call (Str.ofString "prefix_of") false (.cons (.var 0) (.cons (.var 1) (.cons (.var 2) .nil))))).v [some (.d (plD tags st js)), some (.d (.str nm)), some (.d (.int (k : Int))), none, none, none, none] h = .ok (.d (tpd p)) h := call3 C (x := .d (plD tags st js)) (y := .d (.str nm)) (w := .d (.int (k : Int))) (h1 := h) (h2 := h) (h3 := h) rfl rfl rfl (kd.P w hj hk)
  have ei : (sem C (.call (Str.ofString "cases") false (.cons (.var 0) .nil))).it [some (.d (plD tags st js)), some (.d (.str nm)), some (.d (.int (k : Int))), none, none, none, none] h = .ok ((cas st js).map fun q => D.d (casD q)) h := val_it C rfl (call1 C (x := .d (plD tags st js)) (h1 := h) rfl (kd.A w)) (seq_list casD (cas st js))
  have cm := comp_map (n := h.length) (f := turn [6] (.nm 6) (sem C .nil) (fun σ2 h3 => ((sem C (.var 6)).v σ2 h3).bind fun kx h4 => ((sem C (.call (Str.ofString "key_row") false (.cons (.var 0) (.cons (.var 6) .nil)))).v σ2 h4).bind fun vx h5 => pairR kx vx h5) [some (.d (plD tags st js)), some (.d (.str nm)), some (.d (.int (k : Int))), none, none, none, none]) (fun q => D.d (casD q)) (fun q => .tuple [casD q, rowD (vl tags q.2) q.1.key]) List.take_length (cas st js) (fun q hq => by
    obtain ⟨q1, q2⟩ := cas_mem hq
    refine turn_k C (σ2 := [some (.d (plD tags st js)), some (.d (.str nm)), some (.d (.int (k : Int))), none, none, none, some (.d (casD q))]) rfl ?_
    have ek := call2 C (f := Str.ofString "key_row") (a := .var 0) (b := .var 6) (σ := [some (.d (plD tags st js)), some (.d (.str nm)), some (.d (.int (k : Int))), none, none, none, some (.d (casD q))]) (h := h) (x := .d (plD tags st js)) (y := .d (casD q)) (h1 := h) (h2 := h) rfl rfl (kd.R w (wn q.1 q1) (w.sts q.2 q2))
    rw [vvar C (i := 6) (x := .d (casD q)) rfl, rb_ok, ek, rb_ok]
    rfl)
  have e4 : (sem C acD).v [some (.d (plD tags st js)), some (.d (.str nm)), some (.d (.int (k : Int))), none, none, none, none] h = .ok (.dit (dK tags st js)) h := by
    have e : (sem C acD).v [some (.d (plD tags st js)), some (.d (.str nm)), some (.d (.int (k : Int))), none, none, none, none] h = ((sem C (.call (Str.ofString "cases") false (.cons (.var 0) .nil))).it [some (.d (plD tags st js)), some (.d (.str nm)), some (.d (.int (k : Int))), none, none, none, none] h).bind fun ds h1 => (compL h1.length (turn [6] (.nm 6) (sem C .nil) (fun σ2 h3 => ((sem C (.var 6)).v σ2 h3).bind fun kx h4 => ((sem C (.call (Str.ofString "key_row") false (.cons (.var 0) (.cons (.var 6) .nil)))).v σ2 h4).bind fun vx h5 => pairR kx vx h5) [some (.d (plD tags st js)), some (.d (.str nm)), some (.d (.int (k : Int))), none, none, none, none]) ds h1).bind fun ys h2 => noX (dcR ys h2) := rfl
    rw [e, ei, rb_ok, cm, rb_ok, dcR_ca wn hne hl, noX_ok]
  have eg : (sem C (.call (Str.ofString "begun") false (.cons (.var 0) (.cons (.var 1) (.cons (.var 2) .nil))))).it [some (.d (plD tags st js)), some (.d (.str nm)), some (.d (.int (k : Int))), some (.d (tpd p)), some (.dit (dK tags st js)), none, none] h = .ok ((bgn tags p (cas st js) st).map fun x => D.d (bgD x)) h := val_it C rfl (call3 C (x := .d (plD tags st js)) (y := .d (.str nm)) (w := .d (.int (k : Int))) (h1 := h) (h2 := h) (h3 := h) rfl rfl rfl (ke.B w wn hj hk hb)) (seq_list bgD _)
  obtain ⟨z5, z6, e5⟩ := ac_loop C (a1 := .d (.str nm)) (a2 := .d (.int (k : Int))) (h := h) kc ke w wn hp (bgn tags p (cas st js) st) none none (fun x hx => ⟨(bgn_mem hx).1, (bgn_mem hx).2.1, hd x hx⟩)
  have ef : run C (.for_ (.tp [5, 6]) (.call (Str.ofString "begun") false (.cons (.var 0) (.cons (.var 1) (.cons (.var 2) .nil)))) acB) [some (.d (plD tags st js)), some (.d (.str nm)), some (.d (.int (k : Int))), some (.d (tpd p)), some (.dit (dK tags st js)), none, none] h = .ok (.nx, [some (.d (plD tags st js)), some (.d (.str nm)), some (.d (.int (k : Int))), some (.d (tpd p)), some (.dit (dK tags st js)), z5, z6]) h := by
    rw [run, eg, bs_ok]
    exact e5
  have e7 : run C f_accident.body (startE f_accident [.d (plD tags st js), .d (.str nm), .d (.int (k : Int))]) h = .ok (.rt (.d .none), [some (.d (plD tags st js)), some (.d (.str nm)), some (.d (.int (k : Int))), some (.d (tpd p)), some (.dit (dK tags st js)), z5, z6]) h := by
    refine (seq_nx C (par_ok C e3 e4)).trans ?_
    refine (seq_nx C ef).trans ?_
    exact seq_rt C (ret_ok C rfl)
  rw [runF_rt C rfl e7]
  simp only [leave, List.take_length]
end
end
end En
namespace En
open PySem L2
theorem enum_str : ∀ (ts : List Str) (k : Nat), enumP k (ts.map .str) = (ts.zipIdx k).map fun p => D.wtp [.int (p.2 : Int), .str p.1]
  | [], _ => rfl
  | t :: ts, k => by rw [List.map_cons, enumP, List.zipIdx_cons, List.map_cons, enum_str ts (k + 1)]
theorem bools_map : ∀ bs : List Bool, boolsOf (bs.map .bool) = some bs
  | [] => rfl
  | b :: bs => by simp only [List.map_cons, boolsOf, bools_map bs, Option.map_some]
theorem all_map (bs : List Bool) (h : Hs) : biD .all false [.d (.list (bs.map .bool))] h = .ok (.d (.bool (bs.all id))) h := by
  simp only [biD, vw, bools_map]
/-- alike at a place -/
def alk (i : Nat) (x : List Str × (Jb × List Str)) : Bool := decide (x.1[i]? = x.2.2[i]?)
def heldL (tags : List Str) (xs : List (List Str × (Jb × List Str))) : List Str := ((tags.zipIdx 0).filter fun p => (xs.map (alk p.2)).all id).map (·.1)
section
variable (C : Str → List D → Hs → R D)
abbrev hdI : E := .cmp .Eq (.ix (.var 6) (.var 4)) (.ix (.ix (.var 7) (.cst (.int (1)))) (.var 4))
abbrev hdA : E := .bi .all false (.cons (.lc false [6, 7] (.tp [6, 7]) (.var 3) .nil hdI) .nil)
abbrev hdE : E := .lc false [4, 5] (.tp [4, 5]) (.enu (.ix (.var 0) (.cst (.int (0))))) (.cons hdA .nil) (.var 5)
section
variable {tags : List Str} {st : List (List Str)} {js : List Jb} {h : Hs} {p : List Pc}
theorem held_ok {nm : Str} {j : Jb} {k : Nat} (ke : Ke C) (w : WfP tags st js) (wn : WfN js) (hj : js.find? (fun j => decide (j.nm = nm)) = some j) (hk : j.pre[k]? = some p) (hb : st.length * (cas st js).length ≤ 16000000) (hbl : (bgn tags p (cas st js) st).length ≤ 16000000) :
    runF C f_held [.d (plD tags st js), .d (.str nm), .d (.int (k : Int))] h = .ok (.d (tst (heldL tags (bgn tags p (cas st js) st)))) h := by
  have hm : ∀ x ∈ bgn tags p (cas st js) st, x.1.length = tags.length ∧ x.2.2.length = tags.length := fun x hx => ⟨(w.sts _ (bgn_mem hx).1).1, (w.sts _ (cas_mem (bgn_mem hx).2.1).2).1⟩
  have e3 : (sem C (.call (Str.ofString "begun") false (.cons (.var 0) (.cons (.var 1) (.cons (.var 2) .nil))))).v [some (.d (plD tags st js)), some (.d (.str nm)), some (.d (.int (k : Int))), none, none, none, none, none] h = .ok (.d (.list ((bgn tags p (cas st js) st).map bgD))) h := call3 C (x := .d (plD tags st js)) (y := .d (.str nm)) (w := .d (.int (k : Int))) (h1 := h) (h2 := h) (h3 := h) rfl rfl rfl (ke.B w wn hj hk hb)
  generalize bgn tags p (cas st js) st = xs at e3 hm hbl
  have et : (sem C (.ix (.var 0) (.cst (.int (0))))).v [some (.d (plD tags st js)), some (.d (.str nm)), some (.d (.int (k : Int))), some (.d (.list (xs.map bgD))), none, none, none, none] h = .ok (.d (tst tags)) h := vix C (x := .d (plD tags st js)) (y := .d (.int 0)) (h1 := h) (h2 := h) rfl rfl (pl0 tags st js h)
  have ei : (sem C (.enu (.ix (.var 0) (.cst (.int (0)))))).it [some (.d (plD tags st js)), some (.d (.str nm)), some (.d (.int (k : Int))), some (.d (.list (xs.map bgD))), none, none, none, none] h = .ok ((tags.zipIdx 0).map fun p => D.wtp [.int (p.2 : Int), .str p.1]) h := by
    have e : (sem C (.enu (.ix (.var 0) (.cst (.int (0)))))).it [some (.d (plD tags st js)), some (.d (.str nm)), some (.d (.int (k : Int))), some (.d (.list (xs.map bgD))), none, none, none, none] h = ((sem C (.ix (.var 0) (.cst (.int (0))))).v [some (.d (plD tags st js)), some (.d (.str nm)), some (.d (.int (k : Int))), some (.d (.list (xs.map bgD))), none, none, none, none] h).bind fun x h1 => noX (enuW x h1) := rfl
    rw [e, et, rb_ok]
    simp only [enuW, vwF, tst, enum_str, noX_ok]
  have cm := comp_filter (n := h.length) (f := turn [4, 5] (.tp [4, 5]) (sem C (.cons hdA .nil)) (fun σ2 h3 => some1 ((sem C (.var 5)).v σ2 h3)) [some (.d (plD tags st js)), some (.d (.str nm)), some (.d (.int (k : Int))), some (.d (.list (xs.map bgD))), none, none, none, none]) (fun p : Str × Nat => D.wtp [.int (p.2 : Int), .str p.1]) (fun p => (xs.map (alk p.2)).all id) (fun p => .str p.1) List.take_length (tags.zipIdx 0) (fun t ht => by
    have hi : t.2 < tags.length := by
      obtain ⟨a, b⟩ := t
      have := List.mem_zipIdx ht
      omega
    refine turn_if C (me := (sem C (.var 5)).v) (σ2 := [some (.d (plD tags st js)), some (.d (.str nm)), some (.d (.int (k : Int))), some (.d (.list (xs.map bgD))), some (.d (.int (t.2 : Int))), some (.d (.str t.1)), none, none]) rfl ?_ rfl
    have ci := comp_map (n := h.length) (f := turn [6, 7] (.tp [6, 7]) (sem C .nil) (fun σ2 h3 => some1 ((sem C hdI).v σ2 h3)) [some (.d (plD tags st js)), some (.d (.str nm)), some (.d (.int (k : Int))), some (.d (.list (xs.map bgD))), some (.d (.int (t.2 : Int))), some (.d (.str t.1)), none, none]) (fun x => D.d (bgD x)) (fun x => .bool (alk t.2 x)) List.take_length xs (fun x hx => by
      obtain ⟨l1, l2⟩ := hm x hx
      refine turn_ok C (me := (sem C hdI).v) (σ2 := [some (.d (plD tags st js)), some (.d (.str nm)), some (.d (.int (k : Int))), some (.d (.list (xs.map bgD))), some (.d (.int (t.2 : Int))), some (.d (.str t.1)), some (.d (tst x.1)), some (.d (casD x.2))]) rfl ?_
      have g1 : x.1[t.2]? = some x.1[t.2] := List.getElem?_eq_getElem (by omega)
      have g2 : x.2.2[t.2]? = some x.2.2[t.2] := List.getElem?_eq_getElem (by omega)
      have ea : alk t.2 x = (x.1[t.2] == x.2.2[t.2]) := by
        unfold alk
        rw [g1, g2]
        by_cases hh : x.1[t.2] = x.2.2[t.2] <;> simp [hh]
      rw [ea]
      refine vcmp C (vix C (x := .d (tst x.1)) (y := .d (.int (t.2 : Int))) (h1 := h) (h2 := h) rfl rfl (ix_nat (.inl rfl) (by rw [List.getElem?_map, g1]; rfl) h)) (vix C (vix C (x := .d (casD x.2)) (y := .d (.int 1)) (h1 := h) (h2 := h) rfl rfl (ix_nat (k := 1) (.inl rfl) rfl h)) (y := .d (.int (t.2 : Int))) (h2 := h) rfl (ix_nat (.inl rfl) (by rw [List.getElem?_map, g2]; rfl) h)) (eq_str _ _ h))
    have el := lc_ok C (own := [6, 7]) (tg := .tp [6, 7]) (it := .var 3) (σ := [some (.d (plD tags st js)), some (.d (.str nm)), some (.d (.int (k : Int))), some (.d (.list (xs.map bgD))), some (.d (.int (t.2 : Int))), some (.d (.str t.1)), none, none]) (h := h) (var_it C rfl (seq_list bgD xs)) ci (by rw [List.length_map]; omega)
    have em : (xs.map fun x => PyData.bool (alk t.2 x)) = (xs.map (alk t.2)).map .bool := by rw [List.map_map]; rfl
    rw [em] at el
    have ev := bi1 C el (all_map _ h)
    have e : (sem C hdA).t [some (.d (plD tags st js)), some (.d (.str nm)), some (.d (.int (k : Int))), some (.d (.list (xs.map bgD))), some (.d (.int (t.2 : Int))), some (.d (.str t.1)), none, none] h = ((sem C hdA).v [some (.d (plD tags st js)), some (.d (.str nm)), some (.d (.int (k : Int))), some (.d (.list (xs.map bgD))), some (.d (.int (t.2 : Int))), some (.d (.str t.1)), none, none] h).bind fun x h1 => noX (truD x h1) := rfl
    rw [e, ev]
    rfl)
  have el := lc_ok C (own := [4, 5]) (tg := .tp [4, 5]) ei cm (by
    rw [List.length_map]
    refine Nat.le_trans (List.length_filter_le _ _) ?_
    rw [List.length_zipIdx]
    have := w.few
    omega)
  have er := bi1 C (b := .tuple) (m := false) el (y := .d (tst (heldL tags xs))) (h2 := h) (by
    have : ((tags.zipIdx 0).filter fun p => (xs.map (alk p.2)).all id).map (fun p => PyData.str p.1) = (heldL tags xs).map .str := by unfold heldL; rw [List.map_map]; rfl
    rw [this]
    rfl)
  have e7 : run C f_held.body (startE f_held [.d (plD tags st js), .d (.str nm), .d (.int (k : Int))]) h = .ok (.rt (.d (tst (heldL tags xs))), [some (.d (plD tags st js)), some (.d (.str nm)), some (.d (.int (k : Int))), some (.d (.list (xs.map bgD))), none, none, none, none]) h := by
    refine (seq_nx C (asg_ok C e3)).trans ?_
    exact seq_rt C (ret_ok C er)
  rw [runF_rt C rfl e7]
  simp only [tst, leave, List.take_length]
end
end
end En
namespace En
open PySem L2
theorem lt_ca (q r : Jb × List Str) (h : Hs) : ∃ b, cmpD .Lt (.d (casD q)) (.d (casD r)) h = .ok (.d (.bool b)) h := by
  have d1 := depthAll_str q.2
  have a : ordOk (casD q) (casD r) = true := by
    have e1 : PySem.W.alike (casD q) (casD r) = true := by simp [casD, caD, tst, PySem.W.alike, PySem.W.alikeAll, alikeAll_str]
    have e2 : (casD q).depth ≤ 64 := by
      simp only [casD, caD, tst, PyData.depth, PyData.depthAll]
      omega
    have e3 : min (casD q).depth (casD r).depth ≤ 64 := Nat.le_trans (Nat.min_le_left _ _) e2
    rw [ordOk, e1, decide_eq_true e3]
    · rfl
    · exact fun z => by cases z
  exact ⟨PySem.W.dataLt (casD q) (casD r), by simp [cmpD, snp, cmpP, a]⟩
theorem flat_nil {α : Type} : ∀ l : List α, (l.flatMap fun _ => ([] : List PyData)) = []
  | [] => rfl
  | _ :: l => by rw [List.flatMap_cons, flat_nil l]; rfl
def twD (tags : List Str) (q : Jb × List Str) : PyData := .tuple [casD q, .str (tx (vl tags q.2) q.1.key), rtd (rws (vl tags q.2) q.1.key)]
section
variable (C : Str → List D → Hs → R D)
abbrev twC : E := .bop .And (.cons (.cmp .Lt (.var 3) (.var 6)) (.cons (.cmp .Eq (.var 4) (.var 7)) (.cons (.cmp .NotEq (.var 5) (.var 8)) .nil)))
theorem twins_nil {tags : List Str} {st : List (List Str)} {js : List Jb} {h : Hs} (kd : Kd C) (w : WfP tags st js) (wn : WfN js)
    (hd : ∀ q ∈ cas st js, ∀ r ∈ cas st js, tx (vl tags q.2) q.1.key = tx (vl tags r.2) r.1.key → rws (vl tags q.2) q.1.key = rws (vl tags r.2) r.1.key) :
    runF C f_twins [.d (plD tags st js)] h = .ok (.d (.list [])) h := by
  have cl : (cas st js).length ≤ 1000000 := by
    rw [cas_len]
    have := Nat.mul_le_mul w.jsl w.stl
    omega
  have ei : (sem C (.call (Str.ofString "cases") false (.cons (.var 0) .nil))).it [some (.d (plD tags st js)), none, none, none, none, none, none, none, none] h = .ok ((cas st js).map fun q => D.d (casD q)) h := val_it C rfl (call1 C (x := .d (plD tags st js)) (h1 := h) rfl (kd.A w)) (seq_list casD (cas st js))
  have cm := comp_map (n := h.length) (f := turn [2] (.nm 2) (sem C .nil) (fun σ2 h3 => some1 ((sem C (.tup (.cons (.var 2) (.cons (.call (Str.ofString "key_text") false (.cons (.var 0) (.cons (.var 2) .nil))) (.cons (.call (Str.ofString "key_row") false (.cons (.var 0) (.cons (.var 2) .nil))) .nil))))).v σ2 h3)) [some (.d (plD tags st js)), none, none, none, none, none, none, none, none]) (fun q => D.d (casD q)) (fun q => twD tags q) List.take_length (cas st js) (fun q hq => by
    obtain ⟨q1, q2⟩ := cas_mem hq
    refine turn_ok C (me := (sem C (.tup (.cons (.var 2) (.cons (.call (Str.ofString "key_text") false (.cons (.var 0) (.cons (.var 2) .nil))) (.cons (.call (Str.ofString "key_row") false (.cons (.var 0) (.cons (.var 2) .nil))) .nil))))).v) (σ2 := [some (.d (plD tags st js)), none, some (.d (casD q)), none, none, none, none, none, none]) rfl ?_
    have er := call2 C (f := Str.ofString "key_row") (a := .var 0) (b := .var 2) (σ := [some (.d (plD tags st js)), none, some (.d (casD q)), none, none, none, none, none, none]) (h := h) (x := .d (plD tags st js)) (y := .d (casD q)) (h1 := h) (h2 := h) rfl rfl (kd.R w (wn q.1 q1) (w.sts q.2 q2))
    rw [rowD_eq] at er
    exact tup3 C (x := casD q) (h1 := h) rfl (call2 C (x := .d (plD tags st js)) (y := .d (casD q)) (h1 := h) (h2 := h) rfl rfl (kd.K w (wn q.1 q1) (w.sts q.2 q2))) er)
  have e1 := lc_ok C (own := [2]) (tg := .nm 2) ei cm (by rw [List.length_map]; omega)
  have e2 := lc2_ok C (own := [3, 4, 5, 6, 7, 8]) (vs1 := [6, 7, 8]) (tg := .tp [3, 4, 5]) (tg1 := .tp [6, 7, 8]) (it := .var 1) (ifs := .nil) (it1 := .var 1) (ifs1 := .cons twC .nil) (elt := .tup (.cons (.var 3) (.cons (.var 6) .nil))) (σ := [some (.d (plD tags st js)), some (.d (.list ((cas st js).map (twD tags)))), none, none, none, none, none, none, none]) (h := h) (xs := cas st js) (u := fun q => D.d (twD tags q)) (g := fun _ => []) (var_it C rfl (seq_list (twD tags) (cas st js))) (fun q hq => by
    refine turn_k C (σ2 := [some (.d (plD tags st js)), some (.d (.list ((cas st js).map (twD tags)))), none, some (.d (casD q)), some (.d (.str (tx (vl tags q.2) q.1.key))), some (.d (rtd (rws (vl tags q.2) q.1.key))), none, none, none]) rfl ?_
    refine in2_ok C (var_it C rfl (seq_list (twD tags) (cas st js))) ?_
    have cf := comp_filter (n := h.length) (f := turn [6, 7, 8] (.tp [6, 7, 8]) (sem C (.cons twC .nil)) (fun σ3 h6 => some1 ((sem C (.tup (.cons (.var 3) (.cons (.var 6) .nil)))).v σ3 h6)) [some (.d (plD tags st js)), some (.d (.list ((cas st js).map (twD tags)))), none, some (.d (casD q)), some (.d (.str (tx (vl tags q.2) q.1.key))), some (.d (rtd (rws (vl tags q.2) q.1.key))), none, none, none]) (fun q => D.d (twD tags q)) (fun _ => false) (fun r => .tuple [casD q, casD r]) List.take_length (cas st js) (fun r hr => by
      refine turn_if C (b := false) (me := (sem C (.tup (.cons (.var 3) (.cons (.var 6) .nil)))).v) (σ2 := [some (.d (plD tags st js)), some (.d (.list ((cas st js).map (twD tags)))), none, some (.d (casD q)), some (.d (.str (tx (vl tags q.2) q.1.key))), some (.d (rtd (rws (vl tags q.2) q.1.key))), some (.d (casD r)), some (.d (.str (tx (vl tags r.2) r.1.key))), some (.d (rtd (rws (vl tags r.2) r.1.key)))]) rfl ?_ (tup2 C (x := casD q) (y := casD r) (h1 := h) (h2 := h) rfl rfl)
      obtain ⟨b, lb⟩ := lt_ca q r h
      have t1 := cmp_t C (o := .Lt) (a := .var 3) (b := .var 6) (σ := [some (.d (plD tags st js)), some (.d (.list ((cas st js).map (twD tags)))), none, some (.d (casD q)), some (.d (.str (tx (vl tags q.2) q.1.key))), some (.d (rtd (rws (vl tags q.2) q.1.key))), some (.d (casD r)), some (.d (.str (tx (vl tags r.2) r.1.key))), some (.d (rtd (rws (vl tags r.2) r.1.key)))]) (h := h) (h1 := h) (h2 := h) rfl rfl lb
      have t2 := cmp_t C (o := .Eq) (a := .var 4) (b := .var 7) (σ := [some (.d (plD tags st js)), some (.d (.list ((cas st js).map (twD tags)))), none, some (.d (casD q)), some (.d (.str (tx (vl tags q.2) q.1.key))), some (.d (rtd (rws (vl tags q.2) q.1.key))), some (.d (casD r)), some (.d (.str (tx (vl tags r.2) r.1.key))), some (.d (rtd (rws (vl tags r.2) r.1.key)))]) (h := h) (h1 := h) (h2 := h) rfl rfl (eq_str _ _ h)
      have t3 := cmp_t C (o := .NotEq) (a := .var 5) (b := .var 8) (σ := [some (.d (plD tags st js)), some (.d (.list ((cas st js).map (twD tags)))), none, some (.d (casD q)), some (.d (.str (tx (vl tags q.2) q.1.key))), some (.d (rtd (rws (vl tags q.2) q.1.key))), some (.d (casD r)), some (.d (.str (tx (vl tags r.2) r.1.key))), some (.d (rtd (rws (vl tags r.2) r.1.key)))]) (h := h) (h1 := h) (h2 := h) rfl rfl (ne_tpdR _ _ h)
      cases b with
      | false => exact and3_f C t1
      | true =>
        refine and3_t C t1 ?_
        by_cases e : tx (vl tags q.2) q.1.key = tx (vl tags r.2) r.1.key
        · have b2 : (tx (vl tags q.2) q.1.key == tx (vl tags r.2) r.1.key) = true := by simp [e]
          rw [b2] at t2
          rw [decide_eq_true (hd q hq r hr e)] at t3
          exact and2_t C t2 t3
        · have b2 : (tx (vl tags q.2) q.1.key == tx (vl tags r.2) r.1.key) = false := by simp [e]
          rw [b2] at t2
          exact and2_f C t2)
    have ff : (cas st js).filter (fun _ => false) = [] := List.filter_eq_nil_iff.mpr (by simp)
    rw [ff] at cf
    exact cf) (by rw [flat_nil]; simp)
  have e0 : ((cas st js).flatMap fun _ => ([] : List PyData)) = [] := flat_nil _
  rw [e0] at e2
  have e7 : run C f_twins.body (startE f_twins [.d (plD tags st js)]) h = .ok (.rt (.d (.list [])), [some (.d (plD tags st js)), some (.d (.list ((cas st js).map (twD tags)))), none, none, none, none, none, none, none]) h := by
    refine (seq_nx C (asg_ok C e1)).trans ?_
    exact seq_rt C (ret_ok C e2)
  rw [runF_rt C rfl e7]
  simp only [leave, List.take_length]
end
end En
namespace En
open PySem L2
theorem rngP_nat : ∀ (n a : Nat), rngP (a : Int) n = (List.range' a n).map fun k : Nat => D.d (.int (k : Int))
  | 0, _ => rfl
  | n + 1, a => by
    have e : (a : Int) + 1 = ((a + 1 : Nat) : Int) := by omega
    rw [rngP, e, rngP_nat n (a + 1), List.range'_succ, List.map_cons]
theorem rngP_range (n : Nat) : rngP 0 n = (List.range n).map fun k : Nat => D.d (.int (k : Int)) := by
  rw [List.range_eq_range']
  exact rngP_nat n 0
/-- a turn may leave cells -/
theorem comp_filterd {n : Nat} {f : D → Hs → R (Option PyData)} {α : Type} (u : α → D) (c : α → Bool) (g : α → PyData) {h : Hs} : ∀ xs : List α, (∀ x ∈ xs, ∃ h', f (u x) h = .ok (if c x then some (g x) else none) h' ∧ h'.take n = h) → h.take n = h → compL n f (xs.map u) h = .ok ((xs.filter c).map g) h
  | [], _, _ => rfl
  | x :: xs, hx, hn => by
    obtain ⟨h', e, t⟩ := hx x List.mem_cons_self
    rw [List.map_cons, compL, e, rb_ok, t, comp_filterd u c g xs (fun y hy => hx y (List.mem_cons_of_mem _ hy)) hn, rb_ok]
    cases hc : c x with
    | true => rw [List.filter_cons_of_pos (by exact hc)]; rfl
    | false => rw [List.filter_cons_of_neg (by simp [hc])]; rfl
theorem vl_get {tags s : List Str} : ∀ {k : Nat} {x w : Str}, tags.Nodup → tags[k]? = some x → s[k]? = some w → vl tags s x = w := by
  unfold vl
  induction tags generalizing s with
  | nil => intro k x w _ h; simp at h
  | cons t tags ih =>
    intro k x w hn h1 h2
    rw [List.nodup_cons] at hn
    cases s with
    | nil => simp at h2
    | cons v s =>
      rw [List.zip_cons_cons, List.lookup_cons]
      cases k with
      | zero =>
        simp at h1 h2
        subst h1 h2
        simp
      | succ k =>
        simp only [List.getElem?_cons_succ] at h1 h2
        have hx : x ∈ tags := List.mem_of_getElem? h1
        have hne : (x == t) = false := by
          rw [beq_eq_false_iff_ne]
          exact fun z => hn.1 (z ▸ hx)
        rw [hne]
        exact ih hn.2 h1 h2
theorem beg_dob0 {f w : List Pc} (b : Beg f w) : dob f w = true := by
  rcases beg_split b with rfl | ⟨fs, l, l', r, rfl, rfl, h⟩
  · rfl
  · unfold dob
    have n1 : ¬ ((fs ++ [l]).length = 0 ∨ (fs ++ l' :: r).length < (fs ++ [l]).length) := by simp
    have n2 : (fs ++ [l]).length - 1 = fs.length := by simp
    rw [if_neg n1, n2, List.getLast?_concat, List.getElem?_append_right (Nat.le_refl _), Nat.sub_self, List.getElem?_cons_zero, List.dropLast_concat, List.take_left]
    simp only [if_true]
    rcases h with rfl | ⟨h1, h2, h3⟩
    · simp
    · rw [h1, h2, starts_pre h3]
      simp
theorem beg_len {f w : List Pc} (b : Beg f w) : f.length ≤ w.length ∧ tot f ≤ tot w := by
  induction b with
  | nil ws => exact ⟨by simp, by simp [tot]⟩
  | cut w u r =>
    refine ⟨by simp, ?_⟩
    show w.toArray.size + 0 ≤ (w ++ u).toArray.size + tot r
    simp
    omega
  | cons p b ih => exact ⟨by simpa using ih.1, by simp only [tot]; omega⟩
theorem beg_pre {f w : List Pc} (h : f <+: w) : Beg f w := by
  obtain ⟨r, rfl⟩ := h
  induction f with
  | nil => exact .nil _
  | cons p f ih => exact .cons p ih
theorem beg_app (fs : List Pc) {f w : List Pc} (b : Beg f w) : Beg (fs ++ f) (fs ++ w) := by
  induction fs with
  | nil => exact b
  | cons p fs ih => exact .cons p ih
theorem beg_jd {f w : List Pc} (b : Beg f w) : Jd w → Jd f := by
  induction b with
  | nil ws => intro _; trivial
  | cut w u r => intro _; trivial
  | cons p b ih =>
    intro h
    cases b with
    | nil ws => trivial
    | cut w u r => exact ⟨h.1, trivial⟩
    | cons q b => exact ⟨h.1, ih h.2⟩
section
variable (C : Str → List D → Hs → R D)
theorem turn_ifd {own : List Nat} {tg : Tg} {c : E} {me : Env → Hs → R D} {σ σ2 : Env} {x : D} {y : PyData} {h h3 : Hs} {b : Bool} (hb : bindTg tg x (wipeE σ own) = some σ2) (hc : (sem C c).t σ2 h = .ok b h3) (he : me σ2 h3 = .ok (.d y) h3) : turn own tg (sem C (.cons c .nil)) (fun σ2 h3 => some1 (me σ2 h3)) σ x h = .ok (if b then some y else none) h3 := by
  unfold turn
  rw [hb]
  have e : (sem C (.cons c .nil)).ts σ2 h = (sem C c).t σ2 h := rfl
  dsimp only
  rw [e, hc, rb_ok]
  cases b with
  | true =>
    rw [if_pos rfl, if_pos rfl, he]
    rfl
  | false => rfl
theorem contains_ok {h : Hs} {ps : List Pc} {x : Str} : runF C f_Template_o___contains__ [.ins sT [tpd ps], .d (.str x)] h = .ok (.d (.bool (decide ((false, x) ∈ ps)))) h := by
  have e1 : (sem C (.slt (Str.ofString "Template") (Str.ofString "own_pieces") 0 (.var 0))).v [some (.ins sT [tpd ps]), some (.d (.str x))] h = .ok (.d (tpd ps)) h := by
    simp only [sem, mkV, List.getElem?_cons_zero, R.bind, sltD, if_true, noX_ok]
  have e0 : (sem C (.tup (.cons (.glo (Str.ofString "FIELD") (.str ⟨#[102, 105, 101, 108, 100]⟩)) (.cons (.var 1) .nil)))).v [some (.ins sT [tpd ps]), some (.d (.str x))] h = .ok (.d (pd (false, x))) h := tup2 C (x := .str sFIELD) (y := .str x) (h1 := h) (h2 := h) rfl rfl
  have sh : shal (pd (false, x)) (tpd ps) = true := by
    have := pd_depth (false, x)
    have e : (tpd ps).plain = true := by simp only [tpd, PyData.plain, pds_plain]
    simp only [shal, pd_plain, e, Bool.and_self, Bool.true_and, decide_eq_true_eq]
    omega
  have ec : cmpD .In (.d (pd (false, x))) (.d (tpd ps)) h = .ok (.d (.bool (decide ((false, x) ∈ ps)))) h := by
    have ea : ((ps.map pd).any fun z => PyData.eqv z (pd (false, x))) = decide ((false, x) ∈ ps) := by
      rw [List.any_map]
      by_cases hm : (false, x) ∈ ps
      · rw [decide_eq_true hm, List.any_eq_true]
        exact ⟨_, hm, by simp [pd_eqv]⟩
      · rw [decide_eq_false hm, List.any_eq_false]
        intro p hp
        simp only [Function.comp, pd_eqv, decide_eq_true_eq]
        exact fun z => hm (z ▸ hp)
    show (if shal (pd (false, x)) (tpd ps) then R.ok (D.d (.bool ((ps.map pd).any fun z => PyData.eqv z (pd (false, x))))) h else .no) = _
    rw [sh, if_pos rfl, ea]
  have e2 : run C f_Template_o___contains__.body (startE f_Template_o___contains__ [.ins sT [tpd ps], .d (.str x)]) h = .ok (.rt (.d (.bool (decide ((false, x) ∈ ps)))), [some (.ins sT [tpd ps]), some (.d (.str x))]) h := seq_rt C (ret_ok C (vcmp C e0 e1 ec))
  rw [runF_rt C rfl e2]
  simp only [leave, List.take_length]
theorem ino_t {g : Str} {a b : E} {σ : Env} {h h1 h2 h3 : Hs} {fs : List PyData} {x : D} {y : Bool} (ha : (sem C a).v σ h = .ok x h1) (hb : (sem C b).v σ h1 = .ok (.ins sT fs) h2) (hc : C g [.ins sT fs, x] h2 = .ok (.d (.bool y)) h3) : (sem C (.ino sT g a b)).t σ h = .ok y h3 := by
  have e : (sem C (.ino sT g a b)).t σ h = (((sem C a).v σ h).bind fun x h1 => ((sem C b).v σ h1).bind fun y h2 => if insOf sT y then (noX (C g [y, x] h2)).bind fun z h3 => noX (negB false z h3) else .no).bind fun x h1 => noX (truD x h1) := rfl
  have i : insOf sT (.ins sT fs) = true := by simp [insOf]
  rw [e, ha, rb_ok, hb, rb_ok, i, if_pos rfl, hc]
  rfl
section
variable {tags : List Str} {st : List (List Str)} {js : List Jb} {h : Hs} {p : List Pc}
theorem accident_nil {nm : Str} {j : Jb} {k : Nat} (kc : Kc C) (kd : Kd C) (ke : Ke C) (w : WfP tags st js) (wn : WfN js) (hj : js.find? (fun j => decide (j.nm = nm)) = some j) (hk : j.pre[k]? = some p) (hne : cas st js = []) :
    runF C f_accident [.d (plD tags st js), .d (.str nm), .d (.int (k : Int))] h = .ok (.d .none) h := by
  have e3 : (sem C (.call (Str.ofString "prefix_of") false (.cons (.var 0) (.cons (.var 1) (.cons (.var 2) .nil))))).v [some (.d (plD tags st js)), some (.d (.str nm)), some (.d (.int (k : Int))), none, none, none, none] h = .ok (.d (tpd p)) h := call3 C (x := .d (plD tags st js)) (y := .d (.str nm)) (w := .d (.int (k : Int))) (h1 := h) (h2 := h) (h3 := h) rfl rfl rfl (kd.P w hj hk)
  have ei : (sem C (.call (Str.ofString "cases") false (.cons (.var 0) .nil))).it [some (.d (plD tags st js)), some (.d (.str nm)), some (.d (.int (k : Int))), none, none, none, none] h = .ok ((cas st js).map fun q => D.d (casD q)) h := val_it C rfl (call1 C (x := .d (plD tags st js)) (h1 := h) rfl (kd.A w)) (seq_list casD (cas st js))
  have e4 : (sem C acD).v [some (.d (plD tags st js)), some (.d (.str nm)), some (.d (.int (k : Int))), none, none, none, none] h = .ok (.dic []) h := by
    have e : (sem C acD).v [some (.d (plD tags st js)), some (.d (.str nm)), some (.d (.int (k : Int))), none, none, none, none] h = ((sem C (.call (Str.ofString "cases") false (.cons (.var 0) .nil))).it [some (.d (plD tags st js)), some (.d (.str nm)), some (.d (.int (k : Int))), none, none, none, none] h).bind fun ds h1 => (compL h1.length (turn [6] (.nm 6) (sem C .nil) (fun σ2 h3 => ((sem C (.var 6)).v σ2 h3).bind fun kx h4 => ((sem C (.call (Str.ofString "key_row") false (.cons (.var 0) (.cons (.var 6) .nil)))).v σ2 h4).bind fun vx h5 => pairR kx vx h5) [some (.d (plD tags st js)), some (.d (.str nm)), some (.d (.int (k : Int))), none, none, none, none]) ds h1).bind fun ys h2 => noX (dcR ys h2) := rfl
    rw [e, ei, rb_ok, hne, List.map_nil, compL, rb_ok]
    rfl
  have eg : (sem C (.call (Str.ofString "begun") false (.cons (.var 0) (.cons (.var 1) (.cons (.var 2) .nil))))).it [some (.d (plD tags st js)), some (.d (.str nm)), some (.d (.int (k : Int))), some (.d (tpd p)), some (.dic []), none, none] h = .ok ((bgn tags p (cas st js) st).map fun x => D.d (bgD x)) h := val_it C rfl (call3 C (x := .d (plD tags st js)) (y := .d (.str nm)) (w := .d (.int (k : Int))) (h1 := h) (h2 := h) (h3 := h) rfl rfl rfl (ke.B w wn hj hk (by rw [hne]; simp))) (seq_list bgD _)
  have bn : bgn tags p (cas st js) st = [] := by
    rw [hne]
    unfold bgn bg1
    simp
  have ef : run C (.for_ (.tp [5, 6]) (.call (Str.ofString "begun") false (.cons (.var 0) (.cons (.var 1) (.cons (.var 2) .nil)))) acB) [some (.d (plD tags st js)), some (.d (.str nm)), some (.d (.int (k : Int))), some (.d (tpd p)), some (.dic []), none, none] h = .ok (.nx, [some (.d (plD tags st js)), some (.d (.str nm)), some (.d (.int (k : Int))), some (.d (tpd p)), some (.dic []), none, none]) h := by
    rw [run, eg, bs_ok, bn]
    rfl
  have e7 : run C f_accident.body (startE f_accident [.d (plD tags st js), .d (.str nm), .d (.int (k : Int))]) h = .ok (.rt (.d .none), [some (.d (plD tags st js)), some (.d (.str nm)), some (.d (.int (k : Int))), some (.d (tpd p)), some (.dic []), none, none]) h := by
    refine (seq_nx C (par_ok C e3 e4)).trans ?_
    refine (seq_nx C ef).trans ?_
    exact seq_rt C (ret_ok C rfl)
  rw [runF_rt C rfl e7]
  simp only [leave, List.take_length]
end
end
end En
namespace En
open PySem L2 PyProof.Rows
/- law: 0:_law_script 1:_law_cells_here 2:_law_k -/
def f_law : Fn := ⟨1, 3,
    (.seq (.asg 1 (.call (Str.ofString "_law_cells") false (.cons (.var 0) (.cons (.cst (.int (3))) .nil))))
    (.seq (.ret (.bi .all false (.cons (.lc false [2] (.nm 2) (.rng (.bi .len false (.cons (.var 1) .nil))) .nil (.call (Str.ofString "_law_right") false (.cons (.call (Str.ofString "_law_box") true (.cons (.var 1) (.cons (.var 2) .nil))) .nil))) .nil)))
    .nil))⟩
/- _law_right: 0:_law_box_here 1:_law_turn 2:_law_tags 3:_law_some 4:_law_whole 5:_law_starts_so 6:_law_lap -/
def f__law_right : Fn := ⟨1, 7,
    (.seq (.ite (.not (.call (Str.ofString "_law_hand_right") false .nil))
    (.seq (.ret (.cst (.bool false)))
    .nil)
    .nil)
    (.seq (.for_ (.nm 1) (.rng (.cst (.int (6))))
    (.seq (.unp [2, 3] (.call (Str.ofString "_law_ground") false (.cons (.var 0) (.cons (.cst (.int (4))) (.cons (.cst (.int (10))) .nil)))))
    (.seq (.asg 4 (.call (Str.ofString "_law_signed") false (.cons (.var 0) (.cons (.var 2) .nil))))
    (.seq (.asg 5 (.bi .tuple false (.cons (.lc false [6] (.nm 6) (.rng (.bin .Add false (.cst (.int (1))) (.call (Str.ofString "_law_take") false (.cons (.var 0) (.cons (.cst (.int (3))) .nil))))) .nil (.call (Str.ofString "_law_start") false (.cons (.var 0) (.cons (.var 4) .nil)))) .nil)))
    (.seq (.ite (.not (.call (Str.ofString "_law_scheme_right") false (.cons (.tup (.cons (.var 2) (.cons (.var 3) (.cons (.tup (.cons (.tup (.cons (.cst (.str ⟨#[98, 117, 105, 108, 100]⟩)) (.cons (.var 4) (.cons (.var 5) (.cons (.sl (.var 2) .nil (.cons (.cst (.int (1))) .nil)) .nil))))) .nil)) .nil)))) .nil)))
    (.seq (.ret (.cst (.bool false)))
    .nil)
    .nil)
    .nil)))))
    (.seq (.ret (.cst (.bool true)))
    .nil)))⟩
/- _law_scheme_right: 0:_law_scheme 1:_law_task_so 2:_law_nr 3:_law_form_so 4:_law_mine 5:_law_vals 6:_law_start_so 7:_law_far 8:_law_is_like 9:_law_k -/
def f__law_scheme_right : Fn := ⟨1, 10,
    (.seq (.asg 1 (.ix (.ix (.var 0) (.cst (.int (2)))) (.cst (.int (0)))))
    (.seq (.for_ (.nm 2) (.rng (.bi .len false (.cons (.ix (.var 1) (.cst (.int (2)))) .nil)))
    (.seq (.asg 3 (.ix (.ix (.var 1) (.cst (.int (2)))) (.var 2)))
    (.seq (.asg 4 (.lc false [9] (.nm 9) (.rng (.bi .len false (.cons (.ix (.var 0) (.cst (.int (0)))) .nil))) (.cons (.ino (Str.ofString "Template") (Str.ofString "Template.__contains__") (.ix (.ix (.var 0) (.cst (.int (0)))) (.var 9)) (.make (Str.ofString "Template") (Str.ofString "Template.__init__") (.cons (.var 3) .nil))) .nil) (.var 9)))
    (.seq (.ite (.bop .Or (.cons (.not (.mcl (Str.ofString "Template") (Str.ofString "begins") (Str.ofString "Template.begins") (.make (Str.ofString "Template") (Str.ofString "Template.__init__") (.cons (.var 3) .nil)) (.cons (.make (Str.ofString "Template") (Str.ofString "Template.__init__") (.cons (.ix (.var 1) (.cst (.int (1)))) .nil)) .nil))) (.cons (.cmp .IsNot (.call (Str.ofString "accident") false (.cons (.var 0) (.cons (.ix (.var 1) (.cst (.int (0)))) (.cons (.var 2) .nil)))) (.cst .none)) .nil)))
    (.seq (.ret (.cst (.bool false)))
    .nil)
    .nil)
    (.seq (.for_ (.nm 5) (.ix (.var 0) (.cst (.int (1))))
    (.seq (.asg 6 (.ix (.call (Str.ofString "prefix_texts") false (.cons (.var 0) (.cons (.tup (.cons (.ix (.var 1) (.cst (.int (0)))) (.cons (.var 5) .nil))) .nil))) (.var 2)))
    (.seq (.for_ (.nm 7) (.ix (.var 0) (.cst (.int (1))))
    (.seq (.asg 8 (.cmp .Eq (.lc false [9] (.nm 9) (.var 4) (.cons (.cmp .NotEq (.ix (.var 5) (.var 9)) (.ix (.var 7) (.var 9))) .nil) (.var 9)) (.lst false .nil)))
    (.seq (.ite (.cmp .NotEq (.mth .startswith (.call (Str.ofString "key_text") false (.cons (.var 0) (.cons (.tup (.cons (.ix (.var 1) (.cst (.int (0)))) (.cons (.var 7) .nil))) .nil))) (.cons (.var 6) .nil)) (.var 8))
    (.seq (.ret (.cst (.bool false)))
    .nil)
    .nil)
    .nil)))
    .nil)))
    (.seq (.ite (.cmp .NotEq (.lc false [9] (.nm 9) (.var 4) (.cons (.cmp .NotIn (.ix (.ix (.var 0) (.cst (.int (0)))) (.var 9)) (.call (Str.ofString "held") false (.cons (.var 0) (.cons (.ix (.var 1) (.cst (.int (0)))) (.cons (.var 2) .nil))))) .nil) (.var 9)) (.lst false .nil))
    (.seq (.ret (.cst (.bool false)))
    .nil)
    .nil)
    .nil))))))
    (.seq (.ret (.cmp .Eq (.call (Str.ofString "twins") false (.cons (.var 0) .nil)) (.lst false .nil)))
    .nil)))⟩
/- _law_start: 0:_law_box_here 1:_law_whole 2:_law_part -/
def f__law_start : Fn := ⟨2, 3,
    (.seq (.asg 2 (.sl (.var 1) .nil (.cons (.call (Str.ofString "_law_take") false (.cons (.var 0) (.cons (.bin .Add false (.bi .len false (.cons (.var 1) .nil)) (.cst (.int (1)))) .nil))) .nil)))
    (.seq (.ite (.bop .And (.cons (.cmp .NotEq (.var 2) (.tup .nil)) (.cons (.cmp .Eq (.ix (.ix (.var 2) (.neg (.cst (.int (1))))) (.cst (.int (0)))) (.cst (.str ⟨#[102, 105, 101, 108, 100]⟩))) .nil)))
    (.seq (.asg 2 (.sl (.var 2) .nil (.cons (.neg (.cst (.int (1)))) .nil)))
    .nil)
    .nil)
    (.seq (.ite (.bop .And (.cons (.cmp .NotEq (.var 2) (.tup .nil)) (.cons (.cmp .Eq (.call (Str.ofString "_law_take") false (.cons (.var 0) (.cons (.cst (.int (2))) .nil))) (.cst (.int (0)))) .nil)))
    (.seq (.asg 2 (.bin .Add false (.sl (.var 2) .nil (.cons (.neg (.cst (.int (1)))) .nil)) (.tup (.cons (.tup (.cons (.cst (.str ⟨#[116, 101, 120, 116]⟩)) (.cons (.sl (.ix (.ix (.var 2) (.neg (.cst (.int (1))))) (.cst (.int (1)))) .nil (.cons (.cst (.int (1))) .nil)) .nil))) .nil))))
    .nil)
    .nil)
    (.seq (.ret (.var 2))
    .nil))))⟩
/- _law_signed: 0:_law_box_here 1:_law_tags 2:_law_bits 3:_law_turn -/
def f__law_signed : Fn := ⟨2, 4,
    (.seq (.asg 2 (.bin .Mult false (.lst false (.cons (.tup (.cons (.cst (.str ⟨#[116, 101, 120, 116]⟩)) (.cons (.call (Str.ofString "_law_of") false (.cons (.var 0) (.cons (.lst false (.cons (.cst (.str ⟨#[97]⟩)) (.cons (.cst (.str ⟨#[108, 111, 99, 107, 45]⟩)) (.cons (.cst (.str ⟨#[120, 46]⟩)) .nil)))) .nil))) .nil))) .nil)) (.call (Str.ofString "_law_take") false (.cons (.var 0) (.cons (.cst (.int (2))) .nil)))))
    (.seq (.for_ (.nm 3) (.rng (.bin .Add false (.cst (.int (1))) (.call (Str.ofString "_law_take") false (.cons (.var 0) (.cons (.cst (.int (3))) .nil)))))
    (.seq (.asg 2 (.bin .Add false (.var 2) (.lst false (.cons (.tup (.cons (.cst (.str ⟨#[102, 105, 101, 108, 100]⟩)) (.cons (.call (Str.ofString "_law_of") false (.cons (.var 0) (.cons (.var 1) .nil))) .nil))) (.cons (.tup (.cons (.cst (.str ⟨#[116, 101, 120, 116]⟩)) (.cons (.call (Str.ofString "_law_of") false (.cons (.var 0) (.cons (.lst false (.cons (.cst (.str ⟨#[45]⟩)) (.cons (.cst (.str ⟨#[46]⟩)) (.cons (.cst (.str ⟨#[45, 97]⟩)) (.cons (.cst (.str ⟨#[45, 49, 46]⟩)) (.cons (.cst (.str ⟨#[46, 120, 45]⟩)) .nil)))))) .nil))) .nil))) .nil)))))
    .nil))
    (.seq (.ret (.bi .tuple false (.cons (.var 2) .nil)))
    .nil)))⟩
/- _law_hand_right: 0:_law_lock 1:_law_os_so 2:_law_whole 3:_law_some 4:_law_fine 5:_law_bad_so 6:_law_told 7:_law_due -/
def f__law_hand_right : Fn := ⟨0, 8,
    (.seq (.par 0 1 (.tup (.cons (.cst (.str ⟨#[102, 105, 101, 108, 100]⟩)) (.cons (.cst (.str ⟨#[108, 111, 99, 107]⟩)) .nil))) (.tup (.cons (.cst (.str ⟨#[102, 105, 101, 108, 100]⟩)) (.cons (.cst (.str ⟨#[111, 115]⟩)) .nil))))
    (.seq (.asg 2 (.tup (.cons (.tup (.cons (.cst (.str ⟨#[116, 101, 120, 116]⟩)) (.cons (.cst (.str ⟨#[108, 111, 99, 107, 45]⟩)) .nil))) (.cons (.var 0) (.cons (.tup (.cons (.cst (.str ⟨#[116, 101, 120, 116]⟩)) (.cons (.cst (.str ⟨#[45]⟩)) .nil))) (.cons (.var 1) (.cons (.tup (.cons (.cst (.str ⟨#[116, 101, 120, 116]⟩)) (.cons (.cst (.str ⟨#[46]⟩)) .nil))) .nil)))))))
    (.seq (.asg 3 (.tup (.cons (.tup (.cons (.cst (.str ⟨#[49]⟩)) (.cons (.cst (.str ⟨#[108, 105, 110]⟩)) .nil))) (.cons (.tup (.cons (.cst (.str ⟨#[49, 50]⟩)) (.cons (.cst (.str ⟨#[108, 105, 110]⟩)) .nil))) (.cons (.tup (.cons (.cst (.str ⟨#[49, 50]⟩)) (.cons (.cst (.str ⟨#[109, 97, 99]⟩)) .nil))) .nil)))))
    (.seq (.asg 4 (.tup (.cons (.tup (.cons (.cst (.str ⟨#[108, 111, 99, 107]⟩)) (.cons (.cst (.str ⟨#[111, 115]⟩)) .nil))) (.cons (.var 3) (.cons (.tup (.cons (.tup (.cons (.cst (.str ⟨#[98, 117, 105, 108, 100]⟩)) (.cons (.var 2) (.cons (.tup (.cons (.sl (.var 2) .nil (.cons (.cst (.int (3))) .nil)) (.cons (.sl (.var 2) .nil (.cons (.cst (.int (1))) .nil)) (.cons (.tup .nil) .nil)))) (.cons (.tup (.cons (.cst (.str ⟨#[108, 111, 99, 107]⟩)) .nil)) .nil))))) .nil)) .nil)))))
    (.seq (.asg 5 (.tup (.cons (.tup (.cons (.cst (.str ⟨#[108, 111, 99, 107]⟩)) (.cons (.cst (.str ⟨#[111, 115]⟩)) .nil))) (.cons (.var 3) (.cons (.tup (.cons (.tup (.cons (.cst (.str ⟨#[98, 117, 105, 108, 100]⟩)) (.cons (.var 2) (.cons (.tup (.cons (.sl (.var 2) .nil (.cons (.cst (.int (2))) .nil)) .nil)) (.cons (.tup (.cons (.cst (.str ⟨#[108, 111, 99, 107]⟩)) .nil)) .nil))))) .nil)) .nil)))))
    (.seq (.asg 6 (.lst false (.cons (.call (Str.ofString "accident") false (.cons (.var 5) (.cons (.cst (.str ⟨#[98, 117, 105, 108, 100]⟩)) (.cons (.cst (.int (0))) .nil)))) (.cons (.call (Str.ofString "held") false (.cons (.var 5) (.cons (.cst (.str ⟨#[98, 117, 105, 108, 100]⟩)) (.cons (.cst (.int (0))) .nil)))) (.cons (.call (Str.ofString "held") false (.cons (.var 4) (.cons (.cst (.str ⟨#[98, 117, 105, 108, 100]⟩)) (.cons (.cst (.int (0))) .nil)))) (.cons (.call (Str.ofString "held") false (.cons (.var 4) (.cons (.cst (.str ⟨#[98, 117, 105, 108, 100]⟩)) (.cons (.cst (.int (2))) .nil)))) .nil))))))
    (.seq (.asg 7 (.lst false (.cons (.tup (.cons (.tup (.cons (.cst (.str ⟨#[49]⟩)) (.cons (.cst (.str ⟨#[108, 105, 110]⟩)) .nil))) (.cons (.tup (.cons (.cst (.str ⟨#[98, 117, 105, 108, 100]⟩)) (.cons (.tup (.cons (.cst (.str ⟨#[49, 50]⟩)) (.cons (.cst (.str ⟨#[108, 105, 110]⟩)) .nil))) .nil))) .nil))) (.cons (.tup .nil) (.cons (.tup (.cons (.cst (.str ⟨#[108, 111, 99, 107]⟩)) .nil)) (.cons (.tup .nil) .nil))))))
    (.seq (.ret (.bop .And (.cons (.call (Str.ofString "_law_scheme_right") false (.cons (.var 4) .nil)) (.cons (.call (Str.ofString "_law_same") false (.cons (.var 6) (.cons (.var 7) .nil))) .nil))))
    .nil))))))))⟩
def prog : Prog := [((Str.ofString "law"), f_law),
  ((Str.ofString "_law_right"), f__law_right),
  ((Str.ofString "_law_box"), f__law_box),
  ((Str.ofString "_law_cells"), f__law_cells),
  ((Str.ofString "_law_scheme_right"), f__law_scheme_right),
  ((Str.ofString "_law_take"), f__law_take),
  ((Str.ofString "_law_start"), f__law_start),
  ((Str.ofString "_law_signed"), f__law_signed),
  ((Str.ofString "_law_ground"), f__law_ground),
  ((Str.ofString "_law_hand_right"), f__law_hand_right),
  ((Str.ofString "twins"), f_twins),
  ((Str.ofString "held"), f_held),
  ((Str.ofString "key_text"), f_key_text),
  ((Str.ofString "prefix_texts"), f_prefix_texts),
  ((Str.ofString "accident"), f_accident),
  ((Str.ofString "Template.begins"), f_Template_o_begins),
  ((Str.ofString "Template.__init__"), f_Template_o___init__),
  ((Str.ofString "Template.__contains__"), f_Template_o___contains__),
  ((Str.ofString "_law_of"), f__law_of),
  ((Str.ofString "_law_pick"), f__law_pick),
  ((Str.ofString "_law_words"), f__law_words),
  ((Str.ofString "_law_same"), f__law_same),
  ((Str.ofString "cases"), f_cases),
  ((Str.ofString "key_row"), f_key_row),
  ((Str.ofString "begun"), f_begun),
  ((Str.ofString "text_of"), f_text_of),
  ((Str.ofString "values_of"), f_values_of),
  ((Str.ofString "job_row"), f_job_row),
  ((Str.ofString "do_begin"), f_do_begin),
  ((Str.ofString "row_of"), f_row_of),
  ((Str.ofString "prefix_of"), f_prefix_of),
  ((Str.ofString "joined"), f_joined),
  ((Str.ofString "tupled"), f_tupled),
  ((Str.ofString "is_number"), f_is_number)]
def topS (i : Nat) : Stmt := PySem.Challenge.pw_prefixkeys_k11_whole_signs_behind_fields.main.body.getD i (.Pass ⟨0, 0, 0, 0⟩)
def clsB : Stmt → List Stmt
  | .ClassDef (body := b) .. => b
  | _ => []
def mtS (i j : Nat) : Stmt := (clsB (topS i)).getD j (.Pass ⟨0, 0, 0, 0⟩)
def d_law : Dn := ⟨(Str.ofString "law"), (Str.ofString "law"), topS 54, [(Str.ofString "_law_script"), (Str.ofString "_law_cells_here"), (Str.ofString "_law_k")], [(Str.ofString "_law_script")], f_law⟩
def d__law_right : Dn := ⟨(Str.ofString "_law_right"), (Str.ofString "_law_right"), topS 53, [(Str.ofString "_law_box_here"), (Str.ofString "_law_turn"), (Str.ofString "_law_tags"), (Str.ofString "_law_some"), (Str.ofString "_law_whole"), (Str.ofString "_law_starts_so"), (Str.ofString "_law_lap")], [(Str.ofString "_law_box_here")], f__law_right⟩
def d__law_box : Dn := ⟨(Str.ofString "_law_box"), (Str.ofString "_law_box"), topS 41, [(Str.ofString "_law_script"), (Str.ofString "_law_k"), (Str.ofString "_law_cell")], [(Str.ofString "_law_script"), (Str.ofString "_law_k")], f__law_box⟩
def d__law_cells : Dn := ⟨(Str.ofString "_law_cells"), (Str.ofString "_law_cells"), topS 43, [(Str.ofString "_law_script"), (Str.ofString "_law_most"), (Str.ofString "_law_cells_here"), (Str.ofString "_law_k"), (Str.ofString "_law_cell"), (Str.ofString "_law_at_so")], [(Str.ofString "_law_script"), (Str.ofString "_law_most")], f__law_cells⟩
def d__law_scheme_right : Dn := ⟨(Str.ofString "_law_scheme_right"), (Str.ofString "_law_scheme_right"), topS 51, [(Str.ofString "_law_scheme"), (Str.ofString "_law_task_so"), (Str.ofString "_law_nr"), (Str.ofString "_law_form_so"), (Str.ofString "_law_mine"), (Str.ofString "_law_vals"), (Str.ofString "_law_start_so"), (Str.ofString "_law_far"), (Str.ofString "_law_is_like"), (Str.ofString "_law_k")], [(Str.ofString "_law_scheme")], f__law_scheme_right⟩
def d__law_take : Dn := ⟨(Str.ofString "_law_take"), (Str.ofString "_law_take"), topS 42, [(Str.ofString "_law_box_here"), (Str.ofString "_law_below"), (Str.ofString "_law_drawn"), (Str.ofString "_law_once"), (Str.ofString "_law_far"), (Str.ofString "_law_twice")], [(Str.ofString "_law_box_here"), (Str.ofString "_law_below")], f__law_take⟩
def d__law_start : Dn := ⟨(Str.ofString "_law_start"), (Str.ofString "_law_start"), topS 50, [(Str.ofString "_law_box_here"), (Str.ofString "_law_whole"), (Str.ofString "_law_part")], [(Str.ofString "_law_box_here"), (Str.ofString "_law_whole")], f__law_start⟩
def d__law_signed : Dn := ⟨(Str.ofString "_law_signed"), (Str.ofString "_law_signed"), topS 49, [(Str.ofString "_law_box_here"), (Str.ofString "_law_tags"), (Str.ofString "_law_bits"), (Str.ofString "_law_turn")], [(Str.ofString "_law_box_here"), (Str.ofString "_law_tags")], f__law_signed⟩
def d__law_ground : Dn := ⟨(Str.ofString "_law_ground"), (Str.ofString "_law_ground"), topS 48, [(Str.ofString "_law_box_here"), (Str.ofString "_law_tall"), (Str.ofString "_law_most"), (Str.ofString "_law_tags"), (Str.ofString "_law_pools"), (Str.ofString "_law_every"), (Str.ofString "_law_pool"), (Str.ofString "_law_later"), (Str.ofString "_law_own"), (Str.ofString "_law_some"), (Str.ofString "_law_word_so")], [(Str.ofString "_law_box_here"), (Str.ofString "_law_tall"), (Str.ofString "_law_most")], f__law_ground⟩
def d__law_hand_right : Dn := ⟨(Str.ofString "_law_hand_right"), (Str.ofString "_law_hand_right"), topS 52, [(Str.ofString "_law_lock"), (Str.ofString "_law_os_so"), (Str.ofString "_law_whole"), (Str.ofString "_law_some"), (Str.ofString "_law_fine"), (Str.ofString "_law_bad_so"), (Str.ofString "_law_told"), (Str.ofString "_law_due")], [], f__law_hand_right⟩
def d_twins : Dn := ⟨(Str.ofString "twins"), (Str.ofString "twins"), topS 38, [(Str.ofString "plan"), (Str.ofString "some"), (Str.ofString "case"), (Str.ofString "one"), (Str.ofString "text"), (Str.ofString "row"), (Str.ofString "other"), (Str.ofString "far"), (Str.ofString "its")], [(Str.ofString "plan")], f_twins⟩
def d_held : Dn := ⟨(Str.ofString "held"), (Str.ofString "held"), topS 39, [(Str.ofString "plan"), (Str.ofString "job"), (Str.ofString "number"), (Str.ofString "pairs"), (Str.ofString "place"), (Str.ofString "name"), (Str.ofString "setting"), (Str.ofString "case")], [(Str.ofString "plan"), (Str.ofString "job"), (Str.ofString "number")], f_held⟩
def d_key_text : Dn := ⟨(Str.ofString "key_text"), (Str.ofString "key_text"), topS 31, [(Str.ofString "plan"), (Str.ofString "case"), (Str.ofString "name"), (Str.ofString "setting")], [(Str.ofString "plan"), (Str.ofString "case")], f_key_text⟩
def d_prefix_texts : Dn := ⟨(Str.ofString "prefix_texts"), (Str.ofString "prefix_texts"), topS 32, [(Str.ofString "plan"), (Str.ofString "case"), (Str.ofString "name"), (Str.ofString "setting"), (Str.ofString "prefix")], [(Str.ofString "plan"), (Str.ofString "case")], f_prefix_texts⟩
def d_accident : Dn := ⟨(Str.ofString "accident"), (Str.ofString "accident"), topS 37, [(Str.ofString "plan"), (Str.ofString "job"), (Str.ofString "number"), (Str.ofString "prefix"), (Str.ofString "rows"), (Str.ofString "setting"), (Str.ofString "case")], [(Str.ofString "plan"), (Str.ofString "job"), (Str.ofString "number")], f_accident⟩
def d_Template_o_begins : Dn := ⟨(Str.ofString "Template.begins"), (Str.ofString "begins"), mtS 25 10, [(Str.ofString "self"), (Str.ofString "other")], [(Str.ofString "self"), (Str.ofString "other")], f_Template_o_begins⟩
def d_Template_o___init__ : Dn := ⟨(Str.ofString "Template.__init__"), (Str.ofString "__init__"), mtS 25 1, [(Str.ofString "self"), (Str.ofString "pieces")], [(Str.ofString "self"), (Str.ofString "pieces")], f_Template_o___init__⟩
def d_Template_o___contains__ : Dn := ⟨(Str.ofString "Template.__contains__"), (Str.ofString "__contains__"), mtS 25 8, [(Str.ofString "self"), (Str.ofString "name")], [(Str.ofString "self"), (Str.ofString "name")], f_Template_o___contains__⟩
def d__law_of : Dn := ⟨(Str.ofString "_law_of"), (Str.ofString "_law_of"), topS 44, [(Str.ofString "_law_box_here"), (Str.ofString "_law_some")], [(Str.ofString "_law_box_here"), (Str.ofString "_law_some")], f__law_of⟩
def d__law_pick : Dn := ⟨(Str.ofString "_law_pick"), (Str.ofString "_law_pick"), topS 45, [(Str.ofString "_law_box_here"), (Str.ofString "_law_pool"), (Str.ofString "_law_size_so"), (Str.ofString "_law_rest"), (Str.ofString "_law_some"), (Str.ofString "_law_turn")], [(Str.ofString "_law_box_here"), (Str.ofString "_law_pool"), (Str.ofString "_law_size_so")], f__law_pick⟩
def d__law_words : Dn := ⟨(Str.ofString "_law_words"), (Str.ofString "_law_words"), topS 47, [(Str.ofString "_law_box_here"), (Str.ofString "_law_size_so")], [(Str.ofString "_law_box_here"), (Str.ofString "_law_size_so")], f__law_words⟩
def d__law_same : Dn := ⟨(Str.ofString "_law_same"), (Str.ofString "_law_same"), topS 46, [(Str.ofString "_law_got"), (Str.ofString "_law_due"), (Str.ofString "_law_mine"), (Str.ofString "_law_its")], [(Str.ofString "_law_got"), (Str.ofString "_law_due")], f__law_same⟩
def d_cases : Dn := ⟨(Str.ofString "cases"), (Str.ofString "cases"), topS 28, [(Str.ofString "plan"), (Str.ofString "settings"), (Str.ofString "job"), (Str.ofString "setting")], [(Str.ofString "plan")], f_cases⟩
def d_key_row : Dn := ⟨(Str.ofString "key_row"), (Str.ofString "key_row"), topS 34, [(Str.ofString "plan"), (Str.ofString "case"), (Str.ofString "name"), (Str.ofString "setting")], [(Str.ofString "plan"), (Str.ofString "case")], f_key_row⟩
def d_begun : Dn := ⟨(Str.ofString "begun"), (Str.ofString "begun"), topS 36, [(Str.ofString "plan"), (Str.ofString "job"), (Str.ofString "number"), (Str.ofString "prefix"), (Str.ofString "some"), (Str.ofString "found"), (Str.ofString "setting"), (Str.ofString "text"), (Str.ofString "case"), (Str.ofString "key")], [(Str.ofString "plan"), (Str.ofString "job"), (Str.ofString "number")], f_begun⟩
def d_text_of : Dn := ⟨(Str.ofString "text_of"), (Str.ofString "text_of"), topS 27, [(Str.ofString "template"), (Str.ofString "values"), (Str.ofString "kind"), (Str.ofString "what")], [(Str.ofString "template"), (Str.ofString "values")], f_text_of⟩
def d_values_of : Dn := ⟨(Str.ofString "values_of"), (Str.ofString "values_of"), topS 30, [(Str.ofString "plan"), (Str.ofString "setting")], [(Str.ofString "plan"), (Str.ofString "setting")], f_values_of⟩
def d_job_row : Dn := ⟨(Str.ofString "job_row"), (Str.ofString "job_row"), topS 29, [(Str.ofString "plan"), (Str.ofString "name"), (Str.ofString "job")], [(Str.ofString "plan"), (Str.ofString "name")], f_job_row⟩
def d_do_begin : Dn := ⟨(Str.ofString "do_begin"), (Str.ofString "do_begin"), topS 23, [(Str.ofString "some"), (Str.ofString "others"), (Str.ofString "last"), (Str.ofString "far")], [(Str.ofString "some"), (Str.ofString "others")], f_do_begin⟩
def d_row_of : Dn := ⟨(Str.ofString "row_of"), (Str.ofString "row_of"), topS 33, [(Str.ofString "template"), (Str.ofString "values"), (Str.ofString "kind"), (Str.ofString "what")], [(Str.ofString "template"), (Str.ofString "values")], f_row_of⟩
def d_prefix_of : Dn := ⟨(Str.ofString "prefix_of"), (Str.ofString "prefix_of"), topS 35, [(Str.ofString "plan"), (Str.ofString "name"), (Str.ofString "number"), (Str.ofString "prefixes")], [(Str.ofString "plan"), (Str.ofString "name"), (Str.ofString "number")], f_prefix_of⟩
def d_joined : Dn := ⟨(Str.ofString "joined"), (Str.ofString "joined"), topS 22, [(Str.ofString "pieces"), (Str.ofString "found"), (Str.ofString "kind"), (Str.ofString "what")], [(Str.ofString "pieces")], f_joined⟩
def d_tupled : Dn := ⟨(Str.ofString "tupled"), (Str.ofString "tupled"), topS 10, [(Str.ofString "thing"), (Str.ofString "part")], [(Str.ofString "thing")], f_tupled⟩
def d_is_number : Dn := ⟨(Str.ofString "is_number"), (Str.ofString "is_number"), topS 11, [(Str.ofString "thing"), (Str.ofString "bottom")], [(Str.ofString "thing"), (Str.ofString "bottom")], f_is_number⟩
def dns : List Dn := [d_law, d__law_right, d__law_box, d__law_cells, d__law_scheme_right, d__law_take, d__law_start, d__law_signed, d__law_ground, d__law_hand_right, d_twins, d_held, d_key_text, d_prefix_texts, d_accident, d_Template_o_begins, d_Template_o___init__, d_Template_o___contains__, d__law_of, d__law_pick, d__law_words, d__law_same, d_cases, d_key_row, d_begun, d_text_of, d_values_of, d_job_row, d_do_begin, d_row_of, d_prefix_of, d_joined, d_tupled, d_is_number]
def kl_Template : Kl := ⟨(Str.ofString "Template"), (Str.ofString "Template.__init__"), [((Str.ofString "own_pieces"), 0)], [((Str.ofString "begins"), (Str.ofString "Template.begins")), ((Str.ofString "__contains__"), (Str.ofString "Template.__contains__"))], []⟩
def pk : Pk where
  fs := [(Str.ofString "law"), (Str.ofString "_law_right"), (Str.ofString "_law_box"), (Str.ofString "_law_cells"), (Str.ofString "_law_scheme_right"), (Str.ofString "_law_take"), (Str.ofString "_law_start"), (Str.ofString "_law_signed"), (Str.ofString "_law_ground"), (Str.ofString "_law_hand_right"), (Str.ofString "twins"), (Str.ofString "held"), (Str.ofString "key_text"), (Str.ofString "prefix_texts"), (Str.ofString "accident"), (Str.ofString "_law_of"), (Str.ofString "_law_pick"), (Str.ofString "_law_words"), (Str.ofString "_law_same"), (Str.ofString "cases"), (Str.ofString "key_row"), (Str.ofString "begun"), (Str.ofString "text_of"), (Str.ofString "values_of"), (Str.ofString "job_row"), (Str.ofString "do_begin"), (Str.ofString "row_of"), (Str.ofString "prefix_of"), (Str.ofString "joined"), (Str.ofString "tupled"), (Str.ofString "is_number")]
  G := [((Str.ofString "TEXT"), (.str ⟨#[116, 101, 120, 116]⟩)), ((Str.ofString "FIELD"), (.str ⟨#[102, 105, 101, 108, 100]⟩))]
  kw := []
  cs := [kl_Template]
  ix := []
  xf := []
theorem g_law : d_law.good pk = true := by kernel_rfl
theorem g__law_right : d__law_right.good pk = true := by kernel_rfl
theorem g__law_box : d__law_box.good pk = true := by kernel_rfl
theorem g__law_cells : d__law_cells.good pk = true := by kernel_rfl
theorem g__law_scheme_right : d__law_scheme_right.good pk = true := by kernel_rfl
theorem g__law_take : d__law_take.good pk = true := by kernel_rfl
theorem g__law_start : d__law_start.good pk = true := by kernel_rfl
theorem g__law_signed : d__law_signed.good pk = true := by kernel_rfl
theorem g__law_ground : d__law_ground.good pk = true := by kernel_rfl
theorem g__law_hand_right : d__law_hand_right.good pk = true := by kernel_rfl
theorem g_twins : d_twins.good pk = true := by kernel_rfl
theorem g_held : d_held.good pk = true := by kernel_rfl
theorem g_key_text : d_key_text.good pk = true := by kernel_rfl
theorem g_prefix_texts : d_prefix_texts.good pk = true := by kernel_rfl
theorem g_accident : d_accident.good pk = true := by kernel_rfl
theorem g_Template_o_begins : d_Template_o_begins.good pk = true := by kernel_rfl
theorem g_Template_o___init__ : d_Template_o___init__.good pk = true := by kernel_rfl
theorem g_Template_o___contains__ : d_Template_o___contains__.good pk = true := by kernel_rfl
theorem g__law_of : d__law_of.good pk = true := by kernel_rfl
theorem g__law_pick : d__law_pick.good pk = true := by kernel_rfl
theorem g__law_words : d__law_words.good pk = true := by kernel_rfl
theorem g__law_same : d__law_same.good pk = true := by kernel_rfl
theorem g_cases : d_cases.good pk = true := by kernel_rfl
theorem g_key_row : d_key_row.good pk = true := by kernel_rfl
theorem g_begun : d_begun.good pk = true := by kernel_rfl
theorem g_text_of : d_text_of.good pk = true := by kernel_rfl
theorem g_values_of : d_values_of.good pk = true := by kernel_rfl
theorem g_job_row : d_job_row.good pk = true := by kernel_rfl
theorem g_do_begin : d_do_begin.good pk = true := by kernel_rfl
theorem g_row_of : d_row_of.good pk = true := by kernel_rfl
theorem g_prefix_of : d_prefix_of.good pk = true := by kernel_rfl
theorem g_joined : d_joined.good pk = true := by kernel_rfl
theorem g_tupled : d_tupled.good pk = true := by kernel_rfl
theorem g_is_number : d_is_number.good pk = true := by kernel_rfl
theorem g_all : ∀ d ∈ dns, d.good pk = true := by
  unfold dns
  simp only [List.forall_mem_cons]
  exact ⟨g_law, g__law_right, g__law_box, g__law_cells, g__law_scheme_right, g__law_take, g__law_start, g__law_signed, g__law_ground, g__law_hand_right, g_twins, g_held, g_key_text, g_prefix_texts, g_accident, g_Template_o_begins, g_Template_o___init__, g_Template_o___contains__, g__law_of, g__law_pick, g__law_words, g__law_same, g_cases, g_key_row, g_begun, g_text_of, g_values_of, g_job_row, g_do_begin, g_row_of, g_prefix_of, g_joined, g_tupled, g_is_number, by simp⟩
end En
namespace En
open PySem L2 PyProof.Rows
theorem kit_self {K : PySem.W.Frag} {A : Addr} : PySem.W.kitOne K (.ref A) (.ref A) = some true := if_pos (by simp)
theorem kwno {l : List Kw} {x : Str} (h : (l.all fun p => !decide (p.1 = x)) = true) (n : Nat) (ks : List Str) (od : List Nat) : (x, n, ks, od) ∉ l := fun hm => by
  have := List.all_eq_true.mp h _ hm
  simp at this
theorem kwin {l : List Kw} {x : Str} {n : Nat} {ks : List Str} {od : List Nat} (h : (x, n, ks, od) ∈ l) : (x, n, ks, od) ∈ l.filter fun p => decide (p.1 = x) := List.mem_filter.mpr ⟨h, by simp⟩
theorem eqno {l : List (Str × Str)} {x : Str} (h : (l.all fun p => !decide (p.1 = x)) = true) (g : Str) : (x, g) ∉ l := fun hm => by
  have := List.all_eq_true.mp h _ hm
  simp at this
theorem eqin {l : List (Str × Str)} {x g y : Str} (h : (l.all fun p => !decide (p.1 = x) || decide (p.2 = g)) = true) (hm : (x, y) ∈ l) : y = g := by
  have := List.all_eq_true.mp h _ hm
  simpa using this
theorem gl_all {mg : Str → Option Value} {K : PySem.W.Frag} [Wd] : ∀ {l : List (Str × PyData)}, (∀ q ∈ l, ∃ u w, mg q.1 = some u ∧ RelV w u ∧ ∀ F, Dq K F w q.2) → ∀ x v, l.lookup x = some v → ∃ u w, mg x = some u ∧ RelV w u ∧ ∀ F, Dq K F w v := fun {l} h x v e => h (x, v) (PySem.mem_of_lookup e)
theorem all_mk {l : PySem.W.OpenLaw} {w : World} {K : PySem.W.Frag} {h : Heap} {mg : Str → Option Value} {fa : Addr} (hk : K.In h) (G : h.Ns mainGlobals mg) (hfa : mg "law" = some (.ref fa))
    {C0 : Addr} (aC0 : PySem.W.nsIn K mainGlobals (Str.ofString "Template") = some (some (.ref C0))) (pg0 : PySem.W.plainGet K C0 Str.empty = true) (ic0 : PySem.W.isClsIn K C0 = true) (po0 : PySem.W.plainOver K C0 = true) (sa0 : PySem.W.findIn K (.ref C0) "__setattr__" = some (some (.builtin "object.__setattr__")))
    (ca0 : PySem.W.findIn K (.ref C0) "__class__" = some (some (.builtin "object.__class__"))) (cn0 : PySem.W.specialIn K (.builtin "object.__class__") "__get__" = some (some (.builtin "getset_descriptor.__get__"))) (ct0 : PySem.W.takesIn K (.builtin "object.__class__") = some true) (cm0 : PySem.W.mroIn K C0 (.type "object") = some true)
    (nf0 : PySem.W.notFirst K C0 (.ref C0) = true) (mk0 : PySem.W.makesIn K C0 = true) (kc0 : PySem.W.keepIn K (.ref C0) = true)
    {P0_0 : Addr} (sA0_0 : PySem.W.findIn K (.ref C0) (Str.ofString "own_pieces") = some (some (.ref P0_0))) (sG0_0 : PySem.W.specialIn K (.ref P0_0) "__get__" = some (some (.builtin "member_descriptor.__get__"))) (sT0_0 : PySem.W.takesIn K (.ref P0_0) = some true) (sY0_0 : PySem.W.typeIn K (.ref P0_0) = some (.type "member_descriptor")) (sI0_0 : PySem.W.slotIn K P0_0 C0 = some 0)
    {f0 : Addr} {od0 an0 : Option Addr} {sl0 : Array (Option Value)} {oc0 kV0 dc0 pm0 cd0 ct_0 : Value} (a0 : PySem.W.nsIn K mainGlobals (Str.ofString "law") = some (some (.ref f0))) (l0 : K.lookup f0 = some ⟨oc0, od0, .func (PySem.W.fnOf (Str.ofString "law") (Str.ofString "law") (defArgs (topS 54)) (defBody (topS 54)) (defScope (topS 54)) .none kV0 dc0 pm0 an0 cd0 ct_0), sl0⟩) (c0 : PySem.W.codeIn K cd0 (Str.ofString "law") = true) (k0 : PySem.W.keepIn K (.ref f0) = true)
    {f1 : Addr} {od1 an1 : Option Addr} {sl1 : Array (Option Value)} {oc1 kV1 dc1 pm1 cd1 ct_1 : Value} (a1 : PySem.W.nsIn K mainGlobals (Str.ofString "_law_right") = some (some (.ref f1))) (l1 : K.lookup f1 = some ⟨oc1, od1, .func (PySem.W.fnOf (Str.ofString "_law_right") (Str.ofString "_law_right") (defArgs (topS 53)) (defBody (topS 53)) (defScope (topS 53)) .none kV1 dc1 pm1 an1 cd1 ct_1), sl1⟩) (c1 : PySem.W.codeIn K cd1 (Str.ofString "_law_right") = true) (k1 : PySem.W.keepIn K (.ref f1) = true)
    {f2 : Addr} {od2 an2 : Option Addr} {sl2 : Array (Option Value)} {oc2 kV2 dc2 pm2 cd2 ct_2 : Value} (a2 : PySem.W.nsIn K mainGlobals (Str.ofString "_law_box") = some (some (.ref f2))) (l2 : K.lookup f2 = some ⟨oc2, od2, .func (PySem.W.fnOf (Str.ofString "_law_box") (Str.ofString "_law_box") (defArgs (topS 41)) (defBody (topS 41)) (defScope (topS 41)) .none kV2 dc2 pm2 an2 cd2 ct_2), sl2⟩) (c2 : PySem.W.codeIn K cd2 (Str.ofString "_law_box") = true) (k2 : PySem.W.keepIn K (.ref f2) = true)
    {f3 : Addr} {od3 an3 : Option Addr} {sl3 : Array (Option Value)} {oc3 kV3 dc3 pm3 cd3 ct_3 : Value} (a3 : PySem.W.nsIn K mainGlobals (Str.ofString "_law_cells") = some (some (.ref f3))) (l3 : K.lookup f3 = some ⟨oc3, od3, .func (PySem.W.fnOf (Str.ofString "_law_cells") (Str.ofString "_law_cells") (defArgs (topS 43)) (defBody (topS 43)) (defScope (topS 43)) .none kV3 dc3 pm3 an3 cd3 ct_3), sl3⟩) (c3 : PySem.W.codeIn K cd3 (Str.ofString "_law_cells") = true) (k3 : PySem.W.keepIn K (.ref f3) = true)
    {f4 : Addr} {od4 an4 : Option Addr} {sl4 : Array (Option Value)} {oc4 kV4 dc4 pm4 cd4 ct_4 : Value} (a4 : PySem.W.nsIn K mainGlobals (Str.ofString "_law_scheme_right") = some (some (.ref f4))) (l4 : K.lookup f4 = some ⟨oc4, od4, .func (PySem.W.fnOf (Str.ofString "_law_scheme_right") (Str.ofString "_law_scheme_right") (defArgs (topS 51)) (defBody (topS 51)) (defScope (topS 51)) .none kV4 dc4 pm4 an4 cd4 ct_4), sl4⟩) (c4 : PySem.W.codeIn K cd4 (Str.ofString "_law_scheme_right") = true) (k4 : PySem.W.keepIn K (.ref f4) = true)
    {f5 : Addr} {od5 an5 : Option Addr} {sl5 : Array (Option Value)} {oc5 kV5 dc5 pm5 cd5 ct_5 : Value} (a5 : PySem.W.nsIn K mainGlobals (Str.ofString "_law_take") = some (some (.ref f5))) (l5 : K.lookup f5 = some ⟨oc5, od5, .func (PySem.W.fnOf (Str.ofString "_law_take") (Str.ofString "_law_take") (defArgs (topS 42)) (defBody (topS 42)) (defScope (topS 42)) .none kV5 dc5 pm5 an5 cd5 ct_5), sl5⟩) (c5 : PySem.W.codeIn K cd5 (Str.ofString "_law_take") = true) (k5 : PySem.W.keepIn K (.ref f5) = true)
    {f6 : Addr} {od6 an6 : Option Addr} {sl6 : Array (Option Value)} {oc6 kV6 dc6 pm6 cd6 ct_6 : Value} (a6 : PySem.W.nsIn K mainGlobals (Str.ofString "_law_start") = some (some (.ref f6))) (l6 : K.lookup f6 = some ⟨oc6, od6, .func (PySem.W.fnOf (Str.ofString "_law_start") (Str.ofString "_law_start") (defArgs (topS 50)) (defBody (topS 50)) (defScope (topS 50)) .none kV6 dc6 pm6 an6 cd6 ct_6), sl6⟩) (c6 : PySem.W.codeIn K cd6 (Str.ofString "_law_start") = true) (k6 : PySem.W.keepIn K (.ref f6) = true)
    {f7 : Addr} {od7 an7 : Option Addr} {sl7 : Array (Option Value)} {oc7 kV7 dc7 pm7 cd7 ct_7 : Value} (a7 : PySem.W.nsIn K mainGlobals (Str.ofString "_law_signed") = some (some (.ref f7))) (l7 : K.lookup f7 = some ⟨oc7, od7, .func (PySem.W.fnOf (Str.ofString "_law_signed") (Str.ofString "_law_signed") (defArgs (topS 49)) (defBody (topS 49)) (defScope (topS 49)) .none kV7 dc7 pm7 an7 cd7 ct_7), sl7⟩) (c7 : PySem.W.codeIn K cd7 (Str.ofString "_law_signed") = true) (k7 : PySem.W.keepIn K (.ref f7) = true)
    {f8 : Addr} {od8 an8 : Option Addr} {sl8 : Array (Option Value)} {oc8 kV8 dc8 pm8 cd8 ct_8 : Value} (a8 : PySem.W.nsIn K mainGlobals (Str.ofString "_law_ground") = some (some (.ref f8))) (l8 : K.lookup f8 = some ⟨oc8, od8, .func (PySem.W.fnOf (Str.ofString "_law_ground") (Str.ofString "_law_ground") (defArgs (topS 48)) (defBody (topS 48)) (defScope (topS 48)) .none kV8 dc8 pm8 an8 cd8 ct_8), sl8⟩) (c8 : PySem.W.codeIn K cd8 (Str.ofString "_law_ground") = true) (k8 : PySem.W.keepIn K (.ref f8) = true)
    {f9 : Addr} {od9 an9 : Option Addr} {sl9 : Array (Option Value)} {oc9 kV9 dc9 pm9 cd9 ct_9 : Value} (a9 : PySem.W.nsIn K mainGlobals (Str.ofString "_law_hand_right") = some (some (.ref f9))) (l9 : K.lookup f9 = some ⟨oc9, od9, .func (PySem.W.fnOf (Str.ofString "_law_hand_right") (Str.ofString "_law_hand_right") (defArgs (topS 52)) (defBody (topS 52)) (defScope (topS 52)) .none kV9 dc9 pm9 an9 cd9 ct_9), sl9⟩) (c9 : PySem.W.codeIn K cd9 (Str.ofString "_law_hand_right") = true) (k9 : PySem.W.keepIn K (.ref f9) = true)
    {f10 : Addr} {od10 an10 : Option Addr} {sl10 : Array (Option Value)} {oc10 kV10 dc10 pm10 cd10 ct_10 : Value} (a10 : PySem.W.nsIn K mainGlobals (Str.ofString "twins") = some (some (.ref f10))) (l10 : K.lookup f10 = some ⟨oc10, od10, .func (PySem.W.fnOf (Str.ofString "twins") (Str.ofString "twins") (defArgs (topS 38)) (defBody (topS 38)) (defScope (topS 38)) .none kV10 dc10 pm10 an10 cd10 ct_10), sl10⟩) (c10 : PySem.W.codeIn K cd10 (Str.ofString "twins") = true) (k10 : PySem.W.keepIn K (.ref f10) = true)
    {f11 : Addr} {od11 an11 : Option Addr} {sl11 : Array (Option Value)} {oc11 kV11 dc11 pm11 cd11 ct_11 : Value} (a11 : PySem.W.nsIn K mainGlobals (Str.ofString "held") = some (some (.ref f11))) (l11 : K.lookup f11 = some ⟨oc11, od11, .func (PySem.W.fnOf (Str.ofString "held") (Str.ofString "held") (defArgs (topS 39)) (defBody (topS 39)) (defScope (topS 39)) .none kV11 dc11 pm11 an11 cd11 ct_11), sl11⟩) (c11 : PySem.W.codeIn K cd11 (Str.ofString "held") = true) (k11 : PySem.W.keepIn K (.ref f11) = true)
    {f12 : Addr} {od12 an12 : Option Addr} {sl12 : Array (Option Value)} {oc12 kV12 dc12 pm12 cd12 ct_12 : Value} (a12 : PySem.W.nsIn K mainGlobals (Str.ofString "key_text") = some (some (.ref f12))) (l12 : K.lookup f12 = some ⟨oc12, od12, .func (PySem.W.fnOf (Str.ofString "key_text") (Str.ofString "key_text") (defArgs (topS 31)) (defBody (topS 31)) (defScope (topS 31)) .none kV12 dc12 pm12 an12 cd12 ct_12), sl12⟩) (c12 : PySem.W.codeIn K cd12 (Str.ofString "key_text") = true) (k12 : PySem.W.keepIn K (.ref f12) = true)
    {f13 : Addr} {od13 an13 : Option Addr} {sl13 : Array (Option Value)} {oc13 kV13 dc13 pm13 cd13 ct_13 : Value} (a13 : PySem.W.nsIn K mainGlobals (Str.ofString "prefix_texts") = some (some (.ref f13))) (l13 : K.lookup f13 = some ⟨oc13, od13, .func (PySem.W.fnOf (Str.ofString "prefix_texts") (Str.ofString "prefix_texts") (defArgs (topS 32)) (defBody (topS 32)) (defScope (topS 32)) .none kV13 dc13 pm13 an13 cd13 ct_13), sl13⟩) (c13 : PySem.W.codeIn K cd13 (Str.ofString "prefix_texts") = true) (k13 : PySem.W.keepIn K (.ref f13) = true)
    {f14 : Addr} {od14 an14 : Option Addr} {sl14 : Array (Option Value)} {oc14 kV14 dc14 pm14 cd14 ct_14 : Value} (a14 : PySem.W.nsIn K mainGlobals (Str.ofString "accident") = some (some (.ref f14))) (l14 : K.lookup f14 = some ⟨oc14, od14, .func (PySem.W.fnOf (Str.ofString "accident") (Str.ofString "accident") (defArgs (topS 37)) (defBody (topS 37)) (defScope (topS 37)) .none kV14 dc14 pm14 an14 cd14 ct_14), sl14⟩) (c14 : PySem.W.codeIn K cd14 (Str.ofString "accident") = true) (k14 : PySem.W.keepIn K (.ref f14) = true)
    {f15 : Addr} {od15 an15 : Option Addr} {sl15 : Array (Option Value)} {oc15 kV15 dc15 pm15 cd15 ct_15 : Value} (a15 : PySem.W.findIn K (.ref C0) (Str.ofString "begins") = some (some (.ref f15))) (i15 : PySem.W.isFn K (.ref f15) = true) (l15 : K.lookup f15 = some ⟨oc15, od15, .func (PySem.W.fnOf (Str.ofString "begins") (Str.ofString "Template.begins") (defArgs (mtS 25 10)) (defBody (mtS 25 10)) (defScope (mtS 25 10)) .none kV15 dc15 pm15 an15 cd15 ct_15), sl15⟩) (c15 : PySem.W.codeIn K cd15 (Str.ofString "Template.begins") = true) (k15 : PySem.W.keepIn K (.ref f15) = true)
    {f16 : Addr} {od16 an16 : Option Addr} {sl16 : Array (Option Value)} {oc16 kV16 dc16 pm16 cd16 ct_16 : Value} (a16 : PySem.W.findIn K (.ref C0) (Str.ofString "__init__") = some (some (.ref f16))) (i16 : PySem.W.isFn K (.ref f16) = true) (l16 : K.lookup f16 = some ⟨oc16, od16, .func (PySem.W.fnOf (Str.ofString "__init__") (Str.ofString "Template.__init__") (defArgs (mtS 25 1)) (defBody (mtS 25 1)) (defScope (mtS 25 1)) .none kV16 dc16 pm16 an16 cd16 ct_16), sl16⟩) (c16 : PySem.W.codeIn K cd16 (Str.ofString "Template.__init__") = true) (k16 : PySem.W.keepIn K (.ref f16) = true)
    {f17 : Addr} {od17 an17 : Option Addr} {sl17 : Array (Option Value)} {oc17 kV17 dc17 pm17 cd17 ct_17 : Value} (a17 : PySem.W.findIn K (.ref C0) (Str.ofString "__contains__") = some (some (.ref f17))) (i17 : PySem.W.isFn K (.ref f17) = true) (l17 : K.lookup f17 = some ⟨oc17, od17, .func (PySem.W.fnOf (Str.ofString "__contains__") (Str.ofString "Template.__contains__") (defArgs (mtS 25 8)) (defBody (mtS 25 8)) (defScope (mtS 25 8)) .none kV17 dc17 pm17 an17 cd17 ct_17), sl17⟩) (c17 : PySem.W.codeIn K cd17 (Str.ofString "Template.__contains__") = true) (k17 : PySem.W.keepIn K (.ref f17) = true)
    {f18 : Addr} {od18 an18 : Option Addr} {sl18 : Array (Option Value)} {oc18 kV18 dc18 pm18 cd18 ct_18 : Value} (a18 : PySem.W.nsIn K mainGlobals (Str.ofString "_law_of") = some (some (.ref f18))) (l18 : K.lookup f18 = some ⟨oc18, od18, .func (PySem.W.fnOf (Str.ofString "_law_of") (Str.ofString "_law_of") (defArgs (topS 44)) (defBody (topS 44)) (defScope (topS 44)) .none kV18 dc18 pm18 an18 cd18 ct_18), sl18⟩) (c18 : PySem.W.codeIn K cd18 (Str.ofString "_law_of") = true) (k18 : PySem.W.keepIn K (.ref f18) = true)
    {f19 : Addr} {od19 an19 : Option Addr} {sl19 : Array (Option Value)} {oc19 kV19 dc19 pm19 cd19 ct_19 : Value} (a19 : PySem.W.nsIn K mainGlobals (Str.ofString "_law_pick") = some (some (.ref f19))) (l19 : K.lookup f19 = some ⟨oc19, od19, .func (PySem.W.fnOf (Str.ofString "_law_pick") (Str.ofString "_law_pick") (defArgs (topS 45)) (defBody (topS 45)) (defScope (topS 45)) .none kV19 dc19 pm19 an19 cd19 ct_19), sl19⟩) (c19 : PySem.W.codeIn K cd19 (Str.ofString "_law_pick") = true) (k19 : PySem.W.keepIn K (.ref f19) = true)
    {f20 : Addr} {od20 an20 : Option Addr} {sl20 : Array (Option Value)} {oc20 kV20 dc20 pm20 cd20 ct_20 : Value} (a20 : PySem.W.nsIn K mainGlobals (Str.ofString "_law_words") = some (some (.ref f20))) (l20 : K.lookup f20 = some ⟨oc20, od20, .func (PySem.W.fnOf (Str.ofString "_law_words") (Str.ofString "_law_words") (defArgs (topS 47)) (defBody (topS 47)) (defScope (topS 47)) .none kV20 dc20 pm20 an20 cd20 ct_20), sl20⟩) (c20 : PySem.W.codeIn K cd20 (Str.ofString "_law_words") = true) (k20 : PySem.W.keepIn K (.ref f20) = true)
    {f21 : Addr} {od21 an21 : Option Addr} {sl21 : Array (Option Value)} {oc21 kV21 dc21 pm21 cd21 ct_21 : Value} (a21 : PySem.W.nsIn K mainGlobals (Str.ofString "_law_same") = some (some (.ref f21))) (l21 : K.lookup f21 = some ⟨oc21, od21, .func (PySem.W.fnOf (Str.ofString "_law_same") (Str.ofString "_law_same") (defArgs (topS 46)) (defBody (topS 46)) (defScope (topS 46)) .none kV21 dc21 pm21 an21 cd21 ct_21), sl21⟩) (c21 : PySem.W.codeIn K cd21 (Str.ofString "_law_same") = true) (k21 : PySem.W.keepIn K (.ref f21) = true)
    {f22 : Addr} {od22 an22 : Option Addr} {sl22 : Array (Option Value)} {oc22 kV22 dc22 pm22 cd22 ct_22 : Value} (a22 : PySem.W.nsIn K mainGlobals (Str.ofString "cases") = some (some (.ref f22))) (l22 : K.lookup f22 = some ⟨oc22, od22, .func (PySem.W.fnOf (Str.ofString "cases") (Str.ofString "cases") (defArgs (topS 28)) (defBody (topS 28)) (defScope (topS 28)) .none kV22 dc22 pm22 an22 cd22 ct_22), sl22⟩) (c22 : PySem.W.codeIn K cd22 (Str.ofString "cases") = true) (k22 : PySem.W.keepIn K (.ref f22) = true)
    {f23 : Addr} {od23 an23 : Option Addr} {sl23 : Array (Option Value)} {oc23 kV23 dc23 pm23 cd23 ct_23 : Value} (a23 : PySem.W.nsIn K mainGlobals (Str.ofString "key_row") = some (some (.ref f23))) (l23 : K.lookup f23 = some ⟨oc23, od23, .func (PySem.W.fnOf (Str.ofString "key_row") (Str.ofString "key_row") (defArgs (topS 34)) (defBody (topS 34)) (defScope (topS 34)) .none kV23 dc23 pm23 an23 cd23 ct_23), sl23⟩) (c23 : PySem.W.codeIn K cd23 (Str.ofString "key_row") = true) (k23 : PySem.W.keepIn K (.ref f23) = true)
    {f24 : Addr} {od24 an24 : Option Addr} {sl24 : Array (Option Value)} {oc24 kV24 dc24 pm24 cd24 ct_24 : Value} (a24 : PySem.W.nsIn K mainGlobals (Str.ofString "begun") = some (some (.ref f24))) (l24 : K.lookup f24 = some ⟨oc24, od24, .func (PySem.W.fnOf (Str.ofString "begun") (Str.ofString "begun") (defArgs (topS 36)) (defBody (topS 36)) (defScope (topS 36)) .none kV24 dc24 pm24 an24 cd24 ct_24), sl24⟩) (c24 : PySem.W.codeIn K cd24 (Str.ofString "begun") = true) (k24 : PySem.W.keepIn K (.ref f24) = true)
    {f25 : Addr} {od25 an25 : Option Addr} {sl25 : Array (Option Value)} {oc25 kV25 dc25 pm25 cd25 ct_25 : Value} (a25 : PySem.W.nsIn K mainGlobals (Str.ofString "text_of") = some (some (.ref f25))) (l25 : K.lookup f25 = some ⟨oc25, od25, .func (PySem.W.fnOf (Str.ofString "text_of") (Str.ofString "text_of") (defArgs (topS 27)) (defBody (topS 27)) (defScope (topS 27)) .none kV25 dc25 pm25 an25 cd25 ct_25), sl25⟩) (c25 : PySem.W.codeIn K cd25 (Str.ofString "text_of") = true) (k25 : PySem.W.keepIn K (.ref f25) = true)
    {f26 : Addr} {od26 an26 : Option Addr} {sl26 : Array (Option Value)} {oc26 kV26 dc26 pm26 cd26 ct_26 : Value} (a26 : PySem.W.nsIn K mainGlobals (Str.ofString "values_of") = some (some (.ref f26))) (l26 : K.lookup f26 = some ⟨oc26, od26, .func (PySem.W.fnOf (Str.ofString "values_of") (Str.ofString "values_of") (defArgs (topS 30)) (defBody (topS 30)) (defScope (topS 30)) .none kV26 dc26 pm26 an26 cd26 ct_26), sl26⟩) (c26 : PySem.W.codeIn K cd26 (Str.ofString "values_of") = true) (k26 : PySem.W.keepIn K (.ref f26) = true)
    {f27 : Addr} {od27 an27 : Option Addr} {sl27 : Array (Option Value)} {oc27 kV27 dc27 pm27 cd27 ct_27 : Value} (a27 : PySem.W.nsIn K mainGlobals (Str.ofString "job_row") = some (some (.ref f27))) (l27 : K.lookup f27 = some ⟨oc27, od27, .func (PySem.W.fnOf (Str.ofString "job_row") (Str.ofString "job_row") (defArgs (topS 29)) (defBody (topS 29)) (defScope (topS 29)) .none kV27 dc27 pm27 an27 cd27 ct_27), sl27⟩) (c27 : PySem.W.codeIn K cd27 (Str.ofString "job_row") = true) (k27 : PySem.W.keepIn K (.ref f27) = true)
    {f28 : Addr} {od28 an28 : Option Addr} {sl28 : Array (Option Value)} {oc28 kV28 dc28 pm28 cd28 ct_28 : Value} (a28 : PySem.W.nsIn K mainGlobals (Str.ofString "do_begin") = some (some (.ref f28))) (l28 : K.lookup f28 = some ⟨oc28, od28, .func (PySem.W.fnOf (Str.ofString "do_begin") (Str.ofString "do_begin") (defArgs (topS 23)) (defBody (topS 23)) (defScope (topS 23)) .none kV28 dc28 pm28 an28 cd28 ct_28), sl28⟩) (c28 : PySem.W.codeIn K cd28 (Str.ofString "do_begin") = true) (k28 : PySem.W.keepIn K (.ref f28) = true)
    {f29 : Addr} {od29 an29 : Option Addr} {sl29 : Array (Option Value)} {oc29 kV29 dc29 pm29 cd29 ct_29 : Value} (a29 : PySem.W.nsIn K mainGlobals (Str.ofString "row_of") = some (some (.ref f29))) (l29 : K.lookup f29 = some ⟨oc29, od29, .func (PySem.W.fnOf (Str.ofString "row_of") (Str.ofString "row_of") (defArgs (topS 33)) (defBody (topS 33)) (defScope (topS 33)) .none kV29 dc29 pm29 an29 cd29 ct_29), sl29⟩) (c29 : PySem.W.codeIn K cd29 (Str.ofString "row_of") = true) (k29 : PySem.W.keepIn K (.ref f29) = true)
    {f30 : Addr} {od30 an30 : Option Addr} {sl30 : Array (Option Value)} {oc30 kV30 dc30 pm30 cd30 ct_30 : Value} (a30 : PySem.W.nsIn K mainGlobals (Str.ofString "prefix_of") = some (some (.ref f30))) (l30 : K.lookup f30 = some ⟨oc30, od30, .func (PySem.W.fnOf (Str.ofString "prefix_of") (Str.ofString "prefix_of") (defArgs (topS 35)) (defBody (topS 35)) (defScope (topS 35)) .none kV30 dc30 pm30 an30 cd30 ct_30), sl30⟩) (c30 : PySem.W.codeIn K cd30 (Str.ofString "prefix_of") = true) (k30 : PySem.W.keepIn K (.ref f30) = true)
    {f31 : Addr} {od31 an31 : Option Addr} {sl31 : Array (Option Value)} {oc31 kV31 dc31 pm31 cd31 ct_31 : Value} (a31 : PySem.W.nsIn K mainGlobals (Str.ofString "joined") = some (some (.ref f31))) (l31 : K.lookup f31 = some ⟨oc31, od31, .func (PySem.W.fnOf (Str.ofString "joined") (Str.ofString "joined") (defArgs (topS 22)) (defBody (topS 22)) (defScope (topS 22)) .none kV31 dc31 pm31 an31 cd31 ct_31), sl31⟩) (c31 : PySem.W.codeIn K cd31 (Str.ofString "joined") = true) (k31 : PySem.W.keepIn K (.ref f31) = true)
    {f32 : Addr} {od32 an32 : Option Addr} {sl32 : Array (Option Value)} {oc32 kV32 dc32 pm32 cd32 ct_32 : Value} (a32 : PySem.W.nsIn K mainGlobals (Str.ofString "tupled") = some (some (.ref f32))) (l32 : K.lookup f32 = some ⟨oc32, od32, .func (PySem.W.fnOf (Str.ofString "tupled") (Str.ofString "tupled") (defArgs (topS 10)) (defBody (topS 10)) (defScope (topS 10)) .none kV32 dc32 pm32 an32 cd32 ct_32), sl32⟩) (c32 : PySem.W.codeIn K cd32 (Str.ofString "tupled") = true) (k32 : PySem.W.keepIn K (.ref f32) = true)
    {f33 : Addr} {od33 an33 : Option Addr} {sl33 : Array (Option Value)} {oc33 kV33 dc33 pm33 cd33 ct_33 : Value} (a33 : PySem.W.nsIn K mainGlobals (Str.ofString "is_number") = some (some (.ref f33))) (l33 : K.lookup f33 = some ⟨oc33, od33, .func (PySem.W.fnOf (Str.ofString "is_number") (Str.ofString "is_number") (defArgs (topS 11)) (defBody (topS 11)) (defScope (topS 11)) .none kV33 dc33 pm33 an33 cd33 ct_33), sl33⟩) (c33 : PySem.W.codeIn K cd33 (Str.ofString "is_number") = true) (k33 : PySem.W.keepIn K (.ref f33) = true)
    (z0 : PySem.W.nsIn K mainGlobals (Str.ofString "abs") = some none)
    (z1 : PySem.W.nsIn K mainGlobals (Str.ofString "int") = some none)
    (z2 : PySem.W.nsIn K mainGlobals (Str.ofString "len") = some none)
    (z3 : PySem.W.nsIn K mainGlobals (Str.ofString "tuple") = some none)
    (z4 : PySem.W.nsIn K mainGlobals (Str.ofString "list") = some none)
    (z5 : PySem.W.nsIn K mainGlobals (Str.ofString "all") = some none)
    (z6 : PySem.W.nsIn K mainGlobals (Str.ofString "any") = some none)
    (z7 : PySem.W.nsIn K mainGlobals (Str.ofString "isinstance") = some none)
    (z8 : PySem.W.nsIn K mainGlobals (Str.ofString "bool") = some none)
    (z9 : PySem.W.nsIn K mainGlobals (Str.ofString "str") = some none)
    (z10 : PySem.W.nsIn K mainGlobals (Str.ofString "dict") = some none)
    (z11 : PySem.W.nsIn K mainGlobals (Str.ofString "enumerate") = some none)
    (z12 : PySem.W.nsIn K mainGlobals (Str.ofString "zip") = some none)
    (z13 : PySem.W.nsIn K mainGlobals (Str.ofString "range") = some none)
    (z14 : PySem.W.nsIn K mainGlobals (Str.ofString "min") = some none)
    (z15 : PySem.W.nsIn K mainGlobals (Str.ofString "max") = some none)
    (z16 : PySem.W.nsIn K mainGlobals (Str.ofString "sorted") = some none)
    {t0 : Tok} (q0 : PySem.W.nsIn K mainGlobals (Str.ofString "TEXT") = some (some (.str ⟨#[116, 101, 120, 116]⟩ t0)))
    {t1 : Tok} (q1 : PySem.W.nsIn K mainGlobals (Str.ofString "FIELD") = some (some (.str ⟨#[102, 105, 101, 108, 100]⟩ t1)))
    (law : ∀ ns : List Int, ns.length ≤ 63 → ∃ h2, callN prog 40 (Str.ofString "law") [.scr ns] [] = .ok (.d (.bool true)) h2) :
    ∃ fd : FuncData, (∀ (s : Shared) (v : Value), BindsTo s fd ⟨[v], []⟩ [((Str.ofString "_law_script"), v)]) ∧ ∀ base : Heap, K.In base → base.Ns mainGlobals mg → FnOk l.prog w K mg base (L2.CX l.prog w) 120 fa fd [(Str.ofString "_law_script")] (spL K 63) := by
  letI : Wd := ⟨w, mg⟩
  have e := hfa.symm.trans (PySem.W.mg_of hk G a0)
  cases e
  have F0 := fun_mk (st := topS 54) l0 c0 k0
  have A0 : d_law.At K prog fa _ := ⟨F0, F0.binds (ps := [(Str.ofString "_law_script")]) fun _ _ _ _ _ _ us hl => match us, hl with | [_], _ => rfl, by rfl⟩
  have B0 : d_law ∈ dns := by unfold dns; simp only [List.mem_cons, true_or, or_true]
  have F1 := fun_mk (st := topS 53) l1 c1 k1
  have A1 : d__law_right.At K prog f1 _ := ⟨F1, F1.binds (ps := [(Str.ofString "_law_box_here")]) fun _ _ _ _ _ _ us hl => match us, hl with | [_], _ => rfl, by rfl⟩
  have B1 : d__law_right ∈ dns := by unfold dns; simp only [List.mem_cons, true_or, or_true]
  have F2 := fun_mk (st := topS 41) l2 c2 k2
  have A2 : d__law_box.At K prog f2 _ := ⟨F2, F2.binds (ps := [(Str.ofString "_law_script"), (Str.ofString "_law_k")]) fun _ _ _ _ _ _ us hl => match us, hl with | [_, _], _ => rfl, by rfl⟩
  have B2 : d__law_box ∈ dns := by unfold dns; simp only [List.mem_cons, true_or, or_true]
  have F3 := fun_mk (st := topS 43) l3 c3 k3
  have A3 : d__law_cells.At K prog f3 _ := ⟨F3, F3.binds (ps := [(Str.ofString "_law_script"), (Str.ofString "_law_most")]) fun _ _ _ _ _ _ us hl => match us, hl with | [_, _], _ => rfl, by rfl⟩
  have B3 : d__law_cells ∈ dns := by unfold dns; simp only [List.mem_cons, true_or, or_true]
  have F4 := fun_mk (st := topS 51) l4 c4 k4
  have A4 : d__law_scheme_right.At K prog f4 _ := ⟨F4, F4.binds (ps := [(Str.ofString "_law_scheme")]) fun _ _ _ _ _ _ us hl => match us, hl with | [_], _ => rfl, by rfl⟩
  have B4 : d__law_scheme_right ∈ dns := by unfold dns; simp only [List.mem_cons, true_or, or_true]
  have F5 := fun_mk (st := topS 42) l5 c5 k5
  have A5 : d__law_take.At K prog f5 _ := ⟨F5, F5.binds (ps := [(Str.ofString "_law_box_here"), (Str.ofString "_law_below")]) fun _ _ _ _ _ _ us hl => match us, hl with | [_, _], _ => rfl, by rfl⟩
  have B5 : d__law_take ∈ dns := by unfold dns; simp only [List.mem_cons, true_or, or_true]
  have F6 := fun_mk (st := topS 50) l6 c6 k6
  have A6 : d__law_start.At K prog f6 _ := ⟨F6, F6.binds (ps := [(Str.ofString "_law_box_here"), (Str.ofString "_law_whole")]) fun _ _ _ _ _ _ us hl => match us, hl with | [_, _], _ => rfl, by rfl⟩
  have B6 : d__law_start ∈ dns := by unfold dns; simp only [List.mem_cons, true_or, or_true]
  have F7 := fun_mk (st := topS 49) l7 c7 k7
  have A7 : d__law_signed.At K prog f7 _ := ⟨F7, F7.binds (ps := [(Str.ofString "_law_box_here"), (Str.ofString "_law_tags")]) fun _ _ _ _ _ _ us hl => match us, hl with | [_, _], _ => rfl, by rfl⟩
  have B7 : d__law_signed ∈ dns := by unfold dns; simp only [List.mem_cons, true_or, or_true]
  have F8 := fun_mk (st := topS 48) l8 c8 k8
  have A8 : d__law_ground.At K prog f8 _ := ⟨F8, F8.binds (ps := [(Str.ofString "_law_box_here"), (Str.ofString "_law_tall"), (Str.ofString "_law_most")]) fun _ _ _ _ _ _ us hl => match us, hl with | [_, _, _], _ => rfl, by rfl⟩
  have B8 : d__law_ground ∈ dns := by unfold dns; simp only [List.mem_cons, true_or, or_true]
  have F9 := fun_mk (st := topS 52) l9 c9 k9
  have A9 : d__law_hand_right.At K prog f9 _ := ⟨F9, F9.binds (ps := []) fun _ _ _ _ _ _ us hl => match us, hl with | [], _ => rfl, by rfl⟩
  have B9 : d__law_hand_right ∈ dns := by unfold dns; simp only [List.mem_cons, true_or, or_true]
  have F10 := fun_mk (st := topS 38) l10 c10 k10
  have A10 : d_twins.At K prog f10 _ := ⟨F10, F10.binds (ps := [(Str.ofString "plan")]) fun _ _ _ _ _ _ us hl => match us, hl with | [_], _ => rfl, by rfl⟩
  have B10 : d_twins ∈ dns := by unfold dns; simp only [List.mem_cons, true_or, or_true]
  have F11 := fun_mk (st := topS 39) l11 c11 k11
  have A11 : d_held.At K prog f11 _ := ⟨F11, F11.binds (ps := [(Str.ofString "plan"), (Str.ofString "job"), (Str.ofString "number")]) fun _ _ _ _ _ _ us hl => match us, hl with | [_, _, _], _ => rfl, by rfl⟩
  have B11 : d_held ∈ dns := by unfold dns; simp only [List.mem_cons, true_or, or_true]
  have F12 := fun_mk (st := topS 31) l12 c12 k12
  have A12 : d_key_text.At K prog f12 _ := ⟨F12, F12.binds (ps := [(Str.ofString "plan"), (Str.ofString "case")]) fun _ _ _ _ _ _ us hl => match us, hl with | [_, _], _ => rfl, by rfl⟩
  have B12 : d_key_text ∈ dns := by unfold dns; simp only [List.mem_cons, true_or, or_true]
  have F13 := fun_mk (st := topS 32) l13 c13 k13
  have A13 : d_prefix_texts.At K prog f13 _ := ⟨F13, F13.binds (ps := [(Str.ofString "plan"), (Str.ofString "case")]) fun _ _ _ _ _ _ us hl => match us, hl with | [_, _], _ => rfl, by rfl⟩
  have B13 : d_prefix_texts ∈ dns := by unfold dns; simp only [List.mem_cons, true_or, or_true]
  have F14 := fun_mk (st := topS 37) l14 c14 k14
  have A14 : d_accident.At K prog f14 _ := ⟨F14, F14.binds (ps := [(Str.ofString "plan"), (Str.ofString "job"), (Str.ofString "number")]) fun _ _ _ _ _ _ us hl => match us, hl with | [_, _, _], _ => rfl, by rfl⟩
  have B14 : d_accident ∈ dns := by unfold dns; simp only [List.mem_cons, true_or, or_true]
  have F15 := fun_mk (st := mtS 25 10) l15 c15 k15
  have A15 : d_Template_o_begins.At K prog f15 _ := ⟨F15, F15.binds (ps := [(Str.ofString "self"), (Str.ofString "other")]) fun _ _ _ _ _ _ us hl => match us, hl with | [_, _], _ => rfl, by rfl⟩
  have B15 : d_Template_o_begins ∈ dns := by unfold dns; simp only [List.mem_cons, true_or, or_true]
  have F16 := fun_mk (st := mtS 25 1) l16 c16 k16
  have A16 : d_Template_o___init__.At K prog f16 _ := ⟨F16, F16.binds (ps := [(Str.ofString "self"), (Str.ofString "pieces")]) fun _ _ _ _ _ _ us hl => match us, hl with | [_, _], _ => rfl, by rfl⟩
  have B16 : d_Template_o___init__ ∈ dns := by unfold dns; simp only [List.mem_cons, true_or, or_true]
  have F17 := fun_mk (st := mtS 25 8) l17 c17 k17
  have A17 : d_Template_o___contains__.At K prog f17 _ := ⟨F17, F17.binds (ps := [(Str.ofString "self"), (Str.ofString "name")]) fun _ _ _ _ _ _ us hl => match us, hl with | [_, _], _ => rfl, by rfl⟩
  have B17 : d_Template_o___contains__ ∈ dns := by unfold dns; simp only [List.mem_cons, true_or, or_true]
  have F18 := fun_mk (st := topS 44) l18 c18 k18
  have A18 : d__law_of.At K prog f18 _ := ⟨F18, F18.binds (ps := [(Str.ofString "_law_box_here"), (Str.ofString "_law_some")]) fun _ _ _ _ _ _ us hl => match us, hl with | [_, _], _ => rfl, by rfl⟩
  have B18 : d__law_of ∈ dns := by unfold dns; simp only [List.mem_cons, true_or, or_true]
  have F19 := fun_mk (st := topS 45) l19 c19 k19
  have A19 : d__law_pick.At K prog f19 _ := ⟨F19, F19.binds (ps := [(Str.ofString "_law_box_here"), (Str.ofString "_law_pool"), (Str.ofString "_law_size_so")]) fun _ _ _ _ _ _ us hl => match us, hl with | [_, _, _], _ => rfl, by rfl⟩
  have B19 : d__law_pick ∈ dns := by unfold dns; simp only [List.mem_cons, true_or, or_true]
  have F20 := fun_mk (st := topS 47) l20 c20 k20
  have A20 : d__law_words.At K prog f20 _ := ⟨F20, F20.binds (ps := [(Str.ofString "_law_box_here"), (Str.ofString "_law_size_so")]) fun _ _ _ _ _ _ us hl => match us, hl with | [_, _], _ => rfl, by rfl⟩
  have B20 : d__law_words ∈ dns := by unfold dns; simp only [List.mem_cons, true_or, or_true]
  have F21 := fun_mk (st := topS 46) l21 c21 k21
  have A21 : d__law_same.At K prog f21 _ := ⟨F21, F21.binds (ps := [(Str.ofString "_law_got"), (Str.ofString "_law_due")]) fun _ _ _ _ _ _ us hl => match us, hl with | [_, _], _ => rfl, by rfl⟩
  have B21 : d__law_same ∈ dns := by unfold dns; simp only [List.mem_cons, true_or, or_true]
  have F22 := fun_mk (st := topS 28) l22 c22 k22
  have A22 : d_cases.At K prog f22 _ := ⟨F22, F22.binds (ps := [(Str.ofString "plan")]) fun _ _ _ _ _ _ us hl => match us, hl with | [_], _ => rfl, by rfl⟩
  have B22 : d_cases ∈ dns := by unfold dns; simp only [List.mem_cons, true_or, or_true]
  have F23 := fun_mk (st := topS 34) l23 c23 k23
  have A23 : d_key_row.At K prog f23 _ := ⟨F23, F23.binds (ps := [(Str.ofString "plan"), (Str.ofString "case")]) fun _ _ _ _ _ _ us hl => match us, hl with | [_, _], _ => rfl, by rfl⟩
  have B23 : d_key_row ∈ dns := by unfold dns; simp only [List.mem_cons, true_or, or_true]
  have F24 := fun_mk (st := topS 36) l24 c24 k24
  have A24 : d_begun.At K prog f24 _ := ⟨F24, F24.binds (ps := [(Str.ofString "plan"), (Str.ofString "job"), (Str.ofString "number")]) fun _ _ _ _ _ _ us hl => match us, hl with | [_, _, _], _ => rfl, by rfl⟩
  have B24 : d_begun ∈ dns := by unfold dns; simp only [List.mem_cons, true_or, or_true]
  have F25 := fun_mk (st := topS 27) l25 c25 k25
  have A25 : d_text_of.At K prog f25 _ := ⟨F25, F25.binds (ps := [(Str.ofString "template"), (Str.ofString "values")]) fun _ _ _ _ _ _ us hl => match us, hl with | [_, _], _ => rfl, by rfl⟩
  have B25 : d_text_of ∈ dns := by unfold dns; simp only [List.mem_cons, true_or, or_true]
  have F26 := fun_mk (st := topS 30) l26 c26 k26
  have A26 : d_values_of.At K prog f26 _ := ⟨F26, F26.binds (ps := [(Str.ofString "plan"), (Str.ofString "setting")]) fun _ _ _ _ _ _ us hl => match us, hl with | [_, _], _ => rfl, by rfl⟩
  have B26 : d_values_of ∈ dns := by unfold dns; simp only [List.mem_cons, true_or, or_true]
  have F27 := fun_mk (st := topS 29) l27 c27 k27
  have A27 : d_job_row.At K prog f27 _ := ⟨F27, F27.binds (ps := [(Str.ofString "plan"), (Str.ofString "name")]) fun _ _ _ _ _ _ us hl => match us, hl with | [_, _], _ => rfl, by rfl⟩
  have B27 : d_job_row ∈ dns := by unfold dns; simp only [List.mem_cons, true_or, or_true]
  have F28 := fun_mk (st := topS 23) l28 c28 k28
  have A28 : d_do_begin.At K prog f28 _ := ⟨F28, F28.binds (ps := [(Str.ofString "some"), (Str.ofString "others")]) fun _ _ _ _ _ _ us hl => match us, hl with | [_, _], _ => rfl, by rfl⟩
  have B28 : d_do_begin ∈ dns := by unfold dns; simp only [List.mem_cons, true_or, or_true]
  have F29 := fun_mk (st := topS 33) l29 c29 k29
  have A29 : d_row_of.At K prog f29 _ := ⟨F29, F29.binds (ps := [(Str.ofString "template"), (Str.ofString "values")]) fun _ _ _ _ _ _ us hl => match us, hl with | [_, _], _ => rfl, by rfl⟩
  have B29 : d_row_of ∈ dns := by unfold dns; simp only [List.mem_cons, true_or, or_true]
  have F30 := fun_mk (st := topS 35) l30 c30 k30
  have A30 : d_prefix_of.At K prog f30 _ := ⟨F30, F30.binds (ps := [(Str.ofString "plan"), (Str.ofString "name"), (Str.ofString "number")]) fun _ _ _ _ _ _ us hl => match us, hl with | [_, _, _], _ => rfl, by rfl⟩
  have B30 : d_prefix_of ∈ dns := by unfold dns; simp only [List.mem_cons, true_or, or_true]
  have F31 := fun_mk (st := topS 22) l31 c31 k31
  have A31 : d_joined.At K prog f31 _ := ⟨F31, F31.binds (ps := [(Str.ofString "pieces")]) fun _ _ _ _ _ _ us hl => match us, hl with | [_], _ => rfl, by rfl⟩
  have B31 : d_joined ∈ dns := by unfold dns; simp only [List.mem_cons, true_or, or_true]
  have F32 := fun_mk (st := topS 10) l32 c32 k32
  have A32 : d_tupled.At K prog f32 _ := ⟨F32, F32.binds (ps := [(Str.ofString "thing")]) fun _ _ _ _ _ _ us hl => match us, hl with | [_], _ => rfl, by rfl⟩
  have B32 : d_tupled ∈ dns := by unfold dns; simp only [List.mem_cons, true_or, or_true]
  have F33 := fun_mk (st := topS 11) l33 c33 k33
  have A33 : d_is_number.At K prog f33 _ := ⟨F33, F33.binds (ps := [(Str.ofString "thing"), (Str.ofString "bottom")]) fun _ _ _ _ _ _ us hl => match us, hl with | [_, _], _ => rfl, by rfl⟩
  have B33 : d_is_number ∈ dns := by unfold dns; simp only [List.mem_cons, true_or, or_true]
  have hfs : ∀ x ∈ pk.fs, ∃ d ∈ dns, d.x = x ∧ ∃ f fd, mg x = some (.ref f) ∧ d.At K prog f fd ∧ ∀ n ks ord, (x, n, ks, ord) ∈ pk.kw → KwOk K fd d.ps 0 n ks ord := by
    show ∀ x ∈ [(Str.ofString "law"), (Str.ofString "_law_right"), (Str.ofString "_law_box"), (Str.ofString "_law_cells"), (Str.ofString "_law_scheme_right"), (Str.ofString "_law_take"), (Str.ofString "_law_start"), (Str.ofString "_law_signed"), (Str.ofString "_law_ground"), (Str.ofString "_law_hand_right"), (Str.ofString "twins"), (Str.ofString "held"), (Str.ofString "key_text"), (Str.ofString "prefix_texts"), (Str.ofString "accident"), (Str.ofString "_law_of"), (Str.ofString "_law_pick"), (Str.ofString "_law_words"), (Str.ofString "_law_same"), (Str.ofString "cases"), (Str.ofString "key_row"), (Str.ofString "begun"), (Str.ofString "text_of"), (Str.ofString "values_of"), (Str.ofString "job_row"), (Str.ofString "do_begin"), (Str.ofString "row_of"), (Str.ofString "prefix_of"), (Str.ofString "joined"), (Str.ofString "tupled"), (Str.ofString "is_number")], _
    simp only [List.forall_mem_cons]
    exact ⟨⟨_, B0, rfl, _, _, PySem.W.mg_of hk G a0, A0, fun n ks od hm => absurd hm (kwno (by decide +kernel) n ks od)⟩, ⟨_, B1, rfl, _, _, PySem.W.mg_of hk G a1, A1, fun n ks od hm => absurd hm (kwno (by decide +kernel) n ks od)⟩, ⟨_, B2, rfl, _, _, PySem.W.mg_of hk G a2, A2, fun n ks od hm => absurd hm (kwno (by decide +kernel) n ks od)⟩, ⟨_, B3, rfl, _, _, PySem.W.mg_of hk G a3, A3, fun n ks od hm => absurd hm (kwno (by decide +kernel) n ks od)⟩, ⟨_, B4, rfl, _, _, PySem.W.mg_of hk G a4, A4, fun n ks od hm => absurd hm (kwno (by decide +kernel) n ks od)⟩, ⟨_, B5, rfl, _, _, PySem.W.mg_of hk G a5, A5, fun n ks od hm => absurd hm (kwno (by decide +kernel) n ks od)⟩, ⟨_, B6, rfl, _, _, PySem.W.mg_of hk G a6, A6, fun n ks od hm => absurd hm (kwno (by decide +kernel) n ks od)⟩, ⟨_, B7, rfl, _, _, PySem.W.mg_of hk G a7, A7, fun n ks od hm => absurd hm (kwno (by decide +kernel) n ks od)⟩, ⟨_, B8, rfl, _, _, PySem.W.mg_of hk G a8, A8, fun n ks od hm => absurd hm (kwno (by decide +kernel) n ks od)⟩, ⟨_, B9, rfl, _, _, PySem.W.mg_of hk G a9, A9, fun n ks od hm => absurd hm (kwno (by decide +kernel) n ks od)⟩, ⟨_, B10, rfl, _, _, PySem.W.mg_of hk G a10, A10, fun n ks od hm => absurd hm (kwno (by decide +kernel) n ks od)⟩, ⟨_, B11, rfl, _, _, PySem.W.mg_of hk G a11, A11, fun n ks od hm => absurd hm (kwno (by decide +kernel) n ks od)⟩, ⟨_, B12, rfl, _, _, PySem.W.mg_of hk G a12, A12, fun n ks od hm => absurd hm (kwno (by decide +kernel) n ks od)⟩, ⟨_, B13, rfl, _, _, PySem.W.mg_of hk G a13, A13, fun n ks od hm => absurd hm (kwno (by decide +kernel) n ks od)⟩, ⟨_, B14, rfl, _, _, PySem.W.mg_of hk G a14, A14, fun n ks od hm => absurd hm (kwno (by decide +kernel) n ks od)⟩, ⟨_, B18, rfl, _, _, PySem.W.mg_of hk G a18, A18, fun n ks od hm => absurd hm (kwno (by decide +kernel) n ks od)⟩, ⟨_, B19, rfl, _, _, PySem.W.mg_of hk G a19, A19, fun n ks od hm => absurd hm (kwno (by decide +kernel) n ks od)⟩, ⟨_, B20, rfl, _, _, PySem.W.mg_of hk G a20, A20, fun n ks od hm => absurd hm (kwno (by decide +kernel) n ks od)⟩, ⟨_, B21, rfl, _, _, PySem.W.mg_of hk G a21, A21, fun n ks od hm => absurd hm (kwno (by decide +kernel) n ks od)⟩, ⟨_, B22, rfl, _, _, PySem.W.mg_of hk G a22, A22, fun n ks od hm => absurd hm (kwno (by decide +kernel) n ks od)⟩, ⟨_, B23, rfl, _, _, PySem.W.mg_of hk G a23, A23, fun n ks od hm => absurd hm (kwno (by decide +kernel) n ks od)⟩, ⟨_, B24, rfl, _, _, PySem.W.mg_of hk G a24, A24, fun n ks od hm => absurd hm (kwno (by decide +kernel) n ks od)⟩, ⟨_, B25, rfl, _, _, PySem.W.mg_of hk G a25, A25, fun n ks od hm => absurd hm (kwno (by decide +kernel) n ks od)⟩, ⟨_, B26, rfl, _, _, PySem.W.mg_of hk G a26, A26, fun n ks od hm => absurd hm (kwno (by decide +kernel) n ks od)⟩, ⟨_, B27, rfl, _, _, PySem.W.mg_of hk G a27, A27, fun n ks od hm => absurd hm (kwno (by decide +kernel) n ks od)⟩, ⟨_, B28, rfl, _, _, PySem.W.mg_of hk G a28, A28, fun n ks od hm => absurd hm (kwno (by decide +kernel) n ks od)⟩, ⟨_, B29, rfl, _, _, PySem.W.mg_of hk G a29, A29, fun n ks od hm => absurd hm (kwno (by decide +kernel) n ks od)⟩, ⟨_, B30, rfl, _, _, PySem.W.mg_of hk G a30, A30, fun n ks od hm => absurd hm (kwno (by decide +kernel) n ks od)⟩, ⟨_, B31, rfl, _, _, PySem.W.mg_of hk G a31, A31, fun n ks od hm => absurd hm (kwno (by decide +kernel) n ks od)⟩, ⟨_, B32, rfl, _, _, PySem.W.mg_of hk G a32, A32, fun n ks od hm => absurd hm (kwno (by decide +kernel) n ks od)⟩, ⟨_, B33, rfl, _, _, PySem.W.mg_of hk G a33, A33, fun n ks od hm => absurd hm (kwno (by decide +kernel) n ks od)⟩, by simp⟩
  have hcs : ∀ kl ∈ pk.cs, ∃ A, KlAt K mg prog dns kl A := by
    show ∀ kl ∈ [kl_Template], _
    simp only [List.forall_mem_cons]
    have K0 : KlAt K mg prog dns kl_Template C0 := by
      refine ⟨PySem.W.mg_of hk G aC0, PySem.W.mg_of hk G aC0, ⟨pg0, ic0, po0, sa0⟩, ⟨ca0, cn0, ct0, cm0⟩, nf0, kit_self, fun f i hm => ?_, ⟨_, B16, rfl, _, _, ⟨mk0, a16, i16, kc0⟩, A16⟩, fun m g hm => ?_, fun g hm => ?_⟩
      · have hm : (f, i) ∈ [((Str.ofString "own_pieces"), 0)] := hm
        simp only [List.mem_cons, List.not_mem_nil, or_false, Prod.mk.injEq] at hm
        rcases hm with ⟨rfl, rfl⟩
        · exact ⟨P0_0, sA0_0, sG0_0, sT0_0, sY0_0, sI0_0, by decide⟩
      · have hm : (m, g) ∈ [((Str.ofString "begins"), (Str.ofString "Template.begins")), ((Str.ofString "__contains__"), (Str.ofString "Template.__contains__"))] := hm
        simp only [List.mem_cons, List.not_mem_nil, or_false, Prod.mk.injEq] at hm
        rcases hm with ⟨rfl, rfl⟩ | ⟨rfl, rfl⟩
        · exact ⟨_, B15, rfl, _, _, ⟨a15, i15, k15⟩, A15, fun n ks od hm => absurd hm (kwno (by decide +kernel) n ks od)⟩
        · exact ⟨_, B17, rfl, _, _, ⟨a17, i17, k17⟩, A17, fun n ks od hm => absurd hm (kwno (by decide +kernel) n ks od)⟩
      · exact absurd hm (eqno (by decide +kernel) g)
    exact ⟨⟨_, K0⟩, by simp⟩
  refine ⟨_, fun s v => ?_, fun base _ _ => law_ok (ps := [(Str.ofString "_law_script")]) (x := (Str.ofString "law")) rfl (levels (p := pk) rfl dns g_all hfs hcs ?_ ?_ (fun c tab hm => absurd (show (c, tab) ∈ ([] : List (Str × List (Str × Bool))) from hm) List.not_mem_nil) 40 d_law B0 fa _ A0) law⟩
  · exact .of_eq rfl
  · unfold bnames
    simp only [List.forall_mem_cons]
    exact ⟨PySem.W.mg_none_of hk G z0, PySem.W.mg_none_of hk G z1, PySem.W.mg_none_of hk G z2, PySem.W.mg_none_of hk G z3, PySem.W.mg_none_of hk G z4, PySem.W.mg_none_of hk G z5, PySem.W.mg_none_of hk G z6, PySem.W.mg_none_of hk G z7, PySem.W.mg_none_of hk G z8, PySem.W.mg_none_of hk G z9, PySem.W.mg_none_of hk G z10, PySem.W.mg_none_of hk G z11, PySem.W.mg_none_of hk G z12, PySem.W.mg_none_of hk G z13, PySem.W.mg_none_of hk G z14, PySem.W.mg_none_of hk G z15, PySem.W.mg_none_of hk G z16, by simp⟩
  · refine gl_all ?_
    show ∀ q ∈ ([((Str.ofString "TEXT"), (.str ⟨#[116, 101, 120, 116]⟩)), ((Str.ofString "FIELD"), (.str ⟨#[102, 105, 101, 108, 100]⟩))] : List (Str × PyData)), _
    simp only [List.forall_mem_cons]
    exact ⟨⟨_, .str _, PySem.W.mg_of hk G q0, ⟨_, rfl⟩, fun _ => .str _⟩, ⟨_, .str _, PySem.W.mg_of hk G q1, ⟨_, rfl⟩, fun _ => .str _⟩, by simp⟩
end En
/-! templates whose fields are followed by signs: shapes, drawing, beginnings -/
namespace En
open PySem L2
/-- fields and texts that begin with a sign, by turns -/
inductive Wl (tags : List Str) : List Pc → Prop
  | nil : Wl tags []
  | blk (t : Str) (c : Nat) (x : List Nat) {r : List Pc} : t ∈ tags → sgn c = true → Wl tags r → Wl tags ((false, t) :: (true, ⟨(c :: x).toArray⟩) :: r)
/-- maybe with a text ahead -/
def W1 (tags : List Str) (ps : List Pc) : Prop := Wl tags ps ∨ ∃ a x r, ps = (true, ⟨(a :: x).toArray⟩) :: r ∧ Wl tags r
theorem wl_snoc {tags : List Str} {ps : List Pc} (h : Wl tags ps) {t : Str} {c : Nat} {x : List Nat} (ht : t ∈ tags) (hc : sgn c = true) : Wl tags (ps ++ [(false, t), (true, ⟨(c :: x).toArray⟩)]) := by
  induction h with
  | nil => exact .blk t c x ht hc .nil
  | blk t' c' x' h1 h2 h3 ih => exact .blk t' c' x' h1 h2 ih
theorem w1_snoc {tags : List Str} {ps : List Pc} (h : W1 tags ps) {t : Str} {c : Nat} {x : List Nat} (ht : t ∈ tags) (hc : sgn c = true) : W1 tags (ps ++ [(false, t), (true, ⟨(c :: x).toArray⟩)]) := by
  rcases h with h | ⟨a, y, r, rfl, h⟩
  · exact .inl (wl_snoc h ht hc)
  · exact .inr ⟨a, y, _, rfl, wl_snoc h ht hc⟩
theorem wl_sgn {tags : List Str} {ps : List Pc} (h : Wl tags ps) : Sgn ps := by
  induction h with
  | nil => trivial
  | blk t c x _ h2 _ ih => exact ⟨⟨c, x, _, rfl, h2⟩, ih⟩
theorem w1_sgn {tags : List Str} {ps : List Pc} (h : W1 tags ps) : Sgn ps := by
  rcases h with h | ⟨a, y, r, rfl, h⟩
  · exact wl_sgn h
  · have q := wl_sgn h
    exact q
theorem wl_fd {tags : List Str} {ps : List Pc} (h : Wl tags ps) : Fd tags ps := by
  induction h with
  | nil => intro p hp; cases hp
  | blk t c x h1 _ _ ih =>
    intro p hp hf
    rcases List.mem_cons.mp hp with rfl | hp
    · exact h1
    · rcases List.mem_cons.mp hp with rfl | hp
      · cases hf
      · exact ih p hp hf
theorem w1_fd {tags : List Str} {ps : List Pc} (h : W1 tags ps) : Fd tags ps := by
  rcases h with h | ⟨a, y, r, rfl, h⟩
  · exact wl_fd h
  · intro p hp hf
    rcases List.mem_cons.mp hp with rfl | hp
    · cases hf
    · exact wl_fd h p hp hf
theorem wl_jd {tags : List Str} {ps : List Pc} (h : Wl tags ps) : Jd ps ∧ ∀ s, Jd ((true, s) :: ps) := by
  induction h with
  | nil => exact ⟨trivial, fun _ => trivial⟩
  | blk t c x _ _ _ ih =>
    have a : Jd ((false, t) :: (true, ⟨(c :: x).toArray⟩) :: _) := ⟨fun z => absurd z.1 (by simp), ih.2 _⟩
    exact ⟨a, fun s => ⟨fun z => absurd z.2 (by simp), a⟩⟩
theorem w1_jd {tags : List Str} {ps : List Pc} (h : W1 tags ps) : Jd ps := by
  rcases h with h | ⟨a, y, r, rfl, h⟩
  · exact (wl_jd h).1
  · exact (wl_jd h).2 _
theorem wl_take {tags : List Str} {ps : List Pc} (h : Wl tags ps) : ∀ k, Wl tags (ps.take k) ∨ ∃ q t, ps.take k = q ++ [(false, t)] ∧ Wl tags q := by
  induction h with
  | nil => intro k; rw [List.take_nil]; exact .inl .nil
  | blk t c x h1 h2 _ ih =>
    intro k
    match k with
    | 0 => exact .inl .nil
    | 1 => exact .inr ⟨[], t, rfl, .nil⟩
    | k + 2 =>
      rcases ih k with h | ⟨q, u, e, h⟩
      · exact .inl (.blk t c x h1 h2 h)
      · exact .inr ⟨(false, t) :: (true, ⟨(c :: x).toArray⟩) :: q, u, by rw [List.take_succ_cons, List.take_succ_cons, e]; rfl, .blk t c x h1 h2 h⟩
theorem w1_take {tags : List Str} {ps : List Pc} (h : W1 tags ps) (k : Nat) : W1 tags (ps.take k) ∨ ∃ q t, ps.take k = q ++ [(false, t)] ∧ W1 tags q := by
  rcases h with h | ⟨a, y, r, rfl, h⟩
  · rcases wl_take h k with h | ⟨q, u, e, h⟩
    · exact .inl (.inl h)
    · exact .inr ⟨q, u, e, .inl h⟩
  · match k with
    | 0 => exact .inl (.inl .nil)
    | k + 1 =>
      rcases wl_take h k with h | ⟨q, u, e, h⟩
      · exact .inl (.inr ⟨a, y, _, rfl, h⟩)
      · exact .inr ⟨(true, ⟨(a :: y).toArray⟩) :: q, u, by rw [List.take_succ_cons, e]; rfl, .inr ⟨a, y, _, rfl, h⟩⟩
theorem wl_last {tags : List Str} {ps : List Pc} (h : Wl tags ps) : ps = [] ∨ ∃ fs c x, ps = fs ++ [(true, ⟨(c :: x).toArray⟩)] ∧ Wl tags (fs ++ [(true, ⟨[c].toArray⟩)]) := by
  induction h with
  | nil => exact .inl rfl
  | blk t c x h1 h2 _ ih =>
    rcases ih with rfl | ⟨fs, d, y, rfl, h⟩
    · exact .inr ⟨[(false, t)], c, x, rfl, .blk t c [] h1 h2 .nil⟩
    · exact .inr ⟨(false, t) :: (true, ⟨(c :: x).toArray⟩) :: fs, d, y, rfl, .blk t c x h1 h2 h⟩
theorem w1_last {tags : List Str} {ps : List Pc} (h : W1 tags ps) : ps = [] ∨ ∃ fs c x, ps = fs ++ [(true, ⟨(c :: x).toArray⟩)] ∧ W1 tags (fs ++ [(true, ⟨[c].toArray⟩)]) := by
  rcases h with h | ⟨a, y, r, rfl, h⟩
  · rcases wl_last h with rfl | ⟨fs, c, x, e, h⟩
    · exact .inl rfl
    · exact .inr ⟨fs, c, x, e, .inl h⟩
  · rcases wl_last h with rfl | ⟨fs, c, x, rfl, h⟩
    · exact .inr ⟨[], a, y, rfl, .inr ⟨a, [], [], rfl, .nil⟩⟩
    · exact .inr ⟨(true, ⟨(a :: y).toArray⟩) :: fs, c, x, rfl, .inr ⟨a, y, fs ++ [(true, ⟨[c].toArray⟩)], rfl, (by assumption)⟩⟩
theorem cut1_cons (c : Nat) (x : List Nat) : L2.cutS ⟨(c :: x).toArray⟩ none (some 1) = ⟨[c].toArray⟩ := by
  have hs : Str.length ⟨(c :: x).toArray⟩ = x.length + 1 := by show (c :: x).toArray.size = _; simp
  have e0 : ¬ ((1 : Int) < 0) := by omega
  simp only [L2.cutS, HT.sIx, e0, if_false, hs, List.drop_zero, Nat.sub_zero]
  congr 1
section
variable (C : Str → List D → Hs → R D)
abbrev suE : E := .sl (.var 1) .nil (.cons (.call (Str.ofString "_law_take") false (.cons (.var 0) (.cons (.bin .Add false (.bi .len false (.cons (.var 1) .nil)) (.cst (.int (1)))) .nil))) .nil)
abbrev suN : E := .cmp .NotEq (.var 2) (.tup .nil)
abbrev suF : E := .cmp .Eq (.ix (.ix (.var 2) (.neg (.cst (.int (1))))) (.cst (.int (0)))) (.cst (.str ⟨#[102, 105, 101, 108, 100]⟩))
abbrev suD : E := .sl (.var 2) .nil (.cons (.neg (.cst (.int (1)))) .nil)
abbrev suT : E := .cmp .Eq (.call (Str.ofString "_law_take") false (.cons (.var 0) (.cons (.cst (.int (2))) .nil))) (.cst (.int (0)))
abbrev suX : E := .sl (.ix (.ix (.var 2) (.neg (.cst (.int (1))))) (.cst (.int (1)))) .nil (.cons (.cst (.int (1))) .nil)
abbrev suC : E := .bin .Add false suD (.tup (.cons (.tup (.cons (.cst (.str ⟨#[116, 101, 120, 116]⟩)) (.cons suX .nil))) .nil))
abbrev su1 : S := .ite (.bop .And (.cons suN (.cons suF .nil))) (.seq (.asg 2 suD) .nil) .nil
abbrev su2 : S := .ite (.bop .And (.cons suN (.cons suT .nil))) (.seq (.asg 2 suC) .nil) .nil
theorem su_body : f__law_start.body = .seq (.asg 2 suE) (.seq su1 (.seq su2 (.seq (.ret (.var 2)) .nil))) := rfl
theorem su_1 {n : Nat} {a1 : D} {tags : List Str} {ps : List Pc} {k : Nat} {g : Hs} (hw : W1 tags ps) : ∃ q, q <+: ps ∧ W1 tags q ∧ run C su1 [some (.cel n), some a1, some (.d (tpd (ps.take k)))] g = .ok (.nx, [some (.cel n), some a1, some (.d (tpd q))]) g := by
  have c1 := ne_nil C (ps.take k) [some (.cel n), some a1, some (.d (tpd (ps.take k)))] 2 g rfl
  have last : ∀ (fs : List Pc) (l : Pc), (sem C suF).t [some (.cel n), some a1, some (.d (tpd (fs ++ [l])))] g = .ok (!l.1) g := fun fs l => by
    have ei : (sem C (.ix (.var 2) (.neg (.cst (.int (1)))))).v [some (.cel n), some a1, some (.d (tpd (fs ++ [l])))] g = .ok (.d (pd l)) g := vix C (x := .d (tpd (fs ++ [l]))) (y := .d (.int (-1))) (h1 := g) (h2 := g) rfl rfl (ix_tpd_last fs l g)
    have ek := cmp_t C (o := .Eq) (b := .cst (.str ⟨#[102, 105, 101, 108, 100]⟩)) (vix C (b := .cst (.int 0)) (h2 := g) ei rfl (pd0 l g)) (h2 := g) (y := .d (.str sFIELD)) rfl (eq_str _ _ g)
    rw [kf] at ek
    exact ek
  rcases w1_take hw k with h | ⟨q, t, e, h⟩
  · refine ⟨ps.take k, List.take_prefix _ _, h, ?_⟩
    rcases w1_last h with e | ⟨fs, c, x, e, _⟩
    · rw [decide_eq_true e] at c1
      rw [ite_f C (and2_f C c1), run_nil]
    · rw [e] at c1 ⊢
      rw [decide_eq_false (by simp)] at c1
      rw [ite_f C (and2_t C c1 (last fs _)), run_nil]
  · refine ⟨q, ⟨(false, t) :: ps.drop k, ?_⟩, h, ?_⟩
    · have : q ++ (false, t) :: ps.drop k = (q ++ [(false, t)]) ++ ps.drop k := by simp
      rw [this, ← e, List.take_append_drop]
    · rw [e] at c1 ⊢
      rw [decide_eq_false (by simp)] at c1
      have q1 := sl_tpd_last (q ++ [(false, t)]) g
      rw [List.dropLast_concat] at q1
      have ed : (sem C suD).v [some (.cel n), some a1, some (.d (tpd (q ++ [(false, t)])))] g = .ok (.d (tpd q)) g := sl_to C (x := .d (tpd (q ++ [(false, t)]))) (y := .d (.int (-1))) (h1 := g) (h2 := g) rfl rfl q1
      rw [ite_t C (and2_t C c1 (last q (false, t)))]
      exact (seq_nx C (asg_ok C ed)).trans (run_nil C)
theorem lstart_ok (dr : Dr0 C) {n c : Nat} {h : Hs} {tags : List Str} {ps : List Pc} (hb : BoxAt n h c) (hc : c ≤ 900000) (hw : W1 tags ps) (hl : ps.length ≤ 100) (ht : tot ps ≤ 10000) :
    ∃ (f : List Pc) (h' : Hs), Beg f ps ∧ W1 tags f ∧ BoxAt n h' (c + 2) ∧ OB n h h' ∧ runF C f__law_start [.cel n, .d (tpd ps)] h = .ok (.d (tpd f)) h' := by
  have hz : sizeLine = 16777216 := sizeLine_eq
  obtain ⟨r, h1, hr, b1, o1, e1⟩ := dr.T hb (m := ((ps.length + 1 : Nat) : Int)) (by omega) (by omega) (by omega)
  have a2 : (sem C suE).v [some (.cel n), some (.d (tpd ps)), none] h = .ok (.d (tpd (ps.take r))) h1 := by
    refine sl_to C (x := .d (tpd ps)) (y := .d (.int (r : Int))) (h1 := h) (h2 := h1) rfl ?_ (sl_tpd_to ps r h1)
    exact call2 C (x := .cel n) (y := .d (.int ((ps.length + 1 : Nat) : Int))) (h1 := h) (h2 := h) rfl (vbin C (x := .d (.int (ps.length : Int))) (y := .d (.int 1)) (h1 := h) (h2 := h) (bi1 C (x := .d (tpd ps)) (h1 := h) rfl (len_tpd ps h)) rfl rfl) e1
  obtain ⟨q, qp, qw, e2⟩ := su_1 C (n := n) (a1 := .d (tpd ps)) (k := r) (g := h1) hw
  have fin : ∀ (f : List Pc) (h2 : Hs), OB n h h2 → run C su2 [some (.cel n), some (.d (tpd ps)), some (.d (tpd q))] h1 = .ok (.nx, [some (.cel n), some (.d (tpd ps)), some (.d (tpd f))]) h2 → runF C f__law_start [.cel n, .d (tpd ps)] h = .ok (.d (tpd f)) h2 := fun f h2 o e3 => by
    have e4 : run C f__law_start.body (startE f__law_start [.cel n, .d (tpd ps)]) h = .ok (.rt (.d (tpd f)), [some (.cel n), some (.d (tpd ps)), some (.d (tpd f))]) h2 := by
      show run C f__law_start.body [some (.cel n), some (.d (tpd ps)), none] h = _
      rw [su_body]
      refine (seq_nx C (asg_ok C a2)).trans ?_
      refine (seq_nx C e2).trans ?_
      refine (seq_nx C e3).trans ?_
      exact seq_rt C (ret_ok C rfl)
    rw [runF_rt C rfl e4]
    simp only [tpd, leave]
    rw [List.take_of_length_le (by rw [o.1]; omega)]
  have c1 := ne_nil C q [some (.cel n), some (.d (tpd ps)), some (.d (tpd q))] 2 h1 rfl
  rcases w1_last qw with rfl | ⟨fs, d, x, rfl, sw⟩
  · refine ⟨[], h1, .nil _, .inl .nil, b1.mono (by omega), o1, fin [] h1 o1 ?_⟩
    rw [ite_f C (and2_f C c1), run_nil]
  · rw [decide_eq_false (by simp)] at c1
    obtain ⟨r2, h2, hr2, b2, o2, e3⟩ := dr.T b1 (m := 2) (by omega) (by omega) (by omega)
    have t2 : (sem C suT).t [some (.cel n), some (.d (tpd ps)), some (.d (tpd (fs ++ [(true, ⟨(d :: x).toArray⟩)])))] h1 = .ok (decide ((r2 : Int) = 0)) h2 := cmp_t C (call2 C (x := .cel n) (y := .d (.int 2)) (h1 := h1) (h2 := h1) rfl rfl e3) (y := .d (.int 0)) (h2 := h2) rfl (eq_int _ _ h2)
    have t3 := and2_t C c1 t2
    by_cases h0 : (r2 : Int) = 0
    · rw [decide_eq_true h0] at t3
      refine ⟨fs ++ [(true, ⟨[d].toArray⟩)], h2, ?_, sw, b2.mono (by omega), o1.trans o2, fin _ h2 (o1.trans o2) ?_⟩
      · obtain ⟨r, rfl⟩ := qp
        rw [List.append_assoc]
        exact beg_app fs (.cut [d] x r)
      · have bl := (beg_len (beg_pre qp)).1
        rw [List.length_append] at bl
        have ei : (sem C (.ix (.var 2) (.neg (.cst (.int (1)))))).v [some (.cel n), some (.d (tpd ps)), some (.d (tpd (fs ++ [(true, ⟨(d :: x).toArray⟩)])))] h2 = .ok (.d (pd (true, ⟨(d :: x).toArray⟩))) h2 := vix C (x := .d (tpd (fs ++ [(true, ⟨(d :: x).toArray⟩)]))) (y := .d (.int (-1))) (h1 := h2) (h2 := h2) rfl rfl (ix_tpd_last fs _ h2)
        have tq := (beg_len (beg_pre qp)).2
        have tm : Str.length ⟨(d :: x).toArray⟩ ≤ tot (fs ++ [((true, ⟨(d :: x).toArray⟩) : Pc)]) := tot_mem (p := (true, ⟨(d :: x).toArray⟩)) (List.mem_append_right _ List.mem_cons_self)
        have es : slD (.d (.str ⟨(d :: x).toArray⟩)) none (some (.d (.int 1))) h2 = .ok (.d (.str ⟨[d].toArray⟩)) h2 := by
          simp only [slD, bnd]
          rw [if_pos (by omega), cut1_cons]
        have ex : (sem C suX).v [some (.cel n), some (.d (tpd ps)), some (.d (tpd (fs ++ [(true, ⟨(d :: x).toArray⟩)])))] h2 = .ok (.d (.str ⟨[d].toArray⟩)) h2 := sl_to C (vix C ei (y := .d (.int 1)) (b := .cst (.int 1)) (h2 := h2) rfl (pd1 _ h2)) (y := .d (.int 1)) (h2 := h2) rfl es
        have q1 := sl_tpd_last (fs ++ [(true, ⟨(d :: x).toArray⟩)]) h2
        rw [List.dropLast_concat] at q1
        have ed : (sem C suD).v [some (.cel n), some (.d (tpd ps)), some (.d (tpd (fs ++ [(true, ⟨(d :: x).toArray⟩)])))] h2 = .ok (.d (tpd fs)) h2 := sl_to C (x := .d (tpd (fs ++ [(true, ⟨(d :: x).toArray⟩)]))) (y := .d (.int (-1))) (h1 := h2) (h2 := h2) rfl rfl q1
        have ec := vbin C (m := false) ed (tup1 C (tup2 C (a := .cst (.str ⟨#[116, 101, 120, 116]⟩)) (x := .str sTEXT) (h1 := h2) rfl ex)) (cat_tpd fs [(true, ⟨[d].toArray⟩)] h2 (by show fs.length + 1 ≤ 10000; simp only [List.length_singleton] at bl; omega))
        rw [ite_t C t3]
        exact (seq_nx C (asg_ok C ec)).trans (run_nil C)
    · rw [decide_eq_false h0] at t3
      refine ⟨_, h2, beg_pre qp, qw, b2.mono (by omega), o1.trans o2, fin _ h2 (o1.trans o2) ?_⟩
      rw [ite_f C t3, run_nil]
end
end En
/-! a drawn template with signs -/
namespace En
open PySem L2
section
variable (C : Str → List D → Hs → R D)
abbrev sgA : List Str := [⟨#[97]⟩, ⟨#[108, 111, 99, 107, 45]⟩, ⟨#[120, 46]⟩]
abbrev sgB : List Str := [⟨#[45]⟩, ⟨#[46]⟩, ⟨#[45, 97]⟩, ⟨#[45, 49, 46]⟩, ⟨#[46, 120, 45]⟩]
abbrev sgAE : E := .lst false (.cons (.cst (.str ⟨#[97]⟩)) (.cons (.cst (.str ⟨#[108, 111, 99, 107, 45]⟩)) (.cons (.cst (.str ⟨#[120, 46]⟩)) .nil)))
abbrev sgBE : E := .lst false (.cons (.cst (.str ⟨#[45]⟩)) (.cons (.cst (.str ⟨#[46]⟩)) (.cons (.cst (.str ⟨#[45, 97]⟩)) (.cons (.cst (.str ⟨#[45, 49, 46]⟩)) (.cons (.cst (.str ⟨#[46, 120, 45]⟩)) .nil)))))
abbrev sg2 : E := .bin .Mult false (.lst false (.cons (.tup (.cons (.cst (.str ⟨#[116, 101, 120, 116]⟩)) (.cons (.call (Str.ofString "_law_of") false (.cons (.var 0) (.cons sgAE .nil))) .nil))) .nil)) (.call (Str.ofString "_law_take") false (.cons (.var 0) (.cons (.cst (.int (2))) .nil)))
abbrev sgF : E := .tup (.cons (.cst (.str ⟨#[102, 105, 101, 108, 100]⟩)) (.cons (.call (Str.ofString "_law_of") false (.cons (.var 0) (.cons (.var 1) .nil))) .nil))
abbrev sgT : E := .tup (.cons (.cst (.str ⟨#[116, 101, 120, 116]⟩)) (.cons (.call (Str.ofString "_law_of") false (.cons (.var 0) (.cons sgBE .nil))) .nil))
abbrev sg3 : E := .bin .Add false (.var 2) (.lst false (.cons sgF (.cons sgT .nil)))
abbrev sgS : S := .seq (.asg 2 sg3) .nil
theorem sg_body : f__law_signed.body = .seq (.asg 2 sg2) (.seq (.for_ (.nm 3) (.rng (.bin .Add false (.cst (.int ((1 : Nat) : Int))) (.call (Str.ofString "_law_take") false (.cons (.var 0) (.cons (.cst (.int (3))) .nil))))) sgS) (.seq (.ret (.bi .tuple false (.cons (.var 2) .nil))) .nil)) := rfl
theorem sgAE_ok (σ : Env) (h : Hs) : (sem C sgAE).v σ h = .ok (.d (.list (sgA.map .str))) h := by
  have hz : sizeLine = 16777216 := sizeLine_eq
  simp [sem, mkV, smCons, smNil, R.bind, lstD, plainL, mkL, hz, noX_ok]
theorem sgBE_ok (σ : Env) (h : Hs) : (sem C sgBE).v σ h = .ok (.d (.list (sgB.map .str))) h := by
  have hz : sizeLine = 16777216 := sizeLine_eq
  simp [sem, mkV, smCons, smNil, R.bind, lstD, plainL, mkL, hz, noX_ok]
theorem sgA_is {v : PyData} (h : v ∈ sgA.map PyData.str) : ∃ a x, v = .str ⟨(a :: x).toArray⟩ ∧ Str.length ⟨(a :: x).toArray⟩ ≤ 5 := by
  simp only [List.map_cons, List.map_nil, List.mem_cons, List.not_mem_nil, or_false] at h
  rcases h with rfl | rfl | rfl <;> exact ⟨_, _, rfl, by decide⟩
theorem sgB_is {v : PyData} (h : v ∈ sgB.map PyData.str) : ∃ a x, v = .str ⟨(a :: x).toArray⟩ ∧ Str.length ⟨(a :: x).toArray⟩ ≤ 5 ∧ sgn a = true := by
  simp only [List.map_cons, List.map_nil, List.mem_cons, List.not_mem_nil, or_false] at h
  rcases h with rfl | rfl | rfl | rfl | rfl <;> exact ⟨_, _, rfl, by decide, by decide⟩
abbrev sgL : D → Env → Hs → R (Fl × Env) := fun x σ1 h2 => match bindTg (.nm 3) x σ1 with
  | some σ2 => run C sgS σ2 h2
  | none => .no
abbrev sgE (n : Nat) (tags : List Str) (ps : List Pc) (z : Option D) : Env := [some (.cel n), some (.d (tst tags)), some (.d (.list (ps.map pd))), z]
theorem sg_step (dr : Dr0 C) {n c : Nat} {g : Hs} {tags : List Str} {ps : List Pc} {z : Option D} (hb : BoxAt n g c) (hc : c ≤ 900000) (hw : W1 tags ps) (hp : 0 < tags.length) (hp2 : tags.length ≤ 5) (ht5 : ∀ t ∈ tags, t ∈ T5) (hl : ps.length ≤ 100) :
    ∃ (qs : List Pc) (g' : Hs), W1 tags qs ∧ qs.length = ps.length + 2 ∧ tot qs ≤ tot ps + 9 ∧ BoxAt n g' (c + 2) ∧ OB n g g' ∧ run C sgS (sgE n tags ps z) g = .ok (.nx, sgE n tags qs z) g' := by
  obtain ⟨v1, g1, m1, b1, o1, e1⟩ := dr.O hb (w := tst tags) (xs := tags.map .str) (.inr rfl) (by simpa using hp) (by simp; omega) (by omega)
  obtain ⟨v2, g2, m2, b2, o2, e2⟩ := dr.O b1 (w := .list (sgB.map .str)) (xs := sgB.map .str) (.inl rfl) (by simp) (by simp) (by omega)
  obtain ⟨t, tm, rfl⟩ := List.mem_map.mp m1
  obtain ⟨a, x, rfl, l2, s2⟩ := sgB_is m2
  have lt : t.length ≤ 4 := by
    have := ht5 t tm
    simp only [List.mem_cons, List.not_mem_nil, or_false] at this
    rcases this with rfl | rfl | rfl | rfl | rfl <;> decide
  have f1 : (sem C sgF).v (sgE n tags ps z) g = .ok (.d (pd (false, t))) g1 := tup2 C (x := .str sFIELD) (h1 := g) rfl (call2 C (x := .cel n) (y := .d (tst tags)) (h1 := g) (h2 := g) rfl rfl e1)
  have f2 : (sem C sgT).v (sgE n tags ps z) g1 = .ok (.d (pd (true, ⟨(a :: x).toArray⟩))) g2 := tup2 C (x := .str sTEXT) (h1 := g1) rfl (call2 C (x := .cel n) (h1 := g1) rfl (sgBE_ok C _ _) e2)
  have f3 : (sem C sg3).v (sgE n tags ps z) g = .ok (.d (.list ((ps ++ [(false, t), (true, ⟨(a :: x).toArray⟩)]).map pd))) g2 := vbin C (x := .d (.list (ps.map pd))) (h1 := g) rfl (lst2 C f1 f2) (cat_list pd ps [(false, t), (true, ⟨(a :: x).toArray⟩)] g2 (by show ps.length + 2 ≤ 10000; omega))
  refine ⟨ps ++ [(false, t), (true, ⟨(a :: x).toArray⟩)], g2, w1_snoc hw tm s2, by simp, ?_, b2, o1.trans o2, ?_⟩
  · rw [tot_app]
    simp only [tot]
    omega
  · exact (seq_nx C (asg_ok C f3)).trans (run_nil C)
theorem sg_loop (dr : Dr0 C) {n : Nat} {tags : List Str} (hp : 0 < tags.length) (hp2 : tags.length ≤ 5) (ht5 : ∀ t ∈ tags, t ∈ T5) : ∀ (ds : List D) (c : Nat) (g : Hs) (ps : List Pc) (z : Option D), BoxAt n g c → c + 2 * ds.length ≤ 900000 → W1 tags ps → ps.length + 2 * ds.length ≤ 100 →
    ∃ (qs : List Pc) (g' : Hs) (z' : Option D), W1 tags qs ∧ qs.length ≤ ps.length + 2 * ds.length ∧ tot qs ≤ tot ps + 9 * ds.length ∧ BoxAt n g' (c + 2 * ds.length) ∧ OB n g g' ∧ loopF (sgL C) ds (sgE n tags ps z) g = .ok (.nx, sgE n tags qs z') g'
  | [], c, g, ps, z, hb, _, hw, _ => ⟨ps, g, z, hw, by simp, by simp, hb, OB.refl n g, loop_nil⟩
  | x :: ds, c, g, ps, z, hb, hc, hw, hl => by
    rw [List.length_cons] at hc hl
    obtain ⟨qs, g1, w1, l1, t1, b1, o1, e1⟩ := sg_step C dr (z := some x) hb (by omega) hw hp hp2 ht5 (by omega)
    obtain ⟨rs, g2, z', w2, l2, t2, b2, o2, e2⟩ := sg_loop dr hp hp2 ht5 ds (c + 2) g1 qs (some x) b1 (by omega) w1 (by omega)
    refine ⟨rs, g2, z', w2, by rw [List.length_cons]; omega, by rw [List.length_cons]; omega, b2.mono (by rw [List.length_cons]; omega), o1.trans o2, ?_⟩
    have st : sgL C x (sgE n tags ps z) g = .ok (.nx, sgE n tags qs (some x)) g1 := e1
    exact (loop_nx st).trans e2
theorem lst1 {a : E} {σ : Env} {h h1 : Hs} {x : PyData} (ha : (sem C a).v σ h = .ok (.d x) h1) : (sem C (.lst false (.cons a .nil))).v σ h = .ok (.d (.list [x])) h1 := by
  have hz : sizeLine = 16777216 := sizeLine_eq
  have e : (sem C (.lst false (.cons a .nil))).v σ h = (((sem C a).v σ h).bind fun x h1 => (R.ok [] h1).bind fun xs h2 => .ok (x :: xs) h2).bind fun ds h1 => noX (lstD false ds h1) := rfl
  rw [e, ha]
  show noX (lstD false [.d x] h1) = _
  simp [lstD, mkL, plainL, hz, noX_ok]
theorem signed_ok (dr : Dr0 C) {n c : Nat} {h : Hs} {tags : List Str} (hb : BoxAt n h c) (hc : c ≤ 800000) (hp : 0 < tags.length) (hp2 : tags.length ≤ 5) (ht5 : ∀ t ∈ tags, t ∈ T5) :
    ∃ (ps : List Pc) (h' : Hs), W1 tags ps ∧ ps.length ≤ 7 ∧ tot ps ≤ 100 ∧ BoxAt n h' (c + 20) ∧ OB n h h' ∧ runF C f__law_signed [.cel n, .d (tst tags)] h = .ok (.d (tpd ps)) h' := by
  have hz : sizeLine = 16777216 := sizeLine_eq
  obtain ⟨v1, g1, m1, b1, o1, e1⟩ := dr.O hb (w := .list (sgA.map .str)) (xs := sgA.map .str) (.inl rfl) (by simp) (by simp) (by omega)
  obtain ⟨a, x, rfl, l1⟩ := sgA_is m1
  obtain ⟨r, g2, hr, b2, o2, e2⟩ := dr.T b1 (m := 2) (by omega) (by omega) (by omega)
  have f1 : (sem C (.lst false (.cons (.tup (.cons (.cst (.str ⟨#[116, 101, 120, 116]⟩)) (.cons (.call (Str.ofString "_law_of") false (.cons (.var 0) (.cons sgAE .nil))) .nil))) .nil))).v [some (.cel n), some (.d (tst tags)), none, none] h = .ok (.d (.list [pd (true, ⟨(a :: x).toArray⟩)])) g1 := lst1 C (tup2 C (x := .str sTEXT) (h1 := h) rfl (call2 C (x := .cel n) (h1 := h) rfl (sgAE_ok C _ _) e1))
  have f2 : ∃ ps : List Pc, W1 tags ps ∧ ps.length ≤ 1 ∧ tot ps ≤ 5 ∧ (sem C sg2).v [some (.cel n), some (.d (tst tags)), none, none] h = .ok (.d (.list (ps.map pd))) g2 := by
    have q := fun (y : D) (hy : binD .Mult false (.d (.list [pd (true, ⟨(a :: x).toArray⟩)])) (.d (.int (r : Int))) g2 = .ok y g2) => vbin C (o := .Mult) (m := false) f1 (call2 C (f := Str.ofString "_law_take") (a := .var 0) (b := .cst (.int 2)) (x := .cel n) (y := .d (.int 2)) (h1 := g1) (h2 := g1) rfl rfl e2) hy
    have r2 : r = 0 ∨ r = 1 := by omega
    rcases r2 with rfl | rfl
    · refine ⟨[], .inl .nil, by simp, by simp [tot], q _ ?_⟩
      show mulD false (.d (.list [pd (true, ⟨(a :: x).toArray⟩)])) 0 g2 = _
      simp [mulD, vwL, mkL, hz]
    · refine ⟨[(true, ⟨(a :: x).toArray⟩)], .inr ⟨a, x, [], rfl, .nil⟩, by simp, by simp only [tot]; omega, q _ ?_⟩
      show mulD false (.d (.list [pd (true, ⟨(a :: x).toArray⟩)])) 1 g2 = _
      simp [mulD, vwL, mkL, hz]
  obtain ⟨ps, w1, p1, t1, f2⟩ := f2
  obtain ⟨r3, g3, lr3, b3, o3, t3⟩ := add_take C dr (k := 1) (m := 3) (g := g2) (h1 := g2) (σ := [some (.cel n), some (.d (tst tags)), some (.d (.list (ps.map pd))), none]) (d := .cst (.int 3)) rfl rfl b2 (by omega) (by omega) (by omega)
  obtain ⟨qs, g4, z4, w4, l4, t4, b4, o4, e4⟩ := sg_loop C dr hp hp2 ht5 (rngP 0 (1 + r3)) (c + 1 + 1 + 1) g3 ps none b3 (by rw [rngP_ln]; omega) w1 (by rw [rngP_ln]; omega)
  rw [rngP_ln] at l4 t4 b4
  have ef : run C (.for_ (.nm 3) (.rng (.bin .Add false (.cst (.int ((1 : Nat) : Int))) (.call (Str.ofString "_law_take") false (.cons (.var 0) (.cons (.cst (.int (3))) .nil))))) sgS) [some (.cel n), some (.d (tst tags)), some (.d (.list (ps.map pd))), none] g2 = .ok (.nx, sgE n tags qs z4) g4 := by
    rw [run, rng_it C (z := 1 + r3) (h1 := g3) t3 (by omega), bs_ok]
    exact e4
  have oo : OB n h g4 := ((o1.trans o2).trans o3).trans o4
  have e5 : run C f__law_signed.body (startE f__law_signed [.cel n, .d (tst tags)]) h = .ok (.rt (.d (tpd qs)), sgE n tags qs z4) g4 := by
    show run C f__law_signed.body [some (.cel n), some (.d (tst tags)), none, none] h = _
    rw [sg_body]
    refine (seq_nx C (asg_ok C f2)).trans ?_
    refine (seq_nx C ef).trans ?_
    exact seq_rt C (ret_ok C (bi1 C (x := .d (.list (qs.map pd))) (h1 := g4) rfl rfl))
  refine ⟨qs, g4, w4, by omega, by omega, b4.mono (by omega), oo, ?_⟩
  rw [runF_rt C rfl e5]
  simp only [tpd, leave]
  rw [List.take_of_length_le (by rw [oo.1]; omega)]
end
end En
/-! one job with signs: plain facts -/
namespace En
open PySem L2
/-- the places of the fields of a template -/
def mineL (tags : List Str) (f : List Pc) : List Nat := (List.range tags.length).filter fun k => decide ((false, tags.getD k ⟨#[]⟩) ∈ f)
theorem mine_mem {tags : List Str} {f : List Pc} {k : Nat} : k ∈ mineL tags f ↔ ∃ x, tags[k]? = some x ∧ (false, x) ∈ f := by
  unfold mineL
  rw [List.mem_filter, List.mem_range, decide_eq_true_eq]
  constructor
  · rintro ⟨h1, h2⟩
    refine ⟨tags[k], List.getElem?_eq_getElem h1, ?_⟩
    rw [List.getD_eq_getElem?_getD, List.getElem?_eq_getElem h1] at h2
    exact h2
  · rintro ⟨x, h1, h2⟩
    refine ⟨(List.getElem?_eq_some_iff.mp h1).1, ?_⟩
    rw [List.getD_eq_getElem?_getD, h1]
    exact h2
theorem agr_mine {tags s t : List Str} {f : List Pc} (hn : tags.Nodup) (hf : Fd tags f) (hs : s.length = tags.length) (ht : t.length = tags.length) : Agr (vl tags s) (vl tags t) f ↔ ∀ k ∈ mineL tags f, s[k]? = t[k]? := by
  constructor
  · intro h k hk
    obtain ⟨x, h1, h2⟩ := mine_mem.mp hk
    have hl := (List.getElem?_eq_some_iff.mp h1).1
    have e1 : s[k]? = some s[k] := List.getElem?_eq_getElem (by omega)
    have e2 : t[k]? = some t[k] := List.getElem?_eq_getElem (by omega)
    have := h _ h2 rfl
    rw [vl_get hn h1 e1, vl_get hn h1 e2] at this
    rw [e1, e2, this]
  · intro h p hp hk
    have hm := hf p hp hk
    obtain ⟨k, hl, e⟩ := List.mem_iff_getElem.mp hm
    have h1 : tags[k]? = some p.2 := by rw [List.getElem?_eq_getElem hl, e]
    have e1 : s[k]? = some s[k] := List.getElem?_eq_getElem (by omega)
    have e2 : t[k]? = some t[k] := List.getElem?_eq_getElem (by omega)
    have hp2 : (false, p.2) ∈ f := by
      have : p = (false, p.2) := by rw [← hk]
      rw [this] at hp
      exact hp
    have := h k (mine_mem.mpr ⟨p.2, h1, hp2⟩)
    rw [e1, e2, Option.some.injEq] at this
    rw [vl_get hn h1 e1, vl_get hn h1 e2, this]
theorem vl_mem (tags s : List Str) (x : Str) : vl tags s x = ⟨#[]⟩ ∨ vl tags s x ∈ s := by
  unfold vl
  induction tags generalizing s with
  | nil => exact .inl rfl
  | cons t tags ih =>
    cases s with
    | nil => exact .inl rfl
    | cons w s =>
      rw [List.zip_cons_cons, List.lookup_cons]
      by_cases h : x = t
      · subst h
        simp
      · have h' : (x == t) = false := by simp [h]
        rw [h']
        rcases ih s with h | h
        · exact .inl h
        · exact .inr (List.mem_cons_of_mem _ h)
def FreeS (s : List Str) : Prop := ∀ w ∈ s, Free w.cps.toList
theorem vl_free {tags s : List Str} (h : FreeS s) (x : Str) : Free (vl tags s x).cps.toList := by
  rcases vl_mem tags s x with e | e
  · rw [e]
    intro c hc
    simp at hc
  · exact h _ e
theorem w7_free {i : Nat} {s : List Str} (h : Gs i s) : FreeS s ∧ ∀ w ∈ s, w.length ≤ 100 := by
  have : ∀ w ∈ W7, Free w.cps.toList ∧ w.length ≤ 100 := by
    intro w hw
    simp only [List.mem_cons, List.not_mem_nil, or_false] at hw
    rcases hw with rfl | rfl | rfl | rfl | rfl | rfl | rfl <;> exact ⟨by intro c hc; simp at hc; rcases hc with rfl | rfl <;> rfl, by decide⟩
  exact ⟨fun w hw => (this w (h.2 w hw)).1, fun w hw => (this w (h.2 w hw)).2⟩
/-- a plan of one job with signs -/
structure Sc (tags : List Str) (st : List (List Str)) (j : Jb) : Prop where
  nd : tags.Nodup
  le : tags.length ≤ 5
  st1 : ∀ s ∈ st, St1 tags s
  fr : ∀ s ∈ st, FreeS s
  few : st.length ≤ 1000
  key : W1 tags j.key
  kl : j.key.length ≤ 100
  kt : tot j.key ≤ 1000
  pre : ∀ f ∈ j.pre, Beg f j.key ∧ W1 tags f
  prl : j.pre.length ≤ 1000
section
variable {tags : List Str} {st : List (List Str)} {j : Jb}
theorem Sc.wn (sc : Sc tags st j) : WfN [j] := fun i hi => by
  rw [List.mem_singleton] at hi
  subst hi
  simp
theorem Sc.fj (sc : Sc tags st j) : [j].find? (fun i => decide (i.nm = j.nm)) = some j := sc.wn j List.mem_cons_self
theorem Sc.wf (sc : Sc tags st j) : WfP tags st [j] where
  nd := sc.nd
  few := by have := sc.le; omega
  sts := sc.st1
  stl := sc.few
  jsl := by simp
  key := fun i hi => by
    rw [List.mem_singleton] at hi
    subst hi
    have := sc.kl
    have := sc.kt
    exact ⟨w1_fd sc.key, by omega, by omega⟩
  pre := fun i hi p hp => by
    rw [List.mem_singleton] at hi
    subst hi
    have := sc.kl
    have := sc.kt
    have b := beg_len (sc.pre p hp).1
    exact ⟨w1_fd (sc.pre p hp).2, by omega, by omega⟩
  prl := fun i hi => by
    rw [List.mem_singleton] at hi
    subst hi
    exact sc.prl
theorem Sc.cl (sc : Sc tags st j) : (cas st [j]).length ≤ 1000 := by
  rw [cas_len]
  have := sc.few
  simp
  omega
theorem Sc.cb (sc : Sc tags st j) : st.length * (cas st [j]).length ≤ 16000000 := by
  have := Nat.mul_le_mul sc.few sc.cl
  omega
theorem Sc.bl (sc : Sc tags st j) (p : List Pc) : (bgn tags p (cas st [j]) st).length ≤ 16000000 := by
  refine Nat.le_trans ?_ sc.cb
  unfold bgn
  generalize cas st [j] = cs
  clear sc
  induction st with
  | nil => simp
  | cons s st ih =>
    rw [List.flatMap_cons, List.length_append, List.length_cons, Nat.succ_mul, List.length_map]
    have : (bg1 tags p cs s).length ≤ cs.length := List.length_filter_le _ _
    omega
theorem Sc.cs (sc : Sc tags st j) {q : Jb × List Str} (h : q ∈ cas st [j]) : q.1 = j ∧ q.2 ∈ st := by
  obtain ⟨a, b⟩ := cas_mem h
  exact ⟨List.mem_singleton.mp a, b⟩
/-- what begins, by the fields -/
theorem Sc.starts (sc : Sc tags st j) {f : List Pc} (hf : f ∈ j.pre) {s t : List Str} (hs : s ∈ st) (ht : t ∈ st) : Txt.startswith (tx (vl tags t) j.key) (tx (vl tags s) f) = true ↔ Agr (vl tags s) (vl tags t) f := by
  rw [← beg_iff (vl_free (sc.fr s hs)) (vl_free (sc.fr t ht)) (sc.pre f hf).1 (w1_sgn (sc.pre f hf).2)]
  constructor
  · intro h
    have := pre_starts h
    simpa [tx] using this
  · intro h
    exact starts_pre (by simpa [tx] using h)
theorem Sc.begun (sc : Sc tags st j) {f : List Pc} (hf : f ∈ j.pre) {x : List Str × (Jb × List Str)} (hx : x ∈ bgn tags f (cas st [j]) st) : Agr (vl tags x.1) (vl tags x.2.2) f ∧ x.1 ∈ st ∧ x.2.2 ∈ st ∧ x.2.1 = j := by
  obtain ⟨a, b, c⟩ := bgn_mem hx
  obtain ⟨d, e⟩ := sc.cs b
  rw [d] at c
  exact ⟨(sc.starts hf a e).mp c, a, e, d⟩
theorem Sc.acc (sc : Sc tags st j) {f : List Pc} (hf : f ∈ j.pre) {x : List Str × (Jb × List Str)} (hx : x ∈ bgn tags f (cas st [j]) st) : dobR (rws (vl tags x.1) f) (rws (vl tags x.2.2) x.2.1.key) = true := by
  obtain ⟨a, _, _, d⟩ := sc.begun hf hx
  rw [d]
  exact beg_dob (sc.pre f hf).1 a
theorem Sc.held (sc : Sc tags st j) {f : List Pc} (hf : f ∈ j.pre) {k : Nat} {x : Str} (hk : k ∈ mineL tags f) (hx : tags[k]? = some x) : x ∈ heldL tags (bgn tags f (cas st [j]) st) := by
  unfold heldL
  refine List.mem_map.mpr ⟨(x, k), List.mem_filter.mpr ⟨?_, ?_⟩, rfl⟩
  · rw [List.mk_mem_zipIdx_iff_getElem?]
    exact hx
  · rw [List.all_eq_true]
    intro b hb
    obtain ⟨y, hy, rfl⟩ := List.mem_map.mp hb
    obtain ⟨a, b, c, _⟩ := sc.begun hf hy
    show alk k y = true
    unfold alk
    rw [decide_eq_true_eq]
    exact (agr_mine sc.nd (w1_fd (sc.pre f hf).2) (sc.st1 _ b).1 (sc.st1 _ c).1).mp a k hk
theorem Sc.tw (sc : Sc tags st j) : ∀ q ∈ cas st [j], ∀ r ∈ cas st [j], tx (vl tags q.2) q.1.key = tx (vl tags r.2) r.1.key → rws (vl tags q.2) q.1.key = rws (vl tags r.2) r.1.key := by
  intro q hq r hr h
  obtain ⟨a, b⟩ := sc.cs hq
  obtain ⟨c, d⟩ := sc.cs hr
  rw [a, c] at h ⊢
  exact key_rows (vl_free (sc.fr _ b)) (vl_free (sc.fr _ d)) (w1_sgn sc.key) h
end
end En
/-! one job with signs: the walk -/
namespace En
open PySem L2
/-- what is called, for such a plan -/
structure Kf (C : Str → List D → Hs → R D) : Prop where
  A : ∀ {tags : List Str} {st : List (List Str)} {j : Jb} {k : Nat} {f : List Pc} {h : Hs}, Sc tags st j → j.pre[k]? = some f → C (Str.ofString "accident") [.d (plD tags st [j]), .d (.str j.nm), .d (.int (k : Int))] h = .ok (.d .none) h
  H : ∀ {tags : List Str} {st : List (List Str)} {j : Jb} {k : Nat} {f : List Pc} {h : Hs}, Sc tags st j → j.pre[k]? = some f → C (Str.ofString "held") [.d (plD tags st [j]), .d (.str j.nm), .d (.int (k : Int))] h = .ok (.d (tst (heldL tags (bgn tags f (cas st [j]) st)))) h
  T : ∀ {tags : List Str} {st : List (List Str)} {j : Jb} {h : Hs}, Sc tags st j → C (Str.ofString "twins") [.d (plD tags st [j])] h = .ok (.d (.list [])) h
  X : ∀ {tags s : List Str} {st : List (List Str)} {j : Jb} {h : Hs}, Sc tags st j → s ∈ st → C (Str.ofString "prefix_texts") [.d (plD tags st [j]), .d (caD j.nm s)] h = .ok (.d (.list (j.pre.map fun p => .str (tx (vl tags s) p)))) h
  K : ∀ {tags s : List Str} {st : List (List Str)} {j : Jb} {h : Hs}, Sc tags st j → s ∈ st → C (Str.ofString "key_text") [.d (plD tags st [j]), .d (caD j.nm s)] h = .ok (.d (.str (tx (vl tags s) j.key))) h
  I : ∀ {ps : List Pc} {h : Hs}, Jd ps → ps.length ≤ 100 → tot ps ≤ 1000 → C sI [.cel (h.length + 1), .d (tpd ps)] (h ++ [Cell.dead, Cell.ins sT []]) = .ok (.d .none) ((h ++ [Cell.dead, Cell.ins sT []]).set (h.length + 1) (.ins sT [some (tpd ps)]))
  G : ∀ {ps qs : List Pc} {h : Hs}, C (Str.ofString "Template.begins") [.ins sT [tpd ps], .ins sT [tpd qs]] h = .ok (.d (.bool (dob ps qs))) h
  N : ∀ {ps : List Pc} {x : Str} {h : Hs}, C (Str.ofString "Template.__contains__") [.ins sT [tpd ps], .d (.str x)] h = .ok (.d (.bool (decide ((false, x) ∈ ps)))) h
section
variable (C : Str → List D → Hs → R D)
abbrev i0 : E := .cst (.int 0)
abbrev i1 : E := .cst (.int 1)
abbrev i2 : E := .cst (.int 2)
abbrev srM (a : E) : E := .make sT sI (.cons a .nil)
abbrev srN : E := .ino sT (Str.ofString "Template.__contains__") (.ix (.ix (.var 0) i0) (.var 9)) (srM (.var 3))
abbrev sr4 : E := .lc false [9] (.nm 9) (.rng (.bi .len false (.cons (.ix (.var 0) i0) .nil))) (.cons srN .nil) (.var 9)
abbrev srA : E := .call (Str.ofString "accident") false (.cons (.var 0) (.cons (.ix (.var 1) i0) (.cons (.var 2) .nil)))
abbrev srB : E := .mcl sT (Str.ofString "begins") (Str.ofString "Template.begins") (srM (.var 3)) (.cons (srM (.ix (.var 1) i1)) .nil)
abbrev sr5 : S := .ite (.bop .Or (.cons (.not srB) (.cons (.cmp .IsNot srA (.cst .none)) .nil))) (.seq (.ret (.cst (.bool false))) .nil) .nil
abbrev sr6 : E := .ix (.call (Str.ofString "prefix_texts") false (.cons (.var 0) (.cons (.tup (.cons (.ix (.var 1) i0) (.cons (.var 5) .nil))) .nil))) (.var 2)
abbrev srD : E := .lc false [9] (.nm 9) (.var 4) (.cons (.cmp .NotEq (.ix (.var 5) (.var 9)) (.ix (.var 7) (.var 9))) .nil) (.var 9)
abbrev srK : E := .call (Str.ofString "key_text") false (.cons (.var 0) (.cons (.tup (.cons (.ix (.var 1) i0) (.cons (.var 7) .nil))) .nil))
abbrev srI : S := .seq (.asg 8 (.cmp .Eq srD (.lst false .nil))) (.seq (.ite (.cmp .NotEq (.mth .startswith srK (.cons (.var 6) .nil)) (.var 8)) (.seq (.ret (.cst (.bool false))) .nil) .nil) .nil)
abbrev srJ : S := .seq (.asg 6 sr6) (.seq (.for_ (.nm 7) (.ix (.var 0) i1) srI) .nil)
abbrev srH : E := .lc false [9] (.nm 9) (.var 4) (.cons (.cmp .NotIn (.ix (.ix (.var 0) i0) (.var 9)) (.call (Str.ofString "held") false (.cons (.var 0) (.cons (.ix (.var 1) i0) (.cons (.var 2) .nil))))) .nil) (.var 9)
abbrev sr7 : S := .ite (.cmp .NotEq srH (.lst false .nil)) (.seq (.ret (.cst (.bool false))) .nil) .nil
abbrev srO : S := .seq (.asg 3 (.ix (.ix (.var 1) i2) (.var 2))) (.seq (.asg 4 sr4) (.seq sr5 (.seq (.for_ (.nm 5) (.ix (.var 0) i1) srJ) (.seq sr7 .nil))))
theorem sr_body : f__law_scheme_right.body = .seq (.asg 1 (.ix (.ix (.var 0) i2) i0)) (.seq (.for_ (.nm 2) (.rng (.bi .len false (.cons (.ix (.var 1) i2) .nil))) srO) (.seq (.ret (.cmp .Eq (.call (Str.ofString "twins") false (.cons (.var 0) .nil)) (.lst false .nil))) .nil)) := rfl
theorem eqv_nats (l : List Nat) (h : Hs) : cmpD .Eq (.d (.list (l.map fun k : Nat => PyData.int (k : Int)))) (.d (.list [])) h = .ok (.d (.bool l.isEmpty)) h ∧ cmpD .NotEq (.d (.list (l.map fun k : Nat => PyData.int (k : Int)))) (.d (.list [])) h = .ok (.d (.bool (!l.isEmpty))) h := by
  have sh : shal (.list (l.map fun k : Nat => PyData.int (k : Int))) (.list []) = true := by
    have e : (PyData.list (l.map fun k : Nat => PyData.int (k : Int))).plain = true := by
      simp only [PyData.plain]
      induction l with
      | nil => simp [PyData.plainAll]
      | cons k l ih => simp [PyData.plainAll, PyData.plain, ih]
    have d0 : (PyData.list []).depth ≤ 2 := by simp [PyData.depth, PyData.depthAll]
    have e2 : (PyData.list []).plain = true := by simp [PyData.plain, PyData.plainAll]
    rw [shal, e, e2, decide_eq_true (Nat.le_trans (Nat.min_le_right _ _) (by omega))]
    rfl
  cases l with
  | nil =>
    rw [List.map_nil] at sh ⊢
    simp [cmpD, snp, cmpP, sh, PyData.eqv, PyData.eqvAll]
  | cons k l => 
    simp only [List.map_cons] at sh ⊢
    simp [cmpD, snp, cmpP, sh, PyData.eqv, PyData.eqvAll]
theorem lst0 (σ : Env) (h : Hs) : (sem C (.lst false .nil)).v σ h = .ok (.d (.list [])) h := by
  have hz : sizeLine = 16777216 := sizeLine_eq
  simp [sem, mkV, smNil, R.bind, lstD, plainL, mkL, hz, noX_ok]
theorem nat_it (l : List Nat) : seqD (.d (.list (l.map fun k : Nat => PyData.int (k : Int)))) = some (l.map fun k : Nat => D.d (.int (k : Int))) := by
  simp [seqD]
theorem bools_cmp (a b : Bool) (h : Hs) : cmpD .NotEq (.d (.bool a)) (.d (.bool b)) h = .ok (.d (.bool (!(a == b)))) h := by
  cases a <;> cases b <;> rfl
section
variable {tags : List Str} {st : List (List Str)} {j : Jb} {f : List Pc} {k : Nat}
abbrev srE (tags : List Str) (st : List (List Str)) (j : Jb) (z2 z3 z4 z5 z6 z7 z8 : Option D) : Env := [some (.d (plD tags st [j])), some (.d (jbD j)), z2, z3, z4, z5, z6, z7, z8, none]
abbrev mnD (l : List Nat) : D := .d (.list (l.map fun k : Nat => PyData.int (k : Int)))
theorem sr_mine (kf : Kf C) (sc : Sc tags st j) (hf : f ∈ j.pre) {z2 z4 z5 z6 z7 z8 : Option D} {g : Hs} : (sem C sr4).v (srE tags st j z2 (some (.d (tpd f))) z4 z5 z6 z7 z8) g = .ok (mnD (mineL tags f)) g := by
  have b := beg_len (sc.pre f hf).1
  have kl := sc.kl
  have kt := sc.kt
  have le := sc.le
  have jd := beg_jd (sc.pre f hf).1 (w1_jd sc.key)
  have et : ∀ z9 : Option D, (sem C (.ix (.var 0) i0)).v [some (.d (plD tags st [j])), some (.d (jbD j)), z2, some (.d (tpd f)), z4, z5, z6, z7, z8, z9] g = .ok (.d (tst tags)) g := fun z9 => vix C (x := .d (plD tags st [j])) (y := .d (.int 0)) (h1 := g) (h2 := g) rfl rfl (pl0 tags st [j] g)
  have ln : biD .len false [.d (tst tags)] g = .ok (.d (.int (tags.length : Int))) g := by simp [biD, lenD, vw, tst]
  have ei := rng_it C (z := tags.length) (h1 := g) (bi1 C (et none) ln) (by omega)
  rw [rngP_range] at ei
  have cm := comp_filterd (n := g.length) (f := turn [9] (.nm 9) (sem C (.cons srN .nil)) (fun σ2 h3 => some1 ((sem C (.var 9)).v σ2 h3)) (srE tags st j z2 (some (.d (tpd f))) z4 z5 z6 z7 z8)) (fun k : Nat => D.d (.int (k : Int))) (fun k => decide ((false, tags.getD k ⟨#[]⟩) ∈ f)) (fun k : Nat => .int (k : Int)) (List.range tags.length) (fun k hk => by
    rw [List.mem_range] at hk
    refine ⟨g ++ [.dead, .dead], ?_, List.take_left⟩
    refine turn_ifd C (me := (sem C (.var 9)).v) (σ2 := [some (.d (plD tags st [j])), some (.d (jbD j)), z2, some (.d (tpd f)), z4, z5, z6, z7, z8, some (.d (.int (k : Int)))]) rfl ?_ rfl
    have e1 : (sem C (.ix (.ix (.var 0) i0) (.var 9))).v [some (.d (plD tags st [j])), some (.d (jbD j)), z2, some (.d (tpd f)), z4, z5, z6, z7, z8, some (.d (.int (k : Int)))] g = .ok (.d (.str (tags.getD k ⟨#[]⟩))) g := vix C (et (some (.d (.int (k : Int))))) (y := .d (.int (k : Int))) (h2 := g) rfl (ix_nat (.inl rfl) (by rw [List.getElem?_map, List.getElem?_eq_getElem hk, List.getD_eq_getElem?_getD, List.getElem?_eq_getElem hk]; rfl) g)
    exact ino_t C e1 (make_ok C (a := .var 3) (w := tpd f) (ps := f) (h1 := g) rfl (kf.I jd (by omega) (by omega))) kf.N) List.take_length
  exact lc_ok C ei cm (by rw [List.length_map]; refine Nat.le_trans (List.length_filter_le _ _) ?_; rw [List.length_range]; omega)
theorem sr_5 (kf : Kf C) (sc : Sc tags st j) (hk : j.pre[k]? = some f) {z4 z5 z6 z7 z8 : Option D} {g : Hs} : run C sr5 (srE tags st j (some (.d (.int (k : Int)))) (some (.d (tpd f))) z4 z5 z6 z7 z8) g = .ok (.nx, srE tags st j (some (.d (.int (k : Int)))) (some (.d (tpd f))) z4 z5 z6 z7 z8) (g ++ [.dead, .dead] ++ [.dead, .dead]) := by
  have hf : f ∈ j.pre := List.mem_of_getElem? hk
  have b := beg_len (sc.pre f hf).1
  have kl := sc.kl
  have kt := sc.kt
  have jd := beg_jd (sc.pre f hf).1 (w1_jd sc.key)
  have m1 : (sem C (srM (.var 3))).v (srE tags st j (some (.d (.int (k : Int)))) (some (.d (tpd f))) z4 z5 z6 z7 z8) g = .ok (.ins sT [tpd f]) (g ++ [.dead, .dead]) := make_ok C (w := tpd f) (ps := f) (h1 := g) rfl (kf.I jd (by omega) (by omega))
  have m2 : (sem C (srM (.ix (.var 1) i1))).v (srE tags st j (some (.d (.int (k : Int)))) (some (.d (tpd f))) z4 z5 z6 z7 z8) (g ++ [.dead, .dead]) = .ok (.ins sT [tpd j.key]) (g ++ [.dead, .dead] ++ [.dead, .dead]) := make_ok C (w := tpd j.key) (ps := j.key) (h1 := g ++ [.dead, .dead]) (vix C (x := .d (jbD j)) (y := .d (.int 1)) (h1 := g ++ [.dead, .dead]) (h2 := g ++ [.dead, .dead]) rfl rfl (jb1 j _)) (kf.I (w1_jd sc.key) (by omega) (by omega))
  generalize hG : g ++ [Cell.dead, .dead] ++ [.dead, .dead] = G at m2
  have e1 := mcl_ok C (m := Str.ofString "begins") m1 m2 (kf.G (h := G))
  rw [beg_dob0 (sc.pre f hf).1] at e1
  have t1 : (sem C srB).t (srE tags st j (some (.d (.int (k : Int)))) (some (.d (tpd f))) z4 z5 z6 z7 z8) g = .ok true G := by
    have e : (sem C srB).t (srE tags st j (some (.d (.int (k : Int)))) (some (.d (tpd f))) z4 z5 z6 z7 z8) g = ((sem C srB).v (srE tags st j (some (.d (.int (k : Int)))) (some (.d (tpd f))) z4 z5 z6 z7 z8) g).bind fun x h1 => noX (truD x h1) := rfl
    rw [e, e1]
    rfl
  have e2 : (sem C srA).v (srE tags st j (some (.d (.int (k : Int)))) (some (.d (tpd f))) z4 z5 z6 z7 z8) G = .ok (.d .none) G := call3 C (x := .d (plD tags st [j])) (y := .d (.str j.nm)) (w := .d (.int (k : Int))) (h1 := G) (h2 := G) (h3 := G) rfl (vix C (x := .d (jbD j)) (y := .d (.int 0)) (h1 := G) (h2 := G) rfl rfl (jb0 j _)) rfl (kf.A sc hk)
  have t2 : (sem C (.cmp .IsNot srA (.cst .none))).t (srE tags st j (some (.d (.int (k : Int)))) (some (.d (tpd f))) z4 z5 z6 z7 z8) G = .ok false G := cmp_t C e2 (y := .d .none) (h2 := G) rfl rfl
  have t3 : (sem C (.bop .Or (.cons (.not srB) (.cons (.cmp .IsNot srA (.cst .none)) .nil)))).t (srE tags st j (some (.d (.int (k : Int)))) (some (.d (tpd f))) z4 z5 z6 z7 z8) g = .ok false G := by
    have e : ∀ (a b : E) (σ : Env) (h : Hs), (sem C (.bop .Or (.cons a (.cons b .nil)))).t σ h = ((sem C a).t σ h).bind fun t h2 => sel .Or t ((sem C b).t σ h2) (.ok t h2) := fun a b σ h => rfl
    rw [e, not_t C t1, rb_ok]
    exact t2
  rw [ite_f C t3, run_nil]
theorem sr_dif (sc : Sc tags st j) (hf : f ∈ j.pre) {s t : List Str} (hs : s ∈ st) (ht : t ∈ st) {z2 z3 z6 z8 : Option D} {g : Hs} : ∃ l : List Nat, (l.isEmpty = true ↔ Agr (vl tags s) (vl tags t) f) ∧ (sem C srD).v (srE tags st j z2 z3 (some (mnD (mineL tags f))) (some (.d (tst s))) z6 (some (.d (tst t))) z8) g = .ok (mnD l) g := by
  have l1 := (sc.st1 s hs).1
  have l2 := (sc.st1 t ht).1
  have le := sc.le
  have ml : (mineL tags f).length ≤ 5 := by
    refine Nat.le_trans (List.length_filter_le _ _) ?_
    rw [List.length_range]
    omega
  have cm := comp_filter (n := g.length) (f := turn [9] (.nm 9) (sem C (.cons (.cmp .NotEq (.ix (.var 5) (.var 9)) (.ix (.var 7) (.var 9))) .nil)) (fun σ2 h3 => some1 ((sem C (.var 9)).v σ2 h3)) (srE tags st j z2 z3 (some (mnD (mineL tags f))) (some (.d (tst s))) z6 (some (.d (tst t))) z8)) (fun k : Nat => D.d (.int (k : Int))) (fun k => !decide (s[k]? = t[k]?)) (fun k : Nat => .int (k : Int)) List.take_length (mineL tags f) (fun k hk => by
    obtain ⟨x, hx, _⟩ := mine_mem.mp hk
    have hl := (List.getElem?_eq_some_iff.mp hx).1
    have g1 : s[k]? = some s[k] := List.getElem?_eq_getElem (by omega)
    have g2 : t[k]? = some t[k] := List.getElem?_eq_getElem (by omega)
    have ea : (!decide (s[k]? = t[k]?)) = !(s[k] == t[k]) := by
      rw [g1, g2]
      by_cases hh : s[k] = t[k] <;> simp [hh]
    rw [ea]
    refine turn_if C (me := (sem C (.var 9)).v) (σ2 := [some (.d (plD tags st [j])), some (.d (jbD j)), z2, z3, some (mnD (mineL tags f)), some (.d (tst s)), z6, some (.d (tst t)), z8, some (.d (.int (k : Int)))]) rfl ?_ rfl
    exact cmp_t C (vix C (x := .d (tst s)) (y := .d (.int (k : Int))) (h1 := g) (h2 := g) rfl rfl (ix_nat (.inl rfl) (by rw [List.getElem?_map, g1]; rfl) g)) (vix C (x := .d (tst t)) (y := .d (.int (k : Int))) (h1 := g) (h2 := g) rfl rfl (ix_nat (.inl rfl) (by rw [List.getElem?_map, g2]; rfl) g)) (ne_str _ _ g))
  refine ⟨(mineL tags f).filter fun k => !decide (s[k]? = t[k]?), ?_, ?_⟩
  · rw [agr_mine sc.nd (w1_fd (sc.pre f hf).2) l1 l2, List.isEmpty_iff, List.filter_eq_nil_iff]
    constructor
    · intro h k hk
      have := h k hk
      simpa using this
    · intro h k hk
      simp [h k hk]
  · exact lc_ok C (var_it C rfl (nat_it _)) cm (by rw [List.length_map]; refine Nat.le_trans (List.length_filter_le _ _) ?_; omega)
abbrev srIL : D → Env → Hs → R (Fl × Env) := fun x σ1 h2 => match bindTg (.nm 7) x σ1 with
  | some σ2 => run C srI σ2 h2
  | none => .no
theorem sr_in (kf : Kf C) (sc : Sc tags st j) (hf : f ∈ j.pre) {s : List Str} (hs : s ∈ st) {z2 z3 : Option D} {g : Hs} : ∀ (ts : List (List Str)) (z7 z8 : Option D), (∀ t ∈ ts, t ∈ st) → ∃ z7' z8', loopF (srIL C) (ts.map fun t => D.d (tst t)) (srE tags st j z2 z3 (some (mnD (mineL tags f))) (some (.d (tst s))) (some (.d (.str (tx (vl tags s) f)))) z7 z8) g = .ok (.nx, srE tags st j z2 z3 (some (mnD (mineL tags f))) (some (.d (tst s))) (some (.d (.str (tx (vl tags s) f)))) z7' z8') g
  | [], z7, z8, _ => ⟨z7, z8, loop_nil⟩
  | t :: ts, z7, z8, ht => by
    have tm := ht t List.mem_cons_self
    obtain ⟨l, l1, e1⟩ := sr_dif C sc hf hs tm (z2 := z2) (z3 := z3) (z6 := some (.d (.str (tx (vl tags s) f)))) (z8 := z8) (g := g)
    have e2 := vcmp C e1 (lst0 C _ g) (eqv_nats l g).1
    obtain ⟨y7, y8, e3⟩ := sr_in kf sc hf hs (z2 := z2) (z3 := z3) (g := g) ts (some (.d (tst t))) (some (.d (.bool l.isEmpty))) (fun x hx => ht x (List.mem_cons_of_mem _ hx))
    have ek : (sem C srK).v (srE tags st j z2 z3 (some (mnD (mineL tags f))) (some (.d (tst s))) (some (.d (.str (tx (vl tags s) f)))) (some (.d (tst t))) (some (.d (.bool l.isEmpty)))) g = .ok (.d (.str (tx (vl tags t) j.key))) g := call2 C (x := .d (plD tags st [j])) (y := .d (caD j.nm t)) (h1 := g) (h2 := g) rfl (tup2 C (x := .str j.nm) (y := tst t) (h1 := g) (h2 := g) (vix C (x := .d (jbD j)) (y := .d (.int 0)) (h1 := g) (h2 := g) rfl rfl (jb0 j _)) rfl) (kf.K sc tm)
    have es : (sem C (.mth .startswith srK (.cons (.var 6) .nil))).v (srE tags st j z2 z3 (some (mnD (mineL tags f))) (some (.d (tst s))) (some (.d (.str (tx (vl tags s) f)))) (some (.d (tst t))) (some (.d (.bool l.isEmpty)))) g = .ok (.d (.bool (Txt.startswith (tx (vl tags t) j.key) (tx (vl tags s) f)))) g := by
      have e : ∀ σ, (sem C (.mth .startswith srK (.cons (.var 6) .nil))).v σ g = ((sem C srK).v σ g).bind fun x h1 => if rcvOk .startswith x h1 then ((((sem C (.var 6)).v σ h1).bind fun x h1 => (R.ok [] h1).bind fun xs h2 => .ok (x :: xs) h2).bind fun ds h2 => noX (mthD .startswith x ds h2)) else .no := fun σ => rfl
      rw [e, ek, rb_ok]
      rfl
    have ee : Txt.startswith (tx (vl tags t) j.key) (tx (vl tags s) f) = l.isEmpty := by
      have := (sc.starts hf hs tm).trans l1.symm
      rw [Bool.eq_iff_iff]
      exact this
    have et := cmp_t C es (b := .var 8) (y := .d (.bool l.isEmpty)) (h2 := g) rfl (bools_cmp _ _ g)
    rw [ee] at et
    have eb : (l.isEmpty == l.isEmpty) = true := by simp
    rw [eb] at et
    refine ⟨y7, y8, ?_⟩
    have stp : srIL C (.d (tst t)) (srE tags st j z2 z3 (some (mnD (mineL tags f))) (some (.d (tst s))) (some (.d (.str (tx (vl tags s) f)))) z7 z8) g = .ok (.nx, srE tags st j z2 z3 (some (mnD (mineL tags f))) (some (.d (tst s))) (some (.d (.str (tx (vl tags s) f)))) (some (.d (tst t))) (some (.d (.bool l.isEmpty)))) g := by
      refine (seq_nx C (asg_ok C e2)).trans ?_
      exact (seq_nx C ((ite_f C et).trans (run_nil C))).trans (run_nil C)
    exact (loop_nx stp).trans e3
theorem st_it {σ : Env} {g : Hs} (h0 : σ[0]? = some (some (.d (plD tags st [j])))) : (sem C (.ix (.var 0) i1)).it σ g = .ok (st.map fun s => D.d (tst s)) g := val_it C rfl (vix C (x := .d (plD tags st [j])) (y := .d (.int 1)) (h1 := g) (h2 := g) (vvar C h0) rfl (pl1 tags st [j] g)) (seq_tup tst st)
abbrev srJL : D → Env → Hs → R (Fl × Env) := fun x σ1 h2 => match bindTg (.nm 5) x σ1 with
  | some σ2 => run C srJ σ2 h2
  | none => .no
theorem sr_out (kf : Kf C) (sc : Sc tags st j) (hk : j.pre[k]? = some f) {z3 : Option D} {g : Hs} : ∀ (ss : List (List Str)) (z5 z6 z7 z8 : Option D), (∀ t ∈ ss, t ∈ st) → ∃ z5' z6' z7' z8', loopF (srJL C) (ss.map fun t => D.d (tst t)) (srE tags st j (some (.d (.int (k : Int)))) z3 (some (mnD (mineL tags f))) z5 z6 z7 z8) g = .ok (.nx, srE tags st j (some (.d (.int (k : Int)))) z3 (some (mnD (mineL tags f))) z5' z6' z7' z8') g
  | [], z5, z6, z7, z8, _ => ⟨z5, z6, z7, z8, loop_nil⟩
  | s :: ss, z5, z6, z7, z8, ht => by
    have hf : f ∈ j.pre := List.mem_of_getElem? hk
    have hs := ht s List.mem_cons_self
    have e6 : (sem C sr6).v (srE tags st j (some (.d (.int (k : Int)))) z3 (some (mnD (mineL tags f))) (some (.d (tst s))) z6 z7 z8) g = .ok (.d (.str (tx (vl tags s) f))) g := vix C (call2 C (x := .d (plD tags st [j])) (y := .d (caD j.nm s)) (h1 := g) (h2 := g) rfl (tup2 C (x := .str j.nm) (y := tst s) (h1 := g) (h2 := g) (vix C (x := .d (jbD j)) (y := .d (.int 0)) (h1 := g) (h2 := g) rfl rfl (jb0 j _)) rfl) (kf.X sc hs)) (y := .d (.int (k : Int))) (h2 := g) rfl (ix_nat (.inr rfl) (by rw [List.getElem?_map, hk]; rfl) g)
    obtain ⟨w7, w8, e7⟩ := sr_in C kf sc hf hs (z2 := some (.d (.int (k : Int)))) (z3 := z3) (g := g) st z7 z8 (fun _ h => h)
    obtain ⟨y5, y6, y7, y8, e8⟩ := sr_out kf sc hk (z3 := z3) (g := g) ss (some (.d (tst s))) (some (.d (.str (tx (vl tags s) f)))) w7 w8 (fun x hx => ht x (List.mem_cons_of_mem _ hx))
    refine ⟨y5, y6, y7, y8, ?_⟩
    have ef : run C (.for_ (.nm 7) (.ix (.var 0) i1) srI) (srE tags st j (some (.d (.int (k : Int)))) z3 (some (mnD (mineL tags f))) (some (.d (tst s))) (some (.d (.str (tx (vl tags s) f)))) z7 z8) g = .ok (.nx, srE tags st j (some (.d (.int (k : Int)))) z3 (some (mnD (mineL tags f))) (some (.d (tst s))) (some (.d (.str (tx (vl tags s) f)))) w7 w8) g := by
      rw [run, st_it C rfl, bs_ok]
      exact e7
    have stp : srJL C (.d (tst s)) (srE tags st j (some (.d (.int (k : Int)))) z3 (some (mnD (mineL tags f))) z5 z6 z7 z8) g = .ok (.nx, srE tags st j (some (.d (.int (k : Int)))) z3 (some (mnD (mineL tags f))) (some (.d (tst s))) (some (.d (.str (tx (vl tags s) f)))) w7 w8) g := by
      refine (seq_nx C (asg_ok C e6)).trans ?_
      exact (seq_nx C ef).trans (run_nil C)
    exact (loop_nx stp).trans e8
end
end
end En
namespace En
open PySem L2
theorem noIn_tst (x : Str) (ss : List Str) (h : Hs) (hx : x ∈ ss) : cmpD .NotIn (.d (.str x)) (.d (tst ss)) h = .ok (.d (.bool false)) h := by
  have pl : (tst ss).plain = true := by
    unfold tst
    simp only [PyData.plain]
    clear hx
    induction ss with
    | nil => simp [PyData.plainAll]
    | cons k l ih => simp [PyData.plainAll, PyData.plain, ih]
  have sh : shal (.str x) (tst ss) = true := by
    have d0 : (PyData.str x).depth ≤ 2 := by simp [PyData.depth]
    have e2 : (PyData.str x).plain = true := by simp [PyData.plain]
    rw [shal, pl, e2, decide_eq_true (Nat.le_trans (Nat.min_le_left _ _) (by omega))]
    rfl
  have ea : ((ss.map PyData.str).any fun z => PyData.eqv z (.str x)) = true := by
    rw [List.any_map, List.any_eq_true]
    exact ⟨x, hx, by simp [PyData.eqv]⟩
  show (if shal (.str x) (tst ss) then R.ok (D.d (.bool (!(ss.map PyData.str).any fun z => PyData.eqv z (.str x)))) h else .no) = _
  rw [sh, if_pos rfl, ea]
  rfl
section
variable (C : Str → List D → Hs → R D)
section
variable {tags : List Str} {st : List (List Str)} {j : Jb} {f : List Pc} {k : Nat}
theorem sr_held (kf : Kf C) (sc : Sc tags st j) (hk : j.pre[k]? = some f) {z3 z5 z6 z7 z8 : Option D} {g : Hs} : run C sr7 (srE tags st j (some (.d (.int (k : Int)))) z3 (some (mnD (mineL tags f))) z5 z6 z7 z8) g = .ok (.nx, srE tags st j (some (.d (.int (k : Int)))) z3 (some (mnD (mineL tags f))) z5 z6 z7 z8) g := by
  have hf : f ∈ j.pre := List.mem_of_getElem? hk
  have cm := comp_filter (n := g.length) (f := turn [9] (.nm 9) (sem C (.cons (.cmp .NotIn (.ix (.ix (.var 0) i0) (.var 9)) (.call (Str.ofString "held") false (.cons (.var 0) (.cons (.ix (.var 1) i0) (.cons (.var 2) .nil))))) .nil)) (fun σ2 h3 => some1 ((sem C (.var 9)).v σ2 h3)) (srE tags st j (some (.d (.int (k : Int)))) z3 (some (mnD (mineL tags f))) z5 z6 z7 z8)) (fun k : Nat => D.d (.int (k : Int))) (fun _ => false) (fun k : Nat => .int (k : Int)) List.take_length (mineL tags f) (fun i hi => by
    obtain ⟨x, hx, _⟩ := mine_mem.mp hi
    refine turn_if C (b := false) (me := (sem C (.var 9)).v) (σ2 := [some (.d (plD tags st [j])), some (.d (jbD j)), some (.d (.int (k : Int))), z3, some (mnD (mineL tags f)), z5, z6, z7, z8, some (.d (.int (i : Int)))]) rfl ?_ rfl
    refine cmp_t C (vix C (vix C (x := .d (plD tags st [j])) (y := .d (.int 0)) (h1 := g) (h2 := g) rfl rfl (pl0 tags st [j] g)) (y := .d (.int (i : Int))) (h2 := g) rfl (ix_nat (.inl rfl) (by rw [List.getElem?_map, hx]; rfl) g)) (call3 C (x := .d (plD tags st [j])) (y := .d (.str j.nm)) (w := .d (.int (k : Int))) (h1 := g) (h2 := g) (h3 := g) rfl (vix C (x := .d (jbD j)) (y := .d (.int 0)) (h1 := g) (h2 := g) rfl rfl (jb0 j _)) rfl (kf.H sc hk)) (noIn_tst _ _ g (sc.held hf hi hx)))
  have ff : (mineL tags f).filter (fun _ => false) = [] := List.filter_eq_nil_iff.mpr (by simp)
  rw [ff] at cm
  have e1 := lc_ok C (it := .var 4) (σ := srE tags st j (some (.d (.int (k : Int)))) z3 (some (mnD (mineL tags f))) z5 z6 z7 z8) (var_it C rfl (nat_it _)) cm (by simp)
  have e2 := cmp_t C e1 (lst0 C _ g) (eqv_nats [] g).2
  exact (ite_f C e2).trans (run_nil C)
abbrev srOL : D → Env → Hs → R (Fl × Env) := fun x σ1 h2 => match bindTg (.nm 2) x σ1 with
  | some σ2 => run C srO σ2 h2
  | none => .no
theorem sr_form (kf : Kf C) (sc : Sc tags st j) (hk : j.pre[k]? = some f) {z3 z4 z5 z6 z7 z8 : Option D} {g : Hs} : ∃ w4 w5 w6 w7 w8, run C srO (srE tags st j (some (.d (.int (k : Int)))) z3 z4 z5 z6 z7 z8) g = .ok (.nx, srE tags st j (some (.d (.int (k : Int)))) (some (.d (tpd f))) w4 w5 w6 w7 w8) (g ++ [.dead, .dead] ++ [.dead, .dead]) := by
  have hf : f ∈ j.pre := List.mem_of_getElem? hk
  have e3 : (sem C (.ix (.ix (.var 1) i2) (.var 2))).v (srE tags st j (some (.d (.int (k : Int)))) z3 z4 z5 z6 z7 z8) g = .ok (.d (tpd f)) g := vix C (vix C (x := .d (jbD j)) (y := .d (.int 2)) (h1 := g) (h2 := g) rfl rfl (jb2 j g)) (y := .d (.int (k : Int))) (h2 := g) rfl (ix_nat (.inl rfl) (by rw [List.getElem?_map, hk]; rfl) g)
  obtain ⟨w5, w6, w7, w8, e6⟩ := sr_out C kf sc hk (z3 := some (.d (tpd f))) (g := g ++ [.dead, .dead] ++ [.dead, .dead]) st z5 z6 z7 z8 (fun _ h => h)
  have ef : run C (.for_ (.nm 5) (.ix (.var 0) i1) srJ) (srE tags st j (some (.d (.int (k : Int)))) (some (.d (tpd f))) (some (mnD (mineL tags f))) z5 z6 z7 z8) (g ++ [.dead, .dead] ++ [.dead, .dead]) = .ok (.nx, srE tags st j (some (.d (.int (k : Int)))) (some (.d (tpd f))) (some (mnD (mineL tags f))) w5 w6 w7 w8) (g ++ [.dead, .dead] ++ [.dead, .dead]) := by
    rw [run, st_it C rfl, bs_ok]
    exact e6
  refine ⟨some (mnD (mineL tags f)), w5, w6, w7, w8, ?_⟩
  refine (seq_nx C (asg_ok C e3)).trans ?_
  refine (seq_nx C (asg_ok C (sr_mine C kf sc hf))).trans ?_
  refine (seq_nx C (sr_5 C kf sc hk)).trans ?_
  refine (seq_nx C ef).trans ?_
  exact (seq_nx C (sr_held C kf sc hk)).trans (run_nil C)
theorem sr_loop (kf : Kf C) (sc : Sc tags st j) : ∀ (n a : Nat) (z2 z3 z4 z5 z6 z7 z8 : Option D) (g : Hs), a + n ≤ j.pre.length → ∃ (dd : Hs) (w2 w3 w4 w5 w6 w7 w8 : Option D), loopF (srOL C) (rngP (a : Int) n) (srE tags st j z2 z3 z4 z5 z6 z7 z8) g = .ok (.nx, srE tags st j w2 w3 w4 w5 w6 w7 w8) (g ++ dd)
  | 0, a, z2, z3, z4, z5, z6, z7, z8, g, _ => ⟨[], z2, z3, z4, z5, z6, z7, z8, by rw [List.append_nil]; exact loop_nil⟩
  | n + 1, a, z2, z3, z4, z5, z6, z7, z8, g, hl => by
    obtain ⟨w4, w5, w6, w7, w8, e1⟩ := sr_form C kf sc (k := a) (f := j.pre[a]'(by omega)) (List.getElem?_eq_getElem (by omega)) (z3 := z3) (z4 := z4) (z5 := z5) (z6 := z6) (z7 := z7) (z8 := z8) (g := g)
    obtain ⟨dd, y2, y3, y4, y5, y6, y7, y8, e2⟩ := sr_loop kf sc n (a + 1) (some (.d (.int (a : Int)))) (some (.d (tpd (j.pre[a]'(by omega))))) w4 w5 w6 w7 w8 (g ++ [.dead, .dead] ++ [.dead, .dead]) (by omega)
    refine ⟨[.dead, .dead] ++ [.dead, .dead] ++ dd, y2, y3, y4, y5, y6, y7, y8, ?_⟩
    have e : (a : Int) + 1 = ((a + 1 : Nat) : Int) := by omega
    have hg : g ++ ([Cell.dead, .dead] ++ [.dead, .dead] ++ dd) = g ++ [.dead, .dead] ++ [.dead, .dead] ++ dd := by simp
    rw [rngP, e, hg]
    have stp : srOL C (.d (.int (a : Int))) (srE tags st j z2 z3 z4 z5 z6 z7 z8) g = .ok (.nx, srE tags st j (some (.d (.int (a : Int)))) (some (.d (tpd (j.pre[a]'(by omega))))) w4 w5 w6 w7 w8) (g ++ [.dead, .dead] ++ [.dead, .dead]) := e1
    exact (loop_nx stp).trans e2
theorem scheme_ok (kf : Kf C) (sc : Sc tags st j) {h : Hs} : runF C f__law_scheme_right [.d (plD tags st [j])] h = .ok (.d (.bool true)) h := by
  have e1 : (sem C (.ix (.ix (.var 0) i2) i0)).v [some (.d (plD tags st [j])), none, none, none, none, none, none, none, none, none] h = .ok (.d (jbD j)) h := vix C (vix C (x := .d (plD tags st [j])) (y := .d (.int 2)) (h1 := h) (h2 := h) rfl rfl (pl2 tags st [j] h)) (y := .d (.int 0)) (h2 := h) rfl (ix_nat (k := 0) (.inl rfl) rfl h)
  have e2 : (sem C (.ix (.var 1) i2)).v (srE tags st j none none none none none none none) h = .ok (.d (.tuple (j.pre.map tpd))) h := vix C (x := .d (jbD j)) (y := .d (.int 2)) (h1 := h) (h2 := h) rfl rfl (jb2 j h)
  have ln : biD .len false [.d (.tuple (j.pre.map tpd))] h = .ok (.d (.int (j.pre.length : Int))) h := by simp [biD, lenD, vw]
  obtain ⟨dd, y2, y3, y4, y5, y6, y7, y8, e3⟩ := sr_loop C kf sc j.pre.length 0 none none none none none none none h (by omega)
  have ef : run C (.for_ (.nm 2) (.rng (.bi .len false (.cons (.ix (.var 1) i2) .nil))) srO) (srE tags st j none none none none none none none) h = .ok (.nx, srE tags st j y2 y3 y4 y5 y6 y7 y8) (h ++ dd) := by
    rw [run, rng_it C (z := j.pre.length) (h1 := h) (bi1 C e2 ln) sc.prl, bs_ok]
    exact e3
  have et : (sem C (.cmp .Eq (.call (Str.ofString "twins") false (.cons (.var 0) .nil)) (.lst false .nil))).v (srE tags st j y2 y3 y4 y5 y6 y7 y8) (h ++ dd) = .ok (.d (.bool true)) (h ++ dd) := vcmp C (call1 C (x := .d (plD tags st [j])) (h1 := h ++ dd) rfl (kf.T sc)) (lst0 C _ _) (eqv_nats [] _).1
  have e5 : run C f__law_scheme_right.body (startE f__law_scheme_right [.d (plD tags st [j])]) h = .ok (.rt (.d (.bool true)), srE tags st j y2 y3 y4 y5 y6 y7 y8) (h ++ dd) := by
    show run C f__law_scheme_right.body [some (.d (plD tags st [j])), none, none, none, none, none, none, none, none, none] h = _
    rw [sr_body]
    refine (seq_nx C (asg_ok C e1)).trans ?_
    refine (seq_nx C ef).trans ?_
    exact seq_rt C (ret_ok C et)
  rw [runF_rt C rfl e5]
  simp only [leave, List.take_left]
end
end
end En
namespace En
open PySem L2
theorem hand_ok (a b c : Int) : callN prog 38 (Str.ofString "_law_hand_right") [] [.lst [.int a, .int b, .int c]] = .ok (.d (.bool true)) [.lst [.int a, .int b, .int c]] := by kernel_rfl
end En
namespace En
open PySem L2
section
variable (C : Str → List D → Hs → R D)
/-- the draws, as called -/
structure Kg (C : Str → List D → Hs → R D) : Prop where
  G : ∀ {n c : Nat} {h : Hs}, BoxAt n h c → c ≤ 800000 → ∃ (tags : List Str) (st : List (List Str)) (h' : Hs), Ground tags st ∧ BoxAt n h' (c + 200) ∧ OB n h h' ∧ C (Str.ofString "_law_ground") [.cel n, .d (.int 4), .d (.int 10)] h = .ok (.d (.tuple [tst tags, .tuple (st.map tst)])) h'
  S : ∀ {n c : Nat} {h : Hs} {tags : List Str}, BoxAt n h c → c ≤ 800000 → 0 < tags.length → tags.length ≤ 5 → (∀ t ∈ tags, t ∈ T5) → ∃ (ps : List Pc) (h' : Hs), W1 tags ps ∧ ps.length ≤ 7 ∧ tot ps ≤ 100 ∧ BoxAt n h' (c + 20) ∧ OB n h h' ∧ C (Str.ofString "_law_signed") [.cel n, .d (tst tags)] h = .ok (.d (tpd ps)) h'
  B : ∀ {n c : Nat} {h : Hs} {tags : List Str} {ps : List Pc}, BoxAt n h c → c ≤ 900000 → W1 tags ps → ps.length ≤ 100 → tot ps ≤ 10000 → ∃ (f : List Pc) (h' : Hs), Beg f ps ∧ W1 tags f ∧ BoxAt n h' (c + 2) ∧ OB n h h' ∧ C (Str.ofString "_law_start") [.cel n, .d (tpd ps)] h = .ok (.d (tpd f)) h'
  R : ∀ {tags : List Str} {st : List (List Str)} {j : Jb} {h : Hs}, Sc tags st j → C (Str.ofString "_law_scheme_right") [.d (plD tags st [j])] h = .ok (.d (.bool true)) h
abbrev sBU : Str := ⟨#[98, 117, 105, 108, 100]⟩
abbrev rg2 : E := .call (Str.ofString "_law_ground") false (.cons (.var 0) (.cons (.cst (.int (4))) (.cons (.cst (.int (10))) .nil)))
abbrev rg4 : E := .call (Str.ofString "_law_signed") false (.cons (.var 0) (.cons (.var 2) .nil))
abbrev rgS : E := .call (Str.ofString "_law_start") false (.cons (.var 0) (.cons (.var 4) .nil))
abbrev rg5 : E := .bi .tuple false (.cons (.lc false [6] (.nm 6) (.rng (.bin .Add false (.cst (.int ((1 : Nat) : Int))) (.call (Str.ofString "_law_take") false (.cons (.var 0) (.cons (.cst (.int (3))) .nil))))) .nil rgS) .nil)
abbrev rgJ : E := .tup (.cons (.cst (.str sBU)) (.cons (.var 4) (.cons (.var 5) (.cons (.sl (.var 2) .nil (.cons (.cst (.int (1))) .nil)) .nil))))
abbrev rgP : E := .tup (.cons (.var 2) (.cons (.var 3) (.cons (.tup (.cons rgJ .nil)) .nil)))
abbrev rgT : S := .seq (.unp [2, 3] rg2) (.seq (.asg 4 rg4) (.seq (.asg 5 rg5) (.seq (.ite (.not (.call (Str.ofString "_law_scheme_right") false (.cons rgP .nil))) (.seq (.ret (.cst (.bool false))) .nil) .nil) .nil)))
theorem rg_body : f__law_right.body = .seq (.ite (.not (.call (Str.ofString "_law_hand_right") false .nil)) (.seq (.ret (.cst (.bool false))) .nil) .nil) (.seq (.for_ (.nm 1) (.rng (.cst (.int (6)))) rgT) (.seq (.ret (.cst (.bool true))) .nil)) := rfl
theorem tup4 {a b c d : E} {σ : Env} {h h1 h2 h3 h4 : Hs} {x y z u : PyData} (ha : (sem C a).v σ h = .ok (.d x) h1) (hb : (sem C b).v σ h1 = .ok (.d y) h2) (hc : (sem C c).v σ h2 = .ok (.d z) h3) (hd : (sem C d).v σ h3 = .ok (.d u) h4) : (sem C (.tup (.cons a (.cons b (.cons c (.cons d .nil)))))).v σ h = .ok (.d (.tuple [x, y, z, u])) h4 := by
  have hz : sizeLine = 16777216 := sizeLine_eq
  have e : (sem C (.tup (.cons a (.cons b (.cons c (.cons d .nil)))))).v σ h = (((sem C a).v σ h).bind fun x h1 => (((sem C b).v σ h1).bind fun y h2 => (((sem C c).v σ h2).bind fun w h3 => (((sem C d).v σ h3).bind fun w h4 => (R.ok [] h4).bind fun xs h5 => .ok (w :: xs) h5).bind fun xs h4 => .ok (w :: xs) h4).bind fun xs h3 => .ok (y :: xs) h3).bind fun xs h2 => .ok (x :: xs) h2).bind fun ds h1 => noX (tupD ds h1) := rfl
  rw [e, ha, rb_ok, hb, rb_ok, hc, rb_ok, hd]
  show noX (tupD [.d x, .d y, .d z, .d u] h4) = _
  simp [tupD, plainL, hz, noX_ok]
theorem rg_turn (dr : Dr0 C) (kg : Kg C) {n c : Nat} {g : Hs} {z1 z2 z3 z4 z5 : Option D} (hb : BoxAt n g c) (hc : c ≤ 700000) :
    ∃ (g' : Hs) (w2 w3 w4 w5 : Option D), BoxAt n g' (c + 300) ∧ OB n g g' ∧ run C rgT [some (.cel n), z1, z2, z3, z4, z5, none] g = .ok (.nx, [some (.cel n), z1, w2, w3, w4, w5, none]) g' := by
  obtain ⟨tags, st, g1, gr, b1, o1, e1⟩ := kg.G hb (by omega)
  obtain ⟨ps, g2, w2, l2, t2, b2, o2, e2⟩ := kg.S b1 (by omega) gr.pos gr.le gr.mem
  have a2 : (sem C rg2).v [some (.cel n), z1, z2, z3, z4, z5, none] g = .ok (.d (.tuple [tst tags, .tuple (st.map tst)])) g1 := call3 C (x := .cel n) (y := .d (.int 4)) (w := .d (.int 10)) (h1 := g) (h2 := g) (h3 := g) rfl rfl rfl e1
  have a4 : (sem C rg4).v [some (.cel n), z1, some (.d (tst tags)), some (.d (.tuple (st.map tst))), z4, z5, none] g1 = .ok (.d (tpd ps)) g2 := call2 C (x := .cel n) (y := .d (tst tags)) (h1 := g1) (h2 := g1) rfl rfl e2
  obtain ⟨r, g3, lr, b3, o3, t3⟩ := add_take C dr (k := 1) (m := 3) (g := g2) (h1 := g2) (σ := [some (.cel n), z1, some (.d (tst tags)), some (.d (.tuple (st.map tst))), some (.d (tpd ps)), z5, none]) (d := .cst (.int 3)) rfl rfl b2 (by omega) (by omega) (by omega)
  obtain ⟨fs, g4, fl, fg, b4, o4, e4⟩ := comp_box (f := turn [6] (.nm 6) (sem C .nil) (fun σ2 h3 => some1 ((sem C rgS).v σ2 h3)) [some (.cel n), z1, some (.d (tst tags)), some (.d (.tuple (st.map tst))), some (.d (tpd ps)), z5, none]) tpd (fun f => Beg f ps ∧ W1 tags f) (n := n) (k := 2) (B := 890000) (rngP 0 (1 + r)) (c + 200 + 20 + 1) g3 b3 (by rw [rngP_ln]; omega) (fun x hx c' g' hb' hB => by
    obtain ⟨f, h', f1, f2, f3, f4, f5⟩ := kg.B hb' (by omega) w2 (by omega) (by omega)
    exact ⟨f, h', ⟨f1, f2⟩, f3, f4, turn_ok C (me := (sem C rgS).v) (σ2 := [some (.cel n), z1, some (.d (tst tags)), some (.d (.tuple (st.map tst))), some (.d (tpd ps)), z5, some x]) rfl (call2 C (x := .cel n) (y := .d (tpd ps)) (h1 := g') (h2 := g') rfl rfl f5)⟩)
  rw [rngP_ln] at fl b4
  have a5 := bi1 C (b := .tuple) (m := false) (lc_ok C (own := [6]) (tg := .nm 6) (rng_it C (z := 1 + r) (h1 := g3) t3 (by omega)) e4 (by rw [List.length_map]; omega)) (y := .d (.tuple (fs.map tpd))) (h2 := g4) rfl
  have sc : Sc tags st ⟨sBU, ps, fs, tst (tags.take 1)⟩ := {
    nd := gr.nd
    le := gr.le
    st1 := fun s hs => ⟨(gr.each s hs).1, (w7_free (gr.each s hs)).2⟩
    fr := fun s hs => (w7_free (gr.each s hs)).1
    few := gr.few
    key := w2
    kl := by show ps.length ≤ 100; omega
    kt := by show tot ps ≤ 1000; omega
    pre := fg
    prl := by show fs.length ≤ 1000; omega }
  have es : slD (.d (tst tags)) none (some (.d (.int 1))) g4 = .ok (.d (tst (tags.take 1))) g4 := by
    have := cutP_to (tags.map PyData.str) 1
    simp only [slD, bnd, tst, vw]
    rw [show (1 : Int) = ((1 : Nat) : Int) from rfl, this, List.map_take]
  have ej : (sem C rgJ).v [some (.cel n), z1, some (.d (tst tags)), some (.d (.tuple (st.map tst))), some (.d (tpd ps)), some (.d (.tuple (fs.map tpd))), none] g4 = .ok (.d (jbD ⟨sBU, ps, fs, tst (tags.take 1)⟩)) g4 := tup4 C (x := .str sBU) (y := tpd ps) (z := .tuple (fs.map tpd)) (h1 := g4) (h2 := g4) (h3 := g4) rfl rfl rfl (sl_to C (x := .d (tst tags)) (y := .d (.int 1)) (h1 := g4) (h2 := g4) rfl rfl es)
  have ep : (sem C rgP).v [some (.cel n), z1, some (.d (tst tags)), some (.d (.tuple (st.map tst))), some (.d (tpd ps)), some (.d (.tuple (fs.map tpd))), none] g4 = .ok (.d (plD tags st [⟨sBU, ps, fs, tst (tags.take 1)⟩])) g4 := tup3 C (x := tst tags) (y := .tuple (st.map tst)) (h1 := g4) (h2 := g4) rfl rfl (tup1 C ej)
  have et := not_t C (call_t C (call1 C ep (kg.R sc)))
  refine ⟨g4, some (.d (tst tags)), some (.d (.tuple (st.map tst))), some (.d (tpd ps)), some (.d (.tuple (fs.map tpd))), b4.mono (by omega), ((o1.trans o2).trans o3).trans o4, ?_⟩
  refine (seq_nx C (unp_ok C a2 rfl)).trans ?_
  refine (seq_nx C (asg_ok C a4)).trans ?_
  refine (seq_nx C (asg_ok C a5)).trans ?_
  exact (seq_nx C ((ite_f C et).trans (run_nil C))).trans (run_nil C)
abbrev rgL : D → Env → Hs → R (Fl × Env) := fun x σ1 h2 => match bindTg (.nm 1) x σ1 with
  | some σ2 => run C rgT σ2 h2
  | none => .no
theorem rg_loop (dr : Dr0 C) (kg : Kg C) {n : Nat} : ∀ (ds : List D) (c : Nat) (g : Hs) (z1 z2 z3 z4 z5 : Option D), BoxAt n g c → c + 300 * ds.length ≤ 700000 → ∃ (g' : Hs) (w1 w2 w3 w4 w5 : Option D), loopF (rgL C) ds [some (.cel n), z1, z2, z3, z4, z5, none] g = .ok (.nx, [some (.cel n), w1, w2, w3, w4, w5, none]) g'
  | [], c, g, z1, z2, z3, z4, z5, _, _ => ⟨g, z1, z2, z3, z4, z5, loop_nil⟩
  | x :: ds, c, g, z1, z2, z3, z4, z5, hb, hc => by
    rw [List.length_cons] at hc
    obtain ⟨g1, w2, w3, w4, w5, b1, o1, e1⟩ := rg_turn C dr kg (z1 := some x) (z2 := z2) (z3 := z3) (z4 := z4) (z5 := z5) hb (by omega)
    obtain ⟨g2, y1, y2, y3, y4, y5, e2⟩ := rg_loop dr kg ds (c + 300) g1 (some x) w2 w3 w4 w5 b1 (by omega)
    have stp : rgL C x [some (.cel n), z1, z2, z3, z4, z5, none] g = .ok (.nx, [some (.cel n), some x, w2, w3, w4, w5, none]) g1 := e1
    exact ⟨g2, y1, y2, y3, y4, y5, (loop_nx stp).trans e2⟩
theorem right_ok (dr : Dr0 C) (kg : Kg C) {a b : Int} (hh : C (Str.ofString "_law_hand_right") [] [.lst [.int a, .int b, .int 0]] = .ok (.d (.bool true)) [.lst [.int a, .int b, .int 0]]) :
    ∃ h', runF C f__law_right [.cel 0] [.lst [.int a, .int b, .int 0]] = .ok (.d (.bool true)) h' := by
  have e0 : (sem C (.call (Str.ofString "_law_hand_right") false .nil)).v [some (.cel 0), none, none, none, none, none, none] [.lst [.int a, .int b, .int 0]] = .ok (.d (.bool true)) [.lst [.int a, .int b, .int 0]] := by
    have e : (sem C (.call (Str.ofString "_law_hand_right") false .nil)).v [some (.cel 0), none, none, none, none, none, none] [.lst [.int a, .int b, .int 0]] = (C (Str.ofString "_law_hand_right") [] [.lst [.int a, .int b, .int 0]]).bind fun x h2 => noX (keepR false x h2) := rfl
    rw [e, hh]
    rfl
  obtain ⟨g, w1, w2, w3, w4, w5, e1⟩ := rg_loop C dr kg (n := 0) (rngP 0 6) 0 [.lst [.int a, .int b, .int 0]] none none none none none ⟨a, b, 0, rfl, by omega, by omega⟩ (by rw [rngP_ln]; omega)
  have f3 : run C (.for_ (.nm 1) (.rng (.cst (.int (6)))) rgT) [some (.cel 0), none, none, none, none, none, none] [.lst [.int a, .int b, .int 0]] = .ok (.nx, [some (.cel 0), w1, w2, w3, w4, w5, none]) g := by
    rw [run, rng_it C (z := 6) (h1 := [.lst [.int a, .int b, .int 0]]) rfl (by omega), bs_ok]
    exact e1
  have e5 : run C f__law_right.body (startE f__law_right [.cel 0]) [.lst [.int a, .int b, .int 0]] = .ok (.rt (.d (.bool true)), [some (.cel 0), w1, w2, w3, w4, w5, none]) g := by
    show run C f__law_right.body [some (.cel 0), none, none, none, none, none, none] [.lst [.int a, .int b, .int 0]] = _
    rw [rg_body]
    refine (seq_nx C ((ite_f C (not_t C (call_t C e0))).trans (run_nil C))).trans ?_
    refine (seq_nx C f3).trans ?_
    exact seq_rt C (ret_ok C rfl)
  exact ⟨_, runF_rt C rfl e5⟩
end
end En
namespace En
open PySem L2
/-! ### in the program -/
theorem lk_take : prog.lookup (Str.ofString "_law_take") = some f__law_take := by kernel_rfl
theorem lk_of : prog.lookup (Str.ofString "_law_of") = some f__law_of := by kernel_rfl
theorem lk_pick : prog.lookup (Str.ofString "_law_pick") = some f__law_pick := by kernel_rfl
theorem lk_words : prog.lookup (Str.ofString "_law_words") = some f__law_words := by kernel_rfl
theorem lk_ground : prog.lookup (Str.ofString "_law_ground") = some f__law_ground := by kernel_rfl
theorem lk_signed : prog.lookup (Str.ofString "_law_signed") = some f__law_signed := by kernel_rfl
theorem lk_start : prog.lookup (Str.ofString "_law_start") = some f__law_start := by kernel_rfl
theorem lk_scheme : prog.lookup (Str.ofString "_law_scheme_right") = some f__law_scheme_right := by kernel_rfl
theorem lk_init : prog.lookup sI = some f_Template_o___init__ := by kernel_rfl
theorem lk_begins : prog.lookup (Str.ofString "Template.begins") = some f_Template_o_begins := by kernel_rfl
theorem lk_contains : prog.lookup (Str.ofString "Template.__contains__") = some f_Template_o___contains__ := by kernel_rfl
theorem lk_tupled : prog.lookup (Str.ofString "tupled") = some f_tupled := by kernel_rfl
theorem lk_jp : prog.lookup (Str.ofString "joined") = some f_joined := by kernel_rfl
theorem lk_dob : prog.lookup (Str.ofString "do_begin") = some f_do_begin := by kernel_rfl
theorem lk_right : prog.lookup (Str.ofString "_law_right") = some f__law_right := by kernel_rfl
theorem lk_box : prog.lookup (Str.ofString "_law_box") = some f__law_box := by kernel_rfl
theorem lk_cells : prog.lookup (Str.ofString "_law_cells") = some f__law_cells := by kernel_rfl
theorem lk_law : prog.lookup (Str.ofString "law") = some f_law := by kernel_rfl
theorem lk_values : prog.lookup (Str.ofString "values_of") = some f_values_of := by kernel_rfl
theorem lk_job : prog.lookup (Str.ofString "job_row") = some f_job_row := by kernel_rfl
theorem lk_text : prog.lookup (Str.ofString "text_of") = some f_text_of := by kernel_rfl
theorem lk_row : prog.lookup (Str.ofString "row_of") = some f_row_of := by kernel_rfl
theorem lk_number : prog.lookup (Str.ofString "is_number") = some f_is_number := by kernel_rfl
theorem lk_cases : prog.lookup (Str.ofString "cases") = some f_cases := by kernel_rfl
theorem lk_key_text : prog.lookup (Str.ofString "key_text") = some f_key_text := by kernel_rfl
theorem lk_key_row : prog.lookup (Str.ofString "key_row") = some f_key_row := by kernel_rfl
theorem lk_prefix_of : prog.lookup (Str.ofString "prefix_of") = some f_prefix_of := by kernel_rfl
theorem lk_prefix_texts : prog.lookup (Str.ofString "prefix_texts") = some f_prefix_texts := by kernel_rfl
theorem lk_begun : prog.lookup (Str.ofString "begun") = some f_begun := by kernel_rfl
theorem lk_accident : prog.lookup (Str.ofString "accident") = some f_accident := by kernel_rfl
theorem lk_twins : prog.lookup (Str.ofString "twins") = some f_twins := by kernel_rfl
theorem lk_held : prog.lookup (Str.ofString "held") = some f_held := by kernel_rfl
theorem kc_prog (k : Nat) : Kc (callN prog (k + 3)) := kc_of lk_values lk_job lk_text lk_row lk_tupled lk_number k
theorem kd_prog (k : Nat) : Kd (callN prog (k + 4)) := kd_of (kc_prog k) lk_cases lk_key_text lk_key_row lk_prefix_of
theorem ke_prog (k : Nat) : Ke (callN prog (k + 5)) := ke_of (kc_prog (k + 1)) (kd_prog k) lk_begun lk_dob
theorem kf_prog (k : Nat) : Kf (callN prog (k + 6)) where
  A := fun {tags st j i f h} sc hk => by
    rw [cn lk_accident]
    have hf := List.mem_of_getElem? hk
    by_cases hne : cas st [j] = []
    · exact accident_nil _ (kc_prog (k + 2)) (kd_prog (k + 1)) (ke_prog k) sc.wf sc.wn sc.fj hk hne
    · exact accident_none _ (kc_prog (k + 2)) (kd_prog (k + 1)) (ke_prog k) sc.wf sc.wn sc.fj hk sc.cb hne (by have := sc.cl; omega) (fun x hx => sc.acc hf hx)
  H := fun sc hk => by rw [cn lk_held]; exact held_ok _ (ke_prog k) sc.wf sc.wn sc.fj hk sc.cb (sc.bl _)
  T := fun sc => by rw [cn lk_twins]; exact twins_nil _ (kd_prog (k + 1)) sc.wf sc.wn sc.tw
  X := fun sc hs => by rw [cn lk_prefix_texts]; exact prefix_texts_ok _ (kc_prog (k + 2)) sc.wf sc.fj (sc.st1 _ hs)
  K := fun sc hs => by rw [cn lk_key_text]; exact key_text_ok _ (kc_prog (k + 2)) sc.wf sc.fj (sc.st1 _ hs)
  I := fun {ps h} jd h1 h2 => by
    rw [cn lk_init]
    have q := init_ok (callN prog (k + 5)) (n := h.length + 1) (h := h ++ [Cell.dead, Cell.ins sT []]) (w := tpd ps) (ps := ps) (by rw [List.getElem?_append_right (by omega)]; simp) (tp_tpd lk_tupled (k + 2) ps (.inl rfl) (by omega) _) (by rw [cn lk_jp]; exact jp_ok _ (by omega) (by omega))
    rw [jn_id jd] at q
    exact q
  G := fun {ps qs h} => by rw [cn lk_begins]; exact begins_ok _ (by rw [cn lk_dob]; exact do_begin_ok _ ps qs h)
  N := fun {ps x h} => by rw [cn lk_contains]; exact contains_ok _
theorem pk_prog (k : Nat) : PkOk (callN prog (k + 3)) := pk_of lk_take lk_of lk_pick k
theorem wd_prog (k : Nat) : WdOk (callN prog (k + 4)) := fun hb hc hz => by
  obtain ⟨ws, h', a, b, c, d, e⟩ := words_ok (callN prog (k + 3)) (pk_prog k) hb hc hz
  exact ⟨ws, h', a, b, c, d, by rw [cn lk_words]; exact e⟩
theorem kg_prog (k : Nat) : Kg (callN prog (k + 7)) where
  G := fun hb hc => by
    obtain ⟨tags, st, h', a, b, c, e⟩ := ground_ok (callN prog (k + 6)) (dr0_of lk_take lk_of (k + 4)) (pk_prog (k + 3)) (wd_prog (k + 2)) (a := 4) (b := 10) hb (by omega) (by omega) (by omega) (by omega) (by omega)
    exact ⟨tags, st, h', a, b, c, by rw [cn lk_ground]; exact e⟩
  S := fun hb hc h1 h2 h3 => by
    obtain ⟨ps, h', a, b, c, d, e, f⟩ := signed_ok (callN prog (k + 6)) (dr0_of lk_take lk_of (k + 4)) hb hc h1 h2 h3
    exact ⟨ps, h', a, b, c, d, e, by rw [cn lk_signed]; exact f⟩
  B := fun hb hc h1 h2 h3 => by
    obtain ⟨f, h', a, b, c, d, e⟩ := lstart_ok (callN prog (k + 6)) (dr0_of lk_take lk_of (k + 4)) hb hc h1 h2 h3
    exact ⟨f, h', a, b, c, d, by rw [cn lk_start]; exact e⟩
  R := fun sc => by rw [cn lk_scheme]; exact scheme_ok _ (kf_prog k) sc
theorem law_math : ∀ ns : List Int, ns.length ≤ 63 → ∃ h2, callN prog 40 (Str.ofString "law") [.scr ns] [] = .ok (.d (.bool true)) h2 := by
  intro ns hl
  have hb : f_law.body = lwB 3 := rfl
  obtain ⟨σ, h2, e⟩ := law_boxes (callN prog 39) (m := 3) (by omega) (by omega) hl (by
    obtain ⟨cs, a, b, c⟩ := cells_ok (callN prog 38) (ns := ns) (m := 3) (h := []) (by omega) hl
    exact ⟨cs, a, b, by rw [cn lk_cells]; exact c⟩) (fun cs k hk h3 => by
    obtain ⟨a, b, c⟩ := box_ok (callN prog 38) (cs := cs) (k := k) (h := []) hk (by omega)
    exact ⟨a, b, by rw [cn lk_box]; exact c⟩) (fun a b => by
    obtain ⟨h', c⟩ := right_ok (callN prog 38) (dr0_of lk_take lk_of 36) (kg_prog 31) (hand_ok a b 0)
    exact ⟨h', by rw [cn lk_right]; exact c⟩)
  have e2 : run (callN prog 39) f_law.body (startE f_law [.scr ns]) [] = .ok (.rt (.d (.bool true)), σ) h2 := by
    rw [hb]
    exact e
  exact ⟨_, by rw [cn lk_law]; exact runF_rt _ rfl e2⟩
end En
open PySem PySem.W PyProof.Rows
set_option maxHeartbeats 0 in
theorem PySem.Challenge.cw_prefixkeys_k11_whole_signs_behind_fields_holds : PySem.Challenge.rw_prefixkeys_k11_whole_signs_behind_fields.Holds := by
  w_on; o_law; k_head; (case hw => w_witness2)
  k_fill
  refine L2.walk_of (l := PySem.Challenge.rw_prefixkeys_k11_whole_signs_behind_fields) (n := 63) (k := 120) (x := Str.ofString "_law_script") (CX := fun w => L2.CX PySem.Challenge.rw_prefixkeys_k11_whole_signs_behind_fields.prog w) (sp := fun w => En.spL _ 63) rfl (by decide) rfl ⟨rfl, by decide, by decide⟩ (fun w h Y => PySem.W.kIn_of Y) ?F (fun _ _ a ns hl _ hS => ⟨a, ns, rfl, hS, hl, fun _ => rfl⟩) (fun _ _ _ _ _ h => En.cx_none h)
  case F =>
    intro w mg fa h KX Gn hmg
    refine' En.all_mk KX Gn hmg ?aC0 ?pg0 ?ic0 ?po0 ?sa0 ?ca0 ?cn0 ?ct0 ?cm0 ?nf0 ?mk0 ?kc0 ?sA0_0 ?sG0_0 ?sT0_0 ?sY0_0 ?sI0_0 ?a0 ?l0 ?c0 ?k0 ?a1 ?l1 ?c1 ?k1 ?a2 ?l2 ?c2 ?k2 ?a3 ?l3 ?c3 ?k3 ?a4 ?l4 ?c4 ?k4 ?a5 ?l5 ?c5 ?k5 ?a6 ?l6 ?c6 ?k6 ?a7 ?l7 ?c7 ?k7 ?a8 ?l8 ?c8 ?k8 ?a9 ?l9 ?c9 ?k9 ?a10 ?l10 ?c10 ?k10 ?a11 ?l11 ?c11 ?k11 ?a12 ?l12 ?c12 ?k12 ?a13 ?l13 ?c13 ?k13 ?a14 ?l14 ?c14 ?k14 ?a15 ?i15 ?l15 ?c15 ?k15 ?a16 ?i16 ?l16 ?c16 ?k16 ?a17 ?i17 ?l17 ?c17 ?k17 ?a18 ?l18 ?c18 ?k18 ?a19 ?l19 ?c19 ?k19 ?a20 ?l20 ?c20 ?k20 ?a21 ?l21 ?c21 ?k21 ?a22 ?l22 ?c22 ?k22 ?a23 ?l23 ?c23 ?k23 ?a24 ?l24 ?c24 ?k24 ?a25 ?l25 ?c25 ?k25 ?a26 ?l26 ?c26 ?k26 ?a27 ?l27 ?c27 ?k27 ?a28 ?l28 ?c28 ?k28 ?a29 ?l29 ?c29 ?k29 ?a30 ?l30 ?c30 ?k30 ?a31 ?l31 ?c31 ?k31 ?a32 ?l32 ?c32 ?k32 ?a33 ?l33 ?c33 ?k33 ?z0 ?z1 ?z2 ?z3 ?z4 ?z5 ?z6 ?z7 ?z8 ?z9 ?z10 ?z11 ?z12 ?z13 ?z14 ?z15 ?z16 ?q0 ?q1 En.law_math
    (case aC0 => k_is); (case pg0 => k_is); (case ic0 => k_is); (case po0 => k_is); (case sa0 => k_is); (case ca0 => k_is); (case cn0 => k_is); (case ct0 => k_is); (case cm0 => k_is); (case nf0 => k_is); (case mk0 => k_is); (case kc0 => k_is)
    (case sA0_0 => k_is); (case sG0_0 => k_is); (case sT0_0 => k_is); (case sY0_0 => k_is); (case sI0_0 => k_is); (case a0 => k_is); (case l0 => k_is); (case c0 => k_is); (case k0 => k_is); (case a1 => k_is); (case l1 => k_is); (case c1 => k_is)
    (case k1 => k_is); (case a2 => k_is); (case l2 => k_is); (case c2 => k_is); (case k2 => k_is); (case a3 => k_is); (case l3 => k_is); (case c3 => k_is); (case k3 => k_is); (case a4 => k_is); (case l4 => k_is); (case c4 => k_is)
    (case k4 => k_is); (case a5 => k_is); (case l5 => k_is); (case c5 => k_is); (case k5 => k_is); (case a6 => k_is); (case l6 => k_is); (case c6 => k_is); (case k6 => k_is); (case a7 => k_is); (case l7 => k_is); (case c7 => k_is)
    (case k7 => k_is); (case a8 => k_is); (case l8 => k_is); (case c8 => k_is); (case k8 => k_is); (case a9 => k_is); (case l9 => k_is); (case c9 => k_is); (case k9 => k_is); (case a10 => k_is); (case l10 => k_is); (case c10 => k_is)
    (case k10 => k_is); (case a11 => k_is); (case l11 => k_is); (case c11 => k_is); (case k11 => k_is); (case a12 => k_is); (case l12 => k_is); (case c12 => k_is); (case k12 => k_is); (case a13 => k_is); (case l13 => k_is); (case c13 => k_is)
    (case k13 => k_is); (case a14 => k_is); (case l14 => k_is); (case c14 => k_is); (case k14 => k_is); (case a15 => k_is); (case i15 => k_is); (case l15 => k_is); (case c15 => k_is); (case k15 => k_is); (case a16 => k_is); (case i16 => k_is)
    (case l16 => k_is); (case c16 => k_is); (case k16 => k_is); (case a17 => k_is); (case i17 => k_is); (case l17 => k_is); (case c17 => k_is); (case k17 => k_is); (case a18 => k_is); (case l18 => k_is); (case c18 => k_is); (case k18 => k_is)
    (case a19 => k_is); (case l19 => k_is); (case c19 => k_is); (case k19 => k_is); (case a20 => k_is); (case l20 => k_is); (case c20 => k_is); (case k20 => k_is); (case a21 => k_is); (case l21 => k_is); (case c21 => k_is); (case k21 => k_is)
    (case a22 => k_is); (case l22 => k_is); (case c22 => k_is); (case k22 => k_is); (case a23 => k_is); (case l23 => k_is); (case c23 => k_is); (case k23 => k_is); (case a24 => k_is); (case l24 => k_is); (case c24 => k_is); (case k24 => k_is)
    (case a25 => k_is); (case l25 => k_is); (case c25 => k_is); (case k25 => k_is); (case a26 => k_is); (case l26 => k_is); (case c26 => k_is); (case k26 => k_is); (case a27 => k_is); (case l27 => k_is); (case c27 => k_is); (case k27 => k_is)
    (case a28 => k_is); (case l28 => k_is); (case c28 => k_is); (case k28 => k_is); (case a29 => k_is); (case l29 => k_is); (case c29 => k_is); (case k29 => k_is); (case a30 => k_is); (case l30 => k_is); (case c30 => k_is); (case k30 => k_is)
    (case a31 => k_is); (case l31 => k_is); (case c31 => k_is); (case k31 => k_is); (case a32 => k_is); (case l32 => k_is); (case c32 => k_is); (case k32 => k_is); (case a33 => k_is); (case l33 => k_is); (case c33 => k_is); (case k33 => k_is)
    (case z0 => k_is); (case z1 => k_is); (case z2 => k_is); (case z3 => k_is); (case z4 => k_is); (case z5 => k_is); (case z6 => k_is); (case z7 => k_is); (case z8 => k_is); (case z9 => k_is); (case z10 => k_is); (case z11 => k_is)
    (case z12 => k_is); (case z13 => k_is); (case z14 => k_is); (case z15 => k_is); (case z16 => k_is); (case q0 => k_is); (case q1 => k_is)
