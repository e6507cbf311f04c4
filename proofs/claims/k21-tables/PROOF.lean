import PyProof.Rows.All
import Wide.All
import OpenK.AllK
import Wide.FinOn
import HandS.ForMost
import HandS.Style
import HandS.Gcd
import HandS.IsInst
import HandS.Wide
import HandS.TupAny
import HandS.TupMul
import HandS.Deep
import PyProof.WalkInts
import PyProof.WalksMore
import KE.DataMinMax
import HandS.SetFor
import HandS.Flt
import KE.KMathG
import HandS.Zip
import KE.GoesMore
import PyProof.EnumMake
import KE.GoesZip
import HandS.Walk
import KE.KRevSl
import HandS.TupSets
import HandS.SortInts
import HandS.ForExc
import HandS.Conv
import HandS.Defaults
import HandS.EndBits
import HandS.More
import HandS.Words
import HandS.WordsExc
import HandS.Head0
import HandS.Head1
import HandS.Head2
import HandS.HeadEnd
import HandS.HeadHook1
import HandS.HeadHook2
import PyProof.ReprBulk
import KE.KStateDown
import HandS.Head3
import PySem.Challenge.RW_steadymixes_k21_tables_and_what_mixes_ge
set_option Elab.async false
set_option linter.all false
set_option maxRecDepth 100000
/-! SM: a small language of plain data, its runs. A value is data (Vl.d) or the place of a mutable list in the store (Vl.r). -/
namespace SM
open PySem

inductive Vl where
  | d (x : PyData)
  | r (n : Nat)
inductive Ob where
  | lst (vs : List Vl)
abbrev Sto := List (Option Ob)
abbrev Sl := List (Option Vl)

/-- a run's end: a value and the store; an error of the class c with its value; none that is told -/
inductive Rs (α : Type) where
  | ok (a : α) (s : Sto)
  | ex (c : Nat) (v : Vl) (s : Sto)
  | no
def Rs.bind {α β : Type} : Rs α → (α → Sto → Rs β) → Rs β
  | .ok a s, f => f a s
  | .ex c v s, _ => .ex c v s
  | .no, _ => .no
abbrev Po (α : Type) := Option (α × Sto)
def ofP {α : Type} : Po α → Rs α
  | some (a, s) => .ok a s
  | none => .no

/-- a statement's end -/
inductive Fl where
  | nx (e : Sl) (s : Sto)
  | rt (v : Vl) (s : Sto)
  | bk (e : Sl) (s : Sto)
  | ct (e : Sl) (s : Sto)
  | ex (c : Nat) (v : Vl) (e : Sl) (s : Sto)
  | no

inductive BOp where
  | add | sub | mul | fdiv | mod | pow | shl | shr | bor | band
  deriving DecidableEq
inductive COp where
  | eq | ne | lt | le | gt | ge | inn | nin | is | isn
  deriving DecidableEq
inductive Ty where
  | int | bool | str | list | tuple | dict | float
  deriving DecidableEq
inductive Bi where
  | len | abs | int | gcd | lcm | max | min | sum | all | any | tuple | list | sorted | repr | str
  deriving DecidableEq
inductive Me where
  | append | insert | pop | index | count | clear | reverse
  deriving DecidableEq

/-- expressions; nil and cons make lists of them; m: is the new list to be changed later? -/
inductive IE where
  | nil
  | cons (e r : IE)
  | var (i : Nat)
  | lit (d : PyData)
  | glob (x : Str) (d : PyData)
  | bop (m : Bool) (o : BOp) (a b : IE)
  | neg (a : IE)
  | not (a : IE)
  | cmp (o : COp) (a b : IE)
  | chain (o p : COp) (a b c : IE)
  | and (es : IE)
  | or (es : IE)
  | ite (c a b : IE)
  | tup (es : IE)
  | lst (m : Bool) (es : IE)
  | rep (m : Bool) (es k : IE)
  | dic (ks vs : IE)
  | idx (a i : IE)
  | sli (m : Bool) (a lo hi : IE)
  | rev (m : Bool) (a : IE)
  | bi (m : Bool) (b : Bi) (es : IE)
  | isi (a : IE) (t : Ty)
  | me (f : Me) (a : IE) (es : IE)
  | call (f : Nat) (es : IE)
  | callk (f : Nat) (es ks : IE) (names : List Str) (perm : List Nat)
  | rng1 (a : IE)
  | rng2 (a b : IE)
  | zip (a b : IE)
  | enum (a : IE)
  | itv (a : IE)
  | comp (m : Bool) (elt tg it cnd : IE) (own : List Nat)
  | comp2 (m : Bool) (elt tg it tg2 it2 cnd : IE) (own own2 : List Nat)
  | frz (a : IE)
  | lrg (m : Bool) (a : IE)

/-- statements -/
inductive IS where
  | nil
  | cons (s r : IS)
  | asg (tg e : IE)
  | par (s t a b : IE)
  | par3 (i j k : Nat) (a b c : IE)
  | ptup (ts es : IE)
  | aug (i : Nat) (o : BOp) (e : IE)
  | ite (c : IE) (a b : IS)
  | forr (tg it : IE) (body : IS)
  | whil (c : IE) (body : IS)
  | ret (e : IE)
  | expr (e : IE)
  | pass | brk | cont | never

/-! ### data -/
def allD : List Vl → Option (List PyData)
  | [] => some []
  | .d x :: r => (allD r).map (x :: ·)
  | .r _ :: _ => none
theorem allD_map : ∀ l : List PyData, allD (l.map Vl.d) = some l
  | [] => rfl
  | x :: r => by simp [allD, allD_map r]
def ints? : List PyData → Option (List Int)
  | [] => some []
  | .int i :: r => (ints? r).map (i :: ·)
  | _ :: _ => none
def bools? : List PyData → Option (List Bool)
  | [] => some []
  | .bool b :: r => (bools? r).map (b :: ·)
  | _ :: _ => none

/-- the items of a list, a tuple -/
def itemsD : PyData → Option (List PyData)
  | .list xs => some xs
  | .tuple xs => some xs
  | _ => none
def listAt (n : Nat) (s : Sto) : Option (List Vl) := match s[n]? with
  | some (some (.lst vs)) => some vs
  | _ => none
def itemsV (v : Vl) (s : Sto) : Option (List Vl) := match v with
  | .d x => (itemsD x).map (·.map Vl.d)
  | .r n => listAt n s
def dataV (v : Vl) (s : Sto) : Option (List PyData) := (itemsV v s).bind allD

/-- a new list: told as data, or put into the store -/
def mkL (m : Bool) (vs : List Vl) (s : Sto) : Po Vl :=
  if vs.length ≤ 16777216 then (if m then some (.r s.length, s ++ [some (.lst vs)]) else (allD vs).map fun ds => (.d (.list ds), s)) else none

def mulOk (i j : Int) : Prop := i.natAbs < 2 ^ 64 ∨ j.natAbs < 2 ^ 64 ∨ i.natAbs.log2 + j.natAbs.log2 < 1000000
instance (i j : Int) : Decidable (mulOk i j) := by unfold mulOk; infer_instance
def binI : BOp → Int → Int → Option Int
  | .add, i, j => some (i + j)
  | .sub, i, j => some (i - j)
  | .mul, i, j => if mulOk i j then some (i * j) else none
  | .fdiv, i, j => if 0 < j ∧ j.natAbs.log2 < 9000 then some (i / j) else if j < 0 ∧ j.natAbs.log2 < 9000 then some (i.fdiv j) else none
  | .mod, i, j => if 0 < j then some (i % j) else none
  | .pow, i, j => if 0 ≤ j ∧ j ≤ 1000000 ∧ (i.natAbs.log2 + 1) * j.toNat ≤ 1000000 then some (i ^ j.toNat) else none
  | .shl, i, j => if 0 ≤ j ∧ j ≤ 1000000 ∧ i.natAbs < 2 ^ 64 then some (i * 2 ^ j.toNat) else none
  | .shr, i, j => if 0 ≤ j then some (i / 2 ^ j.toNat) else none
  | .bor, i, j => some (Builtin.bitOr i j)
  | .band, i, j => some (Builtin.bitAnd i j)
def listV (v : Vl) (s : Sto) : Option (List Vl) := match v with
  | .d (.list xs) => some (xs.map Vl.d)
  | .d _ => none
  | .r n => listAt n s
def binD (o : BOp) (x y : PyData) (s : Sto) : Po Vl := match x, y with
  | .int i, .int j => (binI o i j).map fun k => (.d (.int k), s)
  | .str a, .str b => if o = .add ∧ a.length + b.length ≤ 16777216 then some (.d (.str (a ++ b)), s) else none
  | .tuple a, .tuple b => if o = .add ∧ a.length + b.length ≤ 16777216 then some (.d (.tuple (a ++ b)), s) else none
  | .tuple a, .int j => if o = .mul ∧ 2 ≤ j ∧ j ≤ 1000 ∧ a.length ≤ 1000 then some (.d (.tuple (List.replicate j.toNat a).flatten), s) else none
  | _, _ => none
def binV (m : Bool) (o : BOp) (x y : Vl) (s : Sto) : Po Vl := match listV x s, listV y s, o with
  | some us, some vs, .add => mkL m (us ++ vs) s
  | _, _, _ => match x, y with
    | .d x, .d y => binD o x y s
    | _, _ => none

/-- == of data: no dicts within -/
def eqD (x y : PyData) : Option Bool := match x, y with
  | .str a, .str b => some (decide (a = b))
  | .list (_ :: _), .list [] => some false
  | x, y => if SeqAt.shaped x = true ∧ SeqAt.shaped y = true then some (PyData.eqv x y) else none
def ltI : COp → Int → Int → Option Bool
  | .lt, i, j => some (decide (i < j))
  | .le, i, j => some (decide (i ≤ j))
  | .gt, i, j => some (decide (j < i))
  | .ge, i, j => some (decide (j ≤ i))
  | _, _, _ => none
def inD (x : PyData) (l : List PyData) : Option Bool := if SeqAt.shaped x = true ∧ SeqAt.shaped (.list l) = true then some (l.any fun z => PyData.eqv z x) else none
def dataOf (v : Vl) (s : Sto) : Option PyData := match v with
  | .d x => some x
  | .r n => (listAt n s).bind fun vs => (allD vs).map PyData.list
def noneV (v : Vl) (s : Sto) : Option Bool := match v with
  | .d .none => some true
  | .d _ => some false
  | .r n => (listAt n s).map fun _ => false
def cmpV (o : COp) (x y : Vl) (s : Sto) : Option Bool := match o with
  | .eq => (dataOf x s).bind fun a => (dataOf y s).bind fun b => eqD a b
  | .ne => ((dataOf x s).bind fun a => (dataOf y s).bind fun b => eqD a b).map (!·)
  | .is => match y with
    | .d .none => noneV x s
    | _ => none
  | .isn => match y with
    | .d .none => (noneV x s).map (!·)
    | _ => none
  | .inn => (dataOf x s).bind fun a => (dataV y s).bind fun l => inD a l
  | .nin => ((dataOf x s).bind fun a => (dataV y s).bind fun l => inD a l).map (!·)
  | o => match x, y with
    | .d (.int i), .d (.int j) => ltI o i j
    | _, _ => none

def idxV (x i : Vl) (s : Sto) : Po Vl := match i with
  | .d (.int k) => (itemsV x s).bind fun vs => (L2.atI vs k).map (·, s)
  | _ => none
def cutL {α : Type} (xs : List α) (lo hi : Option Int) : List α := (xs.drop (HT.sIx xs.length 0 lo)).take (HT.sIx xs.length xs.length hi - HT.sIx xs.length 0 lo)
def sliV (m : Bool) (x : Vl) (lo hi : Option Int) (s : Sto) : Po Vl := match x with
  | .d (.tuple xs) => some (.d (.tuple (cutL xs lo hi)), s)
  | .d (.list xs) => mkL m ((cutL xs lo hi).map Vl.d) s
  | .r n => (listAt n s).bind fun vs => mkL m (cutL vs lo hi) s
  | _ => none
def revV (m : Bool) (x : Vl) (s : Sto) : Po Vl := match x with
  | .d (.list xs) => mkL m (xs.reverse.map Vl.d) s
  | .d (.tuple xs) => some (.d (.tuple xs.reverse), s)
  | .r n => (listAt n s).bind fun vs => mkL m vs.reverse s
  | _ => none

def isT : Ty → Vl → Sto → Option Bool
  | .int, .d (.int _), _ => some true
  | .int, .d (.bool _), _ => some true
  | .bool, .d (.bool _), _ => some true
  | .str, .d (.str _), _ => some true
  | .list, .d (.list _), _ => some true
  | .tuple, .d (.tuple _), _ => some true
  | .dict, .d (.dict _), _ => some true
  | _, .d _, _ => some false
  | t, .r n, s => (listAt n s).map fun _ => decide (t = .list)

def maxL : List Int → Option Int
  | [] => none
  | x :: r => match maxL r with
    | none => some x
    | some y => some (if x < y then y else x)
def minL : List Int → Option Int
  | [] => none
  | x :: r => match minL r with
    | none => some x
    | some y => some (if y < x then y else x)
def dataL (v : Vl) (s : Sto) : Option (List PyData) := (listV v s).bind allD
def lenV (vs : List Vl) (s : Sto) : Po Vl := match vs with
  | [.d (.str z)] => if z.length ≤ 16777216 then some (.d (.int z.length), s) else none
  | [v] => (itemsV v s).map fun l => (.d (.int l.length), s)
  | _ => none
def absV (vs : List Vl) (s : Sto) : Po Vl := match vs with
  | [.d (.int i)] => some (.d (.int (if i < 0 then -i else i)), s)
  | _ => none
def intV (vs : List Vl) (s : Sto) : Po Vl := match vs with
  | [.d (.int i)] => some (.d (.int i), s)
  | [.d (.bool b)] => some (.d (.int (if b then 1 else 0)), s)
  | _ => none
def gcdV (vs : List Vl) (s : Sto) : Po Vl := match vs with
  | [.d (.int i), .d (.int j)] => some (.d (.int (Int.gcd i j)), s)
  | _ => none
def lcmV (vs : List Vl) (s : Sto) : Po Vl := match vs with
  | [.d (.int i), .d (.int j)] => if i.natAbs.log2 < 6000 ∧ j.natAbs.log2 < 6000 then some (.d (.int (Int.lcm i j)), s) else none
  | _ => none
def maxV (vs : List Vl) (s : Sto) : Po Vl := match vs with
  | [.d (.int i), .d (.int j)] => some (.d (.int (if j > i then j else i)), s)
  | [v] => ((dataV v s).bind ints?).bind fun l => (maxL l).map fun k => (.d (.int k), s)
  | _ => none
def minV (vs : List Vl) (s : Sto) : Po Vl := match vs with
  | [.d (.int i), .d (.int j)] => some (.d (.int (if j < i then j else i)), s)
  | [.d (.int i), .d (.int j), .d (.int k)] => some (.d (.int (if k < (if j < i then j else i) then k else (if j < i then j else i))), s)
  | [v] => ((dataV v s).bind ints?).bind fun l => (minL l).map fun k => (.d (.int k), s)
  | _ => none
def sumV (vs : List Vl) (s : Sto) : Po Vl := match vs with
  | [v] => ((dataL v s).bind ints?).map fun l => (.d (.int l.sum), s)
  | _ => none
def allV (vs : List Vl) (s : Sto) : Po Vl := match vs with
  | [v] => ((dataL v s).bind bools?).map fun l => (.d (.bool (l.all id)), s)
  | _ => none
def anyV (vs : List Vl) (s : Sto) : Po Vl := match vs with
  | [v] => ((dataL v s).bind bools?).map fun l => (.d (.bool (l.any id)), s)
  | _ => none
def tupV (vs : List Vl) (s : Sto) : Po Vl := match vs with
  | [v] => (dataV v s).map fun l => (.d (.tuple l), s)
  | _ => none
def lisV (m : Bool) (vs : List Vl) (s : Sto) : Po Vl := match vs with
  | [v] => (itemsV v s).bind fun l => mkL m l s
  | _ => none
mutual
/-- no list within -/
def noLst : PyData → Bool
  | .list _ => false
  | .tuple xs => noLsts xs
  | .dict kvs => noLstK kvs
  | _ => true
def noLsts : List PyData → Bool
  | [] => true
  | x :: r => noLst x && noLsts r
def noLstK : List (PyData × PyData) → Bool
  | [] => true
  | (_, x) :: r => noLst x && noLstK r
end
def reprV (vs : List Vl) (s : Sto) : Po Vl := match vs with
  | [v] => (dataOf v s).bind fun x => if x.showable = true ∧ x.shown.length ≤ 16777216 ∧ x.depth ≤ 100 ∧ (x.hasDict = false ∨ noLst x = true) then some (.d (.str x.shown), s) else none
  | _ => none
def strV (vs : List Vl) (s : Sto) : Po Vl := match vs with
  | [.d (.int i)] => if i.natAbs.log2 < 1920 then some (.d (.str (toString i)), s) else none
  | _ => none
/-- a pair of ints from 0 to 63 -/
def pairB : PyData → Bool
  | .tuple [.int i, .int j] => (decide (0 ≤ i) && decide (i < 64)) && (decide (0 ≤ j) && decide (j < 64))
  | _ => false
def kD : PyData → Int
  | .tuple [.int i, .int j] => i * 64 + j
  | _ => 0
def sortP (ds : List PyData) : List PyData := ds.mergeSort fun a b => decide (kD a ≤ kD b)
def sortI (is : List Int) : List Int := is.mergeSort fun a b => decide (a ≤ b)
def sortedV (m : Bool) (vs : List Vl) (s : Sto) : Po Vl := match vs with
  | [v] => (dataL v s).bind fun ds => match ints? ds with
    | some is => mkL m ((sortI is).map fun i => Vl.d (.int i)) s
    | none => if ds.length < 64 ∧ ds.all pairB = true then mkL m ((sortP ds).map Vl.d) s else none
  | _ => none
def biV (m : Bool) (b : Bi) (vs : List Vl) (s : Sto) : Po Vl := match b with
  | .len => lenV vs s
  | .abs => absV vs s
  | .int => intV vs s
  | .gcd => gcdV vs s
  | .lcm => lcmV vs s
  | .max => maxV vs s
  | .min => minV vs s
  | .sum => sumV vs s
  | .all => allV vs s
  | .any => anyV vs s
  | .tuple => tupV vs s
  | .list => lisV m vs s
  | .repr => reprV vs s
  | .str => strV vs s
  | .sorted => sortedV m vs s

def putL (n : Nat) (vs : List Vl) (s : Sto) : Sto := s.set n (some (.lst vs))
def setV (o i v : Vl) (s : Sto) : Option Sto := match o, i with
  | .r n, .d (.int k) => (listAt n s).bind fun vs => (L2.ixN vs.length k).map fun j => putL n (vs.set j v) s
  | _, _ => none
def appendV (o : Vl) (xs : List Vl) (s : Sto) : Po Vl := match o, xs with
  | .r n, [v] => (listAt n s).bind fun vs => if vs.length < 16777216 then some (.d .none, putL n (vs ++ [v]) s) else none
  | _, _ => none
def insertV (o : Vl) (xs : List Vl) (s : Sto) : Po Vl := match o, xs with
  | .r n, [.d (.int k), v] => (listAt n s).bind fun vs => if 0 ≤ k ∧ k ≤ (vs.length : Int) ∧ vs.length < 16777216 then some (.d .none, putL n (vs.take k.toNat ++ v :: vs.drop k.toNat) s) else none
  | _, _ => none
def popV (o : Vl) (xs : List Vl) (s : Sto) : Po Vl := match o, xs with
  | .r n, [] => (listAt n s).bind fun vs => (vs[vs.length - 1]?).map fun v => (v, putL n vs.dropLast s)
  | .r n, [.d (.int k)] => (listAt n s).bind fun vs => if 0 ≤ k ∧ k < 16777216 then (vs[k.toNat]?).map fun v => (v, putL n (vs.eraseIdx k.toNat) s) else none
  | _, _ => none
def countV (o : Vl) (xs : List Vl) (s : Sto) : Po Vl := match xs with
  | [.d (.int k)] => ((dataL o s).bind ints?).map fun l => (.d (.int (l.count k : Nat)), s)
  | _ => none
def meV (f : Me) (o : Vl) (xs : List Vl) (s : Sto) : Po Vl := match f with
  | .append => appendV o xs s
  | .insert => insertV o xs s
  | .pop => popV o xs s
  | .count => countV o xs s
  | _ => none

/-- what is walked -/
inductive Itr where
  | vals (xs : List PyData)
  | ref (n : Nat)
def itrV (v : Vl) (s : Sto) : Option Itr := match v with
  | .d x => (itemsD x).map Itr.vals
  | .r n => (listAt n s).map fun _ => .ref n

/-- a list that is not changed any more: it is told as data, and lost as a place -/
def frzL : List Vl → Sto → Option (List PyData × Sto)
  | [], s => some ([], s)
  | .d x :: r, s => (frzL r s).map fun p => (x :: p.1, p.2)
  | .r k :: r, s => (listAt k s).bind fun vs => (allD vs).bind fun ds => (frzL r (s.set k none)).map fun p => (.list ds :: p.1, p.2)
def frzV (v : Vl) (s : Sto) : Po Vl := match v with
  | .d x => some (.d x, s)
  | .r n => (listAt n s).bind fun vs => (frzL vs s).bind fun p => (listAt n p.2).map fun _ => (.d (.list p.1), p.2.set n none)
theorem frzL_data : ∀ (ds : List PyData) (s : Sto), frzL (ds.map Vl.d) s = some (ds, s)
  | [], _ => rfl
  | x :: r, s => by
    show (frzL (r.map Vl.d) s).map _ = _
    rw [frzL_data r s]
    rfl
/-- list(range(j)) -/
def lrgV (m : Bool) (x : Vl) (s : Sto) : Po Vl := match x with
  | .d (.int j) => if -1000000 ≤ j ∧ j ≤ 1000000 then mkL m ((List.range j.toNat).map fun i : Nat => Vl.d (.int i)) s else none
  | _ => none

/-! ### expressions -/
def isTrue? : Vl → Option Bool
  | .d (.bool b) => some b
  | _ => none
def optI : Vl → Option Int
  | .d (.int i) => some i
  | _ => none

/-- values of a target's parts -/
def setTg : IE → PyData → Sl → Option Sl
  | .var i, x, e => some (e.set i (some (.d x)))
  | .tup es, .tuple xs, e => setTgs es xs e
  | _, _, _ => none
where setTgs : IE → List PyData → Sl → Option Sl
  | .nil, [], e => some e
  | .cons t r, x :: xs, e => (setTg t x e).bind fun e => setTgs r xs e
  | _, _, _ => none
def setTgV (t : IE) (v : Vl) (e : Sl) : Option Sl := match t, v with
  | .var i, v => some (e.set i (some v))
  | t, .d x => setTg t x e
  | _, _ => none
def wipe (e : Sl) : List Nat → Sl
  | [] => e
  | v :: vs => (wipe e vs).set v none

/-- a comprehension's turns over data -/
def cmL (turn : Vl → Sto → Rs (Option Vl)) : List PyData → Sto → Rs (List Vl)
  | [], s => .ok [] s
  | x :: xs, s => (turn (.d x) s).bind fun o s => (cmL turn xs s).bind fun r s => .ok (match o with | some v => v :: r | none => r) s
/-- .. over a list of the store, k turns at most from the place i on -/
def cmR (turn : Vl → Sto → Rs (Option Vl)) (n : Nat) : Nat → Nat → Sto → Rs (List Vl)
  | k, i, s => match listAt n s with
    | none => .no
    | some vs => match vs[i]? with
      | none => .ok [] s
      | some v => match k with
        | 0 => .no
        | k + 1 => (turn v s).bind fun o s => (cmR turn n k (i + 1) s).bind fun r s => .ok (match o with | some v => v :: r | none => r) s
def cmI (turn : Vl → Sto → Rs (Option Vl)) (it : Itr) (s : Sto) : Rs (List Vl) := match it with
  | .vals xs => cmL turn xs s
  | .ref n => cmR turn n ((listAt n s).map List.length |>.getD 0) 0 s

abbrev Cal := Nat → List Vl → Sto → Rs Vl
end SM

/-! SM: the runs of expressions, statements, defs. -/
namespace SM
open PySem

def noex {α : Type} : Rs α → Rs α
  | .ok a s => .ok a s
  | _ => .no
/-- keyword arguments into the parameters' places -/
def permL {α : Type} (vs : List α) : List Nat → Option (List α)
  | [] => some []
  | i :: r => (vs[i]?).bind fun v => (permL vs r).map (v :: ·)
def mkDic : List PyData → List PyData → Option (List (PyData × PyData))
  | [], [] => some []
  | .str k :: ks, v :: vs => (mkDic ks vs).map ((.str k, v) :: ·)
  | _, _ => none
def dicV (ks vs : List Vl) (s : Sto) : Po Vl := (allD ks).bind fun ks => (allD vs).bind fun vs => match ks, vs with
  | [], [] => some (.d (.dict []), s)
  | [.str k], [v] => some (.d (.dict [(.str k, v)]), s)
  | _, _ => none
def zipV (x y : Vl) : Option Itr := match x, y with
  | .d (.list a), .d (.list b) => some (.vals (List.zipWith (fun u v => PyData.tuple [u, v]) a b))
  | .d (.tuple a), .d (.tuple b) => some (.vals (List.zipWith (fun u v => PyData.tuple [u, v]) a b))
  | .d (.list a), .d (.tuple b) => some (.vals (List.zipWith (fun u v => PyData.tuple [u, v]) a b))
  | .d (.tuple a), .d (.list b) => some (.vals (List.zipWith (fun u v => PyData.tuple [u, v]) a b))
  | _, _ => none
def enumV (x : Vl) : Option Itr := match x with
  | .d (.list a) => some (.vals (a.zipIdx.map fun p => PyData.tuple [.int p.2, p.1]))
  | .d (.tuple a) => some (.vals (a.zipIdx.map fun p => PyData.tuple [.int p.2, p.1]))
  | _ => none
def rngV (i j : Int) : Option Itr := if (-1000000 ≤ i ∧ i ≤ 1000000) ∧ -1000000 ≤ j ∧ j ≤ 1000000 then some (.vals ((List.range (j - i).toNat).map fun k : Nat => PyData.int (i + (k : Int)))) else none
def ofO {α : Type} (o : Option α) (s : Sto) : Rs α := match o with
  | some a => .ok a s
  | none => .no

mutual
def ev (C : Cal) : IE → Sl → Sto → Rs Vl
  | .var i, e, s => match e[i]? with
    | some (some v) => .ok v s
    | _ => .no
  | .lit d, _, s => .ok (.d d) s
  | .glob _ d, _, s => .ok (.d d) s
  | .bop m o a b, e, s => (ev C a e s).bind fun x s => (ev C b e s).bind fun y s => ofP (binV m o x y s)
  | .neg a, e, s => (ev C a e s).bind fun x s => match x with
    | .d (.int i) => .ok (.d (.int (-i))) s
    | _ => .no
  | .not a, e, s => (ev C a e s).bind fun x s => match isTrue? x with
    | some b => .ok (.d (.bool (!b))) s
    | none => .no
  | .cmp o a b, e, s => (ev C a e s).bind fun x s => (ev C b e s).bind fun y s => ofO ((cmpV o x y s).map fun b => .d (.bool b)) s
  | .chain o p a b c, e, s => (ev C a e s).bind fun x s => (ev C b e s).bind fun y s => match cmpV o x y s with
    | some true => (ev C c e s).bind fun z s => ofO ((cmpV p y z s).map fun b => .d (.bool b)) s
    | some false => .ok (.d (.bool false)) s
    | none => .no
  | .and es, e, s => ands C es e s
  | .or es, e, s => ors C es e s
  | .ite c a b, e, s => (ev C c e s).bind fun x s => match isTrue? x with
    | some true => ev C a e s
    | some false => ev C b e s
    | none => .no
  | .tup es, e, s => (evs C es e s).bind fun vs s => if vs.length ≤ 16777216 then ofO ((allD vs).map fun ds => .d (.tuple ds)) s else .no
  | .lst m es, e, s => (evs C es e s).bind fun vs s => ofP (mkL m vs s)
  | .rep m es k, e, s => (evs C es e s).bind fun vs s => if vs.length ≤ 1000 then (ev C k e s).bind fun x s => match x with
      | .d (.int k) => if 0 ≤ k ∧ k ≤ 1000 then ofP (mkL m (List.replicate k.toNat vs).flatten s) else .no
      | _ => .no
    else .no
  | .dic ks vs, e, s => (evs C ks e s).bind fun a s => (noex (evs C vs e s)).bind fun b s => ofP (dicV a b s)
  | .idx a i, e, s => (ev C a e s).bind fun x s => (ev C i e s).bind fun y s => ofP (idxV x y s)
  | .sli m a lo hi, e, s => (ev C a e s).bind fun x s => (evo C lo e s).bind fun l s => (evo C hi e s).bind fun h s => ofP (sliV m x l h s)
  | .rev m a, e, s => (ev C a e s).bind fun x s => ofP (revV m x s)
  | .bi m b es, e, s => (evs C es e s).bind fun vs s => ofP (biV m b vs s)
  | .isi a t, e, s => (ev C a e s).bind fun x s => ofO ((isT t x s).map fun b => .d (.bool b)) s
  | .me f a es, e, s => (ev C a e s).bind fun o s => match listV o s with
    | none => .no
    | some _ => (evs C es e s).bind fun vs s => ofP (meV f o vs s)
  | .call f es, e, s => (evs C es e s).bind fun vs s => C f vs s
  | .callk f es ks nms perm, e, s => (evs C es e s).bind fun us s => (evs C ks e s).bind fun vs s => if vs.length = nms.length then (match permL (us ++ vs) perm with
    | some ws => C f ws s
    | none => .no) else .no
  | .comp m elt tg it cnd own, e, s => (itr C it e s).bind fun I s => (noex (cmI (fun v s => match setTgV tg v (wipe e own) with
      | none => .no
      | some e1 => (tst C cnd e1 s).bind fun b s => if b then (ev C elt e1 s).bind fun x s => .ok (some x) s else .ok none s) I s)).bind fun vs s => ofP (mkL m vs s)
  | .comp2 m elt tg it tg2 it2 cnd own own2, e, s => (itr C it e s).bind fun I s => (noex (cmI (fun v s => match setTgV tg v (wipe e own) with
      | none => .no
      | some e1 => (itr C it2 e1 s).bind fun J s => (cmI (fun w s => match setTgV tg2 w (wipe e1 own2) with
          | none => .no
          | some e2 => (tst C cnd e2 s).bind fun b s => if b then (ev C elt e2 s).bind fun x s => .ok (some x) s else .ok none s) J s).bind fun r s => ofO ((allD r).map fun ds => some (.d (.list ds))) s) I s)).bind fun rs s =>
        match allD rs with
        | some ds => ofP (mkL m ((ds.map fun d => (itemsD d).getD []).flatten.map Vl.d) s)
        | none => .no
  | .frz a, e, s => (ev C a e s).bind fun x s => ofP (frzV x s)
  | .lrg m a, e, s => (ev C a e s).bind fun x s => ofP (lrgV m x s)
  | _, _, _ => .no
def evs (C : Cal) : IE → Sl → Sto → Rs (List Vl)
  | .nil, _, s => .ok [] s
  | .cons a r, e, s => (ev C a e s).bind fun x s => (evs C r e s).bind fun xs s => .ok (x :: xs) s
  | _, _, _ => .no
def ands (C : Cal) : IE → Sl → Sto → Rs Vl
  | .cons a .nil, e, s => ev C a e s
  | .cons a r, e, s => (ev C a e s).bind fun x s => match isTrue? x with
    | some true => ands C r e s
    | some false => .ok (.d (.bool false)) s
    | none => .no
  | _, _, _ => .no
def ors (C : Cal) : IE → Sl → Sto → Rs Vl
  | .cons a .nil, e, s => ev C a e s
  | .cons a r, e, s => (ev C a e s).bind fun x s => match isTrue? x with
    | some false => ors C r e s
    | some true => .ok (.d (.bool true)) s
    | none => .no
  | _, _, _ => .no
def evo (C : Cal) : IE → Sl → Sto → Rs (Option Int)
  | .nil, _, s => .ok none s
  | .cons a _, e, s => (ev C a e s).bind fun x s => ofO ((optI x).map some) s
  | _, _, _ => .no
def tst (C : Cal) : IE → Sl → Sto → Rs Bool
  | .nil, _, s => .ok true s
  | .cons a _, e, s => (ev C a e s).bind fun x s => ofO (isTrue? x) s
  | _, _, _ => .no
def itr (C : Cal) : IE → Sl → Sto → Rs Itr
  | .rng1 a, e, s => (ev C a e s).bind fun x s => ofO ((optI x).bind (rngV 0)) s
  | .rng2 a b, e, s => (ev C a e s).bind fun x s => (ev C b e s).bind fun y s => ofO ((optI x).bind fun i => (optI y).bind (rngV i)) s
  | .zip a b, e, s => (ev C a e s).bind fun x s => (ev C b e s).bind fun y s => ofO (zipV x y) s
  | .enum a, e, s => (ev C a e s).bind fun x s => ofO (enumV x) s
  | .itv a, e, s => (ev C a e s).bind fun x s => ofO (itrV x s) s
  | _, _, _ => .no
end

/-! ### statements -/
def liftR (e : Sl) : Rs Sl → Fl
  | .ok e' s => .nx e' s
  | .ex c v s => .ex c v e s
  | .no => .no
/-- a value goes to a target -/
def asgT (C : Cal) (tg : IE) (v : Vl) (e : Sl) (s : Sto) : Rs Sl := match tg with
  | .idx a i => (ev C a e s).bind fun o s => (ev C i e s).bind fun k s => match setV o k v s with
    | some s => .ok e s
    | none => .no
  | t => ofO (setTgV t v e) s
/-- how many -/
def ieLen : IE → Nat
  | .cons _ r => ieLen r + 1
  | _ => 0
/-- values go to targets -/
def asgs (C : Cal) : IE → List Vl → Sl → Sto → Fl
  | .nil, [], e, s => .nx e s
  | .cons t r, v :: vs, e, s => match asgT C t v e s with
    | .ok e' s' => asgs C r vs e' s'
    | .ex c v s => .ex c v e s
    | .no => .no
  | _, _, _, _ => .no
def goL (turn : Vl → Sl → Sto → Fl) : List PyData → Sl → Sto → Fl
  | [], e, s => .nx e s
  | x :: xs, e, s => match turn (.d x) e s with
    | .nx e s => goL turn xs e s
    | .ct e s => goL turn xs e s
    | .bk e s => .nx e s
    | .rt v s => .rt v s
    | .ex c v e s => .ex c v e s
    | .no => .no
def goR (turn : Vl → Sl → Sto → Fl) (n : Nat) : Nat → Nat → Sl → Sto → Fl
  | k, i, e, s => match listAt n s with
    | none => .no
    | some vs => match vs[i]? with
      | none => .nx e s
      | some v => match k with
        | 0 => .no
        | k + 1 => match turn v e s with
          | .nx e s => goR turn n k (i + 1) e s
          | .ct e s => goR turn n k (i + 1) e s
          | .bk e s => .nx e s
          | .rt v s => .rt v s
          | .ex c v e s => .ex c v e s
          | .no => .no
def goI (turn : Vl → Sl → Sto → Fl) (it : Itr) (e : Sl) (s : Sto) : Fl := match it with
  | .vals xs => goL turn xs e s
  | .ref n => goR turn n ((listAt n s).map List.length |>.getD 0) 0 e s
def whL (c : Sl → Sto → Rs Vl) (b : Sl → Sto → Fl) : Nat → Sl → Sto → Fl
  | 0, _, _ => .no
  | n + 1, e, s => match c e s with
    | .ok v s => match isTrue? v with
      | some true => match b e s with
        | .nx e s => whL c b n e s
        | .ct e s => whL c b n e s
        | .bk e s => .nx e s
        | .rt v s => .rt v s
        | .ex c v e s => .ex c v e s
        | .no => .no
      | some false => .nx e s
      | none => .no
    | .ex c v s => .ex c v e s
    | .no => .no
def exS (C : Cal) (fu : Nat) : IS → Sl → Sto → Fl
  | .nil, e, s => .nx e s
  | .cons a r, e, s => match exS C fu a e s with
    | .nx e s => exS C fu r e s
    | f => f
  | .asg tg a, e, s => liftR e ((ev C a e s).bind fun v s => asgT C tg v e s)
  | .par t u a b, e, s => liftR e ((ev C a e s).bind fun v s => (ev C b e s).bind fun w s => (asgT C t v e s).bind fun e s => asgT C u w e s)
  | .par3 i j k a b c, e, s => liftR e ((ev C a e s).bind fun v s => (ev C b e s).bind fun w s => (ev C c e s).bind fun x s => .ok (((e.set i (some v)).set j (some w)).set k (some x)) s)
  | .ptup ts es, e, s => match evs C es e s with
    | .ok vs s => if vs.length = ieLen ts ∧ vs.length ≤ 16777216 then asgs C ts vs e s else .no
    | .ex c v s => .ex c v e s
    | .no => .no
  | .aug i o a, e, s => match e[i]? with
    | some (some (.d (.int x))) => liftR e ((ev C a e s).bind fun y s => match y with
      | .d (.int y) => ofO ((binI o x y).map fun z => e.set i (some (.d (.int z)))) s
      | _ => .no)
    | _ => .no
  | .ite c a b, e, s => match ev C c e s with
    | .ok v s => match isTrue? v with
      | some true => exS C fu a e s
      | some false => exS C fu b e s
      | none => .no
    | .ex c v s => .ex c v e s
    | .no => .no
  | .forr tg it body, e, s => match itr C it e s with
    | .ok I s => goI (fun v e s => match setTgV tg v e with
      | none => .no
      | some e => exS C fu body e s) I e s
    | .ex c v s => .ex c v e s
    | .no => .no
  | .whil c body, e, s => whL (ev C c) (exS C fu body) fu e s
  | .ret a, e, s => match ev C a e s with
    | .ok v s => .rt v s
    | .ex c v s => .ex c v e s
    | .no => .no
  | .expr a, e, s => match ev C a e s with
    | .ok _ s => .nx e s
    | .ex c v s => .ex c v e s
    | .no => .no
  | .pass, e, s => .nx e s
  | .brk, e, s => .bk e s
  | .cont, e, s => .ct e s
  | .never, _, _ => .no

/-! ### defs -/
structure Df where
  np : Nat
  ns : Nat
  body : IS
def ltV (n : Nat) : Vl → Prop
  | .d _ => True
  | .r k => k < n
def ltO (n : Nat) : Option Ob → Prop
  | some (.lst vs) => ∀ v ∈ vs, ltV n v
  | none => True
/-- what was made within may be forgotten -/
def Cut (s₀ : Sto) (v : Vl) (s : Sto) : Prop := ltV s₀.length v ∧ ∀ i, i < s₀.length → s[i]? = s₀[i]? ∨ ∀ o, s[i]? = some o → ltO s₀.length o
open Classical in
noncomputable def leave (s₀ : Sto) : Fl → Rs Vl
  | .rt v s => if Cut s₀ v s then .ok v (s.take s₀.length) else .ok v s
  | .nx _ s => if Cut s₀ (.d .none) s then .ok (.d .none) (s.take s₀.length) else .ok (.d .none) s
  | .ex c v _ s => .ex c v s
  | _ => .no
noncomputable def callI (P : List Df) (fu : Nat) : Nat → Cal
  | 0 => fun _ _ _ => .no
  | k + 1 => fun f vs s => match P[f]? with
    | some F => if vs.length = F.np then leave s (exS (callI P fu k) fu F.body (vs.map some ++ List.replicate (F.ns - F.np) none) s) else .no
    | none => .no
end SM

/-! SM: how plain data and the store lie in HandS's heap. -/
namespace SM
open PySem L2

/-- where the store's lists lie; what lies beside them and is still changed (a comprehension's list) -/
structure Mu where
  l : List (Option Addr)
  hid : List Addr
def inL (m : Mu) (a : Addr) : Prop := some a ∈ m.l
def inM (m : Mu) (a : Addr) : Prop := inL m a ∨ a ∈ m.hid
def KL (K : PySem.W.Frag) (a : Addr) (xs : List V) : Prop := ∃ (o : Obj) (its : Array Value) (n : Nat), K.lookup a = some o ∧ o.cls = .type "list" ∧ o.dict = none ∧ o.data = .seq its n ∧ its.size ≤ sizeLine ∧ Vals xs its.toList
def KT (K : PySem.W.Frag) (a : Addr) (xs : List V) : Prop := ∃ (o : Obj) (its : Array Value) (n : Nat), K.lookup a = some o ∧ o.cls = .type "tuple" ∧ o.data = .seq its n ∧ its.size ≤ sizeLine ∧ Vals xs its.toList
def LsA (K : PySem.W.Frag) (m : Mu) (H : Hp) (a : Addr) (xs : List V) : Prop := (¬ inM m a ∧ Rd H a (.lst xs)) ∨ KL K a xs
def TpA (K : PySem.W.Frag) (m : Mu) (H : Hp) (a : Addr) (xs : List V) : Prop := (¬ inM m a ∧ Rd H a (.tup xs)) ∨ KT K a xs
theorem LsA.sq {K : PySem.W.Frag} {m : Mu} {H : Hp} {a : Addr} {xs : List V} (h : LsA K m H a xs) : SqL K H a xs := h.elim (fun x => .inl x.2) .inr
theorem TpA.sq {K : PySem.W.Frag} {m : Mu} {H : Hp} {a : Addr} {xs : List V} (h : TpA K m H a xs) : SqT K H a xs := h.elim (fun x => .inl x.2) .inr

def keyD : PyData → Key → Prop
  | .int i, k => k = .inl i
  | .str x, k => k = .inr x
  | _, _ => False
mutual
def Rep (K : PySem.W.Frag) (m : Mu) (H : Hp) : PyData → V → Prop
  | .none, v => v = .non
  | .bool b, v => v = .bl b
  | .int i, v => v = .int i
  | .str x, v => v = .str x
  | .list xs, v => ∃ a vs, v = .ref a ∧ LsA K m H a vs ∧ Reps K m H xs vs
  | .tuple xs, v => ∃ a vs, v = .ref a ∧ TpA K m H a vs ∧ Reps K m H xs vs
  | .dict kvs, v => ∃ a ks, v = .ref a ∧ ¬ inM m a ∧ H a = some (.dK ks) ∧ RepKv K m H kvs ks
def Reps (K : PySem.W.Frag) (m : Mu) (H : Hp) : List PyData → List V → Prop
  | [], vs => vs = []
  | x :: xs, vs => ∃ v r, vs = v :: r ∧ Rep K m H x v ∧ Reps K m H xs r
def RepKv (K : PySem.W.Frag) (m : Mu) (H : Hp) : List (PyData × PyData) → List (Key × V) → Prop
  | [], vs => vs = []
  | (k, x) :: xs, vs => ∃ j v r, vs = (j, v) :: r ∧ keyD k j ∧ Rep K m H x v ∧ RepKv K m H xs r
end
def RV (K : PySem.W.Frag) (m : Mu) (H : Hp) : Vl → V → Prop
  | .d x, v => Rep K m H x v
  | .r n, v => n < m.l.length ∧ ∀ a, m.l[n]? = some (some a) → v = .ref a
def RVs (K : PySem.W.Frag) (m : Mu) (H : Hp) : List Vl → List V → Prop
  | [], vs => vs = []
  | x :: xs, vs => ∃ v r, vs = v :: r ∧ RV K m H x v ∧ RVs K m H xs r
structure RS (K : PySem.W.Frag) (m : Mu) (H : Hp) (s : Sto) : Prop where
  len : m.l.length = s.length
  at_ : ∀ (n : Nat) (vs : List Vl), s[n]? = some (some (Ob.lst vs)) → ∃ a ws, m.l[n]? = some (some a) ∧ H a = some (.lst ws) ∧ RVs K m H vs ws
  dead : ∀ n : Nat, s[n]? = some none → m.l[n]? = some none
  inj : ∀ (i j : Nat) (a : Addr), m.l[i]? = some (some a) → m.l[j]? = some (some a) → i = j
  hd : ∀ a ∈ m.hid, H a ≠ none ∧ ¬ inL m a
structure RE (K : PySem.W.Frag) (m : Mu) (H : Hp) (e : Sl) (σ : L2.St) : Prop where
  len : e.length = σ.length
  at_ : ∀ (i : Nat) (v : Vl), e[i]? = some (some v) → ∃ x, σ[i]? = some (some x) ∧ RV K m H v x
def Kp (m : Mu) (H : Hp) (m' : Mu) (H' : Hp) : Prop := ∀ a o, H a = some o → ¬ inM m a → H' a = some o ∧ ¬ inM m' a
/-- what stood stands -/
structure Wk (m : Mu) (H : Hp) (m' : Mu) (H' : Hp) : Prop where
  kp : Kp m H m' H'
  len : m.l.length ≤ m'.l.length
  pl : ∀ n : Nat, n < m.l.length → m'.l[n]? = m.l[n]? ∨ m'.l[n]? = some none
structure Ext (m : Mu) (H : Hp) (m' : Mu) (H' : Hp) : Prop where
  kl : ∀ a o, H a = some o → ¬ inL m a → H' a = some o ∧ ¬ inL m' a
  len : m.l.length ≤ m'.l.length
  pl : ∀ n : Nat, n < m.l.length → m'.l[n]? = m.l[n]? ∨ m'.l[n]? = some none
  hid : m'.hid = m.hid

variable {K : PySem.W.Frag} {m m' m'' : Mu} {H H' H'' : Hp} {s : Sto} {e : Sl} {σ : L2.St}
theorem Ext.kp (x : Ext m H m' H') : Kp m H m' H' := fun a o h n => by
  obtain ⟨h1, h2⟩ := x.kl a o h fun z => n (.inl z)
  exact ⟨h1, fun z => z.elim h2 fun z => n (.inr (by rw [← x.hid]; exact z))⟩
theorem Ext.wk (x : Ext m H m' H') : Wk m H m' H' := ⟨x.kp, x.len, x.pl⟩
theorem Kp.at (x : Kp m H m' H') {a : Addr} {o : HO} (h : H a = some o) (n : ¬ inM m a) : H' a = some o ∧ ¬ inM m' a := x a o h n
theorem Ext.keep (x : Ext m H m' H') (a : Addr) (o : HO) (h : H a = some o) (n : ¬ inM m a) : H' a = some o ∧ ¬ inM m' a := x.kp.at h n
theorem Ext.refl : Ext m H m H := ⟨fun _ _ h n => ⟨h, n⟩, Nat.le_refl _, fun _ _ => .inl rfl, rfl⟩
theorem Ext.trans (a : Ext m H m' H') (b : Ext m' H' m'' H'') : Ext m H m'' H'' where
  kl := fun x o h n => let ⟨h1, n1⟩ := a.kl x o h n; b.kl x o h1 n1
  len := Nat.le_trans a.len b.len
  pl := fun n hn => by
    rcases b.pl n (Nat.lt_of_lt_of_le hn a.len) with h | h
    · rcases a.pl n hn with h' | h'
      · exact .inl (h.trans h')
      · exact .inr (h.trans h')
    · exact .inr h
  hid := b.hid.trans a.hid
theorem Kp.rd (x : Kp m H m' H') {a : Addr} {u : HO} (h : ¬ inM m a ∧ Rd H a u) : ¬ inM m' a ∧ Rd H' a u := by
  obtain ⟨n, h | ⟨o, h⟩⟩ := h
  · exact ⟨(x.at h n).2, .inl (x.at h n).1⟩
  · exact ⟨(x.at h n).2, .inr ⟨o, (x.at h n).1⟩⟩
theorem LsA.kp (x : Kp m H m' H') {a : Addr} {vs : List V} (h : LsA K m H a vs) : LsA K m' H' a vs := h.imp x.rd id
theorem TpA.kp (x : Kp m H m' H') {a : Addr} {vs : List V} (h : TpA K m H a vs) : TpA K m' H' a vs := h.imp x.rd id
mutual
theorem Rep.kp (x : Kp m H m' H') : ∀ {d : PyData} {v : V}, Rep K m H d v → Rep K m' H' d v
  | .none, _, h => h
  | .bool _, _, h => h
  | .int _, _, h => h
  | .str _, _, h => h
  | .list _, _, ⟨a, vs, e, h1, h2⟩ => ⟨a, vs, e, h1.kp x, Reps.kp x h2⟩
  | .tuple _, _, ⟨a, vs, e, h1, h2⟩ => ⟨a, vs, e, h1.kp x, Reps.kp x h2⟩
  | .dict _, _, ⟨a, ks, e, n, h1, h2⟩ => ⟨a, ks, e, (x.at h1 n).2, (x.at h1 n).1, RepKv.kp x h2⟩
theorem Reps.kp (x : Kp m H m' H') : ∀ {ds : List PyData} {vs : List V}, Reps K m H ds vs → Reps K m' H' ds vs
  | [], _, h => h
  | _ :: _, _, ⟨v, r, e, h1, h2⟩ => ⟨v, r, e, Rep.kp x h1, Reps.kp x h2⟩
theorem RepKv.kp (x : Kp m H m' H') : ∀ {ds : List (PyData × PyData)} {vs : List (Key × V)}, RepKv K m H ds vs → RepKv K m' H' ds vs
  | [], _, h => h
  | (_, _) :: _, _, ⟨j, v, r, e, hk, h1, h2⟩ => ⟨j, v, r, e, hk, Rep.kp x h1, RepKv.kp x h2⟩
end
theorem Rep.ext (x : Ext m H m' H') {d : PyData} {v : V} (h : Rep K m H d v) : Rep K m' H' d v := h.kp x.kp
theorem Reps.ext (x : Ext m H m' H') {d : List PyData} {v : List V} (h : Reps K m H d v) : Reps K m' H' d v := h.kp x.kp
theorem LsA.ext (x : Ext m H m' H') {a : Addr} {vs : List V} (h : LsA K m H a vs) : LsA K m' H' a vs := h.kp x.kp
theorem TpA.ext (x : Ext m H m' H') {a : Addr} {vs : List V} (h : TpA K m H a vs) : TpA K m' H' a vs := h.kp x.kp
theorem RV.wk (x : Wk m H m' H') : ∀ {u : Vl} {v : V}, RV K m H u v → RV K m' H' u v
  | .d _, _, h => Rep.kp x.kp h
  | .r n, v, ⟨h1, h2⟩ => ⟨Nat.lt_of_lt_of_le h1 x.len, fun a q => by
    rcases x.pl n h1 with z | z
    · exact h2 a (z ▸ q)
    · rw [z] at q; cases q⟩
theorem RVs.wk (x : Wk m H m' H') : ∀ {us : List Vl} {vs : List V}, RVs K m H us vs → RVs K m' H' us vs
  | [], _, h => h
  | _ :: _, _, ⟨v, r, e, h1, h2⟩ => ⟨v, r, e, RV.wk x h1, RVs.wk x h2⟩
theorem RV.ext (x : Ext m H m' H') {u : Vl} {v : V} (h : RV K m H u v) : RV K m' H' u v := h.wk x.wk
theorem RVs.ext (x : Ext m H m' H') {u : List Vl} {v : List V} (h : RVs K m H u v) : RVs K m' H' u v := h.wk x.wk
theorem RE.wk (x : Wk m H m' H') (r : RE K m H e σ) : RE K m' H' e σ := ⟨r.len, fun i v h => let ⟨y, h1, h2⟩ := r.at_ i v h; ⟨y, h1, RV.wk x h2⟩⟩
theorem RE.ext (x : Ext m H m' H') (r : RE K m H e σ) : RE K m' H' e σ := ⟨r.len, fun i v h => let ⟨y, h1, h2⟩ := r.at_ i v h; ⟨y, h1, RV.ext x h2⟩⟩

/-! ### lists of values -/
theorem RVs.length : ∀ {us : List Vl} {vs : List V}, RVs K m H us vs → us.length = vs.length
  | [], _, h => by have h : _ = [] := h; subst h; rfl
  | _ :: _, _, ⟨v, r, e, _, h2⟩ => by subst e; simp [RVs.length h2]
theorem Reps.length : ∀ {us : List PyData} {vs : List V}, Reps K m H us vs → us.length = vs.length
  | [], _, h => by have h : _ = [] := h; subst h; rfl
  | _ :: _, _, ⟨v, r, e, _, h2⟩ => by subst e; simp [Reps.length h2]
theorem Reps.rvs : ∀ {us : List PyData} {vs : List V}, Reps K m H us vs → RVs K m H (us.map Vl.d) vs
  | [], _, h => h
  | _ :: _, _, ⟨v, r, e, h1, h2⟩ => ⟨v, r, e, h1, Reps.rvs h2⟩
theorem RVs.reps : ∀ {us : List Vl} {vs : List V} {ds : List PyData}, RVs K m H us vs → allD us = some ds → Reps K m H ds vs
  | [], _, _, h, q => by cases q; exact h
  | .d x :: us, _, _, ⟨v, r, e, h1, h2⟩, q => by
    cases q' : allD us with
    | none => simp [allD, q'] at q
    | some ds => simp [allD, q'] at q; subst q; exact ⟨v, r, e, h1, RVs.reps h2 q'⟩
  | .r _ :: us, _, _, _, q => by cases q
theorem RVs.get : ∀ {us : List Vl} {vs : List V} {i : Nat} {u : Vl}, RVs K m H us vs → us[i]? = some u → ∃ v, vs[i]? = some v ∧ RV K m H u v
  | [], _, _, _, _, q => by simp at q
  | x :: us, _, 0, _, ⟨v, r, e, h1, h2⟩, q => by simp at q; subst q; subst e; exact ⟨v, rfl, h1⟩
  | x :: us, _, i + 1, _, ⟨v, r, e, h1, h2⟩, q => by
    subst e
    obtain ⟨w, a, b⟩ := RVs.get (i := i) h2 (by simpa using q)
    exact ⟨w, by simpa using a, b⟩
theorem RVs.get' : ∀ {us : List Vl} {vs : List V} {i : Nat} {v : V}, RVs K m H us vs → vs[i]? = some v → ∃ u, us[i]? = some u ∧ RV K m H u v
  | [], _, _, _, h, q => by have h : _ = [] := h; subst h; simp at q
  | x :: us, _, 0, _, ⟨v, r, e, h1, h2⟩, q => by subst e; simp at q; subst q; exact ⟨x, rfl, h1⟩
  | x :: us, _, i + 1, _, ⟨v, r, e, h1, h2⟩, q => by
    subst e
    obtain ⟨w, a, b⟩ := RVs.get' (i := i) h2 (by simpa using q)
    exact ⟨w, by simpa using a, b⟩
theorem RVs.app : ∀ {us ws : List Vl} {vs xs : List V}, RVs K m H us vs → RVs K m H ws xs → RVs K m H (us ++ ws) (vs ++ xs)
  | [], _, _, _, h, g => by have h : _ = [] := h; subst h; exact g
  | _ :: _, _, _, _, ⟨v, r, e, h1, h2⟩, g => by subst e; exact ⟨v, _, rfl, h1, RVs.app h2 g⟩
theorem RVs.one {u : Vl} {v : V} (h : RV K m H u v) : RVs K m H [u] [v] := ⟨v, [], rfl, h, rfl⟩
theorem RVs.take : ∀ {us : List Vl} {vs : List V} (n : Nat), RVs K m H us vs → RVs K m H (us.take n) (vs.take n)
  | _, _, 0, _ => by simp [RVs]
  | [], _, n + 1, h => by have h : _ = [] := h; subst h; simp [RVs]
  | _ :: _, _, n + 1, ⟨v, r, e, h1, h2⟩ => by subst e; exact ⟨v, _, rfl, h1, RVs.take n h2⟩
theorem RVs.drop : ∀ {us : List Vl} {vs : List V} (n : Nat), RVs K m H us vs → RVs K m H (us.drop n) (vs.drop n)
  | _, _, 0, h => h
  | [], _, n + 1, h => by have h : _ = [] := h; subst h; simp [RVs]
  | _ :: _, _, n + 1, ⟨v, r, e, h1, h2⟩ => by subst e; exact RVs.drop n h2
theorem RVs.set : ∀ {us : List Vl} {vs : List V} {u : Vl} {v : V} (n : Nat), RVs K m H us vs → RV K m H u v → RVs K m H (us.set n u) (vs.set n v)
  | [], _, _, _, n, h, _ => by have h : _ = [] := h; subst h; simp [RVs]
  | _ :: _, _, _, _, 0, ⟨v, r, e, h1, h2⟩, g => by subst e; exact ⟨_, _, rfl, g, h2⟩
  | _ :: _, _, _, _, n + 1, ⟨v, r, e, h1, h2⟩, g => by subst e; exact ⟨_, _, rfl, h1, RVs.set n h2 g⟩
theorem RVs.rev : ∀ {us : List Vl} {vs : List V}, RVs K m H us vs → RVs K m H us.reverse vs.reverse
  | [], _, h => by have h : _ = [] := h; subst h; simp [RVs]
  | _ :: _, _, ⟨v, r, e, h1, h2⟩ => by subst e; simp only [List.reverse_cons]; exact RVs.app (RVs.rev h2) (RVs.one h1)
theorem RVs.erase : ∀ {us : List Vl} {vs : List V} (n : Nat), RVs K m H us vs → RVs K m H (us.eraseIdx n) (vs.eraseIdx n)
  | [], _, n, h => by have h : _ = [] := h; subst h; simp [RVs]
  | _ :: _, _, 0, ⟨v, r, e, h1, h2⟩ => by subst e; exact h2
  | _ :: _, _, n + 1, ⟨v, r, e, h1, h2⟩ => by subst e; exact ⟨_, _, rfl, h1, RVs.erase n h2⟩
theorem RVs.rep : ∀ (n : Nat) {us : List Vl} {vs : List V}, RVs K m H us vs → RVs K m H (List.replicate n us).flatten (List.replicate n vs).flatten
  | 0, _, _, _ => by simp [RVs]
  | n + 1, _, _, h => by simp only [List.replicate_succ, List.flatten_cons]; exact RVs.app h (RVs.rep n h)
theorem Reps.ints : ∀ {us : List PyData} {vs : List V} {ns : List Int}, Reps K m H us vs → ints? us = some ns → vs = ns.map V.int
  | [], _, _, h, q => by cases q; exact h
  | .int x :: us, _, _, ⟨v, r, e, h1, h2⟩, q => by
    cases q' : ints? us with
    | none => simp [ints?, q'] at q
    | some ds =>
      simp [ints?, q'] at q
      subst q; subst e
      have h1 : v = V.int x := h1
      rw [h1, Reps.ints h2 q']; rfl
  | .none :: us, _, _, _, q => by cases q
  | .bool _ :: us, _, _, _, q => by cases q
  | .str _ :: us, _, _, _, q => by cases q
  | .list _ :: us, _, _, _, q => by cases q
  | .tuple _ :: us, _, _, _, q => by cases q
  | .dict _ :: us, _, _, _, q => by cases q
theorem Reps.bools : ∀ {us : List PyData} {vs : List V} {ns : List Bool}, Reps K m H us vs → bools? us = some ns → vs = ns.map V.bl
  | [], _, _, h, q => by cases q; exact h
  | .bool x :: us, _, _, ⟨v, r, e, h1, h2⟩, q => by
    cases q' : bools? us with
    | none => simp [bools?, q'] at q
    | some ds =>
      simp [bools?, q'] at q
      subst q; subst e
      have h1 : v = V.bl x := h1
      rw [h1, Reps.bools h2 q']; rfl
  | .none :: us, _, _, _, q => by cases q
  | .int _ :: us, _, _, _, q => by cases q
  | .str _ :: us, _, _, _, q => by cases q
  | .list _ :: us, _, _, _, q => by cases q
  | .tuple _ :: us, _, _, _, q => by cases q
  | .dict _ :: us, _, _, _, q => by cases q
theorem RVs.ofInts : ∀ (ns : List Int), Reps K m H (ns.map PyData.int) (ns.map V.int)
  | [] => rfl
  | _ :: r => ⟨_, _, rfl, rfl, RVs.ofInts r⟩

/-! ### the store's moves -/
theorem RS.mlst (r : RS K m H s) {a : Addr} (h : inL m a) : ∃ ws, H a = some (.lst ws) := by
  obtain ⟨n, hn, e⟩ := List.getElem_of_mem h
  have e : m.l[n]? = some (some a) := by rw [List.getElem?_eq_getElem hn, e]
  have hs : n < s.length := by rw [← r.len]; exact hn
  cases q : s[n] with
  | none =>
    have z := r.dead n (by rw [List.getElem?_eq_getElem hs, q])
    rw [e] at z; cases z
  | some o =>
    cases o with
    | lst vs =>
      obtain ⟨b, ws, h1, h2, _⟩ := r.at_ n vs (by rw [List.getElem?_eq_getElem hs, q])
      rw [e] at h1; cases h1
      exact ⟨ws, h2⟩
theorem RS.freshL (r : RS K m H s) {p : Addr} (h : H p = none) : ¬ inL m p := fun z => by
  obtain ⟨ws, q⟩ := r.mlst z
  rw [h] at q; cases q
theorem RS.fresh (r : RS K m H s) {p : Addr} (h : H p = none) : ¬ inM m p := fun z => z.elim (r.freshL h) fun z => (r.hd p z).1 h
theorem Ext.same (h : ∀ a o, H a = some o → H' a = some o) : Ext m H m H' := ⟨fun a o q n => ⟨h a o q, n⟩, Nat.le_refl _, fun _ _ => .inl rfl, rfl⟩
theorem there_of {a : Addr} (h : ∀ a o, H a = some o → H' a = some o) (n : H a ≠ none) : H' a ≠ none := by
  cases q : H a with
  | none => exact absurd q n
  | some o => rw [h a o q]; exact fun z => nomatch z
theorem RS.same (r : RS K m H s) (h : ∀ a o, H a = some o → H' a = some o) : RS K m H' s :=
  ⟨r.len, fun n vs q => let ⟨a, ws, h1, h2, h3⟩ := r.at_ n vs q; ⟨a, ws, h1, h a _ h2, RVs.ext (Ext.same h) h3⟩, r.dead, r.inj, fun a ha => ⟨there_of h (r.hd a ha).1, (r.hd a ha).2⟩⟩
theorem upd_keep {p : Addr} {o : HO} (hp : H p = none) : ∀ a u, H a = some u → upd H p o a = some u := fun a u q => by
  rw [upd_ne (ne_of_none q hp)]; exact q
/-- a new object that the store does not hold -/
theorem Ext.new {p : Addr} {o : HO} (hp : H p = none) : Ext m H m (upd H p o) := Ext.same (upd_keep hp)
theorem RS.new (r : RS K m H s) {p : Addr} {o : HO} (hp : H p = none) : RS K m (upd H p o) s := r.same (upd_keep hp)
def Mu.add (m : Mu) (p : Addr) : Mu := ⟨m.l ++ [some p], m.hid⟩
def Mu.kill (m : Mu) (n : Nat) : Mu := ⟨m.l.set n none, m.hid⟩
def Mu.cut (m : Mu) (n : Nat) : Mu := ⟨m.l.take n, m.hid⟩
theorem mem_app {a p : Addr} (h : inL (m.add p) a) : inL m a ∨ a = p := by
  rcases List.mem_append.mp h with h | h
  · exact .inl h
  · exact .inr (by simpa using h)
/-- a new list of the store -/
theorem RS.alloc (r : RS K m H s) {p : Addr} {vs : List Vl} {ws : List V} (hp : H p = none) (hv : RVs K m H vs ws) :
    Ext m H (m.add p) (upd H p (.lst ws)) ∧ RS K (m.add p) (upd H p (.lst ws)) (s ++ [some (.lst vs)]) ∧ RV K (m.add p) (upd H p (.lst ws)) (.r s.length) (.ref p) := by
  have x : Ext m H (m.add p) (upd H p (.lst ws)) := by
    refine ⟨fun a o q n => ⟨upd_keep hp a o q, fun z => ?_⟩, by simp [Mu.add], fun n hn => .inl (List.getElem?_append_left hn), rfl⟩
    rcases mem_app z with z | z
    · exact n z
    · subst z; rw [hp] at q; cases q
  have lm : (m.add p).l[s.length]? = some (some p) := by rw [← r.len]; simp [Mu.add]
  refine ⟨x, ⟨by simp [Mu.add, r.len], fun n us q => ?_, fun n q => ?_, fun i j a h1 h2 => ?_, fun a ha => ⟨there_of (upd_keep hp) (r.hd a ha).1, fun z => ?_⟩⟩, ?_⟩
  · by_cases hn : n < s.length
    · rw [List.getElem?_append_left hn] at q
      obtain ⟨a, zs, h1, h2, h3⟩ := r.at_ n us q
      refine ⟨a, zs, ?_, upd_keep hp _ _ h2, RVs.ext x h3⟩
      show (m.l ++ [some p])[n]? = _
      rw [List.getElem?_append_left (by rw [r.len]; exact hn)]; exact h1
    · have hn' : n = s.length := by
        have := (List.getElem?_eq_some_iff.mp q).1
        simp at this; omega
      subst hn'
      simp at q
      subst q
      exact ⟨p, ws, lm, upd_same, RVs.ext x hv⟩
  · by_cases hn : n < s.length
    · rw [List.getElem?_append_left hn] at q
      show (m.l ++ [some p])[n]? = _
      rw [List.getElem?_append_left (by rw [r.len]; exact hn)]
      exact r.dead n q
    · have hn' : n = s.length := by
        have := (List.getElem?_eq_some_iff.mp q).1
        simp at this; omega
      subst hn'
      simp at q
  · have key : ∀ i, (m.add p).l[i]? = some (some a) → (m.l[i]? = some (some a)) ∨ (i = m.l.length ∧ a = p) := fun i h => by
      have h : (m.l ++ [some p])[i]? = some (some a) := h
      by_cases hn : i < m.l.length
      · rw [List.getElem?_append_left hn] at h; exact .inl h
      · have hn' : i = m.l.length := by
          have := (List.getElem?_eq_some_iff.mp h).1
          simp at this; omega
        subst hn'
        simp at h
        exact .inr ⟨rfl, h.symm⟩
    rcases key i h1 with g1 | ⟨g1, e1⟩ <;> rcases key j h2 with g2 | ⟨g2, e2⟩
    · exact r.inj i j a g1 g2
    · rw [e2] at g1; exact absurd (List.mem_of_getElem? g1) (r.freshL hp)
    · rw [e1] at g2; exact absurd (List.mem_of_getElem? g2) (r.freshL hp)
    · omega
  · rcases mem_app z with z | z
    · exact (r.hd a ha).2 z
    · exact (r.hd a ha).1 (z ▸ hp)
  · refine ⟨by simp [Mu.add, r.len], fun a q => ?_⟩
    rw [lm] at q; cases q; rfl
/-- a list of the store is changed -/
theorem RS.put (r : RS K m H s) {n : Nat} {a : Addr} {vs : List Vl} {ws : List V} {us : List Vl} (hn : s[n]? = some (some (.lst us))) (ha : m.l[n]? = some (some a)) (hv : RVs K m H vs ws) :
    Ext m H m (upd H a (.lst ws)) ∧ RS K m (upd H a (.lst ws)) (putL n vs s) := by
  have x : Ext m H m (upd H a (.lst ws)) := by
    refine ⟨fun b o q nb => ⟨?_, nb⟩, Nat.le_refl _, fun _ _ => .inl rfl, rfl⟩
    rw [upd_ne]; exact q
    rintro rfl; exact nb (List.mem_of_getElem? ha)
  have hl : n < s.length := (List.getElem?_eq_some_iff.mp hn).1
  refine ⟨x, ⟨by simp [putL, r.len], fun k zs q => ?_, fun k q => ?_, r.inj, fun b hb => ⟨?_, (r.hd b hb).2⟩⟩⟩
  · by_cases hk : k = n
    · subst hk
      simp [putL, hl] at q
      subst q
      exact ⟨a, ws, ha, upd_same, RVs.ext x hv⟩
    · simp only [putL] at q
      rw [List.getElem?_set_ne (Ne.symm hk)] at q
      obtain ⟨b, xs, h1, h2, h3⟩ := r.at_ k zs q
      refine ⟨b, xs, h1, ?_, RVs.ext x h3⟩
      rw [upd_ne]; exact h2
      rintro rfl; exact hk (r.inj _ _ _ h1 ha)
  · by_cases hk : k = n
    · subst hk
      simp [putL, hl] at q
    · simp only [putL] at q
      rw [List.getElem?_set_ne (Ne.symm hk)] at q
      exact r.dead k q
  · by_cases hba : b = a
    · subst hba; rw [upd_same]; exact fun z => nomatch z
    · rw [upd_ne hba]; exact (r.hd b hb).1
/-- a list of the store becomes data -/
theorem RS.freeze (r : RS K m H s) {n : Nat} {a : Addr} {vs : List Vl} {ws : List V} {ds : List PyData} (hn : s[n]? = some (some (.lst vs))) (ha : m.l[n]? = some (some a)) (hw : H a = some (.lst ws)) (hd : Reps K m H ds ws) :
    Ext m H (m.kill n) H ∧ RS K (m.kill n) H (s.set n none) ∧ Rep K (m.kill n) H (.list ds) (.ref a) := by
  have hl : n < s.length := (List.getElem?_eq_some_iff.mp hn).1
  have hm : n < m.l.length := by rw [r.len]; exact hl
  have at1 : ∀ (i : Nat) (b : Addr), (m.kill n).l[i]? = some (some b) → m.l[i]? = some (some b) ∧ i ≠ n := fun i b e => by
    have e : (m.l.set n none)[i]? = some (some b) := e
    by_cases hin : i = n
    · rw [hin, List.getElem?_set_self hm] at e; cases e
    · rw [List.getElem?_set_ne (Ne.symm hin)] at e
      exact ⟨e, hin⟩
  have sub : ∀ b, inL (m.kill n) b → inL m b ∧ b ≠ a := fun b z => by
    obtain ⟨i, hi, e⟩ := List.getElem_of_mem z
    have e : (m.kill n).l[i]? = some (some b) := by rw [List.getElem?_eq_getElem hi, e]
    obtain ⟨e, hin⟩ := at1 i b e
    refine ⟨List.mem_of_getElem? e, ?_⟩
    rintro rfl; exact hin (r.inj _ _ _ e ha)
  have x : Ext m H (m.kill n) H := by
    refine ⟨fun b o q nb => ⟨q, fun z => nb (sub b z).1⟩, by simp [Mu.kill], fun k hk => ?_, rfl⟩
    by_cases hkn : k = n
    · subst hkn; exact .inr (by simp [Mu.kill, hk])
    · exact .inl (by show (m.l.set n none)[k]? = _; rw [List.getElem?_set_ne (Ne.symm hkn)])
  refine ⟨x, ⟨by simp [Mu.kill, r.len], fun k zs q => ?_, fun k q => ?_, fun i j b h1 h2 => r.inj i j b (at1 i b h1).1 (at1 j b h2).1, fun b hb => ⟨(r.hd b hb).1, fun z => (r.hd b hb).2 (sub b z).1⟩⟩, ?_⟩
  · by_cases hk : k = n
    · subst hk; simp [hl] at q
    · rw [List.getElem?_set_ne (Ne.symm hk)] at q
      obtain ⟨b, xs, h1, h2, h3⟩ := r.at_ k zs q
      exact ⟨b, xs, by show (m.l.set n none)[k]? = _; rw [List.getElem?_set_ne (Ne.symm hk)]; exact h1, h2, RVs.ext x h3⟩
  · show (m.l.set n none)[k]? = _
    by_cases hk : k = n
    · subst hk; simp [hm]
    · rw [List.getElem?_set_ne (Ne.symm hk)] at q ⊢
      exact r.dead k q
  · have na : ¬ inM (m.kill n) a := fun z => z.elim (fun z => (sub a z).2 rfl) fun z => (r.hd a z).2 (List.mem_of_getElem? ha)
    exact ⟨a, ws, rfl, .inl ⟨na, .inl hw⟩, Reps.ext x hd⟩
/-- .. and the lists of the store in it -/
theorem RS.frzL : ∀ {vs : List Vl} {m : Mu} {s : Sto} {ws : List V} {p : List PyData × Sto}, RS K m H s → RVs K m H vs ws → frzL vs s = some p → ∃ m', Ext m H m' H ∧ RS K m' H p.2 ∧ Reps K m' H p.1 ws
  | [], m, s, ws, p, r, rv, h => by cases h; exact ⟨m, Ext.refl, r, rv⟩
  | .d x :: vs, m, s, ws, p, r, ⟨v, r', e, h1, h2⟩, h => by
    have h : (SM.frzL vs s).map (fun q => (x :: q.1, q.2)) = some p := h
    cases q : SM.frzL vs s with
    | none => rw [q] at h; cases h
    | some q' =>
      rw [q] at h
      cases h
      obtain ⟨m', e1, e2, e3⟩ := RS.frzL r h2 q
      exact ⟨m', e1, e2, v, r', e, Rep.ext e1 h1, e3⟩
  | .r k :: vs, m, s, ws, p, r, ⟨v, r', e, h1, h2⟩, h => by
    have h : (listAt k s).bind (fun us => (allD us).bind fun ds => (SM.frzL vs (s.set k none)).map fun p => (.list ds :: p.1, p.2)) = some p := h
    cases q1 : listAt k s with
    | none => rw [q1] at h; cases h
    | some us =>
      rw [q1] at h
      have h : (allD us).bind (fun ds => (SM.frzL vs (s.set k none)).map fun p => (PyData.list ds :: p.1, p.2)) = some p := h
      cases q2 : allD us with
      | none => rw [q2] at h; cases h
      | some ds =>
        rw [q2] at h
        have h : (SM.frzL vs (s.set k none)).map (fun p => (PyData.list ds :: p.1, p.2)) = some p := h
        have g : s[k]? = some (some (.lst us)) := by
          unfold listAt at q1
          split at q1
          · cases q1; assumption
          · cases q1
        obtain ⟨a, xs, g1, g2, g3⟩ := r.at_ k us g
        obtain ⟨f1, f2, f3⟩ := r.freeze g g1 g2 (RVs.reps g3 q2)
        cases q3 : SM.frzL vs (s.set k none) with
        | none => rw [q3] at h; cases h
        | some q' =>
          rw [q3] at h
          cases h
          obtain ⟨m', e1, e2, e3⟩ := RS.frzL f2 (RVs.ext f1 h2) q3
          have ev : v = .ref a := h1.2 a g1
          exact ⟨m', f1.trans e1, e2, v, r', e, by rw [ev]; exact Rep.ext e1 f3, e3⟩
/-- what was made within a call is forgotten -/
theorem mem_take {n : Nat} {a : Addr} (h : inL (m.cut n) a) : inL m a := List.mem_of_mem_take h
theorem Kp.take (n : Nat) : Kp m H (m.cut n) H := fun _ _ q z => ⟨q, fun y => z (y.imp mem_take id)⟩
theorem RV.take {n : Nat} (hn : n ≤ m.l.length) : ∀ {u : Vl} {v : V}, RV K m H u v → ltV n u → RV K (m.cut n) H u v
  | .d _, _, h, _ => Rep.kp (Kp.take n) h
  | .r k, v, ⟨h1, h2⟩, q => by
    have q : k < n := q
    refine ⟨by show k < (m.l.take n).length; rw [List.length_take]; omega, fun a z => h2 a ?_⟩
    have z : (m.l.take n)[k]? = some (some a) := z
    rw [List.getElem?_take_of_lt q] at z; exact z
theorem RVs.takeM {n : Nat} (hn : n ≤ m.l.length) : ∀ {us : List Vl} {vs : List V}, RVs K m H us vs → (∀ u ∈ us, ltV n u) → RVs K (m.cut n) H us vs
  | [], _, h, _ => h
  | x :: us, _, ⟨v, r, e, h1, h2⟩, q => ⟨v, r, e, RV.take hn h1 (q x List.mem_cons_self), RVs.takeM hn h2 fun u hu => q u (List.mem_cons_of_mem _ hu)⟩
theorem RV.lt : ∀ {u : Vl} {v : V}, RV K m H u v → ltV m.l.length u
  | .d _, _, _ => trivial
  | .r _, _, h => h.1
theorem RVs.lt : ∀ {us : List Vl} {vs : List V}, RVs K m H us vs → ∀ u ∈ us, ltV m.l.length u
  | x :: us, _, ⟨v, r, e, h1, h2⟩, u, hu => by
    rcases List.mem_cons.mp hu with rfl | hu
    · exact h1.lt
    · exact RVs.lt h2 u hu
theorem RS.cut {s₀ : Sto} (r₀ : RS K m H s₀) (x : Ext m H m' H') (r : RS K m' H' s) {v : Vl} {y : V} (rv : RV K m' H' v y) (c : Cut s₀ v s) :
    Ext m H (m'.cut s₀.length) H' ∧ RS K (m'.cut s₀.length) H' (s.take s₀.length) ∧ RV K (m'.cut s₀.length) H' v y := by
  have hl : s₀.length ≤ m'.l.length := by rw [← r₀.len]; exact x.len
  have tk : ∀ n, n < s₀.length → (m'.cut s₀.length).l[n]? = m'.l[n]? := fun n hn => List.getElem?_take_of_lt hn
  have tl : (m'.cut s₀.length).l.length = s₀.length := by show (m'.l.take _).length = _; rw [List.length_take]; omega
  have inb : ∀ {n : Nat} {o : Option Ob}, (s.take s₀.length)[n]? = some o → n < s₀.length ∧ s[n]? = some o := fun {n o} q => by
    have hn : n < s₀.length := by
      have := (List.getElem?_eq_some_iff.mp q).1
      simp at this; omega
    rw [List.getElem?_take_of_lt hn] at q
    exact ⟨hn, q⟩
  refine ⟨⟨fun a o q n => ⟨(x.kl a o q n).1, fun z => (x.kl a o q n).2 (mem_take z)⟩, by rw [tl, r₀.len]; exact Nat.le_refl _, fun n hn => ?_, x.hid⟩, ⟨?_, fun n vs q => ?_, fun n q => ?_, fun i j a h1 h2 => ?_, fun a ha => ⟨(r.hd a ha).1, fun z => (r.hd a ha).2 (mem_take z)⟩⟩, RV.take hl rv c.1⟩
  · rw [tk n (by rw [← r₀.len]; exact hn)]
    exact x.pl n hn
  · rw [tl, List.length_take, ← r.len]; omega
  · obtain ⟨hn, q⟩ := inb q
    rw [tk n hn]
    obtain ⟨a, ws, h1, h2, h3⟩ := r.at_ n vs q
    refine ⟨a, ws, h1, h2, RVs.takeM hl h3 ?_⟩
    rcases c.2 n hn with z | z
    · rw [z] at q
      obtain ⟨_, _, _, _, g⟩ := r₀.at_ n vs q
      have := g.lt
      rwa [r₀.len] at this
    · exact z _ q
  · obtain ⟨hn, q⟩ := inb q
    rw [tk n hn]
    exact r.dead n q
  · have key : ∀ i, (m'.cut s₀.length).l[i]? = some (some a) → m'.l[i]? = some (some a) := fun i h => by
      have hi : i < s₀.length := by
        have := (List.getElem?_eq_some_iff.mp h).1
        rwa [tl] at this
      rwa [tk i hi] at h
    exact r.inj i j a (key i h1) (key j h2)
/-- a list beside the store -/
def Mu.hide (m : Mu) (p : Addr) : Mu := ⟨m.l, p :: m.hid⟩
theorem Wk.hide {p : Addr} {o : HO} (hp : H p = none) : Wk m H (m.hide p) (upd H p o) := by
  refine ⟨fun a u h n => ⟨upd_keep hp a u h, fun z => ?_⟩, Nat.le_refl _, fun _ _ => .inl rfl⟩
  rcases z with z | z
  · exact n (.inl z)
  · rcases List.mem_cons.mp z with z | z
    · subst z; rw [hp] at h; cases h
    · exact n (.inr z)
theorem RS.hide (r : RS K m H s) {p : Addr} {o : HO} (hp : H p = none) : RS K (m.hide p) (upd H p o) s := by
  refine ⟨r.len, fun n vs q => ?_, r.dead, r.inj, fun a ha => ?_⟩
  · obtain ⟨a, ws, h1, h2, h3⟩ := r.at_ n vs q
    exact ⟨a, ws, h1, upd_keep hp _ _ h2, RVs.wk (Wk.hide hp) h3⟩
  · rcases List.mem_cons.mp ha with rfl | ha
    · exact ⟨(by rw [upd_same]; exact fun z => nomatch z), r.freshL hp⟩
    · exact ⟨there_of (upd_keep hp) (r.hd a ha).1, (r.hd a ha).2⟩
/-- the hidden list is changed -/
theorem Wk.hidden {p : Addr} {o : HO} (h : p ∈ m.hid) : Wk m H m (upd H p o) := by
  refine ⟨fun a u q n => ⟨?_, n⟩, Nat.le_refl _, fun _ _ => .inl rfl⟩
  rw [upd_ne]; exact q
  rintro rfl; exact n (.inr h)
theorem RS.hidden (r : RS K m H s) {p : Addr} {o : HO} (h : p ∈ m.hid) : RS K m (upd H p o) s := by
  refine ⟨r.len, fun n vs q => ?_, r.dead, r.inj, fun a ha => ⟨?_, (r.hd a ha).2⟩⟩
  · obtain ⟨a, ws, h1, h2, h3⟩ := r.at_ n vs q
    refine ⟨a, ws, h1, ?_, RVs.wk (Wk.hidden h) h3⟩
    rw [upd_ne]; exact h2
    rintro rfl; exact (r.hd _ h).2 (List.mem_of_getElem? h1)
  · by_cases hba : a = p
    · subst hba; rw [upd_same]; exact fun z => nomatch z
    · rw [upd_ne hba]; exact (r.hd a ha).1
/-- it is hidden no more -/
def Mu.show (m : Mu) (h : List Addr) : Mu := ⟨m.l, h⟩
theorem Wk.show {p : Addr} {h : List Addr} (e : m.hid = p :: h) : Wk m H (m.show h) H := by
  refine ⟨fun a u q n => ⟨q, fun z => ?_⟩, Nat.le_refl _, fun _ _ => .inl rfl⟩
  rcases z with z | z
  · exact n (.inl z)
  · exact n (.inr (by rw [e]; exact List.mem_cons_of_mem _ z))
theorem RS.show (r : RS K m H s) {p : Addr} {h : List Addr} (e : m.hid = p :: h) : RS K (m.show h) H s := by
  refine ⟨r.len, fun n vs q => ?_, r.dead, r.inj, fun a ha => r.hd a (by rw [e]; exact List.mem_cons_of_mem _ ha)⟩
  obtain ⟨a, ws, h1, h2, h3⟩ := r.at_ n vs q
  exact ⟨a, ws, h1, h2, RVs.wk (Wk.show e) h3⟩

/-! ### ends -/
def Post {α β : Type} (K : PySem.W.Frag) (cl : Nat → Value) (R : Mu → Hp → α → β → Prop) (E : XK) (Q : β → Hp → Prop) (m : Mu) (H : Hp) : Rs α → Prop
  | .ok a s => ∀ m' H' b, Ext m H m' H' → RS K m' H' s → R m' H' a b → Q b H'
  | .ex c v s => ∀ m' H' d y, Ext m H m' H' → RS K m' H' s → RV K m' H' v y → H' d = some (.xd [("value", y)]) → E (cl c) (some d) H'
  | .no => False
section
variable {α β γ δ : Type} {cl : Nat → Value} {R : Mu → Hp → α → β → Prop} {R' : Mu → Hp → γ → δ → Prop} {E : XK} {Q Q' : β → Hp → Prop} {G : δ → Hp → Prop}
theorem Post.mono : ∀ {r : Rs α}, Post K cl R E Q m H r → (∀ m' H' b, Ext m H m' H' → Q b H' → Q' b H') → Post K cl R E Q' m H r
  | .ok _ _, h, f => fun m' H' b x r q => f m' H' b x (h m' H' b x r q)
  | .ex _ _ _, h, _ => h
  | .no, h, _ => h
theorem Post.ext (x : Ext m H m' H') : ∀ {r : Rs α}, Post K cl R E Q m H r → Post K cl R E Q m' H' r
  | .ok _ _, h => fun m' H' b y r q => h m' H' b (x.trans y) r q
  | .ex _ _ _, h => fun m' H' d y z r q e => h m' H' d y (x.trans z) r q e
  | .no, h => h
/-- one run behind another -/
theorem Post.bind {f : α → Sto → Rs γ} : ∀ {r : Rs α}, Post K cl R' E G m H (r.bind f) →
    Post K cl R E (fun b H1 => ∃ m1 a s1, Ext m H m1 H1 ∧ RS K m1 H1 s1 ∧ R m1 H1 a b ∧ Post K cl R' E G m1 H1 (f a s1)) m H r
  | .ok a s, h => fun m' H' b x r q => ⟨m', a, s, x, r, q, Post.ext x h⟩
  | .ex _ _ _, h => h
  | .no, h => h
end
end SM

/-! SM: operators, by values. -/
namespace SM
open PySem L2 PySem.Spec PyProof.Rows

def PostP (K : PySem.W.Frag) (Q : VK) (m : Mu) (H : Hp) : Po Vl → Prop
  | some (v, s) => ∀ m' H' x, Ext m H m' H' → RS K m' H' s → RV K m' H' v x → Q x H'
  | none => False
theorem Post.pure {K : PySem.W.Frag} {cl : Nat → Value} {E : XK} {Q : VK} {m : Mu} {H : Hp} : ∀ {p : Po Vl}, Post K cl (RV K) E Q m H (ofP p) → PostP K Q m H p
  | some (_, _), h => h
  | none, h => h
/-- by values: the operator f does what g tells -/
def rOp (K : PySem.W.Frag) (g : Vl → Vl → Sto → Po Vl) : R2 := fun x y H Q => ∃ m s v w, RV K m H v x ∧ RV K m H w y ∧ RS K m H s ∧ PostP K Q m H (g v w s)
def rFn (K : PySem.W.Frag) (g : List Vl → Sto → Po Vl) : List V → Hp → VK → Prop := fun xs H Q => ∃ m s vs, RVs K m H vs xs ∧ RS K m H s ∧ PostP K Q m H (g vs s)

section
variable {X : Cx} {pins : List (Addr × Obj)} {σ : L2.St} {H : Hp} {st : Shared} {m : Mu} {s : Sto} {Q : VK}
theorem OpR.weak {f : Value → Value → Sem Value} {r r' : R2} (h : OpR X f r) (w : ∀ x y H Q, r' x y H Q → r x y H Q) : OpR X f r' :=
  fun pins s σ H x y v u Q I rx ry q => h pins s σ H x y v u Q I rx ry (w _ _ _ _ q)
theorem CallR.weak {f : Value} {r r' : List V → Hp → VK → Prop} (h : CallR X f r) (w : ∀ x H Q, r' x H Q → r x H Q) : CallR X f r' :=
  fun pins s σ H x y Q I rx q => h pins s σ H x y Q I rx (w _ _ _ q)
/-- the end at the very state -/
theorem PostP.here {K : PySem.W.Frag} {v : Vl} {x : V} (r : RS K m H s) (rv : RV K m H v x) (h : PostP K Q m H (some (v, s))) : Q x H := h m H x Ext.refl r rv
/-- a new list -/
theorem mkL_new {K : PySem.W.Frag} {mf : Bool} {vs : List Vl} {ws : List V} {p : Addr} (r : RS K m H s) (rv : RVs K m H vs ws) (hp : H p = none) (h : PostP K Q m H (mkL mf vs s)) : Q (.ref p) (upd H p (.lst ws)) := by
  unfold mkL at h
  split at h
  · cases mf with
    | true =>
      simp only [if_true] at h
      obtain ⟨x, rs, rr⟩ := r.alloc hp rv
      exact h _ _ _ x rs rr
    | false =>
      simp only [Bool.false_eq_true, if_false] at h
      cases q : allD vs with
      | none => rw [q] at h; exact h.elim
      | some ds =>
        rw [q] at h
        have x : Ext m H m (upd H p (.lst ws)) := Ext.new hp
        exact h _ _ _ x (r.new hp) ⟨p, ws, rfl, .inl ⟨r.fresh hp, .inl upd_same⟩, Reps.ext x (rv.reps q)⟩
  · exact h.elim
theorem mkL_len {K : PySem.W.Frag} {mf : Bool} {vs : List Vl} (h : PostP K Q m H (mkL mf vs s)) : vs.length ≤ sizeLine := by
  unfold mkL at h
  split at h
  · rename_i z; rw [sizeLine_eq]; exact z
  · exact h.elim
/-- a new tuple -/
theorem tup_new {K : PySem.W.Frag} {ds : List PyData} {ws : List V} {p : Addr} (r : RS K m H s) (rv : Reps K m H ds ws) (hp : H p = none) (h : PostP K Q m H (some (.d (.tuple ds), s))) : Q (.ref p) (upd H p (.tup ws)) := by
  have x : Ext m H m (upd H p (.tup ws)) := Ext.new hp
  exact h _ _ _ x (r.new hp) ⟨p, ws, rfl, .inl ⟨r.fresh hp, .inl upd_same⟩, Reps.ext x rv⟩
theorem listAt_some {n : Nat} {vs : List Vl} (h : listAt n s = some vs) : s[n]? = some (some (.lst vs)) := by
  unfold listAt at h
  split at h
  · rename_i q; cases h; exact q
  · cases h
/-- the place of a list -/
theorem RS.get {K : PySem.W.Frag} (r : RS K m H s) {n : Nat} {vs : List Vl} {x : V} (h : listAt n s = some vs) (rx : RV K m H (.r n) x) : ∃ a ws, x = .ref a ∧ m.l[n]? = some (some a) ∧ H a = some (.lst ws) ∧ RVs K m H vs ws := by
  obtain ⟨a, ws, h1, h2, h3⟩ := r.at_ n vs (listAt_some h)
  exact ⟨a, ws, rx.2 a h1, h1, h2, h3⟩
/-- what is a list or tuple -/
theorem itemsV_sq {K : PySem.W.Frag} (r : RS K m H s) {v : Vl} {x : V} {vs : List Vl} (h : itemsV v s = some vs) (rx : RV K m H v x) : ∃ a ws, x = .ref a ∧ (SqL K H a ws ∨ SqT K H a ws) ∧ RVs K m H vs ws := by
  cases v with
  | r n =>
    obtain ⟨a, ws, e, _, h2, h3⟩ := r.get h rx
    exact ⟨a, ws, e, .inl (SqL.of h2), h3⟩
  | d x =>
    cases x with
    | list xs =>
      cases h
      obtain ⟨a, ws, e, h1, h2⟩ := rx
      exact ⟨a, ws, e, .inl h1.sq, h2.rvs⟩
    | tuple xs =>
      cases h
      obtain ⟨a, ws, e, h1, h2⟩ := rx
      exact ⟨a, ws, e, .inr h1.sq, h2.rvs⟩
    | _ => cases h

/-! ### binary operators -/
theorem op_powX : OpR X (binaryOp .Pow) (rI (fun i j => 0 ≤ j ∧ j ≤ 1000000 ∧ (i.natAbs.log2 + 1) * j.toNat ≤ 1000000) fun i j => .int (i ^ j.toNat)) := opI fun i j _ _ _ _ _ hc q => by
  refine pow_int hc.1 ?_ q
  have b : Builtin.Int.intBits i ≤ i.natAbs.log2 + 1 := by
    unfold Builtin.Int.intBits
    split <;> omega
  have h1 : Builtin.Int.intBits i * j.toNat ≤ 1000000 := Nat.le_trans (Nat.mul_le_mul_right _ b) hc.2.2
  have h2 : ((Builtin.Int.intBits i * j.toNat : Nat) : Int) = (Builtin.Int.intBits i : Int) * j := by
    rw [Int.natCast_mul, Int.toNat_of_nonneg hc.1]
  omega
theorem op_mulY : OpR X (binaryOp .Mult) (rI mulOk fun i j => .int (i * j)) := opI fun i j _ _ _ _ _ hc q => by
  refine mul_int q ?_
  rcases hc with h | h | h
  · exact .of_left (intBits_le_64 (by omega) (by omega))
  · exact .of_right (intBits_le_64 (by omega) (by omega))
  · exact CMulW.ok h
def opOf : BOp → Operator
  | .add => .Add | .sub => .Sub | .mul => .Mult | .fdiv => .FloorDiv | .mod => .Mod | .pow => .Pow | .shl => .LShift | .shr => .RShift | .bor => .BitOr | .band => .BitAnd
theorem rI_if {Cd : Int → Int → Prop} [∀ i j, Decidable (Cd i j)] {g : Int → Int → Int} {x y : V} {H : Hp} {Q : VK} {i j k : Int} (e1 : x = .int i) (e2 : y = .int j) (e3 : (if Cd i j then some (g i j) else none) = some k) (q : Q (.int k) H) : rI Cd (fun i j => .int (g i j)) x y H Q := by
  split at e3
  · cases e3
    exact ⟨i, j, e1, e2, by assumption, q⟩
  · cases e3
def rBinI (o : BOp) : R2 := fun x y H Q => ∃ i j k, x = .int i ∧ y = .int j ∧ binI o i j = some k ∧ Q (.int k) H
instance (i j : Int) : Decidable (CDivW i j) := by unfold CDivW; infer_instance
def CDivZ (_ j : Int) : Prop := j ≠ 0 ∧ j.natAbs.log2 < 9000
theorem op_fdivZ : OpR X (binaryOp .FloorDiv) (rI CDivZ fun i j => .int (i.fdiv j)) := opI fun i j _ _ _ _ _ hc q => floordiv_int hc.1 q (.inl (PyProof.noPylong_of_log2 hc.2))
theorem bin_int : (o : BOp) → OpR X (binaryOp (opOf o)) (rBinI o)
  | .add => OpR.weak op_add fun x y H Q ⟨i, j, k, e1, e2, e3, q⟩ => ⟨i, j, e1, e2, by cases e3; exact q⟩
  | .sub => OpR.weak op_sub fun x y H Q ⟨i, j, k, e1, e2, e3, q⟩ => ⟨i, j, e1, e2, by cases e3; exact q⟩
  | .mul => OpR.weak op_mulY fun x y H Q ⟨i, j, k, e1, e2, e3, q⟩ => rI_if (Cd := mulOk) e1 e2 e3 q
  | .fdiv => OpR.weak op_fdivZ fun x y H Q ⟨i, j, k, e1, e2, e3, q⟩ => by
      simp only [binI] at e3
      split at e3
      · rename_i hz
        cases e3
        refine ⟨i, j, e1, e2, ⟨by omega, hz.2⟩, ?_⟩
        show Q (.int (i.fdiv j)) H
        rw [Int.fdiv_eq_ediv_of_nonneg i (show 0 ≤ j by omega)]
        exact q
      · split at e3
        · rename_i hz
          cases e3
          exact ⟨i, j, e1, e2, ⟨by omega, hz.2⟩, q⟩
        · cases e3
  | .mod => OpR.weak op_mod fun x y H Q ⟨i, j, k, e1, e2, e3, q⟩ => rI_if (Cd := fun _ j => 0 < j) e1 e2 e3 q
  | .pow => OpR.weak op_powX fun x y H Q ⟨i, j, k, e1, e2, e3, q⟩ => rI_if (Cd := fun i j => 0 ≤ j ∧ j ≤ 1000000 ∧ (i.natAbs.log2 + 1) * j.toNat ≤ 1000000) e1 e2 e3 q
  | .shl => OpR.weak op_shl fun x y H Q ⟨i, j, k, e1, e2, e3, q⟩ => by
      simp only [binI] at e3
      split at e3
      · cases e3
        exact ⟨i, j, e1, e2, by assumption, q⟩
      · cases e3
  | .shr => OpR.weak op_shr fun x y H Q ⟨i, j, k, e1, e2, e3, q⟩ => rI_if (Cd := fun _ j => 0 ≤ j) e1 e2 e3 q
  | .bor => OpR.weak op_or fun x y H Q ⟨i, j, k, e1, e2, e3, q⟩ => ⟨i, j, e1, e2, by cases e3; exact q⟩
  | .band => OpR.weak op_and fun x y H Q ⟨i, j, k, e1, e2, e3, q⟩ => ⟨i, j, e1, e2, by cases e3; exact q⟩
/-- list + list, whatever they stand in -/
def rCatL (K : PySem.W.Frag) : R2 := fun x y H Q => ∃ l b xs zs, x = .ref l ∧ y = .ref b ∧ SqL K H l xs ∧ SqL K H b zs ∧ xs.length + zs.length ≤ sizeLine ∧ ∀ p, H p = none → Q (.ref p) (upd H p (.lst (xs ++ zs)))
theorem op_catL : OpR X (binaryOp .Add) (rCatL X.K) := by
  intro pins st σ H x y v u Q I rx ry h
  obtain ⟨l, b, xs, zs, rfl, rfl, hH, hB, hz, q⟩ := h
  cases rx
  cases ry
  obtain ⟨its, r, ⟨⟨cls, dd, data, sl⟩, n, ho, hc, _, hd⟩, z⟩ := I.list hH
  obtain ⟨its2, r2, ⟨⟨cls2, dd2, data2, sl2⟩, n2, ho2, hc2, _, hd2⟩, z2⟩ := I.list hB
  simp only at hc hd hc2 hd2
  subst hc hd hc2 hd2
  have ea : its.toArray ++ its2.toArray = (its ++ its2).toArray := by simp
  have l1 := r.length
  have l2 := r2.length
  refine concat_meets ⟨_, ho, rfl⟩ ⟨_, ho2, rfl⟩ noFill_list_add seq_list_add PySem.F.slot_list_add PySem.F.entry_list_add (PySem.F.args_list_add_2 _ _) (list_addW l b its.toArray its2.toArray n n2 dd dd2 sl sl2 (by rw [List.size_toArray, List.size_toArray]; omega)) ⟨ho, ho2, ?_⟩
  rw [ea]
  exact ⟨.ref _, _, I.lnew (t' := st.toks) (r.append r2) (by rw [List.length_append]; omega), rfl, q _ I.fresh⟩
/-- () * k -/
theorem tuple_mul0 (l : Addr) (n : Nat) (dd : Option Addr) (sl : Array (Option Value)) (x : Int) (u : Tok) (c0 : (decide (x < -(2 ^ 63)) || decide (x ≥ 2 ^ 63)) = false) :
    Meets (Builtin.«tuple.__mul__» ⟨[.ref l, .int x u], []⟩) (fun _ R s => s.heap.get? l = some { cls := .type "tuple", dict := dd, data := .seq #[] n, slots := sl } ∧ R (.ok (.ret (Value.ref l))) s) :=
  .of_wp fun prog w A R s h => by
    obtain ⟨hp, g, d, tk, os⟩ := s
    obtain ⟨hl, h⟩ := h
    have f1 := AutoSeq1.idx_int
    wp_walk using wpAny_loadPart' hl
    repeat (first
      | (refine wpAny_ite_false (decide_eq_false (by rw [c0]; exact Bool.false_ne_true)) ?_; wp_walk using wpAny_loadPart' hl))
    exact ⟨_, rfl, h⟩
def rRepT0 (K : PySem.W.Frag) : R2 := fun x y H Q => ∃ l k, x = .ref l ∧ y = .int k ∧ SqT K H l [] ∧ 2 ≤ k ∧ k ≤ 1000 ∧ Q (.ref l) H
theorem op_repT0 : OpR X (binaryOp .Mult) (rRepT0 X.K) := by
  intro pins st σ H x y v u Q I rx ry h
  obtain ⟨l, k, rfl, rfl, hT, h1, h2, q⟩ := h
  cases rx
  obtain ⟨t, rfl⟩ := ry
  obtain ⟨its, r, ⟨⟨cls, dd, data, sl⟩, ho, hc, n, hd⟩, hs⟩ := I.tuple hT
  simp only at hc hd
  subst hc hd
  cases r
  have c0 : (decide (k < -(2 ^ 63)) || decide (k ≥ 2 ^ 63)) = false := by
    rw [decide_eq_false (by omega), decide_eq_false (by omega)] <;> rfl
  refine wpAny_binaryOp_repeat_ref (T := "tuple") (U := "int") (by decide) ⟨_, ho, rfl⟩ (fun s' => typeIs_int s' k t) noFill_tuple_mul F.fills_int_mul F.slot_int_rmul repeat_tuple F.slot_int_index.lookup
    (call_meets F.slot_int_rmul (typeIs_int st k t) F.entry_int_rmul (F.args_int_rmul_2 _ _) (int_rmul_tuple k t l #[] n dd sl)
      ⟨ho, rfl, ⟨_, ho, rfl⟩, call_meets F.slot_tuple_mul ⟨_, ho, rfl⟩ F.entry_tuple_mul (F.args_tuple_mul_2 _ _) (tuple_mul0 l n dd sl k t c0) ⟨ho, ⟨.ref l, H, I, rfl, q⟩⟩⟩)
theorem listV_sq {K : PySem.W.Frag} (r : RS K m H s) {v : Vl} {x : V} {vs : List Vl} (h : listV v s = some vs) (rx : RV K m H v x) : ∃ a ws, x = .ref a ∧ SqL K H a ws ∧ RVs K m H vs ws := by
  cases v with
  | r n =>
    obtain ⟨a, ws, e, _, h2, h3⟩ := r.get h rx
    exact ⟨a, ws, e, SqL.of h2, h3⟩
  | d x =>
    cases x with
    | list xs =>
      cases h
      obtain ⟨a, ws, e, h1, h2⟩ := rx
      exact ⟨a, ws, e, h1.sq, h2.rvs⟩
    | _ => cases h
theorem bin_ok (mf : Bool) (o : BOp) : OpR X (binaryOp (opOf o)) (rOp X.K (binV mf o)) := by
  intro pins st σ H x y v u Q I rx ry ⟨m, s, a, b, ra, rb, rs, h⟩
  have dd : ∀ (c d : PyData), Rep X.K m H c x → Rep X.K m H d y → PostP X.K Q m H (binD o c d s) → wpAny (model X.prog X.w) X.A (binaryOp (opOf o) v u) (EP X pins σ Q) X.xe st := by
    clear h
    intro c d rc rd h
    unfold binD at h
    split at h
    · rename_i i j
      cases q : binI o i j with
      | none => rw [q] at h; exact h.elim
      | some k =>
        rw [q] at h
        exact bin_int o pins st σ H x y v u Q I rx ry ⟨i, j, k, rc, rd, q, PostP.here rs (v := .d (.int k)) rfl h⟩
    · rename_i i j
      split at h
      · rename_i hc
        obtain ⟨rfl, hz⟩ := hc
        exact op_add_str pins st σ H x y v u Q I rx ry ⟨i, j, rc, rd, by rw [sizeLine_eq]; exact hz, PostP.here rs (v := .d (.str (i ++ j))) rfl h⟩
      · exact h.elim
    · rename_i i j
      split at h
      · rename_i hc
        obtain ⟨rfl, hz⟩ := hc
        obtain ⟨p, vs, ep, h1, h2⟩ := rc
        obtain ⟨p', vs', ep', h1', h2'⟩ := rd
        have rr : Reps X.K m H (i ++ j) (vs ++ vs') := by
          have := RVs.app h2.rvs h2'.rvs
          rw [← List.map_append] at this
          exact RVs.reps this (allD_map _)
        refine op_catA pins st σ H x y v u Q I rx ry ⟨p, p', vs, vs', ep, ep', h1.sq, h1'.sq, by rw [← h2.length, ← h2'.length, sizeLine_eq]; exact hz, fun e => ?_, fun _ e => ?_, fun _ _ q hq => ?_⟩
        · have : i = [] := List.eq_nil_of_length_eq_zero (by rw [h2.length, e]; rfl)
          subst this
          exact PostP.here rs (v := .d (.tuple j)) ⟨p', vs', rfl, h1', h2'⟩ h
        · have : j = [] := List.eq_nil_of_length_eq_zero (by rw [h2'.length, e]; rfl)
          subst this
          rw [List.append_nil] at h
          exact PostP.here rs (v := .d (.tuple i)) ⟨p, vs, rfl, h1, h2⟩ h
        · exact tup_new rs rr hq h
      · exact h.elim
    · rename_i i j
      split at h
      · rename_i hc
        obtain ⟨rfl, h2', h3', h4'⟩ := hc
        obtain ⟨p, vs, ep, h1, h2⟩ := rc
        by_cases hv : vs = []
        · have e0 : i = [] := List.eq_nil_of_length_eq_zero (by rw [h2.length, hv]; rfl)
          subst e0
          have e1 : (List.replicate j.toNat ([] : List PyData)).flatten = [] := by
            rw [List.flatten_eq_nil_iff]
            intro l hl
            exact (List.mem_replicate.mp hl).2
          rw [e1] at h
          subst hv
          exact op_repT0 pins st σ H x y v u Q I rx ry ⟨p, j, ep, rd, h1.sq, h2', h3', PostP.here rs (v := .d (.tuple [])) ⟨p, [], rfl, h1, h2⟩ h⟩
        · have rr : Reps X.K m H (List.replicate j.toNat i).flatten (List.replicate j.toNat vs).flatten := by
            have := RVs.rep j.toNat h2.rvs
            have e : (List.replicate j.toNat (List.map Vl.d i)).flatten = ((List.replicate j.toNat i).flatten).map Vl.d := by
              rw [List.map_flatten, List.map_replicate]
            rw [e] at this
            exact RVs.reps this (allD_map _)
          exact op_repT pins st σ H x y v u Q I rx ry ⟨p, j, vs, ep, rd, h1.sq, hv, h2', h3', by rw [← h2.length]; exact h4', fun q hq => tup_new rs rr hq h⟩
      · exact h.elim
    · exact h.elim
  unfold binV at h
  split at h
  · rename_i us vs q1 q2
    obtain ⟨p, ws, e1, h1, g1⟩ := listV_sq rs q1 ra
    obtain ⟨p', ws', e2, h2, g2⟩ := listV_sq rs q2 rb
    have hl := mkL_len h
    refine op_catL pins st σ H x y v u Q I rx ry ⟨p, p', ws, ws', e1, e2, h1, h2, ?_, fun q hq => mkL_new rs (RVs.app g1 g2) hq h⟩
    rw [List.length_append, g1.length, g2.length] at hl
    exact hl
  · split at h
    · exact dd _ _ ra rb h
    · exact h.elim
end
end SM

/-! SM: comparisons, places, slices, by values. -/
namespace SM
open PySem L2 PySem.Spec PyProof.Rows
section
variable {X : Cx} {pins : List (Addr × Obj)} {σ : L2.St} {H : Hp} {st : Shared} {m : Mu} {s : Sto} {Q : VK}
mutual
theorem Rep.dp {K : PySem.W.Frag} : ∀ {d : PyData} {v : V}, d.canLay0 = true → Rep K m H d v → Dp K H v d
  | .none, _, _, h => by cases h; exact .non
  | .bool b, _, _, h => by cases h; exact .bl b
  | .int i, _, _, h => by cases h; exact .int i
  | .str x, _, _, h => by cases h; exact .str x
  | .list xs, _, c, ⟨a, vs, e, h1, h2⟩ => by subst e; exact .lst h1.sq (Reps.dp (by simpa [PyData.canLay0] using c) h2)
  | .tuple xs, _, c, ⟨a, vs, e, h1, h2⟩ => by subst e; exact .tup h1.sq (Reps.dp (by simpa [PyData.canLay0] using c) h2)
  | .dict _, _, c, _ => by simp [PyData.canLay0] at c
theorem Reps.dp {K : PySem.W.Frag} : ∀ {ds : List PyData} {vs : List V}, PyData.canLayAll0 ds = true → Reps K m H ds vs → DpAll K H vs ds
  | [], _, _, h => by have h : _ = [] := h; subst h; exact .nil
  | d :: ds, _, c, ⟨v, r, e, h1, h2⟩ => by
    subst e
    have c' : d.canLay0 = true ∧ PyData.canLayAll0 ds = true := by simpa [PyData.canLayAll0] using c
    exact .cons (Rep.dp c'.1 h1) (Reps.dp c'.2 h2)
end
theorem dataOf_dp {K : PySem.W.Frag} (rs : RS K m H s) {v : Vl} {x : V} {d : PyData} (rx : RV K m H v x) (h : dataOf v s = some d) (c : d.canLay0 = true) : Dp K H x d := by
  cases v with
  | d y => cases h; exact Rep.dp c rx
  | r n =>
    simp only [dataOf] at h
    cases q : listAt n s with
    | none => rw [q] at h; cases h
    | some vs =>
      rw [q] at h
      cases q2 : allD vs with
      | none => simp [q2] at h
      | some ds =>
        simp [q2] at h
        subst h
        obtain ⟨a, ws, e, _, h2, h3⟩ := rs.get q rx
        subst e
        exact .lst (SqL.of h2) (Reps.dp (by simpa [PyData.canLay0] using c) (h3.reps q2))
theorem dataV_dp {K : PySem.W.Frag} (rs : RS K m H s) {v : Vl} {x : V} {l : List PyData} (rx : RV K m H v x) (h : dataV v s = some l) (c : PyData.canLayAll0 l = true) : Dp K H x (.list l) ∨ Dp K H x (.tuple l) := by
  unfold dataV at h
  cases q : itemsV v s with
  | none => rw [q] at h; cases h
  | some vs =>
    rw [q] at h
    have h : allD vs = some l := h
    obtain ⟨a, ws, e, h1, h2⟩ := itemsV_sq rs q rx
    subst e
    rcases h1 with h1 | h1
    · exact .inl (.lst h1 (Reps.dp c (h2.reps h)))
    · exact .inr (.tup h1 (Reps.dp c (h2.reps h)))
theorem dataV_sq {K : PySem.W.Frag} (rs : RS K m H s) {v : Vl} {x : V} {l : List PyData} (rx : RV K m H v x) (h : dataV v s = some l) : ∃ a ws, x = .ref a ∧ (SqL K H a ws ∨ SqT K H a ws) ∧ Reps K m H l ws := by
  unfold dataV at h
  cases q : itemsV v s with
  | none => rw [q] at h; cases h
  | some vs =>
    rw [q] at h
    have h : allD vs = some l := h
    obtain ⟨a, ws, e, h1, h2⟩ := itemsV_sq rs q rx
    exact ⟨a, ws, e, h1, h2.reps h⟩
def copOf : COp → CmpOp
  | .eq => .Eq | .ne => .NotEq | .lt => .Lt | .le => .LtE | .gt => .Gt | .ge => .GtE | .inn => .In | .nin => .NotIn | .is => .Is | .isn => .IsNot
def rCmp (K : PySem.W.Frag) (o : COp) : R2 := fun x y H Q => ∃ m s v w b, RV K m H v x ∧ RV K m H w y ∧ RS K m H s ∧ cmpV o v w s = some b ∧ Q (.bl b) H
def rInS (K : PySem.W.Frag) (neg : Bool) : R2 := fun x y H Q => ∃ d ds, Dp K H x d ∧ (Dp K H y (.list ds) ∨ Dp K H y (.tuple ds)) ∧ SeqAt.shaped d = true ∧ SeqAt.shaped (.list ds) = true ∧ Q (.bl (if neg then !ds.any fun z => PyData.eqv z d else ds.any fun z => PyData.eqv z d)) H
theorem op_inS (hu : X.A.units + 65 < cLine) : OpR X (compareOp .In) (rInS X.K false) := by
  intro pins s σ H x y v u Q I rx ry ⟨d, ds, hd, he, sd, se, q⟩
  rcases he with he | he
  · exact op_inD hu pins s σ H x y v u Q I rx ry ⟨d, ds, hd, he, sd, se, q⟩
  · obtain ⟨as, r1⟩ := Dp.reads I d x v hd rx
    obtain ⟨bs, r2⟩ := Dp.reads I (.tuple ds) y u he ry
    exact SeqAt.in_tuple_reads r2 r1 (SeqAt.canLay_of_shaped se) (SeqAt.canLay_of_shaped sd) (room_in_shaped sd hu) ⟨.bl _, H, I, rfl, q⟩
theorem op_notInS (hu : X.A.units + 65 < cLine) : OpR X (compareOp .NotIn) (rInS X.K true) := by
  intro pins s σ H x y v u Q I rx ry ⟨d, ds, hd, he, sd, se, q⟩
  rcases he with he | he
  · exact op_notInD hu pins s σ H x y v u Q I rx ry ⟨d, ds, hd, he, sd, se, q⟩
  · obtain ⟨as, r1⟩ := Dp.reads I d x v hd rx
    obtain ⟨bs, r2⟩ := Dp.reads I (.tuple ds) y u he ry
    exact SeqAt.notIn_tuple_reads r2 r1 (SeqAt.canLay_of_shaped se) (SeqAt.canLay_of_shaped sd) (room_in_shaped sd hu) ⟨.bl _, H, I, rfl, q⟩
theorem obind {α β : Type} {o : Option α} {f : α → Option β} {b : β} (h : o.bind f = some b) : ∃ a, o = some a ∧ f a = some b := by
  cases o with
  | none => cases h
  | some a => exact ⟨a, rfl, h⟩
theorem omap {α β : Type} {o : Option α} {f : α → β} {b : β} (h : o.map f = some b) : ∃ a, o = some a ∧ f a = b := by
  cases o with
  | none => cases h
  | some a => exact ⟨a, rfl, Option.some.inj h⟩
theorem eqD_some {a b : PyData} {r : Bool} (h : eqD a b = some r) : (∃ p q : Str, a = .str p ∧ b = .str q ∧ decide (p = q) = r) ∨ (SeqAt.shaped a = true ∧ SeqAt.shaped b = true ∧ PyData.eqv a b = r) ∨ (∃ c l, a = .list (c :: l) ∧ b = .list [] ∧ r = false) := by
  unfold eqD at h
  split at h
  · exact .inl ⟨_, _, rfl, rfl, Option.some.inj h⟩
  · exact .inr (.inr ⟨_, _, rfl, rfl, (Option.some.inj h).symm⟩)
  · refine .inr (.inl ?_)
    split at h
    · rename_i q; cases h; exact ⟨q.1, q.2, rfl⟩
    · cases h
theorem dataOf_sq {K : PySem.W.Frag} (rs : RS K m H s) {v : Vl} {x : V} {l : List PyData} (rx : RV K m H v x) (h : dataOf v s = some (.list l)) : ∃ a ws, x = .ref a ∧ SqL K H a ws ∧ ws.length = l.length := by
  cases v with
  | d y =>
    cases h
    obtain ⟨a, vs, e, h1, h2⟩ := rx
    exact ⟨a, vs, e, h1.sq, h2.length.symm⟩
  | r n =>
    simp only [dataOf] at h
    cases q : listAt n s with
    | none => rw [q] at h; cases h
    | some vs =>
      rw [q] at h
      cases q2 : allD vs with
      | none => simp [q2] at h
      | some ds =>
        simp [q2] at h
        subst h
        obtain ⟨a, ws, e, _, h2, h3⟩ := rs.get q rx
        subst e
        exact ⟨a, ws, rfl, SqL.of h2, (h3.reps q2).length.symm⟩
/-- a list that is not empty, and an empty one -/
def rLen (K : PySem.W.Frag) (r : Bool) : R2 := fun x y H Q => ∃ a b xs, x = .ref a ∧ y = .ref b ∧ SqL K H a xs ∧ SqL K H b [] ∧ 0 < xs.length ∧ Q (.bl r) H
theorem op_eqL (hu : X.A.units < cLine) : OpR X (compareOp .Eq) (rLen X.K false) := by
  intro pins s σ H x y v u Q I rx ry h
  obtain ⟨a, b, xs, rfl, rfl, ha, hb, hl, q⟩ := h
  obtain ⟨its, rv, pa, _⟩ := I.list ha
  obtain ⟨its2, rv2, pb, _⟩ := I.list hb
  cases rx
  cases ry
  have e1 := rv.length
  have e2 := rv2.length
  exact SeqAt.eq_list_lengthsAt pa.isList pb.isList (by simp at e1 e2 ⊢; omega) hu ⟨.bl _, H, I, rfl, q⟩
theorem op_neL (hu : X.A.units < cLine) : OpR X (compareOp .NotEq) (rLen X.K true) := by
  intro pins s σ H x y v u Q I rx ry h
  obtain ⟨a, b, xs, rfl, rfl, ha, hb, hl, q⟩ := h
  obtain ⟨its, rv, pa, _⟩ := I.list ha
  obtain ⟨its2, rv2, pb, _⟩ := I.list hb
  cases rx
  cases ry
  have e1 := rv.length
  have e2 := rv2.length
  exact SeqAt.RcNeAt.lists_lengths pa.isList pb.isList (by simp at e1 e2 ⊢; omega) hu _ _ _ _ ⟨.bl _, H, I, rfl, q⟩
theorem dataOf_str {K : PySem.W.Frag} {v : Vl} {x : V} {p : Str} (r : RV K m H v x) (h : dataOf v s = some (.str p)) : x = .str p := by
  cases v with
  | d y => cases h; exact r
  | r n =>
    obtain ⟨vs, q, h⟩ := obind h
    obtain ⟨ds, q2, h⟩ := omap h
    cases h
theorem OpR.or {f : Value → Value → Sem Value} {r r' : R2} (h : OpR X f r) (h' : OpR X f r') : OpR X f (fun x y H Q => r x y H Q ∨ r' x y H Q) :=
  fun pins s σ H x y v u Q I rx ry q => q.elim (h pins s σ H x y v u Q I rx ry) (h' pins s σ H x y v u Q I rx ry)
theorem dec_strV {p q : Str} : decide (V.str p = V.str q) = decide (p = q) := by simp
theorem inD_some {a : PyData} {l : List PyData} {r : Bool} (h : inD a l = some r) : SeqAt.shaped a = true ∧ SeqAt.shaped (.list l) = true ∧ (l.any fun z => PyData.eqv z a) = r := by
  unfold inD at h
  split at h
  · rename_i q; cases h; exact ⟨q.1, q.2, rfl⟩
  · cases h
theorem shaped_all {l : List PyData} (h : SeqAt.shaped (.list l) = true) : PyData.canLayAll0 l = true := by
  have := SeqAt.canLay_of_shaped h
  simpa [PyData.canLay0] using this
theorem noneV_ok {K : PySem.W.Frag} (rs : RS K m H s) {v : Vl} {x : V} {b : Bool} (rx : RV K m H v x) (h : noneV v s = some b) : decide (x = .non) = b := by
  cases v with
  | r n =>
    obtain ⟨vs, q, rfl⟩ := omap h
    obtain ⟨a, ws, e, _⟩ := rs.get q rx
    subst e; rfl
  | d y =>
    cases y with
    | none => cases h; cases rx; rfl
    | bool _ => cases h; cases rx; rfl
    | int _ => cases h; cases rx; rfl
    | str _ => cases h; cases rx; rfl
    | list _ => cases h; obtain ⟨a, ws, e, _⟩ := rx; subst e; rfl
    | tuple _ => cases h; obtain ⟨a, ws, e, _⟩ := rx; subst e; rfl
    | dict _ => cases h; obtain ⟨a, ws, e, _⟩ := rx; subst e; rfl
def rOrd (o : COp) : R2 := fun x y H Q => ∃ i j b, x = .int i ∧ y = .int j ∧ ltI o i j = some b ∧ Q (.bl b) H
theorem cmp_ok (hu : X.A.units + 65 < cLine) : (o : COp) → OpR X (compareOp (copOf o)) (rCmp X.K o)
  | .eq => OpR.weak (.or op_eq (.or (op_eqD (by omega)) (op_eqL (by omega)))) fun x y H Q ⟨m, s, v, w, b, ra, rb, rs, h, q⟩ => by
    obtain ⟨d, q1, h⟩ := obind h
    obtain ⟨e, q2, h⟩ := obind h
    rcases eqD_some h with ⟨p, p', rfl, rfl, rfl⟩ | ⟨s1, s2, rfl⟩ | ⟨c, l, rfl, rfl, rfl⟩
    · cases dataOf_str ra q1
      cases dataOf_str rb q2
      exact .inl ⟨rfl, by rw [dec_strV]; exact q⟩
    · exact .inr (.inl ⟨d, e, dataOf_dp rs ra q1 (SeqAt.canLay_of_shaped s1), dataOf_dp rs rb q2 (SeqAt.canLay_of_shaped s2), s1, s2, q⟩)
    · obtain ⟨a, xs, e1, h1, h2⟩ := dataOf_sq rs ra q1
      obtain ⟨b', ys, e2, h3, h4⟩ := dataOf_sq rs rb q2
      have e3 : ys = [] := List.eq_nil_of_length_eq_zero (by simpa using h4)
      subst e3
      exact .inr (.inr ⟨a, b', xs, e1, e2, h1, h3, by simp at h2; omega, q⟩)
  | .ne => OpR.weak (.or op_ne (.or (op_neD (by omega)) (op_neL (by omega)))) fun x y H Q ⟨m, s, v, w, b, ra, rb, rs, h, q⟩ => by
    obtain ⟨b', h0, rfl⟩ := omap h
    obtain ⟨d, q1, h1⟩ := obind h0
    obtain ⟨e, q2, h2⟩ := obind h1
    rcases eqD_some h2 with ⟨p, p', rfl, rfl, rfl⟩ | ⟨s1, s2, rfl⟩ | ⟨c, l, rfl, rfl, rfl⟩
    · cases dataOf_str ra q1
      cases dataOf_str rb q2
      exact .inl ⟨rfl, by rw [dec_strV]; exact q⟩
    · exact .inr (.inl ⟨d, e, dataOf_dp rs ra q1 (SeqAt.canLay_of_shaped s1), dataOf_dp rs rb q2 (SeqAt.canLay_of_shaped s2), s1, s2, q⟩)
    · obtain ⟨a, xs, e1, h1, h2⟩ := dataOf_sq rs ra q1
      obtain ⟨b', ys, e2, h3, h4⟩ := dataOf_sq rs rb q2
      have e3 : ys = [] := List.eq_nil_of_length_eq_zero (by simpa using h4)
      subst e3
      exact .inr (.inr ⟨a, b', xs, e1, e2, h1, h3, by simp at h2; omega, q⟩)
  | .inn => OpR.weak (op_inS hu) fun x y H Q ⟨m, s, v, w, b, ra, rb, rs, h, q⟩ => by
    obtain ⟨d, q1, h⟩ := obind h
    obtain ⟨e, q2, h⟩ := obind h
    obtain ⟨s1, s2, rfl⟩ := inD_some h
    exact ⟨d, e, dataOf_dp rs ra q1 (SeqAt.canLay_of_shaped s1), dataV_dp rs rb q2 (shaped_all s2), s1, s2, q⟩
  | .nin => OpR.weak (op_notInS hu) fun x y H Q ⟨m, s, v, w, b, ra, rb, rs, h, q⟩ => by
    obtain ⟨b', h0, rfl⟩ := omap h
    obtain ⟨d, q1, h1⟩ := obind h0
    obtain ⟨e, q2, h2⟩ := obind h1
    obtain ⟨s1, s2, rfl⟩ := inD_some h2
    exact ⟨d, e, dataOf_dp rs ra q1 (SeqAt.canLay_of_shaped s1), dataV_dp rs rb q2 (shaped_all s2), s1, s2, q⟩
  | .is => OpR.weak op_isN fun x y H Q ⟨m, s, v, w, b, ra, rb, rs, h, q⟩ => by
    simp only [cmpV] at h
    split at h
    · cases rb
      exact ⟨rfl, by rw [noneV_ok rs ra h]; exact q⟩
    · cases h
  | .isn => OpR.weak op_notN fun x y H Q ⟨m, s, v, w, b, ra, rb, rs, h, q⟩ => by
    simp only [cmpV] at h
    split at h
    · obtain ⟨b', h0, rfl⟩ := omap h
      cases rb
      exact ⟨rfl, by rw [noneV_ok rs ra h0]; exact q⟩
    · cases h
  | .lt => OpR.weak op_lt fun x y H Q ⟨m, s, v, w, b, ra, rb, rs, h, q⟩ => by
    simp only [cmpV] at h
    split at h
    · cases h; exact ⟨_, _, ra, rb, q⟩
    · cases h
  | .le => OpR.weak op_le fun x y H Q ⟨m, s, v, w, b, ra, rb, rs, h, q⟩ => by
    simp only [cmpV] at h
    split at h
    · cases h; exact ⟨_, _, ra, rb, q⟩
    · cases h
  | .gt => OpR.weak op_gt fun x y H Q ⟨m, s, v, w, b, ra, rb, rs, h, q⟩ => by
    simp only [cmpV] at h
    split at h
    · cases h; exact ⟨_, _, ra, rb, q⟩
    · cases h
  | .ge => OpR.weak op_ge fun x y H Q ⟨m, s, v, w, b, ra, rb, rs, h, q⟩ => by
    simp only [cmpV] at h
    split at h
    · cases h; exact ⟨_, _, ra, rb, q⟩
    · cases h

/-! ### places and slices -/
theorem atI_len {α β : Type} {xs : List α} {ys : List β} (h : xs.length = ys.length) {k : Int} {v : α} (e : atI xs k = some v) : ∃ j : Nat, xs[j]? = some v ∧ ∀ w, ys[j]? = some w → atI ys k = some w := by
  unfold atI at e ⊢
  obtain ⟨j, q, e⟩ := obind e
  exact ⟨j, e, fun w hw => by rw [← h, q]; exact hw⟩
theorem ix_ok : IxR X (fun x y H Q => ∃ m s v w, RV X.K m H v x ∧ RV X.K m H w y ∧ RS X.K m H s ∧ PostP X.K Q m H (idxV v w s)) := by
  intro value slice pins st σ H x y v u Q I rx ry ⟨m, s, a, b, ra, rb, rs, h⟩ hs
  refine ix_seq value slice pins st σ H x y v u Q I rx ry ?_ hs
  unfold idxV at h
  split at h
  · rename_i k
    cases rb
    cases q1 : itemsV a s with
    | none => rw [q1] at h; exact h.elim
    | some vs =>
      rw [q1] at h
      have h : PostP X.K Q m H ((atI vs k).map (·, s)) := h
      cases q2 : atI vs k with
      | none => rw [q2] at h; exact h.elim
      | some z =>
        rw [q2] at h
        obtain ⟨p, ws, e, h1, h2⟩ := itemsV_sq rs q1 ra
        obtain ⟨j, g1, g2⟩ := atI_len (ys := ws) h2.length q2
        obtain ⟨z', e1, e2⟩ := h2.get g1
        have fin := PostP.here rs e2 h
        rcases h1 with h1 | h1
        · exact .inl ⟨p, ws, k, z', e, rfl, h1, g2 _ e1, fin⟩
        · exact .inr (.inl ⟨p, ws, k, z', e, rfl, h1, g2 _ e1, fin⟩)
  · exact h.elim
theorem RVs.cutL {K : PySem.W.Frag} {us : List Vl} {vs : List V} (h : RVs K m H us vs) (lo hi : Option Int) : RVs K m H (SM.cutL us lo hi) (cutV vs lo hi) := by
  unfold SM.cutL cutV
  rw [h.length]
  exact RVs.take _ (RVs.drop _ h)
theorem cutL_map {α β : Type} (f : α → β) (us : List α) (lo hi : Option Int) : SM.cutL (us.map f) lo hi = (SM.cutL us lo hi).map f := by
  unfold SM.cutL
  rw [List.length_map, ← List.map_drop, ← List.map_take]
theorem cutL_whole {α : Type} {xs : List α} {lo hi : Option Int} (h1 : HT.sIx xs.length 0 lo = 0) (h2 : HT.sIx xs.length xs.length hi = xs.length) : SM.cutL xs lo hi = xs := by
  unfold SM.cutL
  rw [h1, h2]
  simp
theorem sl_ok (mf : Bool) : SlR X (fun x lo hi H Q => ∃ m s v, RV X.K m H v x ∧ RS X.K m H s ∧ PostP X.K Q m H (sliV mf v lo hi s)) := by
  intro pins st σ H x v vl vu lo hi sl Q I rx hs pl pu ⟨m, s, a, ra, rs, h⟩
  unfold sliV at h
  split at h
  · rename_i xs
    obtain ⟨p, ws, e, h1, h2⟩ := ra
    refine sl_tupA pins st σ H x v vl vu lo hi sl Q I rx hs pl pu ⟨p, ws, e, h1.sq, fun ⟨w1, w2⟩ => ?_, fun _ q hq => ?_⟩
    · rw [← h2.length] at w1 w2
      rw [cutL_whole w1 w2] at h
      exact PostP.here rs (v := .d (.tuple xs)) ⟨p, ws, rfl, h1, h2⟩ h
    · have := RVs.cutL h2.rvs lo hi
      rw [cutL_map] at this
      exact tup_new rs (this.reps (allD_map _)) hq h
  · rename_i xs
    obtain ⟨p, ws, e, h1, h2⟩ := ra
    refine sl_list pins st σ H x v vl vu lo hi sl Q I rx hs pl pu ⟨p, ws, e, h1.sq, fun q hq => ?_⟩
    have := RVs.cutL h2.rvs lo hi
    rw [cutL_map] at this
    exact mkL_new rs this hq h
  · rename_i n
    cases q : listAt n s with
    | none => rw [q] at h; exact h.elim
    | some vs =>
      rw [q] at h
      obtain ⟨p, ws, e, _, h1, h2⟩ := rs.get q ra
      exact sl_list pins st σ H x v vl vu lo hi sl Q I rx hs pl pu ⟨p, ws, e, SqL.of h1, fun q hq => mkL_new rs (RVs.cutL h2 lo hi) hq h⟩
  · exact h.elim
end
end SM

set_option maxHeartbeats 1000000
/-! SM: max and min of a tuple of ints. -/
namespace SM
open PySem L2 PySem.Spec PyProof.Rows
section
variable {prog : Program} {w : World} {A : Around} {E : Value → Shared → Prop} {s : Shared}
theorem iter_intTup {l : Addr} {xs : Array (Int × Tok)} {Q : Value → Shared → Prop} (hl : s.heap.IsTuple l (intItems xs))
    (h : ∀ s₂ : Shared, s₂ = { s with heap := s.heap.push { cls := .type "tuple_iterator", data := .fields #[.ref l, .int 0 0] } } →
      (s₂.heap.IsTupleIter s.heap.objs.size l 0 ∧ s₂.heap.IsTuple l (intItems xs)) → (∀ b ∈ [s.heap.objs.size, l], b < s₂.heap.objs.size) → l ≠ s.heap.objs.size → Q (.ref s.heap.objs.size) s₂) :
    wpAny (model prog w) A (pyIter (.ref l)) Q E s := by
  have hlt : l < s.heap.objs.size := by obtain ⟨_, e, _⟩ := hl; exact Heap.lt_size e
  refine wpAny_pyIter_tuple hl (h _ rfl ⟨⟨_, Heap.get?_push_size _ rfl, rfl, rfl⟩, hl.push _⟩ (fun b hb => ?_) (Nat.ne_of_lt hlt))
  show b < (s.heap.push _).objs.size
  rw [Heap.size_push]
  rcases List.mem_cons.mp hb with rfl | hb
  · exact Nat.lt_succ_self _
  · rcases List.mem_cons.mp hb with rfl | hb
    · exact Nat.lt_succ_of_lt hlt
    · cases hb
theorem old_keptT {l : Addr} {h' : Heap} {o : Obj} (hk : ∀ b ob, b ∉ [s.heap.objs.size] → (s.heap.push o).get? b = some ob → h'.get? b = some ob) : ∀ b ob, s.heap.get? b = some ob → h'.get? b = some ob := fun b ob e =>
  hk b ob (fun z => by rw [List.mem_singleton.mp z] at e; exact absurd (Heap.lt_size e) (Nat.lt_irrefl _)) (Heap.get?_push_of_some _ e)
theorem max_intTup {l : Addr} {xs : Array (Int × Tok)} {Q : Value → Shared → Prop} (hh : A.handled = none) (hl : s.heap.IsTuple l (intItems xs)) (hne : 0 < xs.size)
    (h : ∀ v h' tk, (intItems xs)[argBest (fun i j => decide (numAt xs i > numAt xs j)) (xs.size - 1)]? = some v → (∀ b o, s.heap.get? b = some o → h'.get? b = some o) → Q v { s with heap := h', toks := tk }) :
    wpAny (model prog w) A (call (.builtin "max") [.ref l]) Q E s := by
  refine call_max_walk (iter_intTup hl fun s₂ e st hfp hlI => ?_)
  subst e
  refine ⟨_, _, _, _, _, _, _, rfl, Walks.tuple (A := A.in1) hh _ l hlI (intItems xs), st, hfp, by simpa [intItems] using hne, CmpOf.ints_gt (numAt xs) (fun _ _ => intItems_at), fun v h' tk hP hk => ?_⟩
  exact h v h' tk (by simpa [intItems] using hP) (old_keptT (l := l) hk)
theorem min_intTup {l : Addr} {xs : Array (Int × Tok)} {Q : Value → Shared → Prop} (hh : A.handled = none) (hl : s.heap.IsTuple l (intItems xs)) (hne : 0 < xs.size)
    (h : ∀ v h' tk, (intItems xs)[argBest (fun i j => decide (numAt xs i < numAt xs j)) (xs.size - 1)]? = some v → (∀ b o, s.heap.get? b = some o → h'.get? b = some o) → Q v { s with heap := h', toks := tk }) :
    wpAny (model prog w) A (call (.builtin "min") [.ref l]) Q E s := by
  refine call_min_walk (iter_intTup hl fun s₂ e st hfp hlI => ?_)
  subst e
  refine ⟨_, _, _, _, _, _, _, rfl, Walks.tuple (A := A.in1) hh _ l hlI (intItems xs), st, hfp, by simpa [intItems] using hne, CmpOf.ints_lt (numAt xs) (fun _ _ => intItems_at), fun v h' tk hP hk => ?_⟩
  exact h v h' tk (by simpa [intItems] using hP) (old_keptT (l := l) hk)
theorem max_tupR {l : Addr} {its : List Value} {ns : List Int} {Q : Value → Shared → Prop} (hh : A.handled = none) (hl : s.heap.IsTuple l its.toArray) (hi : IntsAre its ns) (hne : 0 < ns.length)
    (h : ∀ h' tk M t', (∀ b o, s.heap.get? b = some o → h'.get? b = some o) → M ∈ ns → (∀ a, a ∈ ns → a ≤ M) → Q (.int M t') { s with heap := h', toks := tk }) : wpAny (model prog w) A (call (.builtin "max") [.ref l]) Q E s := by
  obtain ⟨xs, e⟩ := hi.allInts.items
  have hn : numsOf (intItems xs).toList = ns := by rw [← e]; exact hi.numsOf
  rw [nums_intItems] at hn
  subst hn
  rw [e] at hl
  have hsz : 0 < xs.size := by simpa using hne
  refine max_intTup hh hl hsz fun v h' tk hv hk => ?_
  obtain ⟨t, rfl⟩ := intItems_at hv
  obtain ⟨h1, h2⟩ := argBest_gt (numAt xs) (xs.size - 1)
  refine h h' tk _ t hk ?_ fun a ha => ?_
  · rw [numAt_eq]; exact PySem.getD_mem (by rw [List.length_map, Array.length_toList]; omega)
  · obtain ⟨j, hj, rfl⟩ := mem_getD ha
    rw [List.length_map, Array.length_toList] at hj
    rw [← numAt_eq]; exact h2 j (by omega)
theorem min_tupR {l : Addr} {its : List Value} {ns : List Int} {Q : Value → Shared → Prop} (hh : A.handled = none) (hl : s.heap.IsTuple l its.toArray) (hi : IntsAre its ns) (hne : 0 < ns.length)
    (h : ∀ h' tk M t', (∀ b o, s.heap.get? b = some o → h'.get? b = some o) → M ∈ ns → (∀ a, a ∈ ns → M ≤ a) → Q (.int M t') { s with heap := h', toks := tk }) : wpAny (model prog w) A (call (.builtin "min") [.ref l]) Q E s := by
  obtain ⟨xs, e⟩ := hi.allInts.items
  have hn : numsOf (intItems xs).toList = ns := by rw [← e]; exact hi.numsOf
  rw [nums_intItems] at hn
  subst hn
  rw [e] at hl
  have hsz : 0 < xs.size := by simpa using hne
  refine min_intTup hh hl hsz fun v h' tk hv hk => ?_
  obtain ⟨t, rfl⟩ := intItems_at hv
  obtain ⟨h1, h2⟩ := argBest_lt (numAt xs) (xs.size - 1)
  refine h h' tk _ t hk ?_ fun a ha => ?_
  · rw [numAt_eq]; exact PySem.getD_mem (by rw [List.length_map, Array.length_toList]; omega)
  · obtain ⟨j, hj, rfl⟩ := mem_getD ha
    rw [List.length_map, Array.length_toList] at hj
    rw [← numAt_eq]; exact h2 j (by omega)
end
section
variable {X : Cx}
def rMaxT (K : PySem.W.Frag) : List V → Hp → VK → Prop := fun vs H Q => ∃ (a : Addr) (ns : List Int), vs = [V.ref a] ∧ SqT K H a (ns.map V.int) ∧ 0 < ns.length ∧ ∀ m, m ∈ ns → (∀ y, y ∈ ns → y ≤ m) → Q (.int m) H
def rMinT (K : PySem.W.Frag) : List V → Hp → VK → Prop := fun vs H Q => ∃ (a : Addr) (ns : List Int), vs = [V.ref a] ∧ SqT K H a (ns.map V.int) ∧ 0 < ns.length ∧ ∀ m, m ∈ ns → (∀ y, y ∈ ns → m ≤ y) → Q (.int m) H
theorem cr_maxT (hc : X.calm = true) : CallR X (.builtin "max") (rMaxT X.K) := by
  intro pins s σ H vs us Q I r h
  obtain ⟨a, ns, rfl, hs, hne, q⟩ := h
  obtain ⟨its, rv, hl, _⟩ := I.tuple hs
  rw [Vals.ref1 r]
  exact max_tupR (I.ok.hd hc) hl rv.ints hne fun h' tk m t' hk h1 h2 => ⟨.int _, H, I.kept hk, ⟨_, rfl⟩, q m h1 h2⟩
theorem cr_minT (hc : X.calm = true) : CallR X (.builtin "min") (rMinT X.K) := by
  intro pins s σ H vs us Q I r h
  obtain ⟨a, ns, rfl, hs, hne, q⟩ := h
  obtain ⟨its, rv, hl, _⟩ := I.tuple hs
  rw [Vals.ref1 r]
  exact min_tupR (I.ok.hd hc) hl rv.ints hne fun h' tk m t' hk h1 h2 => ⟨.int _, H, I.kept hk, ⟨_, rfl⟩, q m h1 h2⟩
end
end SM

/-! SM: built-in functions and methods, by values. -/
namespace SM
open PySem L2 PySem.Spec PyProof.Rows
section
variable {X : Cx} {pins : List (Addr × Obj)} {σ : L2.St} {H : Hp} {st : Shared} {m : Mu} {s : Sto} {Q : VK}
theorem RVs.inv1 {K : PySem.W.Frag} {v : Vl} {xs : List V} (h : RVs K m H [v] xs) : ∃ x, xs = [x] ∧ RV K m H v x := by
  obtain ⟨x, r, e, h1, h2⟩ := h
  have h2 : r = [] := h2
  subst h2; exact ⟨x, e, h1⟩
theorem RVs.inv2 {K : PySem.W.Frag} {v w : Vl} {xs : List V} (h : RVs K m H [v, w] xs) : ∃ x y, xs = [x, y] ∧ RV K m H v x ∧ RV K m H w y := by
  obtain ⟨x, r, e, h1, h2⟩ := h
  obtain ⟨y, rfl, h3⟩ := RVs.inv1 h2
  exact ⟨x, y, e, h1, h3⟩
theorem RVs.inv3 {K : PySem.W.Frag} {v w z : Vl} {xs : List V} (h : RVs K m H [v, w, z] xs) : ∃ x y a, xs = [x, y, a] ∧ RV K m H v x ∧ RV K m H w y ∧ RV K m H z a := by
  obtain ⟨x, r, e, h1, h2⟩ := h
  obtain ⟨y, a, rfl, h3, h4⟩ := RVs.inv2 h2
  exact ⟨x, y, a, e, h1, h3, h4⟩
theorem maxL_ok : ∀ {l : List Int} {k : Int}, maxL l = some k → k ∈ l ∧ ∀ y ∈ l, y ≤ k
  | [], _, h => by cases h
  | x :: r, k, h => by
    simp only [maxL] at h
    split at h
    · rename_i q
      cases h
      have : r = [] := by
        cases r with
        | nil => rfl
        | cons a b =>
          simp only [maxL] at q
          split at q <;> cases q
      subst this
      simp
    · rename_i y q
      obtain ⟨h1, h2⟩ := maxL_ok q
      cases h
      split
      · refine ⟨List.mem_cons_of_mem _ h1, fun z hz => ?_⟩
        rcases List.mem_cons.mp hz with rfl | hz
        · omega
        · exact h2 z hz
      · refine ⟨List.mem_cons_self, fun z hz => ?_⟩
        rcases List.mem_cons.mp hz with rfl | hz
        · omega
        · have := h2 z hz; omega
theorem minL_ok : ∀ {l : List Int} {k : Int}, minL l = some k → k ∈ l ∧ ∀ y ∈ l, k ≤ y
  | [], _, h => by cases h
  | x :: r, k, h => by
    simp only [minL] at h
    split at h
    · rename_i q
      cases h
      have : r = [] := by
        cases r with
        | nil => rfl
        | cons a b =>
          simp only [minL] at q
          split at q <;> cases q
      subst this
      simp
    · rename_i y q
      obtain ⟨h1, h2⟩ := minL_ok q
      cases h
      split
      · refine ⟨List.mem_cons_of_mem _ h1, fun z hz => ?_⟩
        rcases List.mem_cons.mp hz with rfl | hz
        · omega
        · exact h2 z hz
      · refine ⟨List.mem_cons_self, fun z hz => ?_⟩
        rcases List.mem_cons.mp hz with rfl | hz
        · omega
        · have := h2 z hz; omega
theorem dataL_sq {K : PySem.W.Frag} (rs : RS K m H s) {v : Vl} {x : V} {l : List PyData} (rx : RV K m H v x) (h : dataL v s = some l) : ∃ a ws, x = .ref a ∧ SqL K H a ws ∧ Reps K m H l ws := by
  obtain ⟨vs, q, h⟩ := obind h
  obtain ⟨a, ws, e, h1, h2⟩ := listV_sq rs q rx
  exact ⟨a, ws, e, h1, h2.reps h⟩
theorem postP_map {α : Type} {K : PySem.W.Frag} {o : Option α} {f : α → Vl × Sto} (h : PostP K Q m H (o.map f)) : ∃ a, o = some a ∧ PostP K Q m H (some (f a)) := by
  cases o with
  | none => exact h.elim
  | some a => exact ⟨a, rfl, h⟩
theorem postP_bind {α : Type} {K : PySem.W.Frag} {o : Option α} {f : α → Po Vl} (h : PostP K Q m H (o.bind f)) : ∃ a, o = some a ∧ PostP K Q m H (f a) := by
  cases o with
  | none => exact h.elim
  | some a => exact ⟨a, rfl, h⟩
theorem postP_if {c : Prop} [Decidable c] {K : PySem.W.Frag} {p : Vl × Sto} (h : PostP K Q m H (if c then some p else none)) : c ∧ PostP K Q m H (some p) := by
  split at h
  · exact ⟨by assumption, h⟩
  · exact h.elim
/-- lcm -/
theorem call_lcm : CallR X (.builtin "math.lcm") (fun vs H Q => ∃ a b : Int, vs = [.int a, .int b] ∧ a.natAbs.log2 < 6000 ∧ b.natAbs.log2 < 6000 ∧ Q (.int (Int.lcm a b)) H) := by
  intro pins st σ H vs us Q I r ⟨a, b, e, h1, h2, q⟩
  subst e
  cases r with
  | cons ra r =>
    cases r with
    | cons rb r =>
      cases r
      obtain ⟨t, rfl⟩ := ra
      obtain ⟨u, rfl⟩ := rb
      have e1 : (((Nat.lcm 1 a.natAbs).lcm b.natAbs : Nat) : Int) = (Int.lcm a b : Int) := by rw [Nat.lcm_one_left]; rfl
      have hm : ∀ n : Nat, n.log2 < 6000 → n < 2 ^ 6000 := fun n h => by
        rcases Nat.eq_zero_or_pos n with z | z
        · subst z; exact Nat.two_pow_pos _
        · exact (Nat.log2_lt (Nat.ne_of_gt z)).mp h
      have n1 := hm _ h1
      have n2 := hm _ h2
      have l1 : ∀ n : Nat, n < 2 ^ 6000 → ¬ n.log2 / 30 + 1 > 450 := fun n h => by
        have : n.log2 < 6000 := by
          rcases Nat.eq_zero_or_pos n with z | z
          · subst z; exact by decide
          · exact (Nat.log2_lt (Nat.ne_of_gt z)).mpr h
        omega
      have big : (1 : Nat) < 2 ^ 6000 := Nat.one_lt_two_pow (by decide)
      have c0 : ¬ (max 1 a.natAbs).log2 / 30 + 1 > 450 := l1 _ (Nat.max_lt.mpr ⟨big, n1⟩)
      have c1 : ¬ (max a.natAbs b.natAbs).log2 / 30 + 1 > 450 := l1 _ (Nat.max_lt.mpr ⟨n1, n2⟩)
      have c2 : ((((Nat.lcm 1 a.natAbs).lcm b.natAbs : Nat) : Int)).natAbs.log2 < bitsLine := by
        rw [Int.natAbs_natCast, Nat.lcm_one_left]
        have h3 : a.natAbs.lcm b.natAbs ≤ a.natAbs * b.natAbs := by
          unfold Nat.lcm
          exact Nat.div_le_self _ _
        have h4 : a.natAbs * b.natAbs < 2 ^ 12000 := by
          rw [show (2 : Nat) ^ 12000 = 2 ^ 6000 * 2 ^ 6000 from by rw [← Nat.pow_add]]
          exact Nat.mul_lt_mul'' n1 n2
        have h5 : a.natAbs.lcm b.natAbs < 2 ^ 12000 := Nat.lt_of_le_of_lt h3 h4
        have h6 : (a.natAbs.lcm b.natAbs).log2 < 12000 := by
          rcases Nat.eq_zero_or_pos (a.natAbs.lcm b.natAbs) with z | z
          · rw [z]; decide
          · exact (Nat.log2_lt (Nat.ne_of_gt z)).mpr h5
        have : bitsLine = 134217728 := by decide
        omega
      refine call_function_meets PySem.W.MGF.kind_lcm PySem.W.MGF.plain_lcm PySem.W.MGF.entry_lcm (PySem.W.MGF.args_lcm _ _) (PySem.W.mg_run_lcm a t b u c0 c1 c2).meets ?_
      rw [e1]
      exact ⟨.int _, H, I.tok _, ⟨_, rfl⟩, q⟩
def biName : Bi → Str
  | .len => "len" | .abs => "abs" | .int => "int" | .gcd => "gcd" | .lcm => "lcm" | .max => "max" | .min => "min" | .sum => "sum" | .all => "all" | .any => "any" | .tuple => "tuple" | .list => "list" | .sorted => "sorted" | .repr => "repr" | .str => "str"
def biVal : Bi → Value
  | .len => .builtin "len" | .abs => .builtin "abs" | .int => .type "int" | .gcd => .builtin "math.gcd" | .lcm => .builtin "math.lcm" | .max => .builtin "max" | .min => .builtin "min" | .sum => .builtin "sum" | .all => .builtin "all" | .any => .builtin "any" | .tuple => .type "tuple" | .list => .type "list" | .sorted => .builtin "sorted" | .repr => .builtin "repr" | .str => .type "str"
abbrev BiOk (X : Cx) (mf : Bool) (b : Bi) : Prop := CallR X (biVal b) (rFn X.K (biV mf b))
theorem bi_len {mf : Bool} : BiOk X mf .len := CallR.weak call_len fun xs H Q ⟨m, s, vs, rv, rs, h⟩ => by
  simp only [biV, lenV] at h
  split at h
  · rename_i z
    obtain ⟨x, rfl, r1⟩ := rv.inv1
    obtain ⟨c, h⟩ := postP_if h
    cases r1
    exact ⟨_, z.length, rfl, ⟨by rw [sizeLine_eq]; exact c, rfl⟩, PostP.here rs (v := .d (.int z.length)) rfl h⟩
  · obtain ⟨x, rfl, r1⟩ := rv.inv1
    obtain ⟨l, q, h⟩ := postP_map h
    obtain ⟨a, ws, rfl, h1, h2⟩ := itemsV_sq rs q r1
    refine ⟨_, ws.length, rfl, h1.imp (fun z => ⟨ws, z, rfl⟩) (fun z => ⟨ws, z, rfl⟩), ?_⟩
    rw [← h2.length]
    exact PostP.here rs (v := .d (.int l.length)) rfl h
  · exact h.elim
theorem bi_abs {mf : Bool} : BiOk X mf .abs := CallR.weak call_abs fun xs H Q ⟨m, s, vs, rv, rs, h⟩ => by
  simp only [biV, absV] at h
  split at h
  · rename_i i
    obtain ⟨x, rfl, r1⟩ := rv.inv1
    cases r1
    exact ⟨i, rfl, PostP.here rs (v := .d (.int _)) rfl h⟩
  · exact h.elim
theorem bi_int {mf : Bool} : BiOk X mf .int := CallR.weak call_int1 fun xs H Q ⟨m, s, vs, rv, rs, h⟩ => by
  simp only [biV, intV] at h
  split at h
  · rename_i i
    obtain ⟨x, rfl, r1⟩ := rv.inv1
    cases r1
    exact .inl ⟨i, rfl, PostP.here rs (v := .d (.int i)) rfl h⟩
  · rename_i i
    obtain ⟨x, rfl, r1⟩ := rv.inv1
    cases r1
    exact .inr ⟨i, rfl, PostP.here rs (v := .d (.int _)) rfl h⟩
  · exact h.elim
theorem bi_gcd {mf : Bool} : BiOk X mf .gcd := CallR.weak cr_gcd fun xs H Q ⟨m, s, vs, rv, rs, h⟩ => by
  simp only [biV, gcdV] at h
  split at h
  · rename_i i j
    obtain ⟨x, y, rfl, r1, r2⟩ := rv.inv2
    cases r1
    cases r2
    exact ⟨i, j, rfl, PostP.here rs (v := .d (.int (Int.gcd i j))) rfl h⟩
  · exact h.elim
theorem bi_lcm {mf : Bool} : BiOk X mf .lcm := CallR.weak call_lcm fun xs H Q ⟨m, s, vs, rv, rs, h⟩ => by
  simp only [biV, lcmV] at h
  split at h
  · rename_i i j
    obtain ⟨x, y, rfl, r1, r2⟩ := rv.inv2
    cases r1
    cases r2
    obtain ⟨c, h⟩ := postP_if h
    exact ⟨i, j, rfl, c.1, c.2, PostP.here rs (v := .d (.int (Int.lcm i j))) rfl h⟩
  · exact h.elim
def rMax1 (K : PySem.W.Frag) : List V → Hp → VK → Prop := fun xs H Q => (∃ i j, xs = [.int i, .int j] ∧ Q (.int (if j > i then j else i)) H) ∨ rMax K xs H Q
def rMin1 (K : PySem.W.Frag) : List V → Hp → VK → Prop := fun xs H Q => (∃ i j, xs = [.int i, .int j] ∧ Q (.int (if j < i then j else i)) H) ∨ rMin K xs H Q
theorem call_or {f : Value} {r r' : List V → Hp → VK → Prop} (h : CallR X f r) (h' : CallR X f r') : CallR X f (fun x H Q => r x H Q ∨ r' x H Q) := fun pins s σ H x y Q I rx q => q.elim (h pins s σ H x y Q I rx) (h' pins s σ H x y Q I rx)
theorem bi_max {mf : Bool} (hc : X.calm = true) : BiOk X mf .max := CallR.weak (call_or (call_max2 hc) (call_or (cr_max hc) (cr_maxT hc))) fun xs H Q ⟨m, s, vs, rv, rs, h⟩ => by
  simp only [biV, maxV] at h
  split at h
  · rename_i i j
    obtain ⟨x, y, rfl, r1, r2⟩ := rv.inv2
    cases r1
    cases r2
    exact .inl ⟨i, j, rfl, PostP.here rs (v := .d (.int _)) rfl h⟩
  · obtain ⟨x, rfl, r1⟩ := rv.inv1
    obtain ⟨l, q, h⟩ := postP_bind h
    obtain ⟨ds, q1, q2⟩ := obind q
    obtain ⟨k, q3, h⟩ := postP_map h
    obtain ⟨a, ws, rfl, h1, h2⟩ := dataV_sq rs r1 q1
    have e := h2.ints q2
    subst e
    obtain ⟨g1, g2⟩ := maxL_ok q3
    rcases h1 with h1 | h1
    · refine .inr (.inl ⟨a, l, rfl, h1, List.length_pos_of_mem g1, fun k' m1 m2 => ?_⟩)
      have : k' = k := Int.le_antisymm (g2 _ m1) (m2 _ g1)
      subst this
      exact PostP.here rs (v := .d (.int k')) rfl h
    · refine .inr (.inr ⟨a, l, rfl, h1, List.length_pos_of_mem g1, fun k' m1 m2 => ?_⟩)
      have : k' = k := Int.le_antisymm (g2 _ m1) (m2 _ g1)
      subst this
      exact PostP.here rs (v := .d (.int k')) rfl h
  · exact h.elim
theorem bi_min {mf : Bool} (hc : X.calm = true) : BiOk X mf .min := CallR.weak (call_or (call_min3Nu hc) (call_or (call_min2 hc) (call_or (cr_min hc) (cr_minT hc)))) fun xs H Q ⟨m, s, vs, rv, rs, h⟩ => by
  simp only [biV, minV] at h
  split at h
  · rename_i i j
    obtain ⟨x, y, rfl, r1, r2⟩ := rv.inv2
    cases r1
    cases r2
    exact .inr (.inl ⟨i, j, rfl, PostP.here rs (v := .d (.int _)) rfl h⟩)
  · rename_i i j k
    obtain ⟨x, y, z, rfl, r1, r2, r3⟩ := rv.inv3
    cases r1
    cases r2
    cases r3
    refine .inl ⟨.int i, .int j, .int k, .int (if k < (if j < i then j else i) then k else (if j < i then j else i)), rfl, ?_, PostP.here rs (v := .d (.int _)) rfl h⟩
    have e : ∀ a b : Int, nuMin2 (.int a) (.int b) = some (.int (if b < a then b else a)) := fun a b => by
      show (some (decide (b < a))).map (fun c => if c = true then V.int b else V.int a) = _
      by_cases q : b < a <;> simp [q]
    show (nuMin2 (.int i) (.int j)).bind (fun m => nuMin2 m (.int k)) = _
    rw [e, Option.bind_some, e]
  · obtain ⟨x, rfl, r1⟩ := rv.inv1
    obtain ⟨l, q, h⟩ := postP_bind h
    obtain ⟨ds, q1, q2⟩ := obind q
    obtain ⟨k, q3, h⟩ := postP_map h
    obtain ⟨a, ws, rfl, h1, h2⟩ := dataV_sq rs r1 q1
    have e := h2.ints q2
    subst e
    obtain ⟨g1, g2⟩ := minL_ok q3
    rcases h1 with h1 | h1
    · refine .inr (.inr (.inl ⟨a, l, rfl, h1, List.length_pos_of_mem g1, fun k' m1 m2 => ?_⟩))
      have : k' = k := Int.le_antisymm (m2 _ g1) (g2 _ m1)
      subst this
      exact PostP.here rs (v := .d (.int k')) rfl h
    · refine .inr (.inr (.inr ⟨a, l, rfl, h1, List.length_pos_of_mem g1, fun k' m1 m2 => ?_⟩))
      have : k' = k := Int.le_antisymm (m2 _ g1) (g2 _ m1)
      subst this
      exact PostP.here rs (v := .d (.int k')) rfl h
  · exact h.elim
theorem bi_sum {mf : Bool} (hc : X.calm = true) : BiOk X mf .sum := CallR.weak (cr_sum hc) fun xs H Q ⟨m, s, vs, rv, rs, h⟩ => by
  simp only [biV, sumV] at h
  split at h
  · obtain ⟨x, rfl, r1⟩ := rv.inv1
    obtain ⟨l, q, h⟩ := postP_map h
    obtain ⟨ds, q1, q2⟩ := obind q
    obtain ⟨a, ws, rfl, h1, h2⟩ := dataL_sq rs r1 q1
    have e := h2.ints q2
    subst e
    exact ⟨a, l, rfl, h1, PostP.here rs (v := .d (.int l.sum)) rfl h⟩
  · exact h.elim
theorem bi_all {mf : Bool} (hc : X.calm = true) : BiOk X mf .all := CallR.weak (cr_all hc) fun xs H Q ⟨m, s, vs, rv, rs, h⟩ => by
  simp only [biV, allV] at h
  split at h
  · obtain ⟨x, rfl, r1⟩ := rv.inv1
    obtain ⟨l, q, h⟩ := postP_map h
    obtain ⟨ds, q1, q2⟩ := obind q
    obtain ⟨a, ws, rfl, h1, h2⟩ := dataL_sq rs r1 q1
    have e := h2.bools q2
    subst e
    exact ⟨a, l, rfl, h1, PostP.here rs (v := .d (.bool (l.all id))) rfl h⟩
  · exact h.elim
theorem bi_any {mf : Bool} (hc : X.calm = true) : BiOk X mf .any := CallR.weak (cr_any hc) fun xs H Q ⟨m, s, vs, rv, rs, h⟩ => by
  simp only [biV, anyV] at h
  split at h
  · obtain ⟨x, rfl, r1⟩ := rv.inv1
    obtain ⟨l, q, h⟩ := postP_map h
    obtain ⟨ds, q1, q2⟩ := obind q
    obtain ⟨a, ws, rfl, h1, h2⟩ := dataL_sq rs r1 q1
    have e := h2.bools q2
    subst e
    exact ⟨a, l, rfl, h1, PostP.here rs (v := .d (.bool (l.any id))) rfl h⟩
  · exact h.elim
theorem bi_list {mf : Bool} : BiOk X mf .list := CallR.weak call_list_of fun xs H Q ⟨m, s, vs, rv, rs, h⟩ => by
  simp only [biV, lisV] at h
  split at h
  · obtain ⟨x, rfl, r1⟩ := rv.inv1
    obtain ⟨l, q, h⟩ := postP_bind h
    obtain ⟨a, ws, rfl, h1, h2⟩ := itemsV_sq rs q r1
    exact ⟨a, ws, rfl, h1, fun p hp => mkL_new rs h2 hp h⟩
  · exact h.elim
theorem bi_tuple {mf : Bool} : BiOk X mf .tuple := CallR.weak call_tuple_of fun xs H Q ⟨m, s, vs, rv, rs, h⟩ => by
  simp only [biV, tupV] at h
  split at h
  · rename_i v
    obtain ⟨x, rfl, r1⟩ := rv.inv1
    obtain ⟨l, q, h0⟩ := postP_map h
    cases v with
    | r n =>
      obtain ⟨vs, q1, q2⟩ := obind q
      obtain ⟨a, ws, rfl, _, h1, h2⟩ := rs.get (n := n) q1 r1
      exact ⟨a, ws, rfl, .inl ⟨SqL.of h1, fun p hp => tup_new rs (h2.reps q2) hp h0⟩⟩
    | d y =>
      cases y with
      | list zs =>
        obtain ⟨vs, q1, q2⟩ := obind q
        cases q1
        rw [allD_map] at q2
        cases q2
        obtain ⟨a, ws, rfl, h1, h2⟩ := r1
        exact ⟨a, ws, rfl, .inl ⟨h1.sq, fun p hp => tup_new rs h2 hp h0⟩⟩
      | tuple zs =>
        obtain ⟨vs, q1, q2⟩ := obind q
        cases q1
        rw [allD_map] at q2
        cases q2
        obtain ⟨a, ws, rfl, h1, h2⟩ := r1
        exact ⟨a, ws, rfl, .inr ⟨h1.sq, PostP.here rs (v := .d (.tuple l)) ⟨a, ws, rfl, h1, h2⟩ h0⟩⟩
      | _ => cases q
  · exact h.elim
theorem bi_str {mf : Bool} : BiOk X mf .str := CallR.weak call_str_int fun xs H Q ⟨m, s, vs, rv, rs, h⟩ => by
  simp only [biV, strV] at h
  split at h
  · rename_i i
    obtain ⟨x, rfl, r1⟩ := rv.inv1
    cases r1
    obtain ⟨c, h⟩ := postP_if h
    exact ⟨i, rfl, c, PostP.here rs (v := .d (.str (toString i))) rfl h⟩
  · exact h.elim
end
end SM

/-! SM: repr, isinstance, methods, stores. -/
namespace SM
open PySem L2 PySem.Spec PyProof.Rows
section
variable {X : Cx} {pins : List (Addr × Obj)} {σ : L2.St} {H : Hp} {st : Shared} {m : Mu} {s : Sto} {Q : VK}
mutual
theorem Rep.reads (I : Inv X pins σ H st) : ∀ {d : PyData} {v : V} {u : Value}, d.hasDict = false → Rep X.K m H d v → RelV v u → ∃ as, Reads st.heap u d as
  | .none, _, _, _, h, r => by cases h; cases r; exact ⟨_, Reads.none⟩
  | .bool b, _, _, _, h, r => by cases h; cases r; exact ⟨_, Reads.bool b⟩
  | .int i, _, _, _, h, r => by cases h; obtain ⟨t, rfl⟩ := r; exact ⟨_, Reads.int i t⟩
  | .str x, _, _, _, h, r => by cases h; obtain ⟨t, rfl⟩ := r; exact ⟨_, Reads.str x t⟩
  | .list xs, _, _, c, ⟨a, vs, e, h1, h2⟩, r => by
    subst e; cases r
    obtain ⟨its, rv, ⟨o, n, ho, hc, _, hd⟩, _⟩ := I.list h1.sq
    obtain ⟨as, hr⟩ := Reps.reads I (by simpa [PyData.hasDict] using c) h2 rv
    exact ⟨_, Reads.list ho hc hd hr⟩
  | .tuple xs, _, _, c, ⟨a, vs, e, h1, h2⟩, r => by
    subst e; cases r
    obtain ⟨its, rv, ⟨o, ho, hc, n, hd⟩, _⟩ := I.tuple h1.sq
    obtain ⟨as, hr⟩ := Reps.reads I (by simpa [PyData.hasDict] using c) h2 rv
    exact ⟨_, Reads.tuple ho hc hd hr⟩
  | .dict _, _, _, c, _, _ => by simp [PyData.hasDict] at c
theorem Reps.reads (I : Inv X pins σ H st) : ∀ {ds : List PyData} {vs : List V} {us : List Value}, PyData.hasDictAll ds = false → Reps X.K m H ds vs → Vals vs us → ∃ as, ReadsAll st.heap us ds as
  | [], _, _, _, h, r => by have h : _ = [] := h; subst h; cases r; exact ⟨_, ReadsAll.nil⟩
  | d :: ds, _, _, c, ⟨v, w, e, h1, h2⟩, r => by
    subst e
    cases r with
    | cons r1 r2 =>
      have c' : d.hasDict = false ∧ PyData.hasDictAll ds = false := by simpa [PyData.hasDictAll] using c
      obtain ⟨as, q1⟩ := Rep.reads I c'.1 h1 r1
      obtain ⟨bs, q2⟩ := Reps.reads I c'.2 h2 r2
      exact ⟨_, ReadsAll.cons q1 q2⟩
end
mutual
theorem Rep.readsD (I : Inv X pins σ H st) : ∀ {d : PyData} {v : V} {u : Value}, noLst d = true → Rep X.K m H d v → RelV v u → ∃ as, Reads st.heap u d as ∧ sysModules ∉ as
  | .none, _, _, _, h, r => by cases h; cases r; exact ⟨_, Reads.none, by simp⟩
  | .bool b, _, _, _, h, r => by cases h; cases r; exact ⟨_, Reads.bool b, by simp⟩
  | .int i, _, _, _, h, r => by cases h; obtain ⟨t, rfl⟩ := r; exact ⟨_, Reads.int i t, by simp⟩
  | .str x, _, _, _, h, r => by cases h; obtain ⟨t, rfl⟩ := r; exact ⟨_, Reads.str x t, by simp⟩
  | .list xs, _, _, c, _, _ => by simp [noLst] at c
  | .tuple xs, _, _, c, ⟨a, vs, e, h1, h2⟩, r => by
    subst e; cases r
    obtain ⟨its, rv, ⟨o, ho, hc, n, hd⟩, _⟩ := I.tuple h1.sq
    obtain ⟨as, hr, ns⟩ := Reps.readsD I (by simpa [noLst] using c) h2 rv
    exact ⟨_, Reads.tuple ho hc hd hr, ns⟩
  | .dict kvs, _, _, c, ⟨a, ks, e, _, h1, h2⟩, r => by
    subst e; cases r
    obtain ⟨_, hs, vs, kv, o, es, ep, ho, hx, hd, _, hp, _⟩ := dk_of I.hok h1
    obtain ⟨as, bs, q1, q2, q3, q4⟩ := RepKv.readsD I (by simpa [noLst] using c) h2 kv hp
    refine ⟨_, Reads.dict ho hx.1 hd q1 q2, ?_⟩
    intro z
    rcases List.mem_append.mp z with z | z
    · rcases List.mem_cons.mp z with z | z
      · rw [z] at hs; simp at hs
      · exact q3 z
    · exact q4 z
theorem Reps.readsD (I : Inv X pins σ H st) : ∀ {ds : List PyData} {vs : List V} {us : List Value}, noLsts ds = true → Reps X.K m H ds vs → Vals vs us → ∃ as, ReadsAll st.heap us ds as ∧ sysModules ∉ as
  | [], _, _, _, h, r => by have h : _ = [] := h; subst h; cases r; exact ⟨_, ReadsAll.nil, by simp⟩
  | d :: ds, _, _, c, ⟨v, w, e, h1, h2⟩, r => by
    subst e
    cases r with
    | cons r1 r2 =>
      have c' : noLst d = true ∧ noLsts ds = true := by simpa [noLsts] using c
      obtain ⟨as, q1, n1⟩ := Rep.readsD I c'.1 h1 r1
      obtain ⟨bs, q2, n2⟩ := Reps.readsD I c'.2 h2 r2
      exact ⟨_, ReadsAll.cons q1 q2, fun z => (List.mem_append.mp z).elim n1 n2⟩
theorem RepKv.readsD (I : Inv X pins σ H st) : ∀ {kvs : List (PyData × PyData)} {ks : List (Key × V)} {vs : List (Key × Value)} {es : List DictEntry}, noLstK kvs = true → RepKv X.K m H kvs ks → KV ks vs → Pairs (mixKind X.prog X.w) es vs →
    ∃ as bs, ReadsAll st.heap (es.map (·.key)) (kvs.map (·.1)) as ∧ ReadsAll st.heap (es.map (·.val)) (kvs.map (·.2)) bs ∧ sysModules ∉ as ∧ sysModules ∉ bs
  | [], _, _, _, _, h, kv, p => by
    have h : _ = [] := h
    subst h
    cases kv
    cases p
    exact ⟨_, _, ReadsAll.nil, ReadsAll.nil, by simp, by simp⟩
  | (k, x) :: kvs, _, _, _, c, ⟨j, v, r, e, hk, h1, h2⟩, kv, p => by
    subst e
    have c' : noLst x = true ∧ noLstK kvs = true := by simpa [noLstK] using c
    cases kv with
    | cons kv1 kv2 =>
    cases p with
    | @cons en _ _ _ p1 p2 p3 =>
    obtain ⟨e1, r1⟩ := kv1
    obtain ⟨as, bs, q1, q2, q3, q4⟩ := RepKv.readsD I c'.2 h2 kv2 p3
    obtain ⟨cs, q5, q6⟩ := Rep.readsD I c'.1 h1 r1
    rw [← e1] at p1
    have key : Reads st.heap en.key k [] := by
      rcases keyIs_shape p1 with ⟨i, t, z1, z2⟩ | ⟨y, t, z1, z2⟩
      · rw [z2]
        have z1 : j = .inl i := z1
        subst z1
        cases k <;> first | (cases hk; done) | skip
        cases hk
        exact Reads.int i t
      · rw [z2]
        have z1 : j = .inr y := z1
        subst z1
        cases k <;> first | (cases hk; done) | skip
        cases hk
        exact Reads.str y t
    refine ⟨_, _, ReadsAll.cons key q1, ReadsAll.cons (show Reads st.heap en.val x cs from p2 ▸ q5) q2, ?_, fun z => (List.mem_append.mp z).elim q6 q4⟩
    simpa using q3
end
theorem dataOf_rep {K : PySem.W.Frag} (rs : RS K m H s) {v : Vl} {x : V} {d : PyData} (rx : RV K m H v x) (h : dataOf v s = some d) : v = .d d ∨ ∃ ds a ws, d = .list ds ∧ x = .ref a ∧ SqL K H a ws ∧ Reps K m H ds ws := by
  cases v with
  | d y => cases h; exact .inl rfl
  | r n =>
    obtain ⟨vs, q, h⟩ := obind h
    obtain ⟨ds, q2, rfl⟩ := omap h
    obtain ⟨a, ws, e, _, h2, h3⟩ := rs.get q rx
    exact .inr ⟨ds, a, ws, rfl, e, SqL.of h2, h3.reps q2⟩
theorem bi_repr {mf : Bool} (hg : X.A.guards = some []) (hu : X.A.units + 200 < cLine) : BiOk X mf .repr := by
  intro pins st σ H xs us Q I r ⟨m, s, vs, rv, rs, h⟩
  simp only [biV, reprV] at h
  split at h
  · rename_i v
    obtain ⟨x, rfl, r1⟩ := rv.inv1
    obtain ⟨d, q, h⟩ := postP_bind h
    obtain ⟨⟨c1, c2, c3, c4⟩, h⟩ := postP_if h
    have fin : Q (.str d.shown) H := PostP.here rs (v := .d (.str d.shown)) rfl h
    cases r with
    | @cons _ u _ _ ru rn =>
      cases rn
      have rd : ∃ as, Reads st.heap u d as ∧ (d.hasDict = true → sysModules ∉ as) := by
        rcases c4 with c4 | c4
        · rcases dataOf_rep rs r1 q with rfl | ⟨ds, a, ws, rfl, rfl, h1, h2⟩
          · obtain ⟨as, z⟩ := Rep.reads I c4 r1 ru
            exact ⟨as, z, PyData.noDict_hsm c4⟩
          · cases ru
            obtain ⟨its, rv', ⟨o, n, ho, hc, _, hd⟩, _⟩ := I.list h1
            obtain ⟨as, hr⟩ := Reps.reads I (by simpa [PyData.hasDict] using c4) h2 rv'
            exact ⟨_, Reads.list ho hc hd hr, PyData.noDict_hsm c4⟩
        · rcases dataOf_rep rs r1 q with rfl | ⟨ds, a, ws, rfl, rfl, h1, h2⟩
          · obtain ⟨as, z, n⟩ := Rep.readsD I c4 r1 ru
            exact ⟨as, z, fun _ => n⟩
          · simp [noLst] at c4
      obtain ⟨as, rd, sm⟩ := rd
      cases rd with
      | none => exact P.repr_of_none ⟨.str _, H, I.tok _, ⟨_, rfl⟩, fin⟩
      | bool b => exact P.repr_of_bool ⟨.str _, H, I.tok _, ⟨_, rfl⟩, fin⟩
      | int i t => exact P.repr_of_int (by simpa [PyData.showable] using c1) ⟨.str _, H, I.tok _, ⟨_, rfl⟩, fin⟩
      | str z t => exact P.repr_of_str ⟨.str _, H, I.tok _, ⟨_, rfl⟩, fin⟩ (by rw [sizeLine_eq]; exact c2)
      | list h1 h2 h3 h4 => exact repr_of_reads' (.list h1 h2 h3 h4) c1 sm hg (by omega) (fun _ _ e => e) (fun h' u tk hk => ⟨.str _, H, I.kept hk, ⟨_, rfl⟩, fin⟩) (by rw [sizeLine_eq]; exact c2)
      | tuple h1 h2 h3 h4 => exact repr_of_reads' (.tuple h1 h2 h3 h4) c1 sm hg (by omega) (fun _ _ e => e) (fun h' u tk hk => ⟨.str _, H, I.kept hk, ⟨_, rfl⟩, fin⟩) (by rw [sizeLine_eq]; exact c2)
      | dict h1 h2 h3 h4 h5 => exact repr_of_reads' (.dict h1 h2 h3 h4 h5) c1 sm hg (by omega) (fun _ _ e => e) (fun h' u tk hk => ⟨.str _, H, I.kept hk, ⟨_, rfl⟩, fin⟩) (by rw [sizeLine_eq]; exact c2)
  · exact h.elim

/-! ### isinstance -/
def tyName : Ty → String
  | .int => "int" | .bool => "bool" | .str => "str" | .list => "list" | .tuple => "tuple" | .dict => "dict" | .float => "float"
def tyOfD : PyData → String
  | .none => "NoneType" | .bool _ => "bool" | .int _ => "int" | .str _ => "str" | .list _ => "list" | .tuple _ => "tuple" | .dict _ => "dict"
theorem rep_ty {K : PySem.W.Frag} : ∀ {d : PyData} {v : V}, Rep K m H d v → TyX K H v (.type (tyOfD d))
  | .none, _, h => by cases h; exact .base .non
  | .bool _, _, h => by cases h; exact .base (.bl _)
  | .int _, _, h => by cases h; exact .base (.int _)
  | .str _, _, h => by cases h; exact .base (.str _)
  | .list _, _, ⟨a, vs, e, h1, _⟩ => by
    subst e
    rcases h1 with ⟨_, h | ⟨o, h⟩⟩ | ⟨o, its, n, k, c, _⟩
    · exact .base (.lst h)
    · exact .base (.frz h)
    · exact .kList k c
  | .tuple _, _, ⟨a, vs, e, h1, _⟩ => by
    subst e
    rcases h1 with ⟨_, h | ⟨o, h⟩⟩ | ⟨o, its, n, k, c, _⟩
    · exact .base (.tup h)
    · exact .fTuple h
    · exact .kTuple k c
  | .dict _, _, ⟨a, vs, e, _, h1, _⟩ => by subst e; exact .base (.dK h1)
theorem kit_all (d : PyData) (t : Ty) : kitB (tyOfD d) (tyName t) = isT t (.d d) [] := by
  cases d <;> cases t <;> simp only [tyOfD, tyName, isT] <;> decide +kernel
theorem kit_lst (t : Ty) : kitB "list" (tyName t) = some (decide (t = .list)) := by
  cases t <;> decide +kernel
def rIs (K : PySem.W.Frag) (t : Ty) : List V → Hp → VK → Prop := fun xs H Q => ∃ m s v x, xs = [x, .ty (tyName t)] ∧ RV K m H v x ∧ RS K m H s ∧ ∃ b, isT t v s = some b ∧ Q (.bl b) H
theorem isT_d (t : Ty) (d : PyData) (s : Sto) : isT t (.d d) s = isT t (.d d) [] := by
  cases t <;> cases d <;> rfl
theorem is_ok (t : Ty) : CallR X (.builtin "isinstance") (rIs X.K t) := CallR.weak call_isi fun xs H Q ⟨m, s, v, x, e, rx, rs, b, h, q⟩ => by
  subst e
  cases v with
  | d y => exact ⟨x, .ty _, .type (tyOfD y), .type (tyName t), b, rfl, .ty _, rep_ty rx, kit_ty (by rw [kit_all, ← isT_d t y s]; exact h), q⟩
  | r n =>
    have h : (listAt n s).map (fun _ => decide (t = .list)) = some b := by cases t <;> exact h
    obtain ⟨vs, q1, rfl⟩ := omap h
    obtain ⟨a, ws, rfl, _, h1, _⟩ := rs.get q1 rx
    exact ⟨_, .ty _, .type "list", .type (tyName t), _, rfl, .ty _, .base (.lst h1), kit_ty (kit_lst t), q⟩
end
end SM

/-! SM: methods of lists, stores into them. -/
namespace SM
open PySem L2 PySem.Spec PyProof.Rows
section
variable {X : Cx} {pins : List (Addr × Obj)} {σ : L2.St} {H : Hp} {st : Shared} {m : Mu} {s : Sto} {Q : VK}
theorem MtR.weak {id : String} {r r' : V → List V → Hp → VK → Prop} (h : MtR X id r) (w : ∀ x xs H Q, r' x xs H Q → r x xs H Q) : MtR X id r' :=
  fun pins s σ H x xs v us Q I rx rxs q => h pins s σ H x xs v us Q I rx rxs (w _ _ _ _ q)
def rMe (K : PySem.W.Frag) (g : Vl → List Vl → Sto → Po Vl) : V → List V → Hp → VK → Prop := fun x xs H Q => ∃ m s v vs, RV K m H v x ∧ RVs K m H vs xs ∧ RS K m H s ∧ PostP K Q m H (g v vs s)
/-- a list of the store is changed, a value comes -/
theorem put_here {K : PySem.W.Frag} {n : Nat} {a : Addr} {vs us : List Vl} {ws zs : List V} {v : Vl} {x : V} (rs : RS K m H s) (h : listAt n s = some us) (ha : m.l[n]? = some (some a)) (rv : RVs K m H vs ws)
    (rx : RV K m H v x) (q : PostP K Q m H (some (v, putL n vs s))) : Q x (upd H a (.lst ws)) := by
  obtain ⟨e, r⟩ := rs.put (listAt_some h) ha rv
  exact q _ _ _ e r (RV.ext e rx)
theorem me_append : MtR X "list.append" (rMe X.K appendV) := MtR.weak mt_append fun x xs H Q ⟨m, s, v, vs, r1, r2, rs, h⟩ => by
  simp only [appendV] at h
  split at h
  · rename_i n u
    obtain ⟨y, rfl, r3⟩ := r2.inv1
    obtain ⟨us, q, h⟩ := postP_bind h
    obtain ⟨c, h⟩ := postP_if h
    obtain ⟨a, ws, rfl, ha, h1, h2⟩ := rs.get q r1
    exact ⟨a, ws, y, rfl, rfl, h1, by rw [← h2.length, sizeLine_eq]; exact c, put_here (zs := ws) rs q ha (h2.app (RVs.one r3)) (v := .d .none) rfl h⟩
  · exact h.elim
theorem me_insert : MtR X "list.insert" (rMe X.K insertV) := MtR.weak mt_insert fun x xs H Q ⟨m, s, v, vs, r1, r2, rs, h⟩ => by
  simp only [insertV] at h
  split at h
  · rename_i n k u
    obtain ⟨y, z, rfl, r3, r4⟩ := r2.inv2
    obtain ⟨us, q, h⟩ := postP_bind h
    obtain ⟨⟨c1, c2, c3⟩, h⟩ := postP_if h
    obtain ⟨a, ws, rfl, ha, h1, h2⟩ := rs.get q r1
    cases r3
    refine ⟨a, ws, k, z, rfl, rfl, h1, by rw [← h2.length, sizeLine_eq]; exact c3, c1, by omega, put_here (zs := ws) rs q ha ?_ (v := .d .none) rfl h⟩
    have := ((h2.take k.toNat).app (RVs.one r4)).app (h2.drop k.toNat)
    simpa [List.append_assoc] using this
  · exact h.elim
theorem seqIx {k : Int} {n : Nat} (h0 : 0 ≤ k) (h : k.toNat < n) : seqIndex? k n = some k.toNat := by
  unfold seqIndex?
  have h1 : ¬ k < 0 := by omega
  simp only [h1, if_false]
  have h2 : (decide (0 ≤ k) && decide (k < (n : Int))) = true := by
    rw [decide_eq_true h0, decide_eq_true (by omega)]; rfl
  rw [if_pos h2]
theorem me_pop : MtR X "list.pop" (rMe X.K popV) := by
  intro pins st σ H x xs v us Q I rx rxs ⟨m, s, o, vs, r1, r2, rs, h⟩
  simp only [popV] at h
  split at h
  · rename_i n
    have r2 : xs = [] := r2
    subst r2
    obtain ⟨ls, q, h⟩ := postP_bind h
    obtain ⟨y, q2, h⟩ := postP_map h
    obtain ⟨a, ws, rfl, ha, h1, h2⟩ := rs.get q r1
    obtain ⟨z, g1, g2⟩ := h2.get q2
    refine mt_pop pins st σ H _ _ v us Q I rx rxs ⟨a, ws, z, rfl, rfl, h1, by rw [← h2.length]; exact g1, put_here (zs := ws) rs q ha ?_ g2 h⟩
    have := h2.take (ls.length - 1)
    rw [List.dropLast_eq_take, List.dropLast_eq_take, ← h2.length]
    exact this
  · rename_i n k
    obtain ⟨y, rfl, r3⟩ := r2.inv1
    cases r3
    obtain ⟨ls, q, h⟩ := postP_bind h
    split at h
    · rename_i c
      obtain ⟨y, q2, h⟩ := postP_map h
      obtain ⟨a, ws, rfl, ha, h1, h2⟩ := rs.get q r1
      obtain ⟨z, g1, g2⟩ := h2.get q2
      have hl : k.toNat < ws.length := (List.getElem?_eq_some_iff.mp g1).1
      exact mt_popAt pins st σ H _ _ v us Q I rx rxs ⟨a, ws, k, k.toNat, z, rfl, rfl, h1, by omega, by omega, seqIx c.1 hl, g1, put_here (zs := ws) rs q ha (h2.erase k.toNat) g2 h⟩
    · exact h.elim
  · exact h.elim
theorem me_count : MtR X "list.count" (rMe X.K countV) := MtR.weak mt_lcount fun x xs H Q ⟨m, s, v, vs, r1, r2, rs, h⟩ => by
  simp only [countV] at h
  split at h
  · rename_i k
    obtain ⟨y, rfl, r3⟩ := r2.inv1
    cases r3
    obtain ⟨l, q, h⟩ := postP_map h
    obtain ⟨ds, q1, q2⟩ := obind q
    obtain ⟨a, ws, rfl, h1, h2⟩ := dataL_sq rs r1 q1
    have e := h2.ints q2
    subst e
    exact ⟨a, l, k, rfl, rfl, h1, PostP.here rs (v := .d (.int (l.count k : Nat))) rfl h⟩
  · exact h.elim
/-- what a list's method asks of its receiver -/
theorem ty_list {K : PySem.W.Frag} (rs : RS K m H s) {v : Vl} {x : V} {vs : List Vl} (h : listV v s = some vs) (rx : RV K m H v x) : tyV K "list" x H := by
  obtain ⟨a, ws, rfl, h1, _⟩ := listV_sq rs h rx
  exact .inl ⟨rfl, ws, h1⟩
/-- a store -/
def rSet (K : PySem.W.Frag) : TSet := fun o i v H Q => ∃ m s ov iv vv s', RV K m H ov o ∧ RV K m H iv i ∧ RV K m H vv v ∧ RS K m H s ∧ setV ov iv vv s = some s' ∧ ∀ m' H', Ext m H m' H' → RS K m' H' s' → Q H'
theorem set_ok : PSet X (rSet X.K) := by
  intro pins st σ H o i v ov iv u Q I ro ri rv ⟨m, s, a, b, c, s', r1, r2, r3, rs, h, q⟩
  refine set_list pins st σ H o i v ov iv u Q I ro ri rv ?_
  unfold setV at h
  split at h
  · rename_i n k
    obtain ⟨vs, q1, h⟩ := obind h
    obtain ⟨j, q2, rfl⟩ := omap h
    obtain ⟨p, ws, rfl, ha, h1, h2⟩ := rs.get q1 r1
    cases r2
    obtain ⟨e, r⟩ := rs.put (listAt_some q1) ha (h2.set j r3)
    exact ⟨p, ws, k, j, rfl, rfl, h1, by rw [← h2.length]; exact q2, q _ _ e r⟩
  · cases h
end
end SM

/-! SM: enumerate over a tuple. -/
namespace SM
open PySem L2 PySem.Spec PyProof.Rows
/-- iter of a tuple at t -/
abbrev itO (t : Addr) : Obj := { cls := .type "tuple_iterator", data := .fields #[.ref t, .int 0 0] }
/-- enumerate over the iterator at i -/
abbrev enO (i : Addr) : Obj := { cls := .type "enumerate", data := .fields #[.none, .bool false, .ref i, rawInt 0, .none, .none] }
set_option maxHeartbeats 1000000 in
theorem enT_new (t : Addr) (xs : Array Value) : Meets (Builtin.«enumerate.__new__» ⟨[.type "enumerate", .ref t], []⟩) (fun _ R s => s.heap.IsTuple t xs ∧
      R (.ok (.ret (.ref (s.heap.push (itO t)).objs.size))) { s with heap := (s.heap.push (itO t)).push (enO s.heap.objs.size) }) :=
  .of_wp fun prog w A R s z => by
    obtain ⟨hp, gs, dr, tk, os⟩ := s
    obtain ⟨ht, z⟩ := z
    have sub := sub_enumerate
    have tup : Heap.IsTuple (Shared.heap ⟨hp, gs, dr, tk, os⟩) t xs := ht
    obtain ⟨ob, got, c1, d1⟩ := ht
    wp_walk using AutoSeq1.wpAny_loadPart' got, wpAny_pyIter_tuple tup
    refine wpAny_stack_any fun st => wpAny_pure ?_
    split
    case h_2 =>
      wp_walk using AutoSeq1.wpAny_loadPart' got, wpAny_pyIter_tuple tup
      exact ⟨_, rfl, z⟩
    case h_1 =>
      rename_i u _ _ _ _ _
      generalize (u == Value.type "enumerate") = b
      cases b
      all_goals
        wp_walk using AutoSeq1.wpAny_loadPart' got, wpAny_pyIter_tuple tup
        exact ⟨_, rfl, z⟩
section
variable {prog : Program} {w : World} {A : Around} {E : Value → Shared → Prop} {s : Shared}
theorem call_enT {t : Addr} {xs : Array Value} {Q : Value → Shared → Prop} (ht : s.heap.IsTuple t xs)
    (q : ∀ k, IsEnum k (s.heap.objs.size + 1) s.heap.objs.size 0 .none → k.IsTupleIter s.heap.objs.size t 0 → k.objs.size = s.heap.objs.size + 2 → (∀ b o, s.heap.get? b = some o → k.get? b = some o) → Q (.ref (s.heap.objs.size + 1)) { s with heap := k }) :
    wpAny (model prog w) A (call (.type "enumerate") [.ref t]) Q E s := by
  refine callType_new F.called_enumerate (by decide) (F.typeCall_enumerate_1 _) (F.newCall_enumerate_1 _) (fun obj => F.args_object_init_2 obj _) F.entry_enumerate_new (enT_new t xs) ⟨ht, ?_⟩
  have sz : (s.heap.push (itO t)).objs.size = s.heap.objs.size + 1 := Heap.size_push ..
  have there := Heap.get?_push_size (s.heap.push (itO t)) (o := enO s.heap.objs.size) rfl
  rw [sz] at there
  show _ ∧ _
  rw [sz]
  have en : IsEnum ((s.heap.push (itO t)).push (enO s.heap.objs.size)) (s.heap.objs.size + 1) s.heap.objs.size 0 .none := there
  exact ⟨⟨_, en, rfl⟩, q _ en ⟨_, Heap.get?_push_of_some _ (Heap.get?_push_size _ rfl), rfl, rfl⟩ (by rw [Heap.size_push, sz]) fun b o z => Heap.get?_push_of_some _ (Heap.get?_push_of_some _ z)⟩
end
/-- the tuple at a, each item in a new pair behind its place -/
def ItEnT (K : PySem.W.Frag) (a : Addr) : It :=
  ⟨fun i H => ∃ (xs : List V) (x : V), SqT K H a xs ∧ xs[i]? = some x,
   fun i H v H' => ∃ T x, v = .ref T ∧ H T = none ∧ H' = upd H T (.tup [.int (i : Nat), x]) ∧ ∀ xs, SqT K H a xs → xs[i]? = some x,
   fun i H => ∃ xs : List V, SqT K H a xs ∧ xs.length = i⟩
theorem turnEnT {P : Program} {w : World} {K : PySem.W.Frag} {es : List Expr} {kk : Nat} {tp : Pos} {a e it : Addr} (ne : a ≠ it) (ne2 : e ≠ a) :
    Turn P w K (.Tuple es kk tp) (ItEnT K a) [e, it] e (fun i h => (∃ old, IsEnum h e it ((i : Nat) : Int) old) ∧ h.IsTupleIter it a i ∧ e ≠ it) where
  mem := by simp
  obj := fun i h st b hb => by
    obtain ⟨⟨old, he⟩, ⟨o, ho, hc, hd⟩, _⟩ := st
    rcases (show b = e ∨ b = it by simpa using hb) with rfl | rfl
    · exact ⟨_, he, fun v q => nomatch q⟩
    · exact ⟨o, ho, fun v q => by rw [hd] at q; cases q⟩
  keep := fun i h h' st k => ⟨st.1.imp fun old z => k e (by simp) _ z, st.2.1.at fun o q => k it (by simp) o q, st.2.2⟩
  item := by
    intro X hP hw hK hc i pins s σ H E I hf st hg
    subst hP hw hK
    obtain ⟨⟨old, he⟩, hit, nei⟩ := st
    obtain ⟨xs, x, sq, hx⟩ := hg
    obtain ⟨its, rv, p, _⟩ := I.tuple sq
    obtain ⟨u, hu, ru⟩ := rv.get hx
    have hh := I.ok.hd hc
    have hi : i < its.toArray.size := by
      have := (List.getElem?_eq_some_iff.mp hu).1
      simpa using this
    refine wpAny_pyNext_enum_itemD (Draws.tuple (A := X.A.in1) hh it a ne its.toArray) he ⟨hit, p⟩ hi nei (by simp [nei, ne2]) fun v h' tk hv ho st' hT hsz hk => ?_
    have ev : v = u := by
      have : its.toArray[i]? = some u := by simpa using hu
      rw [this] at hv
      exact (Option.some.inj hv).symm
    subst ev
    refine ⟨_, rfl, wpAny_letOwnedTupleGo_enum (s := { s with heap := h', toks := tk + 1 }) ho fun k he' sb => ?_⟩
    have l1 : e < s.heap.objs.size := Heap.lt_size he
    have l2 : it < s.heap.objs.size := by obtain ⟨_, z, _⟩ := hit; exact Heap.lt_size z
    have tup : k.get? s.heap.objs.size = some { cls := .type "tuple", data := .seq #[.int i tk, v] } := (sb.2 _ (Nat.ne_of_gt l1)).trans hT
    have ok : ObjOk X.prog X.w (upd H s.heap.objs.size (.tup [.int (i : Nat), x])) k s.heap.objs.size (.tup [.int (i : Nat), x]) := ⟨(by decide : 2 ≤ sizeLine), [.int i tk, v], .cons ⟨_, rfl⟩ (.cons ru .nil), _, tup, rfl, _, rfl⟩
    have J : Inv X pins σ (upd H s.heap.objs.size (.tup [.int (i : Nat), x])) { s with heap := k, toks := tk + 1 } :=
      I.turnedNew (ch := [e, it]) (fun b ob hb z => (sb.2 b (fun y => hb (by simp [y]))).trans (hk b ob (fun y => hb (by simp [y])) (fun y => hb (by simp [y])) z)) hf (Nat.le_refl _) ok
    refine ⟨.ref s.heap.objs.size, _, J, rfl, ⟨_, x, rfl, I.hok.fresh (Nat.le_refl _), rfl, fun ys hy => by rw [I.tuple_inj hy sq]; exact hx⟩, ⟨⟨v, ?_⟩, st'.1.at fun o z => (sb.2 it (Ne.symm nei)).trans z, nei⟩, fun b hb => ?_⟩
    · rw [show ((i + 1 : Nat) : Int) = (i : Int) + 1 by omega]
      exact he'
    · have lt : b < s.heap.objs.size := by
        rcases (show b = e ∨ b = it by simpa using hb) with rfl | rfl <;> assumption
      rw [upd_ne (Nat.ne_of_lt lt)]
      exact (hf b hb).1
  done := by
    intro X hP hw hK hc i pins s σ H E I hf st hg
    subst hP hw hK
    obtain ⟨⟨old, he⟩, hit, nei⟩ := st
    obtain ⟨xs, sq, hx⟩ := hg
    obtain ⟨its, rv, p, _⟩ := I.tuple sq
    have hh := I.ok.hd hc
    have hl := rv.length
    obtain ⟨f0, f1, f2, f3, f4, f5⟩ := hf it (by simp)
    subst hx
    have st : s.heap.IsTupleIter it a its.toArray.size ∧ s.heap.IsTuple a its.toArray := ⟨by rw [show its.toArray.size = xs.length by simp [hl]]; exact hit, p⟩
    exact wpAny_pyNext_enum_endD (Draws.tuple (A := X.A.in1) hh it a ne its.toArray) he st fun h' eb => ⟨rfl, I.turned (t' := s.toks) (fun b o hb z => eb b o hb z) f0 f1 f3 f4 f5⟩
  self := fun A i s Q E st h => wpAny_pyIter_enum st.1.choose_spec h
def iEnT (K : PySem.W.Frag) (ta : TA) : TI := fun σ H R => ta σ H fun vs H1 => ∃ a xs, vs = [.ref a] ∧ ((SqL K H1 a xs ∧ R (Ite K a) H1) ∨ (SqT K H1 a xs ∧ R (ItEnT K a) H1))
theorem pi_enT {X : Cx} {e : Expr} {ta : TA} {p pos tp : Pos} {es : List Expr} {kk : Nat} (hg : Gl X "enumerate") (hm : X.mg "enumerate" = none) (ha : PA X [e] ta) (hs : starEach [e] X.env = [(false, eval e X.env)] := by rfl) :
    PI X (.Tuple es kk tp) (.Call (.Name "enumerate" p) [e] [] pos) (iEnT X.K ta) := by
  refine ⟨fun pins s σ H R I h => ?_⟩
  refine Call_ (ld_blt I hg hm boot_enumerate (PyProof.Rows.callWith_type1 (thn (ha.run pos pins s σ H _ I h) fun us s1 ⟨vs, H1, I1, r1, q1⟩ => ?_) hs rfl))
  obtain ⟨a, xs, ex, q⟩ := q1
  subst ex
  obtain ⟨r, rr⟩ : ∃ u, us = [u] ∧ L2.RelV (.ref a) u := by
    cases r1 with
    | cons r rr => cases rr; exact ⟨_, rfl, r⟩
  obtain ⟨rfl, ru⟩ := rr
  cases ru
  have fresh : ∀ b, b ∈ [s1.heap.objs.size + 1, s1.heap.objs.size] → FpOk X pins H1 b := fun b hb => by
    have le : s1.heap.objs.size ≤ b := by
      rcases (show b = s1.heap.objs.size + 1 ∨ b = s1.heap.objs.size by simpa using hb) with rfl | rfl
      · exact Nat.le_succ _
      · exact Nat.le_refl _
    exact I1.fpOk le (I1.hok.fresh le)
  rcases q with ⟨hq, q⟩ | ⟨hq, q⟩
  · obtain ⟨its, rv, l, _⟩ := I1.list hq
    refine call_enumerate_list l.isList fun k en hit sz hk => wpAny_pyIter_enum en ?_
    exact ⟨s1.heap.objs.size + 1, [s1.heap.objs.size + 1, s1.heap.objs.size], _, _, H1, rfl, I1.kept (t' := s1.toks) hk, turn_enum a (s1.heap.objs.size + 1) s1.heap.objs.size, ⟨⟨.none, en⟩, hit, Nat.succ_ne_self _⟩, fresh, q⟩
  · obtain ⟨its, rv, l, _⟩ := I1.tuple hq
    have la : a < s1.heap.objs.size := by obtain ⟨o, z, _⟩ := l; exact Heap.lt_size z
    refine call_enT l fun k en hit sz hk => wpAny_pyIter_enum en ?_
    exact ⟨s1.heap.objs.size + 1, [s1.heap.objs.size + 1, s1.heap.objs.size], _, _, H1, rfl, I1.kept (t' := s1.toks) hk, turnEnT (Nat.ne_of_lt la) (Ne.symm (Nat.ne_of_lt (Nat.lt_succ_of_lt la))), ⟨⟨.none, en⟩, hit, Nat.succ_ne_self _⟩, fresh, q⟩
end SM

/-! SM: zip over lists and tuples, in any mixture. -/
namespace SM
open PySem L2 PySem.Spec PyProof.Rows
/-- the list (false) or tuple (true) at a -/
def SqK (k : Bool) (K : PySem.W.Frag) (H : Hp) (a : Addr) (xs : List V) : Prop := match k with
  | false => SqL K H a xs
  | true => SqT K H a xs
def IsK (k : Bool) (h : Heap) (a : Addr) (its : Array Value) : Prop := match k with
  | false => h.IsList a its
  | true => h.IsTuple a its
def IterK (k : Bool) (h : Heap) (it a : Addr) (i : Nat) : Prop := match k with
  | false => h.IsListIter it a i
  | true => h.IsTupleIter it a i
def objK (k : Bool) (a : Addr) : Obj := match k with
  | false => { cls := .type "list_iterator", data := .fields #[.ref a, .int 0 0] }
  | true => { cls := .type "tuple_iterator", data := .fields #[.ref a, .int 0 0] }
theorem beginsK (k : Bool) (a : Addr) (its : Array Value) : Begins (.ref a) (objK k a) fun h => IsK k h a its := by
  cases k
  · exact begins_list a its
  · exact begins_tuple a its
theorem iterK_new {k : Bool} {h : Heap} {it a : Addr} (e : h.get? it = some (objK k a)) : IterK k h it a 0 := by
  cases k
  · exact ⟨_, e, rfl, rfl⟩
  · exact ⟨_, e, rfl, rfl⟩
theorem iterK_at {k : Bool} {h h' : Heap} {it a : Addr} {i : Nat} (x : IterK k h it a i) (f : ∀ o, h.get? it = some o → h'.get? it = some o) : IterK k h' it a i := by
  cases k
  · exact Heap.IsListIter.at x f
  · exact Heap.IsTupleIter.at x f
theorem iterK_obj {k : Bool} {h : Heap} {it a : Addr} {i : Nat} (x : IterK k h it a i) : ∃ o, h.get? it = some o ∧ ∃ vs, o.data = .fields vs := by
  cases k
  · obtain ⟨o, e, _, d⟩ := x; exact ⟨o, e, _, d⟩
  · obtain ⟨o, e, _, d⟩ := x; exact ⟨o, e, _, d⟩
theorem drawsK (k : Bool) {prog : Program} {w : World} {A : Around} (hh : A.handled = none) (it a : Addr) (ne : a ≠ it) (its : Array Value) :
    Draws prog w A it [it, a] its.size (fun i v => its[i]? = some v) (fun i h => IterK k h it a i ∧ IsK k h a its) := by
  cases k
  · exact Draws.list hh it a ne its
  · exact Draws.tuple hh it a ne its
theorem inv_K {X : Cx} {pins : List (Addr × Obj)} {σ : L2.St} {H : Hp} {s : Shared} {k : Bool} {a : Addr} {xs : List V} (I : L2.Inv X pins σ H s) (q : SqK k X.K H a xs) : ∃ its : List Value, Vals xs its ∧ IsK k s.heap a its.toArray := by
  cases k
  · obtain ⟨its, rv, p, _⟩ := I.list q; exact ⟨its, rv, p.isList⟩
  · obtain ⟨its, rv, p, _⟩ := I.tuple q; exact ⟨its, rv, p⟩
theorem inv_K1 {X : Cx} {pins : List (Addr × Obj)} {σ : L2.St} {H : Hp} {s : Shared} {k : Bool} {a : Addr} {xs ys : List V} (I : L2.Inv X pins σ H s) (p : SqK k X.K H a xs) (q : SqK k X.K H a ys) : xs = ys := by
  cases k
  · exact I.list_inj p q
  · exact I.tuple_inj p q
/-- the items of both, in new pairs -/
def ItM (k l : Bool) (K : PySem.W.Frag) (a b : Addr) : It :=
  ⟨fun i H => ∃ (xs ys : List V) (x y : V), SqK k K H a xs ∧ SqK l K H b ys ∧ xs[i]? = some x ∧ ys[i]? = some y,
   fun i H v H' => ∃ T x y, v = .ref T ∧ H T = none ∧ H' = upd H T (.tup [x, y]) ∧ (∀ xs, SqK k K H a xs → xs[i]? = some x) ∧ ∀ ys, SqK l K H b ys → ys[i]? = some y,
   fun i H => ∃ xs ys : List V, SqK k K H a xs ∧ SqK l K H b ys ∧ i ≤ xs.length ∧ i ≤ ys.length ∧ (i = xs.length ∨ i = ys.length)⟩
theorem walk_M {k l : Bool} {K : PySem.W.Frag} {a b : Addr} {xs ys : List V} : Walk (ItM k l K a b) (min xs.length ys.length) (fun H => SqK k K H a xs ∧ SqK l K H b ys) (YPair (fun i => xs[i]?) (fun i => ys[i]?)) := by
  refine ⟨fun i _ hi q => ?_, fun _ q => ⟨xs, ys, q.1, q.2, by omega, by omega, by omega⟩, fun i H v H' _ q y => ?_⟩
  · have h1 : i < xs.length := by omega
    have h2 : i < ys.length := by omega
    exact ⟨xs, ys, xs[i], ys[i], q.1, q.2, by simp [h1], by simp [h2]⟩
  · obtain ⟨T, x, z, g1, g2, g3, g4, g5⟩ := y
    exact ⟨T, x, z, g1, g2, g3, g4 xs q.1, g5 ys q.2⟩
theorem turnM {P : Program} {w : World} {K : PySem.W.Frag} {es : List Expr} {kk : Nat} {tp : Pos} {k l : Bool} {a b z TI TO i1 i2 : Addr} (S : ZipSep2 z TI TO i1 i2 [i1, a] [i2, b]) (n1 : a ≠ i1) (n2 : b ≠ i2) :
    Turn P w K (.Tuple es kk tp) (ItM k l K a b) [z, TI, TO, i1, i2] z (fun i h => IsZip h z TI TO .none ∧ IsTupOf2 h TI (.ref i1) (.ref i2) ∧ (∃ x y, IsTupOf2 h TO x y) ∧ IterK k h i1 a i ∧ IterK l h i2 b i) where
  mem := by simp
  obj := fun i h st c hc => by
    obtain ⟨hz, hTI, ⟨x, y, hTO⟩, g1, g2⟩ := st
    obtain ⟨o1, e1, _, d1⟩ := iterK_obj g1
    obtain ⟨o2, e2, _, d2⟩ := iterK_obj g2
    rcases (show c = z ∨ c = TI ∨ c = TO ∨ c = i1 ∨ c = i2 by simpa using hc) with rfl | rfl | rfl | rfl | rfl
    · exact ⟨_, hz, fun v q => nomatch q⟩
    · exact ⟨_, hTI, fun v q => nomatch q⟩
    · exact ⟨_, hTO, fun v q => nomatch q⟩
    · exact ⟨o1, e1, fun v q => by rw [d1] at q; cases q⟩
    · exact ⟨o2, e2, fun v q => by rw [d2] at q; cases q⟩
  keep := fun i h h' st kp => by
    obtain ⟨hz, hTI, ⟨x, y, hTO⟩, g1, g2⟩ := st
    exact ⟨kp z (by simp) _ hz, kp TI (by simp) _ hTI, ⟨x, y, kp TO (by simp) _ hTO⟩, iterK_at g1 fun o q => kp i1 (by simp) o q, iterK_at g2 fun o q => kp i2 (by simp) o q⟩
  item := by
    intro X hP hw hK hc i pins s σ H E I hf st hg
    subst hP hw hK
    obtain ⟨hz, hTI, ⟨x0, y0, hTO⟩, g1, g2⟩ := st
    obtain ⟨xs, ys, x, y, qx, qy, hx, hy⟩ := hg
    obtain ⟨its, rv, p⟩ := inv_K I qx
    obtain ⟨its2, rv2, p2⟩ := inv_K I qy
    obtain ⟨u, hu, ru⟩ := rv.get hx
    obtain ⟨u2, hu2, ru2⟩ := rv2.get hy
    have hh := I.ok.hd hc
    have lz : z < s.heap.objs.size := Heap.lt_size hz
    have m1 : i < its.toArray.size := by simpa using (List.getElem?_eq_some_iff.mp hu).1
    have m2 : i < its2.toArray.size := by simpa using (List.getElem?_eq_some_iff.mp hu2).1
    refine wpAny_pyNext_zipD2_item S (drawsK k (A := X.A.in1) hh i1 a n1 its.toArray) (drawsK l (A := X.A.in1) hh i2 b n2 its2.toArray) hz hTI hTO ⟨g1, p⟩ ⟨g2, p2⟩ m1 m2 fun v1 v2 h' tk e1 e2 z' TO' st1 st2 hT sz hk => ?_
    have ev : v1 = u := Option.some.inj (e1.symm.trans (by simpa using hu))
    have ev2 : v2 = u2 := Option.some.inj (e2.symm.trans (by simpa using hu2))
    subst ev ev2
    refine ⟨_, rfl, wpAny_letOwnedTupleGo_zip (s := { s with heap := h', toks := tk }) z' fun h'' z'' sb => ?_⟩
    have tup : h''.get? s.heap.objs.size = some { cls := .type "tuple", data := .seq #[v1, v2] } := (sb.2 _ (Nat.ne_of_gt lz)).trans hT
    have ok : ObjOk X.prog X.w (upd H s.heap.objs.size (.tup [x, y])) h'' s.heap.objs.size (.tup [x, y]) := ⟨(by decide : 2 ≤ sizeLine), [v1, v2], .cons ru (.cons ru2 .nil), _, tup, rfl, _, rfl⟩
    have J : L2.Inv X pins σ (upd H s.heap.objs.size (.tup [x, y])) { s with heap := h'', toks := tk } :=
      I.turnedNew (ch := [z, TI, TO, i1, i2]) (fun c o hb q => (sb.2 c (fun q' => hb (by simp [q']))).trans (hk c o (fun q' => hb (by simp [q'])) (fun q' => hb (by simp [q'])) (fun q' => hb (by simp [q'])) (fun q' => hb (by simp [q'])) q)) hf (Nat.le_refl _) ok
    refine ⟨.ref s.heap.objs.size, _, J, rfl, ⟨_, x, y, rfl, I.hok.fresh (Nat.le_refl _), rfl, fun L hL => by rw [inv_K1 I hL qx]; exact hx, fun L hL => by rw [inv_K1 I hL qy]; exact hy⟩,
      ⟨z'', (sb.2 _ S.TIz).trans (hk _ _ S.TIz S.TITO S.TIi1 S.TIi2 hTI), ⟨v1, v2, (sb.2 _ S.TOz).trans TO'⟩, iterK_at st1.1 fun o q => (sb.2 _ (Ne.symm S.zi1)).trans q, iterK_at st2.1 fun o q => (sb.2 _ (Ne.symm S.zi2)).trans q⟩, fun c hcm => ?_⟩
    have lt : c < s.heap.objs.size := by
      rcases (show c = z ∨ c = TI ∨ c = TO ∨ c = i1 ∨ c = i2 by simpa using hcm) with rfl | rfl | rfl | rfl | rfl
      · exact lz
      · exact Heap.lt_size hTI
      · exact Heap.lt_size hTO
      · obtain ⟨_, e, _⟩ := iterK_obj g1; exact Heap.lt_size e
      · obtain ⟨_, e, _⟩ := iterK_obj g2; exact Heap.lt_size e
    rw [upd_ne (Nat.ne_of_lt lt)]
    exact (hf c hcm).1
  done := by
    intro X hP hw hK hc i pins s σ H E I hf st hg
    subst hP hw hK
    obtain ⟨hz, hTI, ⟨x0, y0, hTO⟩, g1, g2⟩ := st
    obtain ⟨xs, ys, qx, qy, t1, t2, t3⟩ := hg
    obtain ⟨its, rv, p⟩ := inv_K I qx
    obtain ⟨its2, rv2, p2⟩ := inv_K I qy
    have l1 := rv.length
    have l2 := rv2.length
    have hh := I.ok.hd hc
    exact wpAny_pyNext_zipD2_end S (drawsK k (A := X.A.in1) hh i1 a n1 its.toArray) (drawsK l (A := X.A.in1) hh i2 b n2 its2.toArray) hz hTI hTO ⟨g1, p⟩ ⟨g2, p2⟩ (by simp; omega) (by simp; omega) (by simp; omega) fun h' tk hk =>
      ⟨rfl, I.turnedL (t' := tk) (ch := [z, TI, TO, i1, i2]) (fun c o hb q => hk c o (fun q' => hb (by simp [q'])) (fun q' => hb (by simp [q'])) (fun q' => hb (by simp [q'])) (fun q' => hb (by simp [q'])) q) hf⟩
  self := fun A i s Q E st h => wpAny_pyIter_zip st.1 h
def iZipM (K : PySem.W.Frag) (ta : TA) : TI := fun σ H R => ta σ H fun vs H1 => ∃ a b k l xs ys, vs = [.ref a, .ref b] ∧ SqK k K H1 a xs ∧ SqK l K H1 b ys ∧ R (ItM k l K a b) H1
theorem pi_zipM {X : Cx} {e e2 : Expr} {ta : TA} {p pos tp : Pos} {es : List Expr} {kk : Nat} (hg : Gl X "zip") (hm : X.mg "zip" = none) (ha : PA X [e, e2] ta)
    (hs : starEach [e, e2] X.env = (false, eval e X.env) :: starEach [e2] X.env := by rfl) (hpl : (backTo pos (starEach [e2] X.env)).any (·.1) = false := by rfl) :
    PI X (.Tuple es kk tp) (.Call (.Name "zip" p) [e, e2] [] pos) (iZipM X.K ta) := by
  refine ⟨fun pins s σ H R I h => ?_⟩
  refine Call_ (ld_blt I hg hm PyProof.Rows.boot_zip (PyProof.Rows.callWith_type1 (thn (ha.run pos pins s σ H _ I h) fun us s1 ⟨vs, H1, I1, r1, q1⟩ => ?_) hs hpl))
  obtain ⟨a, b, k, l, xs, ys, ex, qx, qy, q⟩ := q1
  subst ex
  have r2 : us = [.ref a, .ref b] := by
    cases r1 with
    | cons r rr => cases rr with
      | cons r' rr => cases rr; cases r; cases r'; rfl
  subst r2
  obtain ⟨its, rv, p1⟩ := inv_K I1 qx
  obtain ⟨its2, rv2, p2⟩ := inv_K I1 qy
  have la : a < s1.heap.objs.size := by
    cases k
    · obtain ⟨o, z, _⟩ := p1; exact Heap.lt_size z
    · obtain ⟨o, z, _⟩ := p1; exact Heap.lt_size z
  have lb : b < s1.heap.objs.size := by
    cases l
    · obtain ⟨o, z, _⟩ := p2; exact Heap.lt_size z
    · obtain ⟨o, z, _⟩ := p2; exact Heap.lt_size z
  generalize hN : s1.heap.objs.size = N at la lb
  have fresh : ∀ c, c ∈ [N + 4, N + 2, N + 3, N, N + 1] → FpOk X pins H1 c := fun c hc => by
    have le : s1.heap.objs.size ≤ c := by
      rw [hN]
      rcases (show c = N + 4 ∨ c = N + 2 ∨ c = N + 3 ∨ c = N ∨ c = N + 1 by simpa using hc) with rfl | rfl | rfl | rfl | rfl
      all_goals first | exact Nat.le_refl _ | exact Nat.le_add_right _ _
    exact I1.fpOk le (I1.hok.fresh le)
  have nA : ∀ (i j : Nat), i ≠ j → (N + i : Nat) ≠ N + j := fun i j h z => h (Nat.add_left_cancel z)
  have aN : ∀ i : Nat, a ≠ N + i := fun i z => Nat.lt_irrefl a (Nat.lt_of_lt_of_le la (by rw [z]; exact Nat.le_add_right _ _))
  have bN : ∀ i : Nat, b ≠ N + i := fun i z => Nat.lt_irrefl b (Nat.lt_of_lt_of_le lb (by rw [z]; exact Nat.le_add_right _ _))
  have S : ZipSep2 (N + 4) (N + 2) (N + 3) N (N + 1) [N, a] [N + 1, b] := by
    refine ⟨nA 2 4 (by decide), nA 3 4 (by decide), nA 2 3 (by decide), nA 2 0 (by decide), by simp, ?_, ?_, nA 2 1 (by decide), by simp, ?_, ?_, ?_, ?_⟩
    · simp only [List.mem_cons, List.not_mem_nil, or_false, not_or]
      exact ⟨nA 4 0 (by decide), Ne.symm (aN 4)⟩
    · simp only [List.mem_cons, List.not_mem_nil, or_false, not_or]
      exact ⟨nA 3 0 (by decide), Ne.symm (aN 3)⟩
    · simp only [List.mem_cons, List.not_mem_nil, or_false, not_or]
      exact ⟨nA 4 1 (by decide), Ne.symm (bN 4)⟩
    · simp only [List.mem_cons, List.not_mem_nil, or_false, not_or]
      exact ⟨nA 3 1 (by decide), Ne.symm (bN 3)⟩
    · simp only [List.mem_cons, List.not_mem_nil, or_false, not_or]
      exact ⟨nA 0 1 (by decide), Ne.symm (bN 0)⟩
    · simp only [List.mem_cons, List.not_mem_nil, or_false, not_or]
      exact ⟨nA 1 0 (by decide), Ne.symm (aN 1)⟩
  refine zip_begins2 (beginsK k a its.toArray) (beginsK l b its2.toArray) p1 p2 fun h' hz hTI hTO o1 o2 sz hk => wpAny_pyIter_zip hz ?_
  rw [hN] at hz hTI hTO o1 o2
  rw [hN]
  exact ⟨N + 4, [N + 4, N + 2, N + 3, N, N + 1], _, _, H1, rfl, I1.kept (t' := s1.toks) hk, turnM S (aN 0) (bN 1), ⟨hz, hTI, ⟨_, _, hTO⟩, iterK_new o1, iterK_new o2⟩, fresh, q⟩
end SM

set_option maxHeartbeats 1000000
/-! SM: tuple[::-1]. -/
namespace SM
open PySem L2 PySem.Spec PyProof.Rows HT
section
variable {prog : Program} {w : World} {A : Around} {E : Value → Shared → Prop} {s : Shared}
theorem adjust_back (n : Nat) : Builtin.Slice.sliceAdjust none none (-1) (n : Int) = ((n : Int) - 1, -1) := by
  unfold Builtin.Slice.sliceAdjust
  simp
theorem places_back (n : Nat) : Builtin.Slice.slicePlaces ((n : Int) - 1) (-1) (-1) = n := by
  unfold Builtin.Slice.slicePlaces
  rw [if_neg (by decide)]
  split <;> simp <;> omega
theorem applied_back {sl : Addr} {m : Tok} {n : Nat} {Q : Int × Int × Nat → Shared → Prop} (hs : s.heap.IsSliceOf sl .none .none (.int (-1) m)) (h : Q ((n : Int) - 1, -1, n) s) :
    wpAny (model prog w) A (Builtin.Slice.sliceApplied (.ref sl) (pure (n : Int))) Q E s := by
  obtain ⟨rec, found, _, parts⟩ := id hs
  unfold Builtin.Slice.sliceApplied Builtin.Slice.sliceFields
  refine wpAny_bind (wpAny_bind (wpAny_field found parts (x := .none) rfl (wpAny_bind (wpAny_field found parts (x := .none) rfl (wpAny_bind (wpAny_field found parts (x := .int (-1) m) rfl (wpAny_pure ?_)))))))
  refine wpAny_bind (slicePart_ (.int (-1) m) ?_)
  show wpAny _ _ (if ((-1 : Int) == 0) = true then _ else _) _ _ s
  rw [if_neg (by decide)]
  refine wpAny_bind (slicePart_ .none (wpAny_bind (slicePart_ .none (wpAny_bind (wpAny_pure ?_)))))
  show wpAny _ _ (match Builtin.Slice.sliceAdjust none none (-1) (n : Int) with | (a, b) => pure (a, (-1 : Int), Builtin.Slice.slicePlaces a b (-1))) _ _ s
  rw [adjust_back]
  show wpAny _ _ (pure ((n : Int) - 1, (-1 : Int), Builtin.Slice.slicePlaces ((n : Int) - 1) (-1) (-1))) _ _ s
  rw [places_back]
  exact wpAny_pure h
theorem fm_congr {α β : Type} {f g : α → Option β} : ∀ l : List α, (∀ x ∈ l, f x = g x) → l.filterMap f = l.filterMap g
  | [], _ => rfl
  | a :: r, h => by
    rw [List.filterMap_cons, List.filterMap_cons, h a List.mem_cons_self, fm_congr r fun x hx => h x (List.mem_cons_of_mem _ hx)]
theorem pick_back (xs : Array Value) : ((List.range xs.size).filterMap fun (k : Nat) => xs[((xs.size : Int) - 1 + (k : Int) * -1).toNat]?).toArray = xs.toList.reverse.toArray := by
  congr 1
  have e : ∀ k ∈ List.range xs.size, xs[((xs.size : Int) - 1 + (k : Int) * -1).toNat]? = xs.toList.reverse[k]? := fun k hk => by
    have hk : k < xs.size := List.mem_range.mp hk
    rw [List.getElem?_reverse (by simpa using hk), ← Array.getElem?_toList]
    congr 1
    simp
    omega
  have e2 : (List.range xs.size).filterMap (fun (k : Nat) => xs[((xs.size : Int) - 1 + (k : Int) * -1).toNat]?) = (List.range xs.size).filterMap (fun k => xs.toList.reverse[k]?) := fm_congr _ e
  rw [e2]
  have hl : xs.size = xs.toList.reverse.length := by simp
  rw [hl]
  generalize xs.toList.reverse = l
  clear e e2 hl
  apply List.ext_getElem?
  intro i
  have : (List.range l.length).filterMap (fun k => l[k]?) = l := by
    induction l with
    | nil => rfl
    | cons a r ih =>
      rw [List.length_cons, List.range_succ_eq_map, List.filterMap_cons]
      simp only [List.getElem?_cons_zero, List.filterMap_map]
      congr 1
  rw [this]
theorem getItem_back {t sl : Addr} {items : Array Value} {m : Tok} {Q : Value → Shared → Prop} (ht : IsTup s.heap t items) (hs : s.heap.IsSliceOf sl .none .none (.int (-1) m)) (big : items.size ≤ sizeLine)
    (h : Q (.ref s.heap.objs.size) { s with heap := s.heap.push { cls := .type "tuple", data := .seq items.toList.reverse.toArray } }) : wpAny (model prog w) A (getItem (.ref t) (.ref sl)) Q E s := by
  have fits : sizeOk (.seq items.toList.reverse.toArray) := by
    show items.toList.reverse.toArray.size ≤ sizeLine
    simpa using big
  obtain ⟨rec, found, kindly, _⟩ := id hs
  have isSl : s.TypeIs (.ref sl) "slice" := ⟨rec, found, kindly⟩
  unfold getItem
  refine wpAny_holding ?_
  refine wpAny_bind (wpAny_sequenceKey ht.typeIs (by decide) (wpAny_bind (wpAny_callSpecial?_slot (name := Str.ofString "__getitem__") ht.typeIs PyProof.Rows.slot_tuple_getitem (wpAny_call_entry PyProof.Rows.slot_tuple_getitem ht.typeIs entry_tuple_getitem ?_ (args_tuple_getitem _ _)))))
  show wpAny _ _ (Builtin.Tuple.tupleItemsOf (.ref t) >>= _) _ _ s
  refine wpAny_bind (tupleItemsOf_ ht (wpAny_bind (wpAny_typeOf isSl ?_)))
  rw [if_pos (by decide)]
  refine wpAny_bind (applied_back hs ?_)
  show wpAny _ _ (if ((items.size : Int) - 1 == 0 && (-1 : Int) == 1 && items.size == items.size) = true then _ else _) _ _ s
  rw [if_neg (by simp), pick_back]
  first
    | exact wpAny_bind (m := Builtin.Tuple.tupleExact _) (wpAny_newObj_type (wpAny_pure ⟨_, rfl, wpAny_pure h⟩) fits)
    | exact wpAny_bind (m := Builtin.Tuple.tupleExact _) (wpAny_newObj_type (wpAny_bind (wpAny_pure (wpAny_pure ⟨_, rfl, wpAny_pure h⟩))) fits)
    | exact wpAny_bind (wpAny_bind (m := Builtin.Tuple.tupleExact _) (wpAny_newObj_type (wpAny_pure (wpAny_pure ⟨_, rfl, wpAny_pure h⟩)) fits))
end
/-- a list or a tuple, backwards -/
def tBack (K : PySem.W.Frag) (te : TE) : TE := fun σ H Q => te σ H fun x H1 => ∃ a xs, x = .ref a ∧ ((SqL K H1 a xs ∧ ∀ p, H1 p = none → Q (.ref p) (upd H1 p (.lst xs.reverse))) ∨ (SqT K H1 a xs ∧ ∀ p, H1 p = none → Q (.ref p) (upd H1 p (.tup xs.reverse))))
theorem pe_back {X : Cx} {e : Expr} {te : TE} {k : Nat} {p1 p2 p3 pos : Pos} (he : PE X e te) : PE X (.Subscript e (.Slice none none (some (.UnaryOp .USub (.Constant (.int 1) k p1) p2)) p3) pos) (tBack X.K te) := by
  refine ⟨fun pins st σ H Q I h => Subscript_ (thn (he.run pins st σ H _ I h) fun v s1 ⟨x, H1, I1, r1, a, xs, ex, q⟩ => ?_)⟩
  subst ex
  cases r1
  have part : PO X (some (.UnaryOp .USub (.Constant (.int 1) k p1) p2)) (tPart (tUn (rU fun i => .int (-i)) (L2.tC (.int 1)))) := po_some (pe_un un_neg pe_int)
  refine wpAny_Slice (thn (po_none.run pins s1 σ H1 (fun o G => o = none ∧ G = H1) I1 ⟨rfl, rfl⟩) fun vl s2 ⟨l, H2, I2, pl, el, e2⟩ => ?_)
  subst el e2
  refine thn (po_none.run pins s2 σ H2 (fun o G => o = none ∧ G = H2) I2 ⟨rfl, rfl⟩) fun vu s3 ⟨u, H3, I3, pu, eu, e3⟩ => ?_
  subst eu e3
  refine thn (part.run pins s3 σ H3 (fun o G => o = some (-1) ∧ G = H3) I3 ⟨1, rfl, -1, rfl, rfl, rfl⟩) fun vs s4 ⟨o, H4, I4, ps, eo, e4⟩ => ?_
  subst eo e4
  have I5 : Inv X pins σ H4 { s4 with heap := s4.heap.push { cls := .type "slice", data := .fields #[vl, vu, vs] } } := I4.kept (t' := s4.toks) fun b ob q => Heap.get?_push_of_some _ q
  show wpAny (model X.prog X.w) X.A (subscriptTail e (.Slice none none (some (.UnaryOp .USub (.Constant (.int 1) k p1) p2)) p3) (.ref a) (.ref s4.heap.objs.size)) (EP X pins σ Q) X.xe { s4 with heap := s4.heap.push { cls := .type "slice", data := .fields #[vl, vu, vs] } }
  rcases q with ⟨hx, q⟩ | ⟨hx, q⟩
  · obtain ⟨its, r, ht, hz⟩ := I5.list hx
    refine tail_any (ops := [.ref a, .ref s4.heap.objs.size]) ht.isList.typeIs (PySem.slot_list_getitem.lookup) ?_ (by with_unfolding_all rfl)
    refine wpAny_getItem_list_slice ht.isList (Heap.IsSliceOf.new _ vl vu vs) pl pu ps (by decide) ?_ (by rw [List.size_toArray, ← r.length]; exact hz)
    rw [PySem.W.krv_pick]
    exact ⟨.ref _, _, I5.laid (t' := s4.toks) (o := .lst xs.reverse) (fun b ob q => Heap.get?_push_of_some _ q) (Nat.le_refl _) ⟨by rw [List.length_reverse]; exact hz, _, 0, r.reverse, Heap.get?_push_size _ rfl⟩, rfl, q _ (I5.hok.fresh (Nat.le_refl _))⟩
  · obtain ⟨its, r, ht, hz⟩ := I5.tuple hx
    cases pl
    cases pu
    cases ps with
    | int _ tk =>
    refine tail_any (ops := [.ref a, .ref s4.heap.objs.size]) ht.typeIs (PyProof.Rows.slot_tuple_getitem.lookup) ?_ (by with_unfolding_all rfl)
    refine getItem_back ht (Heap.IsSliceOf.new _ _ _ _) (by rw [List.size_toArray, ← r.length]; exact hz) ?_
    exact ⟨.ref _, _, I5.laid (t' := s4.toks) (o := .tup xs.reverse) (fun b ob q => Heap.get?_push_of_some _ q) (Nat.le_refl _) ⟨by rw [List.length_reverse]; exact hz, _, r.reverse, IsTup.new _ _⟩, rfl, q _ (I5.hok.fresh (Nat.le_refl _))⟩
end SM

set_option maxHeartbeats 1000000
/-! SM: sorted. -/
namespace SM
open PySem L2
section
variable {X : Cx}
theorem CallR.or {f : Value} {r r' : List V → Hp → VK → Prop} (h : CallR X f r) (h' : CallR X f r') : CallR X f (fun x H Q => r x H Q ∨ r' x H Q) :=
  fun pins s σ H x y Q I rx q => q.elim (h pins s σ H x y Q I rx) (h' pins s σ H x y Q I rx)
theorem pairB_inv {d : PyData} (h : pairB d = true) : ∃ i j : Int, d = .tuple [.int i, .int j] ∧ 0 ≤ i ∧ i < 64 ∧ 0 ≤ j ∧ j < 64 := by
  unfold pairB at h
  split at h
  · rename_i i j
    simp only [Bool.and_eq_true, decide_eq_true_eq] at h
    exact ⟨i, j, rfl, h.1.1, h.1.2, h.2.1, h.2.2⟩
  · cases h
theorem kD_inj {a b : PyData} (ha : pairB a = true) (hb : pairB b = true) (h : kD a = kD b) : a = b := by
  obtain ⟨i, j, rfl, h1, h2, h3, h4⟩ := pairB_inv ha
  obtain ⟨k, l, rfl, g1, g2, g3, g4⟩ := pairB_inv hb
  have h : i * 64 + j = k * 64 + l := h
  have e1 : i = k := by omega
  have e2 : j = l := by omega
  rw [e1, e2]
/-- data of what was put into another sequence -/
theorem Reps.perm {K : PySem.W.Frag} {m : Mu} {H : Hp} : ∀ {ys xs : List V}, ys.Perm xs → ∀ {ds : List PyData}, Reps K m H ds xs → ∃ es, es.Perm ds ∧ Reps K m H es ys := by
  intro ys xs h
  induction h with
  | nil => exact fun {ds} r => ⟨ds, .refl _, r⟩
  | cons v _ ih =>
    intro ds r
    cases ds with
    | nil => exact nomatch (show _ = [] from r)
    | cons d ds =>
      obtain ⟨w, q, e, r1, r2⟩ := r
      cases e
      obtain ⟨es, p, z⟩ := ih r2
      exact ⟨d :: es, p.cons d, _, _, rfl, r1, z⟩
  | swap v w l =>
    intro ds r
    cases ds with
    | nil => exact nomatch (show _ = [] from r)
    | cons d ds =>
      obtain ⟨x, q, e, r1, r2⟩ := r
      cases e
      cases ds with
      | nil => exact nomatch (show _ = [] from r2)
      | cons d' ds =>
        obtain ⟨y, q', e, r3, r4⟩ := r2
        cases e
        exact ⟨d' :: d :: ds, .swap .., _, _, rfl, r3, _, _, rfl, r1, r4⟩
  | trans _ _ ih1 ih2 =>
    intro ds r
    obtain ⟨es, p, z⟩ := ih2 r
    obtain ⟨fs, p', z'⟩ := ih1 z
    exact ⟨fs, p'.trans p, z'⟩
theorem Reps.mem {K : PySem.W.Frag} {m : Mu} {H : Hp} : ∀ {ds : List PyData} {xs : List V} {x : V}, Reps K m H ds xs → x ∈ xs → ∃ d ∈ ds, Rep K m H d x
  | [], xs, x, r, h => by have r : xs = [] := r; subst r; cases h
  | d :: ds, xs, x, ⟨v, q, e, r1, r2⟩, h => by
    subst e
    rcases List.mem_cons.mp h with rfl | h
    · exact ⟨d, List.mem_cons_self, r1⟩
    · obtain ⟨d', hd, r⟩ := Reps.mem r2 h
      exact ⟨d', List.mem_cons_of_mem _ hd, r⟩
theorem pair_tup {K : PySem.W.Frag} {m : Mu} {H : Hp} {i j : Int} {x : V} (r : Rep K m H (.tuple [.int i, .int j]) x) : TupI K H x [i, j] := by
  obtain ⟨a, ws, rfl, h1, h2⟩ := r
  obtain ⟨v, q, rfl, e1, v2, q2, rfl, e2, e3⟩ := h2
  cases e1
  cases e2
  cases e3
  exact ⟨a, rfl, h1.sq⟩
theorem reps_pairwise {K : PySem.W.Frag} {m : Mu} {H : Hp} : ∀ {es : List PyData} {ys : List V}, Reps K m H es ys → (∀ d ∈ es, pairB d = true) → ys.Pairwise (fun x y => ∀ n m, TupI K H x n → TupI K H y m → TS.code 64 n ≤ TS.code 64 m) → es.Pairwise (fun a b => decide (kD a ≤ kD b) = true)
  | [], _, _, _, _ => .nil
  | d :: es, ys, ⟨v, q, e, r1, r2⟩, hp, pw => by
    subst e
    rw [List.pairwise_cons] at pw ⊢
    refine ⟨fun d' hd' => ?_, reps_pairwise r2 (fun z hz => hp z (List.mem_cons_of_mem _ hz)) pw.2⟩
    obtain ⟨i, j, rfl, _⟩ := pairB_inv (hp d List.mem_cons_self)
    obtain ⟨k, l, rfl, _⟩ := pairB_inv (hp d' (List.mem_cons_of_mem _ hd'))
    obtain ⟨y, hy, ry⟩ : ∃ y ∈ q, Rep K m H (.tuple [.int k, .int l]) y := by
      clear pw r1 hp
      induction es generalizing q with
      | nil => cases hd'
      | cons d es ih =>
        obtain ⟨w, q', rfl, s1, s2⟩ := r2
        rcases List.mem_cons.mp hd' with rfl | hd'
        · exact ⟨w, List.mem_cons_self, s1⟩
        · obtain ⟨y, hy, ry⟩ := ih q' s2 hd'
          exact ⟨y, List.mem_cons_of_mem _ hy, ry⟩
    have := pw.1 y hy [i, j] [k, l] (pair_tup r1) (pair_tup ry)
    rw [code_pair, code_pair] at this
    exact decide_eq_true this
theorem bi_sorted {mf : Bool} : BiOk X mf .sorted := CallR.weak (.or cr_sortedI (cr_sortT (d := 2) (B := 64) (by decide))) fun xs H Q ⟨m, s, vs, rv, rs, h⟩ => by
  simp only [biV, sortedV] at h
  split at h
  · obtain ⟨x, rfl, r1⟩ := rv.inv1
    obtain ⟨ds, q1, h⟩ := postP_bind h
    obtain ⟨a, ws, rfl, h1, h2⟩ := dataL_sq rs r1 q1
    split at h
    · rename_i is q2
      have e := h2.ints q2
      subst e
      refine .inl ⟨a, is, rfl, h1, fun ns' p pm pw hp => ?_⟩
      have es : ns' = sortI is := by
        refine List.Perm.eq_of_pairwise (le := fun a b => decide (a ≤ b) = true) (fun a b _ _ u v => ?_) (pw.imp fun z => decide_eq_true z) ?_ (pm.trans (List.mergeSort_perm _ _).symm)
        · have u := of_decide_eq_true u
          have v := of_decide_eq_true v
          omega
        · exact List.pairwise_mergeSort (fun a b c u v => by simp only [decide_eq_true_eq] at u v ⊢; omega) (fun a b => by simp only [Bool.or_eq_true, decide_eq_true_eq]; omega) _
      subst es
      have rr : RVs X.K m H ((sortI is).map fun i => Vl.d (.int i)) ((sortI is).map V.int) := by
        have := (RVs.ofInts (K := X.K) (m := m) (H := H) (sortI is)).rvs
        rwa [List.map_map] at this
      exact mkL_new rs rr hp h
    · split at h
      · rename_i hz
        obtain ⟨hl, hall⟩ := hz
        have hall := List.all_eq_true.mp hall
        refine .inr ⟨a, ws, rfl, h1, by rw [← h2.length]; exact hl, fun x hx => ?_, fun ys p pm pw hp => ?_⟩
        · obtain ⟨d, hd, r⟩ := Reps.mem h2 hx
          obtain ⟨i, j, rfl, b1, b2, b3, b4⟩ := pairB_inv (hall d hd)
          refine ⟨[i, j], pair_tup r, rfl, fun m hm => ?_⟩
          simp at hm
          rcases hm with rfl | rfl <;> omega
        · obtain ⟨es, pe, re⟩ := Reps.perm pm h2
          have hes : ∀ d ∈ es, pairB d = true := fun d hd => hall d (pe.subset hd)
          have e : es = sortP ds := by
            refine List.Perm.eq_of_pairwise (le := fun a b => decide (kD a ≤ kD b) = true) (fun a b ha hb u v => ?_) (reps_pairwise re hes pw) ?_ (pe.trans (List.mergeSort_perm _ _).symm)
            · have hb' : b ∈ ds := (List.mergeSort_perm _ _).subset hb
              have u := of_decide_eq_true u
              have v := of_decide_eq_true v
              exact kD_inj (hes a ha) (hall b hb') (by omega)
            · exact List.pairwise_mergeSort (fun a b c u v => by simp only [decide_eq_true_eq] at u v ⊢; omega) (fun a b => by simp only [Bool.or_eq_true, decide_eq_true_eq]; omega) _
          subst e
          exact mkL_new rs re.rvs hp h
      · exact h.elim
  · exact h.elim
end
end SM

/-! SM: what ties an IE to an expression of the text. -/
namespace SM
open PySem L2

structure Sg where
  fns : List Str
  cns : List (Str × PyData)
  bis : List Str
  mth : List Str
  kws : List (Str × List Str × List Nat)
mutual
def eqB : PyData → PyData → Bool
  | .none, .none => true
  | .bool a, .bool b => a == b
  | .int a, .int b => a == b
  | .str a, .str b => decide (a = b)
  | .tuple a, .tuple b => eqBs a b
  | _, _ => false
def eqBs : List PyData → List PyData → Bool
  | [], [] => true
  | x :: xs, y :: ys => eqB x y && eqBs xs ys
  | _, _ => false
end
mutual
theorem eqB_eq : ∀ {x y : PyData}, eqB x y = true → x = y
  | .none, y, h => by cases y <;> first | rfl | (simp [eqB] at h; done)
  | .bool a, y, h => by cases y <;> simp [eqB] at h; subst h; rfl
  | .int a, y, h => by cases y <;> simp [eqB] at h; subst h; rfl
  | .str a, y, h => by cases y <;> simp [eqB] at h; subst h; rfl
  | .tuple a, y, h => by cases y <;> simp [eqB] at h; rw [eqBs_eq h]
  | .list _, y, h => by cases y <;> simp [eqB] at h
  | .dict _, y, h => by cases y <;> simp [eqB] at h
theorem eqBs_eq : ∀ {x y : List PyData}, eqBs x y = true → x = y
  | [], y, h => by cases y <;> first | rfl | (simp [eqBs] at h; done)
  | x :: xs, y, h => by
    cases y with
    | nil => simp [eqBs] at h
    | cons y ys =>
      simp [eqBs] at h
      rw [eqB_eq h.1, eqBs_eq h.2]
end
def visB (sc : Scope) (x : Str) : Bool := match sc.names.lookup x with
  | some .local => true
  | some .cell => true
  | some .free => true
  | _ => false
def locB (sc : Scope) (x : Str) : Bool := match sc.names.lookup x with
  | some .local => true
  | some .cell => true
  | _ => false
def isLoc (sc : Scope) (x : Str) : Bool := match sc.names.lookup x with
  | some .local => true
  | _ => false
def gloB (sc : Scope) (x : Str) : Bool := match sc.names.lookup x with
  | some .globalImplicit => !(x == ("__debug__" : Str))
  | _ => false
def blkF (scope : Scope) : Str → Bool := fun x => scope.names.lookup x == some .cell
def ownP (N : List Str) (own : List Nat) : List (Str × Nat) := own.map fun i => (N.getD i "", i)
def meName : Me → Str
  | .append => "append" | .insert => "insert" | .pop => "pop" | .index => "index" | .count => "count" | .clear => "clear" | .reverse => "reverse"
/-- the slots of a target -/
def tgS : IE → List Nat
  | .var i => [i]
  | .tup es => tgS es
  | .cons a r => tgS a ++ tgS r
  | _ => []
/-- a target of names -/
def chkG (fnB : Str → Bool) (sc : Scope) (N : List Str) : IE → Expr → Bool
  | .var i, .Name x _ => decide (N[i]? = some x) && locB sc x && (fnB x || isLoc sc x)
  | .tup es, .Tuple es' _ _ => chkGs fnB sc N es es'
  | _, _ => false
where chkGs (fnB : Str → Bool) (sc : Scope) (N : List Str) : IE → List Expr → Bool
  | .nil, [] => true
  | .cons a r, e :: es => chkG fnB sc N a e && chkGs fnB sc N r es
  | _, _ => false
/-- may it stand as a test? -/
def tstF : Expr → Bool
  | .IfExp .. => false
  | _ => true
def plainIx : Expr → Bool
  | .Slice .. => false
  | _ => true
def recvB : Expr → Bool
  | .Name .. => true
  | .Subscript .. => true
  | _ => false
def meB : Me → Bool → Bool
  | .append, b => !b
  | .insert, b => !b
  | .count, b => !b
  | .pop, _ => true
  | _, _ => false
/-- zip and enumerate want a written tuple as their target -/
def zipTg : IE → Expr → Bool
  | .zip .., .Tuple .. => true
  | .enum .., .Tuple .. => true
  | .zip .., _ => false
  | .enum .., _ => false
  | _, _ => true
def isMth : Bi → Bool
  | .gcd => true
  | .lcm => true
  | _ => false
def biG (G : Sg) (b : Bi) (x : Str) : Bool := if isMth b then decide (x ∈ G.mth) else decide (x ∈ G.bis)
def isNil : IE → Bool
  | .nil => true
  | _ => false
mutual
def chk (G : Sg) (N : List Str) (sc : Scope) : IE → Expr → Bool
  | .var i, .Name x _ => decide (N[i]? = some x) && visB sc x && !(x == ("__debug__" : Str)) && !(x == ("__classdict__" : Str))
  | .lit .none, .Constant .none _ _ => true
  | .lit (.bool a), .Constant (.bool b) _ _ => a == b
  | .lit (.int a), .Constant (.int b) _ _ => a == b
  | .lit (.str a), .Constant (.str b) _ _ => decide (a = b)
  | .glob x d, .Name y _ => decide (x = y) && gloB sc x && G.cns.any fun p => decide (p.1 = x) && eqB p.2 d
  | .bop _ o a b, .BinOp a' op b' _ => decide (opOf o = op) && chk G N sc a a' && chk G N sc b b'
  | .rep _ es k, .BinOp (.List es' _) op k' _ => decide (op = .Mult) && chks G N sc es es' && chk G N sc k k'
  | .neg a, .UnaryOp op a' _ => decide (op = .USub) && chk G N sc a a'
  | .not a, .UnaryOp op a' _ => decide (op = .Not) && tstF a' && chk G N sc a a'
  | .cmp o a b, .Compare a' [op] [b'] _ => decide (copOf o = op) && !behindInMarks op b' && chk G N sc a a' && chk G N sc b b'
  | .chain o p a b c, .Compare a' [op, op'] [b', c'] _ => decide (copOf o = op) && decide (copOf p = op') && !lastMarks [op, op'] [b', c'] && chk G N sc a a' && chk G N sc b b' && chk G N sc c c'
  | .and es, .BoolOp op es' _ => decide (op = .And) && chks G N sc es es' && es'.all tstF && !es'.isEmpty
  | .or es, .BoolOp op es' _ => decide (op = .Or) && chks G N sc es es' && es'.all tstF && !es'.isEmpty
  | .ite c a b, .IfExp c' a' b' _ => tstF c' && chk G N sc c c' && chk G N sc a a' && chk G N sc b b'
  | .tup es, .Tuple es' _ _ => chks G N sc es es'
  | .lst _ es, .List es' _ => chks G N sc es es'
  | .idx a i, .Subscript a' i' _ => plainIx i' && chk G N sc a a' && chk G N sc i i'
  | .sli _ a lo hi, .Subscript a' (.Slice lo' hi' none _) _ => chk G N sc a a' && chko G N sc lo lo' && chko G N sc hi hi'
  | .rev _ a, .Subscript a' (.Slice none none (some (.UnaryOp op (.Constant (.int k) _ _) _)) _) _ => decide (op = .USub) && decide (k = 1) && chk G N sc a a'
  | .bi _ b es, .Call (.Name x _) es' [] _ => decide (biName b = x) && gloB sc x && biG G b x && chks G N sc es es' && !es'.isEmpty
  | .isi a t, .Call (.Name x _) [a', .Name y _] [] _ => decide (x = "isinstance") && gloB sc x && decide (x ∈ G.bis) && decide (y = tyName t) && gloB sc y && decide (y ∈ G.bis) && chk G N sc a a'
  | .me f a es, .Call (.Attribute o n apos) es' [] cpos => decide (meName f = n) && recvB o && (apos.endLine == cpos.line) && decide (es'.length < 28) && chk G N sc a o && chks G N sc es es' && meB f es'.isEmpty
  | .call f es, .Call (.Name x _) es' [] _ => decide (G.fns[f]? = some x) && gloB sc x && chks G N sc es es' && !es'.isEmpty
  | .comp _ elt tg it cnd own, .ListComp elt' [⟨tg', it', ifs', 0⟩] scope _ => zipTg it tg' && chki G N sc it it' && blkC N sc scope (ownP N own) && chkG (blkF scope) (relS scope sc) N tg tg' && (tgS tg).all (fun i => decide (i ∈ own)) &&
      chkc G N (relS scope sc) cnd ifs' && chk G N (relS scope sc) elt elt'
  | .dic ks vs, .Dict ks' vs' _ => chkd G N sc vs ks ks' vs'
  | .callk f es ks nms perm, .Call (.Name x _) as kws _ => isNil es && as.isEmpty && decide (G.fns[f]? = some x) && gloB sc x && chkk G N sc ks kws && decide (kws.map (·.arg) = nms.map some) && decide ((x, nms, perm) ∈ G.kws) && !kws.isEmpty
  | .frz a, e => chk G N sc a e
  | .lrg _ a, .Call (.Name x _) [.Call (.Name y _) [a'] [] _] [] _ => decide (x = "list") && gloB sc x && decide (x ∈ G.bis) && decide (y = "range") && gloB sc y && decide (y ∈ G.bis) && chk G N sc a a'
  | _, _ => false
def chkd (G : Sg) (N : List Str) (sc : Scope) : IE → IE → List (Option Expr) → List Expr → Bool
  | .nil, .nil, [], [] => true
  | .cons v .nil, .cons (.lit (.str y)) .nil, [some (.Constant (.str z) _ _)], [w] => decide (y = z) && chk G N sc v w
  | _, _, _, _ => false
def chkk (G : Sg) (N : List Str) (sc : Scope) : IE → List Keyword → Bool
  | .nil, [] => true
  | .cons a r, ⟨_, e, _⟩ :: kws => chk G N sc a e && chkk G N sc r kws
  | _, _ => false
def chks (G : Sg) (N : List Str) (sc : Scope) : IE → List Expr → Bool
  | .nil, [] => true
  | .cons a r, e :: es => chk G N sc a e && chks G N sc r es
  | _, _ => false
def chko (G : Sg) (N : List Str) (sc : Scope) : IE → Option Expr → Bool
  | .nil, none => true
  | .cons a _, some e => chk G N sc a e
  | _, _ => false
def chkc (G : Sg) (N : List Str) (sc : Scope) : IE → List Expr → Bool
  | .nil, [] => true
  | .cons a _, [e] => tstF e && chk G N sc a e
  | _, _ => false
def chki (G : Sg) (N : List Str) (sc : Scope) : IE → Expr → Bool
  | .rng1 a, .Call (.Name x _) [a'] [] _ => decide (x = "range") && gloB sc x && decide (x ∈ G.bis) && chk G N sc a a'
  | .rng2 a b, .Call (.Name x _) [a', b'] [] _ => decide (x = "range") && gloB sc x && decide (x ∈ G.bis) && chk G N sc a a' && chk G N sc b b'
  | .zip a b, .Call (.Name x _) [a', b'] [] _ => decide (x = "zip") && gloB sc x && decide (x ∈ G.bis) && chk G N sc a a' && chk G N sc b b'
  | .enum a, .Call (.Name x _) [a'] [] _ => decide (x = "enumerate") && gloB sc x && decide (x ∈ G.bis) && chk G N sc a a'
  | .itv a, e => chk G N sc a e
  | _, _ => false
end
end SM

/-! SM: where one stands; how a run's end is handed on. -/
namespace SM
open PySem L2 PySem.Spec PyProof.Rows

/-- a def's promise, where nothing is being shown (repr) -/
structure FnG (P : Program) (w : World) (K : PySem.W.Frag) (mg : Str → Option Value) (base : Heap) (k : Nat) (f : Addr) (fd : FuncData) (ps : List Str) (sp : Sp) : Prop where
  len : ∀ vs H Q E, sp vs H Q E → vs.length = ps.length
  run : ∀ (A : Around) (outer : List Env) (s : Shared) (H : Hp) (args : Args) (us : List Value) (vs : List V) (Q : VK) (E : XK), Room k A → A.guards = some [] → Env0 P w K mg base A outer s H → BindsTo s fd args (ps.zip us) → Vals vs us → sp vs H Q E →
    codeAny (model P w) A (.call (.ref f) args) (CR (L2.CX P w) outer P w H s Q E) s
def spI (K : PySem.W.Frag) (cl : Nat → Value) (C : Cal) (f np : Nat) : Sp := fun xs H Q E => xs.length = np ∧ ∃ m s vs, RVs K m H vs xs ∧ RS K m H s ∧ Post K cl (RV K) E Q m H (C f vs s)
/-- a call by keywords, in this sequence -/
def KwB (fd : FuncData) (ps nms : List Str) (perm : List Nat) : Prop := ∀ (s : Shared) (us zs : List Value), us.length = nms.length → permL us perm = some zs → BindsTo s fd ⟨[], nms.zip us⟩ (ps.zip zs)
structure Cok (G : Sg) (N : List Str) (cl : Nat → Value) (C : Cal) (k : Nat) (fnB : Str → Bool) (sc : Scope) (W : WX) (X : Cx) : Prop where
  n : X.N = N
  sc : X.env.scope = sc
  fnB : X.fn = fnB
  calm : X.calm = true
  nd : N.Nodup
  tk : Takes X W
  gd : X.A.guards = some []
  rm : Room k X.A
  fn : ∀ (f : Nat) (x : Str), G.fns[f]? = some x → ∃ (a : Addr) (fd : FuncData) (ps : List Str), X.mg x = some (.ref a) ∧ PySem.W.keepIn X.K (.ref a) = true ∧ Binds X.K fd ps [] ∧ (∀ (vs : List Vl) (s : Sto), vs.length ≠ ps.length → C f vs s = .no) ∧ (∀ (nms : List Str) (perm : List Nat), (x, nms, perm) ∈ G.kws → KwB fd ps nms perm) ∧ FnG X.prog X.w X.K X.mg X.base k a fd ps (spI X.K cl C f ps.length)
  cn : ∀ (x : Str) (d : PyData), (x, d) ∈ G.cns → ∃ u v, X.mg x = some u ∧ L2.RelV v u ∧ ∀ m H, Rep X.K m H d v
  bi : ∀ x ∈ G.bis, X.mg x = none
  gc : ((("gcd" : Str) ∈ G.mth) → X.mg "gcd" = some (.builtin "math.gcd")) ∧ ((("lcm" : Str) ∈ G.mth) → X.mg "lcm" = some (.builtin "math.lcm"))

abbrev noW : WX := fun _ _ _ _ => False
theorem noW_takes (X : Cx) : Takes X noW := fun u s' x => by
  obtain ⟨_, _, _, _, _, _, _, _, _, _, _, _, _, _, _, _, w⟩ := x
  exact w.elim
section
variable {G : Sg} {N : List Str} {cl : Nat → Value} {C : Cal} {k : Nat} {fnB : Str → Bool} {sc : Scope} {W : WX} {X : Cx}
theorem Cok.blk (c : Cok G N cl C k fnB sc W X) (s : Shared) (H : Hp) (scope : Scope) (Ca : Addr) (cls : List (Str × Addr)) (fp : List Addr) :
    Cok G N cl C k (blkF scope) (relS scope sc) noW (X.blk s H scope (compEnvC scope cls Ca X.env) fp) where
  n := c.n
  sc := by rw [← c.sc]; rfl
  fnB := rfl
  calm := c.calm
  nd := c.nd
  tk := noW_takes _
  gd := c.gd
  rm := c.rm
  fn := c.fn
  cn := c.cn
  bi := c.bi
  gc := c.gc
theorem PE.weak {e : Expr} {t t' : TE} (h : PE X e t) (w : ∀ σ H Q, t' σ H Q → t σ H Q) : PE X e t' := ⟨fun pins s σ H Q I q => h.run pins s σ H Q I (w _ _ _ q)⟩
theorem PT.weak {e : Expr} {t t' : TT} (h : PT X e t) (w : ∀ σ H Q, t' σ H Q → t σ H Q) : PT X e t' := ⟨fun pins s σ H Q I q => h.run pins s σ H Q I (w _ _ _ q)⟩
theorem PW.weak {e : Expr} {t t' : TT} (h : PW X e t) (w : ∀ σ H Q, t' σ H Q → t σ H Q) : PW X e t' := ⟨fun wh pins s σ H Q I q => h.run wh pins s σ H Q I (w _ _ _ q)⟩
theorem PA.weak {e : List Expr} {t t' : TA} (h : PA X e t) (w : ∀ σ H Q, t' σ H Q → t σ H Q) : PA X e t' := ⟨fun pos pins s σ H Q I q => h.run pos pins s σ H Q I (w _ _ _ q)⟩
theorem PI.weak {tg e : Expr} {t t' : TI} (h : PI X tg e t) (w : ∀ σ H Q, t' σ H Q → t σ H Q) : PI X tg e t' := ⟨fun pins s σ H Q I q => h.run pins s σ H Q I (w _ _ _ q)⟩
theorem PO.weak {e : Option Expr} {t t' : TO} (h : PO X e t) (w : ∀ σ H Q, t' σ H Q → t σ H Q) : PO X e t' := ⟨fun pins s σ H Q I q => h.run pins s σ H Q I (w _ _ _ q)⟩
theorem PTs.weak {e : List Expr} {t t' : TT} (h : PTs X e t) (w : ∀ σ H Q, t' σ H Q → t σ H Q) : PTs X e t' := ⟨fun pins s σ H Q I q => h.run pins s σ H Q I (w _ _ _ q)⟩
end

/-! ### readings by runs -/
def At (K : PySem.W.Frag) (σ : L2.St) (H : Hp) (P : Mu → Sl → Sto → Prop) : Prop := ∃ m e s, RE K m H e σ ∧ RS K m H s ∧ P m e s
abbrev REq {α : Type} : Mu → Hp → α → α → Prop := fun _ _ a b => a = b
def evT (C : Cal) (c : IE) (e : Sl) (s : Sto) : Rs Bool := (ev C c e s).bind fun v s => ofO (isTrue? v) s
section
variable (K : PySem.W.Frag) (cl : Nat → Value) (C : Cal) (W : WX)
def tE (ie : IE) : TE := fun σ H Q => At K σ H fun m e s => Post K cl (RV K) (WE W σ) Q m H (ev C ie e s)
def tT (ie : IE) : TT := fun σ H Q => At K σ H fun m e s => Post K cl REq (WE W σ) Q m H (evT C ie e s)
def tA (ie : IE) : TA := fun σ H Q => At K σ H fun m e s => Post K cl (RVs K) (WE W σ) Q m H (evs C ie e s)
def tO (ie : IE) : TO := fun σ H Q => At K σ H fun m e s => Post K cl REq (WE W σ) Q m H (evo C ie e s)
def tC (ie : IE) : TT := fun σ H Q => At K σ H fun m e s => Post K cl REq (WE W σ) Q m H (tst C ie e s)
end
section
variable {K : PySem.W.Frag} {cl : Nat → Value} {C : Cal} {W : WX} {m : Mu} {H : Hp} {e : Sl} {σ : L2.St} {s : Sto} {α β : Type} {R' : Mu → Hp → α → β → Prop} {Q : β → Hp → Prop}
theorem post_k {γ δ : Type} {R : Mu → Hp → γ → δ → Prop} {E : XK} {f : γ → Sto → Rs α} {r : Rs γ} {T : δ → Hp → Prop} (h : Post K cl R' E Q m H (r.bind f))
    (k : ∀ x H1 m1 v s1, Ext m H m1 H1 → RS K m1 H1 s1 → R m1 H1 v x → Post K cl R' E Q m1 H1 (f v s1) → T x H1) : Post K cl R E T m H r :=
  h.bind.mono fun m' H' b _ ⟨m1, a, s1, x, rs, rv, p⟩ => k b H' m1 a s1 x rs rv p
theorem tE_k {ie : IE} {f : Vl → Sto → Rs α} {T : VK} (re : RE K m H e σ) (rs : RS K m H s) (h : Post K cl R' (WE W σ) Q m H ((ev C ie e s).bind f))
    (k : ∀ x H1 m1 v s1, RE K m1 H1 e σ → Ext m H m1 H1 → RS K m1 H1 s1 → RV K m1 H1 v x → Post K cl R' (WE W σ) Q m1 H1 (f v s1) → T x H1) : tE K cl C W ie σ H T :=
  ⟨m, e, s, re, rs, post_k h fun x H1 m1 v s1 x1 r1 rv p => k x H1 m1 v s1 (re.ext x1) x1 r1 rv p⟩
theorem tA_k {ie : IE} {f : List Vl → Sto → Rs α} {T : List V → Hp → Prop} (re : RE K m H e σ) (rs : RS K m H s) (h : Post K cl R' (WE W σ) Q m H ((evs C ie e s).bind f))
    (k : ∀ x H1 m1 v s1, RE K m1 H1 e σ → Ext m H m1 H1 → RS K m1 H1 s1 → RVs K m1 H1 v x → Post K cl R' (WE W σ) Q m1 H1 (f v s1) → T x H1) : tA K cl C W ie σ H T :=
  ⟨m, e, s, re, rs, post_k h fun x H1 m1 v s1 x1 r1 rv p => k x H1 m1 v s1 (re.ext x1) x1 r1 rv p⟩
theorem tO_k {ie : IE} {f : Option Int → Sto → Rs α} {T : Option Int → Hp → Prop} (re : RE K m H e σ) (rs : RS K m H s) (h : Post K cl R' (WE W σ) Q m H ((evo C ie e s).bind f))
    (k : ∀ x H1 m1 s1, RE K m1 H1 e σ → Ext m H m1 H1 → RS K m1 H1 s1 → Post K cl R' (WE W σ) Q m1 H1 (f x s1) → T x H1) : tO K cl C W ie σ H T :=
  ⟨m, e, s, re, rs, post_k h fun x H1 m1 v s1 x1 r1 rv p => by cases rv; exact k _ H1 m1 s1 (re.ext x1) x1 r1 p⟩
theorem tT_k {ie : IE} {f : Bool → Sto → Rs α} {T : Bool → Hp → Prop} (re : RE K m H e σ) (rs : RS K m H s) (h : Post K cl R' (WE W σ) Q m H ((evT C ie e s).bind f))
    (k : ∀ x H1 m1 s1, RE K m1 H1 e σ → Ext m H m1 H1 → RS K m1 H1 s1 → Post K cl R' (WE W σ) Q m1 H1 (f x s1) → T x H1) : tT K cl C W ie σ H T :=
  ⟨m, e, s, re, rs, post_k h fun x H1 m1 v s1 x1 r1 rv p => by cases rv; exact k _ H1 m1 s1 (re.ext x1) x1 r1 p⟩
theorem Post.no {R : Mu → Hp → α → β → Prop} {E : XK} (h : Post K cl R E Q m H .no) {P : Prop} : P := h.elim
theorem Post.ofO {R : Mu → Hp → α → β → Prop} {E : XK} {o : Option α} (h : Post K cl R E Q m H (ofO o s)) : ∃ a, o = some a ∧ Post K cl R E Q m H (.ok a s) := by
  cases o with
  | none => exact h.elim
  | some a => exact ⟨a, rfl, h⟩
/-- a value as it stands -/
theorem Post.here {R : Mu → Hp → α → β → Prop} {E : XK} {a : α} {b : β} (rs : RS K m H s) (r : R m H a b) (h : Post K cl R E Q m H (.ok a s)) : Q b H := h m H b Ext.refl rs r
theorem Rs.bind_assoc {γ : Type} {δ : Type} (r : Rs γ) (f : γ → Sto → Rs δ) (g : δ → Sto → Rs α) : (r.bind f).bind g = r.bind fun a s => (f a s).bind g := by
  cases r <;> rfl
theorem tT_e {ie : IE} {σ : L2.St} {H : Hp} {T : Bool → Hp → Prop} (h : tT K cl C W ie σ H T) : tE K cl C W ie σ H fun x H1 => ∃ c, x = .bl c ∧ T c H1 := by
  obtain ⟨m, e, s, re, rs, h⟩ := h
  refine tE_k re rs h fun x H1 m1 v s1 _ _ r1 rv p => ?_
  obtain ⟨b, q, p⟩ := p.ofO
  unfold isTrue? at q
  split at q
  · cases q
    exact ⟨_, rv, Post.here r1 rfl p⟩
  · cases q
end
section
variable {G : Sg} {N : List Str} {sc : Scope}
theorem chk_star {v : Expr} {p : Pos} : ∀ ie, chk G N sc ie (.Starred v p) = false := by
  intro ie
  induction ie with
  | frz a ih => exact ih
  | lit d => cases d <;> rfl
  | _ => rfl
theorem chk_set {a b p} : ∀ ie, chk G N sc ie (.Set a b p) = false := by
  intro ie
  induction ie with
  | frz a ih => exact ih
  | lit d => cases d <;> rfl
  | _ => rfl
theorem star_ok {ie : IE} {e : Expr} (h : chk G N sc ie e = true) (es : List Expr) (env : Env) : starEach (e :: es) env = (false, eval e env) :: starEach es env := by
  cases e <;> first | rfl | (rw [chk_star] at h; cases h)
theorem fold_ok {ie : IE} {e : Expr} (h : chk G N sc ie e = true) (env : Env) (x : Value) : foldedSetIterable e env x = pure x := by
  cases e <;> first | rfl | (rw [chk_set] at h; cases h)
theorem stars_ok {env : Env} : ∀ {ie : IE} {es : List Expr}, chks G N sc ie es = true → starEach es env = es.map fun e => (false, eval e env) := by
  intro ie
  induction ie with
  | cons a r _ ih =>
    intro es h
    cases es with
    | nil => rfl
    | cons e es =>
      simp only [chks, Bool.and_eq_true] at h
      rw [star_ok h.1, ih h.2]; rfl
  | nil =>
    intro es h
    cases es with
    | nil => rfl
    | cons e es => cases h
  | _ => intro es h; cases h
theorem noStars_map {env : Env} {pos : Pos} : ∀ es : List Expr, (backTo pos (es.map fun e => (false, eval e env))).any (·.1) = false
  | [] => rfl
  | a :: r => by
    have ih := noStars_map (env := env) (pos := pos) r
    unfold backTo at ih ⊢
    simp only [List.map_cons, List.any_cons, ih]
    rfl
theorem noStars {env : Env} {ie : IE} {es : List Expr} {pos : Pos} (h : chks G N sc ie es = true) : (backTo pos (starEach es env)).any (·.1) = false := by
  rw [stars_ok h]
  exact noStars_map es
end
end SM

set_option maxHeartbeats 1000000
/-! SM: expressions. -/
namespace SM
open PySem L2 PySem.Spec PyProof.Rows
section
variable {G : Sg} {N : List Str} {cl : Nat → Value} {C : Cal} {k : Nat}
/-- an expression's run is the model's -/
def OkE (G : Sg) (N : List Str) (cl : Nat → Value) (C : Cal) (k : Nat) (ie : IE) : Prop := ∀ {sc : Scope} {fnB : Str → Bool} {W : WX} {X : Cx}, Cok G N cl C k fnB sc W X → ∀ {x : Expr}, chk G N sc ie x = true → PE X x (tE X.K cl C W ie)
def OkT (G : Sg) (N : List Str) (cl : Nat → Value) (C : Cal) (k : Nat) (ie : IE) : Prop := ∀ {sc : Scope} {fnB : Str → Bool} {W : WX} {X : Cx}, Cok G N cl C k fnB sc W X → ∀ {x : Expr}, chk G N sc ie x = true → tstF x = true → PT X x (tT X.K cl C W ie)
def OkA (G : Sg) (N : List Str) (cl : Nat → Value) (C : Cal) (k : Nat) (ie : IE) : Prop := ∀ {sc : Scope} {fnB : Str → Bool} {W : WX} {X : Cx}, Cok G N cl C k fnB sc W X → ∀ {x : List Expr}, chks G N sc ie x = true → PA X x (tA X.K cl C W ie)
def OkK (G : Sg) (N : List Str) (cl : Nat → Value) (C : Cal) (k : Nat) (ie : IE) : Prop := ∀ {sc : Scope} {fnB : Str → Bool} {W : WX} {X : Cx}, Cok G N cl C k fnB sc W X → ∀ {x : List Keyword}, chkk G N sc ie x = true → PK X x (tA X.K cl C W ie)
def OkO (G : Sg) (N : List Str) (cl : Nat → Value) (C : Cal) (k : Nat) (ie : IE) : Prop := ∀ {sc : Scope} {fnB : Str → Bool} {W : WX} {X : Cx}, Cok G N cl C k fnB sc W X → ∀ {x : Option Expr}, chko G N sc ie x = true → PO X x (tO X.K cl C W ie)
def OkC (G : Sg) (N : List Str) (cl : Nat → Value) (C : Cal) (k : Nat) (ie : IE) : Prop := ∀ {sc : Scope} {fnB : Str → Bool} {W : WX} {X : Cx}, Cok G N cl C k fnB sc W X → ∀ {x : List Expr}, chkc G N sc ie x = true → PTs X x (SM.tC X.K cl C W ie)
def OkAnd (G : Sg) (N : List Str) (cl : Nat → Value) (C : Cal) (k : Nat) (ie : IE) : Prop := ∀ {sc : Scope} {fnB : Str → Bool} {W : WX} {X : Cx}, Cok G N cl C k fnB sc W X → ∀ {x : List Expr} {pos : Pos}, chks G N sc ie x = true → x.all tstF = true → x ≠ [] →
  PE X (.BoolOp .And x pos) (tE X.K cl C W (.and ie)) ∧ PW X (.BoolOp .And x pos) (tT X.K cl C W (.and ie))
def OkOr (G : Sg) (N : List Str) (cl : Nat → Value) (C : Cal) (k : Nat) (ie : IE) : Prop := ∀ {sc : Scope} {fnB : Str → Bool} {W : WX} {X : Cx}, Cok G N cl C k fnB sc W X → ∀ {x : List Expr} {pos : Pos}, chks G N sc ie x = true → x.all tstF = true → x ≠ [] →
  PE X (.BoolOp .Or x pos) (tE X.K cl C W (.or ie)) ∧ PW X (.BoolOp .Or x pos) (tT X.K cl C W (.or ie))

theorem visB_ok {sc : Scope} {x : Str} (h : visB sc x = true) : Vis sc x := by
  unfold visB at h
  split at h <;> first | (cases h; done) | skip
  · exact .inl (by assumption)
  · exact .inr (.inl (by assumption))
  · exact .inr (.inr (by assumption))
theorem gloB_ok {sc : Scope} {x : Str} (h : gloB sc x = true) : sc.names.lookup x = some .globalImplicit ∧ (x == ("__debug__" : Str)) = false := by
  unfold gloB at h
  split at h
  · refine ⟨by assumption, ?_⟩
    simpa using h
  · cases h
theorem Cok.gl {sc : Scope} {fnB : Str → Bool} {W : WX} {X : Cx} (c : Cok G N cl C k fnB sc W X) {x : Str} (h : gloB sc x = true) : Gl X x := by
  show X.env.scope.names.lookup x = _
  rw [c.sc]; exact (gloB_ok h).1
/-- a value that tests: it is no and, or, not, comparison -/
def plainT : Expr → Bool
  | .UnaryOp .Not _ _ => false
  | .BoolOp .. => false
  | .IfExp .. => false
  | .Compare .. => false
  | _ => true
theorem pt_plain {W : WX} {X : Cx} {x : Expr} {ie : IE} (h : PE X x (tE X.K cl C W ie)) (p : plainT x = true) : PT X x (tT X.K cl C W ie) := by
  refine PT.weak (pt_val h fun whole => ?_) fun σ H Q q => tT_e q
  cases x <;> first | rfl | (cases p; done) | skip
  rename_i op _ _
  cases op <;> first | rfl | (cases p; done)

theorem snd_var {i : Nat} : OkE G N cl C k (.var i) := by
  intro sc fnB W X c x h
  cases x <;> first | (cases h; done) | skip
  rename_i y pos
  simp only [chk, Bool.and_eq_true, decide_eq_true_eq, Bool.not_eq_true'] at h
  obtain ⟨⟨⟨h1, h2⟩, h3⟩, h4⟩ := h
  refine PE.weak (pe_var (i := i) (by rw [c.n]; exact h1) (by rw [c.sc]; exact visB_ok h2) h3 h4) fun σ H Q ⟨m, e, s, re, rs, h⟩ => ?_
  simp only [ev] at h
  split at h
  · rename_i v q
    obtain ⟨x, q1, q2⟩ := re.at_ i v q
    exact ⟨x, q1, Post.here rs q2 h⟩
  · exact h.no
theorem snd_lit {d : PyData} : OkE G N cl C k (.lit d) := by
  intro sc fnB W X c x h
  cases x <;> first | (cases d <;> cases h; done) | skip
  rename_i a j pos
  cases d <;> cases a <;> first | (cases h; done) | skip
  · exact PE.weak pe_non fun σ H Q ⟨m, e, s, re, rs, h⟩ => Post.here rs (a := Vl.d .none) rfl h
  · have e := beq_iff_eq.mp h
    subst e
    exact PE.weak pe_bl fun σ H Q ⟨m, e, s, re, rs, h⟩ => Post.here rs (a := Vl.d (.bool _)) rfl h
  · have e := beq_iff_eq.mp h
    subst e
    exact PE.weak pe_int fun σ H Q ⟨m, e, s, re, rs, h⟩ => Post.here rs (a := Vl.d (.int _)) rfl h
  · have e := of_decide_eq_true h
    subst e
    exact PE.weak pe_str fun σ H Q ⟨m, e, s, re, rs, h⟩ => Post.here rs (a := Vl.d (.str _)) rfl h
theorem snd_glob {y : Str} {d : PyData} : OkE G N cl C k (.glob y d) := by
  intro sc fnB W X c x h
  cases x <;> first | (cases h; done) | skip
  rename_i z pos
  simp only [chk, Bool.and_eq_true, decide_eq_true_eq, List.any_eq_true] at h
  obtain ⟨⟨e, h2⟩, p, h3, e1, h4⟩ := h
  subst e
  obtain ⟨p1, p2⟩ := p
  have e1 : p1 = y := e1
  have e2 : p2 = d := eqB_eq h4
  subst e1; subst e2
  obtain ⟨u, v, q1, q2, q3⟩ := c.cn _ _ h3
  exact PE.weak (pe_glob (c.gl h2) q1 q2 (gloB_ok h2).2) fun σ H Q ⟨m, e, s, re, rs, h⟩ => Post.here rs (a := Vl.d p2) (q3 m H) h
theorem snd_bop {mf : Bool} {o : BOp} {a b : IE} (ha : OkE G N cl C k a) (hb : OkE G N cl C k b) : OkE G N cl C k (.bop mf o a b) := by
  intro sc fnB W X c x h
  cases x <;> first | (cases h; done) | skip
  simp only [chk, Bool.and_eq_true, decide_eq_true_eq] at h
  obtain ⟨⟨e, h1⟩, h2⟩ := h
  subst e
  refine PE.weak (pe_op (bin_ok mf o) (ha c h1) (hb c h2)) fun σ H Q ⟨m, e, s, re, rs, h⟩ => ?_
  exact tE_k re rs h fun x H1 m1 v s1 re1 _ rs1 rv1 h1 => tE_k re1 rs1 h1 fun y H2 m2 w s2 _ x2 rs2 rv2 h2 => ⟨m2, s2, v, w, rv1.ext x2, rv2, rs2, h2.pure⟩
theorem snd_neg {a : IE} (ha : OkE G N cl C k a) : OkE G N cl C k (.neg a) := by
  intro sc fnB W X c x h
  cases x <;> first | (cases h; done) | skip
  simp only [chk, Bool.and_eq_true, decide_eq_true_eq] at h
  obtain ⟨e, h1⟩ := h
  subst e
  refine PE.weak (pe_un un_neg (ha c h1)) fun σ H Q ⟨m, e, s, re, rs, h⟩ => ?_
  refine tE_k re rs h fun x H1 m1 v s1 re1 _ rs1 rv1 h1 => ?_
  split at h1
  · exact ⟨_, rv1, Post.here rs1 (a := Vl.d (.int _)) rfl h1⟩
  · exact h1.no
theorem snd_not {a : IE} (ha : OkE G N cl C k a) (ht : OkT G N cl C k a) : OkE G N cl C k (.not a) ∧ OkT G N cl C k (.not a) := by
  refine ⟨fun {sc fnB W X} c {x} h => ?_, fun {sc fnB W X} c {x} h _ => ?_⟩
  · cases x <;> first | (cases h; done) | skip
    simp only [chk, Bool.and_eq_true, decide_eq_true_eq] at h
    obtain ⟨⟨e, ht⟩, h1⟩ := h
    subst e
    refine PE.weak (pe_not (ha c h1)) fun σ H Q ⟨m, e, s, re, rs, h⟩ => ?_
    refine tE_k re rs h fun x H1 m1 v s1 re1 _ rs1 rv1 h1 => ?_
    unfold isTrue? at h1
    split at h1
    · rename_i b q
      split at q
      · cases q
        exact ⟨b, rv1, Post.here rs1 (a := Vl.d (.bool _)) rfl h1⟩
      · cases q
    · exact h1.no
  · cases x <;> first | (cases h; done) | skip
    simp only [chk, Bool.and_eq_true, decide_eq_true_eq] at h
    obtain ⟨⟨e, h0⟩, h1⟩ := h
    subst e
    refine PT.weak (pt_not (ht c h1 h0)) fun σ H Q ⟨m, e, s, re, rs, h⟩ => ?_
    refine tT_k (ie := a) (f := fun b s => .ok (!b) s) re rs ?_ fun x H1 m1 s1 _ _ rs1 p => Post.here rs1 rfl p
    simp only [evT, ev, Rs.bind_assoc] at h ⊢
    refine Eq.mp ?_ h
    congr 1
    congr 1
    funext v s
    unfold isTrue?
    split <;> simp_all [Rs.bind, ofO, isTrue?]
theorem snd_cmp {o : COp} {a b : IE} (ha : OkE G N cl C k a) (hb : OkE G N cl C k b) : OkE G N cl C k (.cmp o a b) ∧ OkT G N cl C k (.cmp o a b) := by
  refine ⟨fun {sc fnB W X} c {x} h => ?_, fun {sc fnB W X} c {x} h h9 => ?_⟩
  · cases x <;> first | (cases h; done) | skip
    rename_i l ops cs pos
    cases ops with
    | nil => cases h
    | cons op ops =>
    cases ops with
    | cons _ _ => cases h
    | nil =>
    cases cs with
    | nil => cases h
    | cons r cs =>
    cases cs with
    | cons _ _ => cases h
    | nil =>
    simp only [chk, Bool.and_eq_true, decide_eq_true_eq, Bool.not_eq_true'] at h
    obtain ⟨⟨⟨e, h0⟩, h1⟩, h2⟩ := h
    subst e
    refine PE.weak (pe_cmpR (cmp_ok (by have := c.rm.un; omega) o) (ha c h1) (hb c h2) h0) fun σ H Q ⟨m, e, s, re, rs, h⟩ => ?_
    refine tE_k re rs h fun x H1 m1 v s1 re1 _ rs1 rv1 h1 => tE_k re1 rs1 h1 fun y H2 m2 w s2 _ x2 rs2 rv2 h2 => ?_
    obtain ⟨a, q, p⟩ := h2.ofO
    obtain ⟨b, q1, rfl⟩ := omap q
    exact ⟨m2, s2, v, w, b, rv1.ext x2, rv2, rs2, q1, Post.here rs2 (a := Vl.d (.bool b)) rfl p⟩
  · clear h9
    cases x <;> first | (cases h; done) | skip
    rename_i l ops cs pos
    cases ops with
    | nil => cases h
    | cons op ops =>
    cases ops with
    | cons _ _ => cases h
    | nil =>
    cases cs with
    | nil => cases h
    | cons r cs =>
    cases cs with
    | cons _ _ => cases h
    | nil =>
    simp only [chk, Bool.and_eq_true, decide_eq_true_eq, Bool.not_eq_true'] at h
    obtain ⟨⟨⟨e, h0⟩, h1⟩, h2⟩ := h
    subst e
    refine PT.weak (pt_cmpR (cmp_ok (by have := c.rm.un; omega) o) (ha c h1) (hb c h2) h0) fun σ H Q ⟨m, e, s, re, rs, h⟩ => ?_
    simp only [evT, ev, Rs.bind_assoc] at h
    refine tE_k re rs h fun x H1 m1 v s1 re1 _ rs1 rv1 h1 => tE_k re1 rs1 h1 fun y H2 m2 w s2 _ x2 rs2 rv2 h2 => ?_
    cases q1 : cmpV o v w s2 with
    | none => rw [q1] at h2; exact h2.elim
    | some b =>
      rw [q1] at h2
      exact ⟨m2, s2, v, w, b, rv1.ext x2, rv2, rs2, q1, b, rfl, Post.here rs2 rfl h2⟩
theorem snd_chain {o p : COp} {a b c' : IE} (ha : OkE G N cl C k a) (hb : OkE G N cl C k b) (hc : OkE G N cl C k c') : OkE G N cl C k (.chain o p a b c') ∧ OkT G N cl C k (.chain o p a b c') := by
  have main : ∀ {sc : Scope} {fnB : Str → Bool} {W : WX} {X : Cx}, Cok G N cl C k fnB sc W X → ∀ {x : Expr}, chk G N sc (.chain o p a b c') x = true → PE X x (tE X.K cl C W (.chain o p a b c')) ∧ PT X x (tTest (tE X.K cl C W (.chain o p a b c'))) := by
    intro sc fnB W X c x h
    cases x <;> first | (cases h; done) | skip
    rename_i l ops cs pos
    cases ops with
    | nil => cases h
    | cons op ops =>
    cases ops with
    | nil => cases h
    | cons op' ops =>
    cases ops with
    | cons _ _ => cases h
    | nil =>
    cases cs with
    | nil => cases h
    | cons r cs =>
    cases cs with
    | nil => cases h
    | cons r' cs =>
    cases cs with
    | cons _ _ => cases h
    | nil =>
    simp only [chk, Bool.and_eq_true, decide_eq_true_eq, Bool.not_eq_true'] at h
    obtain ⟨⟨⟨⟨⟨e, e'⟩, h0⟩, h1⟩, h2⟩, h3⟩ := h
    subst e
    subst e'
    have hu : X.A.units + 65 < cLine := by have := c.rm.un; omega
    have w : ∀ σ H Q, tE X.K cl C W (.chain o p a b c') σ H Q → tChain (rCmp X.K o) (rCmp X.K p) (tE X.K cl C W a) (tE X.K cl C W b) (tE X.K cl C W c') σ H Q := fun σ H Q ⟨m, e, s, re, rs, h⟩ => by
      refine tE_k re rs h fun x H1 m1 v s1 re1 _ rs1 rv1 h1 => tE_k re1 rs1 h1 fun y H2 m2 w s2 re2 x2 rs2 rv2 h2 => ?_
      cases q1 : cmpV o v w s2 with
      | none => rw [q1] at h2; exact h2.elim
      | some b1 =>
        rw [q1] at h2
        refine ⟨m2, s2, v, w, b1, rv1.ext x2, rv2, rs2, q1, b1, rfl, ?_⟩
        cases b1 with
        | false =>
          rw [if_neg Bool.false_ne_true]
          exact Post.here rs2 (a := Vl.d (.bool false)) rfl h2
        | true =>
          rw [if_pos rfl]
          refine tE_k re2 rs2 h2 fun z H3 m3 u s3 re3 x3 rs3 rv3 h3 => ?_
          obtain ⟨a, q, p⟩ := h3.ofO
          obtain ⟨b, q1, rfl⟩ := omap q
          exact ⟨m3, s3, w, u, b, rv2.ext x3, rv3, rs3, q1, Post.here rs3 (a := Vl.d (.bool b)) rfl p⟩
    exact ⟨PE.weak (pe_chain (cmp_ok hu o) (cmp_ok hu p) (ha c h1) (hb c h2) (hc c h3) h0) w, PT.weak (pt_chain (cmp_ok hu o) (cmp_ok hu p) (ha c h1) (hb c h2) (hc c h3) h0) fun σ H Q h => w σ H _ h⟩
  exact ⟨fun {sc fnB W X} c {x} h => (main c h).1, fun {sc fnB W X} c {x} h _ => PT.weak (main c h).2 fun σ H Q h => tT_e h⟩
theorem snd_ite {c' a b : IE} (ht : OkT G N cl C k c') (ha : OkE G N cl C k a) (hb : OkE G N cl C k b) : OkE G N cl C k (.ite c' a b) := by
  intro sc fnB W X c x h
  cases x <;> first | (cases h; done) | skip
  simp only [chk, Bool.and_eq_true] at h
  obtain ⟨⟨⟨h0, h1⟩, h2⟩, h3⟩ := h
  refine PE.weak (pe_ifExp (ht c h1 h0) (ha c h2) (hb c h3)) fun σ H Q ⟨m, e, s, re, rs, h⟩ => ?_
  refine tT_k (R' := RV X.K) (Q := Q) (ie := c') (f := fun b' s => if b' = true then ev C a e s else ev C b e s) re rs ?_ fun x H1 m1 s1 re1 _ rs1 p => ?_
  · simp only [evT, ev, Rs.bind_assoc] at h ⊢
    refine Eq.mp ?_ h
    congr 1
    congr 1
    funext v s
    unfold isTrue?
    split <;> simp_all [Rs.bind, ofO, isTrue?]
  · cases x with
    | true => simp only [if_true] at p ⊢; exact ⟨m1, e, s1, re1, rs1, p⟩
    | false => simp only [Bool.false_eq_true, if_false] at p ⊢; exact ⟨m1, e, s1, re1, rs1, p⟩
theorem snd_nil : OkA G N cl C k .nil := by
  intro sc fnB W X c x h
  cases x <;> first | (cases h; done) | skip
  exact PA.weak pa_nil fun σ H Q ⟨m, e, s, re, rs, h⟩ => Post.here rs (a := ([] : List Vl)) rfl h
theorem snd_cons {a r : IE} (ha : OkE G N cl C k a) (hr : OkA G N cl C k r) : OkA G N cl C k (.cons a r) := by
  intro sc fnB W X c x h
  cases x <;> first | (cases h; done) | skip
  simp only [chks, Bool.and_eq_true] at h
  refine PA.weak (pa_cons (ha c h.1) (hr c h.2) (star_ok h.1 _ _)) fun σ H Q ⟨m, e, s, re, rs, h⟩ => ?_
  refine tE_k re rs h fun x H1 m1 v s1 re1 _ rs1 rv1 h1 => tA_k re1 rs1 h1 fun y H2 m2 w s2 _ x2 rs2 rv2 h2 => ?_
  exact Post.here rs2 ⟨x, y, rfl, rv1.ext x2, rv2⟩ h2
theorem snd_tup {es : IE} (hs : OkA G N cl C k es) : OkE G N cl C k (.tup es) := by
  intro sc fnB W X c x h
  cases x <;> first | (cases h; done) | skip
  simp only [chk] at h
  refine PE.weak (pe_tup (hs c h)) fun σ H Q ⟨m, e, s, re, rs, h⟩ => ?_
  refine tA_k re rs h fun x H1 m1 v s1 re1 _ rs1 rv1 h1 => ?_
  split at h1
  · rename_i hz
    obtain ⟨a, q, p⟩ := h1.ofO
    obtain ⟨ds, q1, rfl⟩ := omap q
    exact ⟨by rw [← rv1.length, sizeLine_eq]; exact hz, fun p' hp => tup_new rs1 (rv1.reps q1) hp p⟩
  · exact h1.no
theorem snd_lst {mf : Bool} {es : IE} (hs : OkA G N cl C k es) : OkE G N cl C k (.lst mf es) := by
  intro sc fnB W X c x h
  cases x <;> first | (cases h; done) | skip
  simp only [chk] at h
  refine PE.weak (pe_lst (hs c h)) fun σ H Q ⟨m, e, s, re, rs, h⟩ => ?_
  refine tA_k re rs h fun x H1 m1 v s1 re1 _ rs1 rv1 h1 => ?_
  have p := h1.pure
  exact ⟨by rw [← rv1.length]; exact mkL_len p, fun p' hp => mkL_new rs1 rv1 hp p⟩
theorem snd_rep {mf : Bool} {es k' : IE} (hs : OkA G N cl C k es) (hk : OkE G N cl C k k') : OkE G N cl C k (.rep mf es k') := by
  intro sc fnB W X c x h
  cases x <;> first | (cases h; done) | skip
  rename_i l op r pos
  cases l <;> first | (cases h; done) | skip
  simp only [chk, Bool.and_eq_true, decide_eq_true_eq] at h
  obtain ⟨⟨e, h1⟩, h2⟩ := h
  subst e
  refine PE.weak (pe_op op_rep (pe_lst (hs c h1)) (hk c h2)) fun σ H Q ⟨m, e, s, re, rs, h⟩ => ?_
  refine tA_k re rs h fun x H1 m1 v s1 re1 _ rs1 rv1 h1 => ?_
  split at h1
  · rename_i hz
    refine ⟨by rw [← rv1.length, sizeLine_eq]; omega, fun p' hp => ?_⟩
    have x1 : Ext m1 H1 m1 (upd H1 p' (.lst x)) := Ext.new hp
    refine tE_k (re1.ext x1) (rs1.new hp) (h1.ext x1) fun y H2 m2 w s2 _ x2 rs2 rv2 h2 => ?_
    split at h2
    · rename_i j
      split at h2
      · rename_i hj
        obtain ⟨g1, g2⟩ := x2.keep p' _ upd_same (rs1.fresh hp)
        refine ⟨p', j, x, rfl, rv2, g1, by omega, by omega, ?_, fun q hq => mkL_new rs2 (RVs.rep j.toNat ((rv1.ext x1).ext x2)) hq h2.pure⟩
        rw [← rv1.length, sizeLine_eq]
        have : v.length * j.toNat ≤ 1000 * 1000 := Nat.mul_le_mul hz (by omega)
        omega
      · exact h2.no
    · exact h2.no
  · exact h1.no
theorem plainIx_ok {b : Expr} (h : plainIx b = true) : PlainIx b := by
  intro o i
  cases b <;> first | rfl | (cases h; done)
theorem snd_idx {a i : IE} (ha : OkE G N cl C k a) (hi : OkE G N cl C k i) : OkE G N cl C k (.idx a i) := by
  intro sc fnB W X c x h
  cases x <;> first | (cases h; done) | skip
  simp only [chk, Bool.and_eq_true] at h
  obtain ⟨⟨h0, h1⟩, h2⟩ := h
  refine PE.weak (pe_ix ix_ok (ha c h1) (hi c h2) (plainIx_ok h0)) fun σ H Q ⟨m, e, s, re, rs, h⟩ => ?_
  exact tE_k re rs h fun x H1 m1 v s1 re1 _ rs1 rv1 h1 => tE_k re1 rs1 h1 fun y H2 m2 w s2 _ x2 rs2 rv2 h2 => ⟨m2, s2, v, w, rv1.ext x2, rv2, rs2, h2.pure⟩
theorem snd_o {a r : IE} (ha : OkE G N cl C k a) : OkO G N cl C k (.cons a r) := by
  intro sc fnB W X c x h
  cases x with
  | none => cases h
  | some x =>
  refine PO.weak (po_some (ha c (x := x) h)) fun σ H Q ⟨m, e, s, re, rs, h⟩ => ?_
  refine tE_k re rs h fun x H1 m1 v s1 re1 _ rs1 rv1 h1 => ?_
  obtain ⟨o, q, p⟩ := h1.ofO
  obtain ⟨j, q1, rfl⟩ := omap q
  unfold optI at q1
  split at q1
  · cases q1
    exact ⟨_, rv1, Post.here rs1 rfl p⟩
  · cases q1
theorem snd_onil : OkO G N cl C k .nil := by
  intro sc fnB W X c x h
  cases x with
  | some x => cases h
  | none => exact PO.weak po_none fun σ H Q ⟨m, e, s, re, rs, h⟩ => Post.here rs (a := (none : Option Int)) rfl h
theorem snd_sli {mf : Bool} {a lo hi : IE} (ha : OkE G N cl C k a) (hl : OkO G N cl C k lo) (hh : OkO G N cl C k hi) : OkE G N cl C k (.sli mf a lo hi) := by
  intro sc fnB W X c x h
  cases x <;> first | (cases h; done) | skip
  rename_i b sl pos
  cases sl <;> first | (cases h; done) | skip
  rename_i l u st p2
  cases st <;> first | (cases h; done) | skip
  simp only [chk, Bool.and_eq_true] at h
  obtain ⟨⟨h0, h1⟩, h2⟩ := h
  refine PE.weak (pe_slice (sl_ok mf) (ha c h0) (hl c h1) (hh c h2)) fun σ H Q ⟨m, e, s, re, rs, h⟩ => ?_
  exact tE_k re rs h fun x H1 m1 v s1 re1 _ rs1 rv1 h1 => tO_k re1 rs1 h1 fun l H2 m2 s2 re2 x2 rs2 h2 => tO_k re2 rs2 h2 fun u H3 m3 s3 _ x3 rs3 h3 => ⟨m3, s3, v, (rv1.ext x2).ext x3, rs3, h3.pure⟩
end
end SM

set_option maxHeartbeats 1000000
/-! SM: calls. -/
namespace SM
open PySem L2 PySem.Spec PyProof.Rows
section
variable {G : Sg} {N : List Str} {cl : Nat → Value} {C : Cal} {k : Nat}
theorem snd_rev {mf : Bool} {a : IE} (ha : OkE G N cl C k a) : OkE G N cl C k (.rev mf a) := by
  intro sc fnB W X c x h
  cases x <;> first | (cases h; done) | skip
  rename_i b sl pos
  cases sl <;> first | (cases h; done) | skip
  rename_i l u st p2
  cases l <;> first | (cases h; done) | skip
  cases u <;> first | (cases h; done) | skip
  cases st <;> first | (cases h; done) | skip
  rename_i st
  cases st <;> first | (cases h; done) | skip
  rename_i op w p3
  cases w <;> first | (cases h; done) | skip
  rename_i w j p4
  cases w <;> first | (cases h; done) | skip
  simp only [chk, Bool.and_eq_true, decide_eq_true_eq] at h
  obtain ⟨⟨e1, e2⟩, h0⟩ := h
  subst e1
  subst e2
  refine PE.weak (pe_back (ha c h0)) fun σ H Q ⟨m, e, s, re, rs, h⟩ => ?_
  refine tE_k re rs h fun x H1 m1 v s1 re1 _ rs1 rv1 h1 => ?_
  have p := h1.pure
  unfold revV at p
  split at p
  · rename_i xs
    obtain ⟨a, ws, e, g1, g2⟩ := rv1
    refine ⟨a, ws, e, .inl ⟨g1.sq, fun q hq => mkL_new rs1 ?_ hq p⟩⟩
    have := g2.rvs.rev
    rw [← List.map_reverse] at this
    exact this
  · rename_i xs
    obtain ⟨a, ws, e, g1, g2⟩ := rv1
    refine ⟨a, ws, e, .inr ⟨g1.sq, fun q hq => tup_new rs1 ?_ hq p⟩⟩
    have g3 := g2.rvs.rev
    rw [← List.map_reverse] at g3
    exact g3.reps (allD_map _)
  · rename_i n
    obtain ⟨vs, q, p⟩ := postP_bind p
    obtain ⟨a, ws, e, _, g1, g2⟩ := rs1.get q rv1
    exact ⟨a, ws, e, .inl ⟨SqL.of g1, fun q hq => mkL_new rs1 g2.rev hq p⟩⟩
  · exact p.elim
theorem bi_ok {mf : Bool} {X : Cx} (hc : X.calm = true) (hg : X.A.guards = some []) (hu : X.A.units + 200 < cLine) : (b : Bi) → BiOk X mf b
  | .len => bi_len
  | .abs => bi_abs
  | .int => bi_int
  | .gcd => bi_gcd
  | .lcm => bi_lcm
  | .max => bi_max hc
  | .min => bi_min hc
  | .sum => bi_sum hc
  | .all => bi_all hc
  | .any => bi_any hc
  | .tuple => bi_tuple
  | .list => bi_list
  | .repr => bi_repr hg hu
  | .str => bi_str
  | .sorted => bi_sorted
def isTyB : Bi → Bool
  | .int => true | .tuple => true | .list => true | .str => true | _ => false
theorem boot_bi (b : Bi) (h1 : b ≠ .gcd) (h2 : b ≠ .lcm) : bootBuiltins (biName b) = some (biVal b) := by
  cases b <;> first | exact absurd rfl h1 | exact absurd rfl h2 | decide +kernel
theorem bi_nn (b : Bi) : biName b ≠ "__name__" := by cases b <;> decide +kernel
theorem Cok.units {fnB : Str → Bool} {sc : Scope} {W : WX} {X : Cx} (c : Cok G N cl C k fnB sc W X) : X.A.units + 200 < cLine := by have := c.rm.un; omega
theorem snd_bi {mf : Bool} {b : Bi} {es : IE} (hs : OkA G N cl C k es) : OkE G N cl C k (.bi mf b es) := by
  intro sc fnB W X c x h
  cases x <;> first | (cases h; done) | skip
  rename_i f as ks pos
  cases f <;> first | (cases h; done) | skip
  rename_i y p
  cases ks <;> first | (cases h; done) | skip
  cases as with
  | nil => simp only [chk, Bool.and_eq_true, List.isEmpty_nil, Bool.not_true] at h; exact absurd h.2 Bool.false_ne_true
  | cons a as =>
  simp only [chk, Bool.and_eq_true, decide_eq_true_eq] at h
  obtain ⟨⟨⟨⟨e, h1⟩, h2⟩, h3⟩, _⟩ := h
  subst e
  have hR := bi_ok (mf := mf) c.calm c.gd c.units b
  cases es <;> first | (simp only [chks] at h3; exact absurd h3 Bool.false_ne_true) | skip
  rename_i ia ir
  have h4 : chk G N sc ia a = true ∧ chks G N sc ir as = true := by simpa only [chks, Bool.and_eq_true] using h3
  have hst := star_ok h4.1 as X.env
  have hpl : (backTo pos (starEach as X.env)).any (·.1) = false := noStars h4.2
  have w : ∀ σ H Q, tE X.K cl C W (.bi mf b (.cons ia ir)) σ H Q → tCB (rFn X.K (biV mf b)) (tA X.K cl C W (.cons ia ir)) σ H Q := fun σ H Q ⟨m, e, s, re, rs, h⟩ =>
    tA_k re rs h fun x H1 m1 v s1 _ _ rs1 rv1 h1 => ⟨m1, s1, v, rv1, rs1, h1.pure⟩
  cases hm : isMth b with
  | true =>
    have hmt : biName b ∈ G.mth := by
      unfold biG at h2
      rw [hm] at h2
      simpa using h2
    cases b <;> first | (cases hm; done) | skip
    · exact PE.weak (pe_callBfun hR (c.gl h1) (c.gc.1 hmt) (hs c h3) (gloB_ok h1).2 hst hpl) w
    · exact PE.weak (pe_callBfun hR (c.gl h1) (c.gc.2 hmt) (hs c h3) (gloB_ok h1).2 hst hpl) w
  | false =>
    have n1 : b ≠ .gcd := fun z => by subst z; cases hm
    have n2 : b ≠ .lcm := fun z => by subst z; cases hm
    have hin : biName b ∈ G.bis := by
      unfold biG at h2
      rw [hm] at h2
      simpa using h2
    have hb := boot_bi b n1 n2
    have hn := bi_nn b
    have hd := (gloB_ok h1).2
    have hg := c.gl h1
    have hmg := c.bi _ hin
    have hA := hs c h3
    cases b <;> first | exact absurd rfl n1 | exact absurd rfl n2 | exact PE.weak (pe_callB hR hg hmg hb hA hn hd hst hpl) w | exact PE.weak (pe_callTy hR hg hmg hb hA hn hd hst hpl) w
theorem boot_ty (t : Ty) : bootBuiltins (tyName t) = some (.type (tyName t)) := by cases t <;> decide +kernel
theorem ty_nn (t : Ty) : (tyName t : Str) ≠ "__name__" := by cases t <;> decide +kernel
theorem snd_isi {a : IE} {t : Ty} (ha : OkE G N cl C k a) : OkE G N cl C k (.isi a t) := by
  intro sc fnB W X c x h
  cases x <;> first | (cases h; done) | skip
  rename_i f as ks pos
  cases f <;> first | (cases h; done) | skip
  rename_i y p
  cases as with
  | nil => cases ks <;> cases h
  | cons a1 as =>
  cases as with
  | nil => cases ks <;> cases h
  | cons a2 as =>
  cases as with
  | cons _ _ => cases a2 <;> cases ks <;> cases h
  | nil =>
  cases a2 <;> first | (cases h; done) | skip
  rename_i z p2
  cases ks <;> first | (cases h; done) | skip
  simp only [chk, Bool.and_eq_true, decide_eq_true_eq] at h
  obtain ⟨⟨⟨⟨⟨⟨e1, h1⟩, h2⟩, e2⟩, h3⟩, h4⟩, h5⟩ := h
  subst e1
  subst e2
  have hA := pa_cons (ha c h5) (pa_cons (pe_bltn (v := .ty (tyName t)) (pos := p2) (c.gl h3) (c.bi _ h4) (boot_ty t) rfl (ty_nn t) (gloB_ok h3).2) pa_nil) (star_ok h5 _ X.env)
  refine PE.weak (pe_callB (is_ok t) (c.gl h1) (c.bi _ h2) (by decide +kernel) hA (by decide +kernel) (gloB_ok h1).2 (star_ok h5 _ X.env) (by rfl)) fun σ H Q ⟨m, e, s, re, rs, h⟩ => ?_
  refine tE_k re rs h fun x H1 m1 v s1 re1 _ rs1 rv1 h1 => ?_
  obtain ⟨a, q, p⟩ := h1.ofO
  obtain ⟨b, q1, rfl⟩ := omap q
  exact ⟨m1, s1, v, x, rfl, rv1, rs1, b, q1, Post.here rs1 (a := Vl.d (.bool b)) rfl p⟩
def meId : Me → String
  | .append => "list.append" | .insert => "list.insert" | .pop => "list.pop" | .count => "list.count" | .index => "" | .clear => "" | .reverse => ""
theorem me_ok {X : Cx} (f : Me) (h : meId f ≠ "") : MtR X (meId f) (rMe X.K (meV f)) := by
  cases f
  · exact me_append
  · exact me_insert
  · exact me_pop
  · exact absurd rfl h
  · exact me_count
  · exact absurd rfl h
  · exact absurd rfl h
theorem recv_base {o : Expr} (h : recvB o = true) (name : Str) (env : Env) : attributeBase o name env (eval o env) = eval o env := by
  cases o <;> first | rfl | (cases h; done)
theorem few_ok {env : Env} {cpos : Pos} {ie : IE} {es : List Expr} (hc : chks G N sc ie es = true) (hl : es.length < 28) :
    ((backTo cpos (starEach es env)).all (fun x => !x.1) && (backToKw cpos (keywordEach [] env)).all (fun x => x.1.isSome) && decide (es.length + ([] : List Keyword).length + (if ([] : List Keyword).isEmpty then 0 else 1) < 30)) = true := by
  rw [stars_ok hc]
  have h1 : (backTo cpos (es.map fun e => (false, eval e env))).all (fun x => !x.1) = true := by
    unfold backTo
    clear hc hl
    induction es with
    | nil => rfl
    | cons a r ih => simp only [List.map_cons, List.all_cons, ih]; rfl
  rw [h1]
  have h2 : decide (es.length + ([] : List Keyword).length + (if ([] : List Keyword).isEmpty then 0 else 1) < 30) = true := decide_eq_true (by
    show es.length + 0 + (if true = true then 0 else 1) < 30
    rw [if_pos rfl]; omega)
  rw [h2]
  rfl
theorem snd_me {f : Me} {a es : IE} (ha : OkE G N cl C k a) (hs : OkA G N cl C k es) : OkE G N cl C k (.me f a es) := by
  intro sc fnB W X c x h
  cases x <;> first | (cases h; done) | skip
  rename_i fe as ks pos
  cases fe <;> first | (cases h; done) | skip
  rename_i o n apos
  cases ks <;> first | (cases h; done) | skip
  simp only [chk, Bool.and_eq_true, decide_eq_true_eq] at h
  obtain ⟨⟨⟨⟨⟨⟨e1, h0⟩, h1⟩, h2⟩, h3⟩, h4⟩, hmb⟩ := h
  subst e1
  have hid : meId f ≠ "" := by cases f <;> first | (cases hmb; done) | decide
  have hm := me_ok (X := X) f hid
  have w0 : ∀ σ H Q, tE X.K cl C W (.me f a es) σ H Q → tBM X.K "list" (rMe X.K (meV f)) (tE X.K cl C W a) (tA X.K cl C W es) σ H Q := fun σ H Q ⟨m, e, s, re, rs, h⟩ => by
    refine tE_k re rs h fun x H1 m1 v s1 re1 _ rs1 rv1 h1 => ?_
    split at h1
    · exact h1.no
    · rename_i l q
      exact ⟨ty_list rs1 q rv1, tA_k re1 rs1 h1 fun y H2 m2 w s2 _ x2 rs2 rv2 h2 => ⟨m2, s2, v, w, rv1.ext x2, rv2, rs2, h2.pure⟩⟩
  cases as with
  | cons b bs =>
    cases es <;> first | (simp only [chks] at h4; exact absurd h4 Bool.false_ne_true) | skip
    rename_i ia ir
    have h5 : chk G N sc ia b = true ∧ chks G N sc ir bs = true := by simpa only [chks, Bool.and_eq_true] using h4
    have A := hs c h4
    have hst := star_ok h5.1 bs X.env
    have hpl : (backTo pos (starEach bs X.env)).any (·.1) = false := noStars h5.2
    have hf := few_ok (env := X.env) (cpos := pos) h4 h2
    have B := recv_base h0 (meName f) X.env
    cases f <;> first | exact absurd rfl hid | skip
    · exact PE.weak (pe_bm PySem.F.plainAttrs_list PySem.F.slot_list_append PySem.F.type_list_append hm (ha c h3) A B hf h1 hst hpl) w0
    · exact PE.weak (pe_bm PySem.F.plainAttrs_list PySem.F.slot_list_insert PySem.F.type_list_insert hm (ha c h3) A B hf h1 hst hpl) w0
    · exact PE.weak (pe_bm PySem.F.plainAttrs_list PySem.F.slot_list_pop PySem.F.type_list_pop hm (ha c h3) A B hf h1 hst hpl) w0
    · exact PE.weak (pe_bm PySem.F.plainAttrs_list PySem.F.slot_list_count PySem.F.type_list_count hm (ha c h3) A B hf h1 hst hpl) w0
  | nil =>
    cases es <;> first | (simp only [chks] at h4; exact absurd h4 Bool.false_ne_true) | skip
    have B := recv_base h0 (meName f) X.env
    cases f <;> first | exact absurd rfl hid | (cases hmb; done) | skip
    refine PE.weak (pe_bm0 PySem.F.plainAttrs_list PySem.F.slot_list_pop PySem.F.type_list_pop hm (ha c h3) B h1) fun σ H Q ⟨m, e, s, re, rs, h⟩ => ?_
    refine tE_k re rs h fun x H1 m1 v s1 re1 _ rs1 rv1 h1 => ?_
    split at h1
    · exact h1.no
    · rename_i l q
      exact ⟨ty_list rs1 q rv1, ⟨m1, s1, v, [], rv1, rfl, rs1, Post.pure (cl := cl) (E := WE W σ) h1⟩⟩
/-- a def of the text -/
theorem snd_call {f : Nat} {es : IE} (hs : OkA G N cl C k es) : OkE G N cl C k (.call f es) := by
  intro sc fnB W X c x h
  cases x <;> first | (cases h; done) | skip
  rename_i fe as ks pos
  cases fe <;> first | (cases h; done) | skip
  rename_i y p
  cases ks <;> first | (cases h; done) | skip
  simp only [chk, Bool.and_eq_true, decide_eq_true_eq] at h
  obtain ⟨⟨⟨e1, h1⟩, h2⟩, h3⟩ := h
  cases as with
  | nil => simp at h3
  | cons b bs =>
  cases es <;> first | (simp only [chks] at h2; exact absurd h2 Bool.false_ne_true) | skip
  rename_i ia ir
  have h5 : chk G N sc ia b = true ∧ chks G N sc ir bs = true := by simpa only [chks, Bool.and_eq_true] using h2
  have hst := star_ok h5.1 bs X.env
  have hpl : (backTo pos (starEach bs X.env)).any (·.1) = false := noStars h5.2
  obtain ⟨a, fd, ps, g1, g2, g3, ar, _, F⟩ := c.fn f y e1
  have ha := hs c h2
  refine ⟨fun pins st σ H Q I ⟨m, e, s, re, rs, h⟩ => ?_⟩
  refine wpAny_Call_Name_kw (ld_glob I (c.gl h1) g1 ?_ (gloB_ok h1).2)
  have hA : tA X.K cl C W (.cons ia ir) σ H (fun xs H1 => ∃ m1 vs s1, RS X.K m1 H1 s1 ∧ RVs X.K m1 H1 vs xs ∧ Post X.K cl (RV X.K) (WE W σ) Q m1 H1 (C f vs s1)) :=
    tA_k re rs h fun x H1 m1 v s1 re1 _ rs1 rv1 h1 => ⟨m1, v, s1, rs1, rv1, h1⟩
  refine PySem.W.callWith_K (h₀ := X.base) I.ok.mod.kin g2 (thn (ha.run pos pins st σ H _ I hA) fun us s1 ⟨vs, H1, I1, r, m1, ws, t1, rs1, rv1, q⟩ => ⟨I1.kIn, ?_⟩) hst hpl
  have hlen : us.length = ps.length → wpAny (model X.prog X.w) X.A (call (.ref a) us) (EP X pins σ Q) X.xe s1 := fun hl => by
    have b := g3 s1 us I1.kIn (by rw [List.append_nil]; exact hl)
    rw [List.append_nil] at b
    have hv : vs.length = ps.length := by rw [← hl]; exact r.length
    refine wpAny_call (codeAny_mono (F.run X.A X.stack s1 H1 ⟨us, []⟩ us vs Q (WE W σ) c.rm c.gd I1.env0 b r ⟨hv, m1, t1, ws, rv1, rs1, q⟩) fun r s' hq => ?_)
    cases r with
    | error e => exact passAt c.tk σ pins H1 s1 e s' I1 hq
    | ok fl =>
      cases fl with
      | ret u => exact I1.after hq
      | next => exact False.elim hq
      | brk => exact False.elim hq
      | cont => exact False.elim hq
  refine hlen ?_
  by_cases hl : ws.length = ps.length
  · rw [← hl, ← r.length, rv1.length]
  · rw [ar ws t1 hl] at q
    exact q.elim
/-! ### and, or, tests -/
/-! ### keywords -/
theorem PK.weak {X : Cx} {e : List Keyword} {t t' : TA} (h : PK X e t) (w : ∀ σ H Q, t' σ H Q → t σ H Q) : PK X e t' := ⟨fun pos pins s σ H Q I q => h.run pos pins s σ H Q I (w _ _ _ q)⟩
theorem snd_knil : OkK G N cl C k .nil := by
  intro sc fnB W X c x h
  cases x with
  | cons _ _ => cases h
  | nil => exact PK.weak pk_nil fun σ H Q ⟨m, e, s, re, rs, h⟩ => Post.here (R := RVs X.K) (a := []) rs rfl h
theorem snd_kcons {a r : IE} (ha : OkE G N cl C k a) (hr : OkK G N cl C k r) : OkK G N cl C k (.cons a r) := by
  intro sc fnB W X c x h
  cases x with
  | nil => cases h
  | cons kw kws =>
    obtain ⟨nm, e, kp⟩ := kw
    have h : (chk G N sc a e && chkk G N sc r kws) = true := h
    simp only [Bool.and_eq_true] at h
    refine PK.weak (pk_cons (ha c h.1) (hr c h.2)) fun σ H Q ⟨m, e, s, re, rs, h⟩ => ?_
    refine tE_k re rs h fun x H1 m1 v s1 re1 _ rs1 rv1 h1 => tA_k re1 rs1 h1 fun y H2 m2 w s2 _ x2 rs2 rv2 h2 => ?_
    exact Post.here (R := RVs X.K) (a := v :: w) rs2 ⟨_, _, rfl, rv1.ext x2, rv2⟩ h2
theorem kw_all {env : Env} {pos : Pos} : ∀ {kws : List Keyword} {nms : List Str}, kws.map (·.arg) = nms.map some → (backToKw pos (keywordEach kws env)).all (·.1.isSome) = true ∧ (backToKw pos (keywordEach kws env)).filterMap (·.1) = nms ∧ (backToKw pos (keywordEach kws env)).any (·.1.isNone) = false
  | [], nms, h => by
    cases nms with
    | nil => exact ⟨rfl, rfl, rfl⟩
    | cons _ _ => cases h
  | ⟨nm, e, kp⟩ :: kws, nms, h => by
    cases nms with
    | nil => cases h
    | cons n nms =>
      simp only [List.map_cons, List.cons.injEq] at h
      obtain ⟨h1, h2⟩ := h
      subst h1
      obtain ⟨q1, q2, q3⟩ := kw_all (env := env) (pos := pos) h2
      refine ⟨?_, ?_, ?_⟩
      · show (true && _) = true
        rw [Bool.true_and]; exact q1
      · show n :: (backToKw pos (keywordEach kws env)).filterMap (·.1) = _
        rw [q2]
      · show (false || _) = false
        rw [Bool.false_or]; exact q3
theorem perm_rel {K : PySem.W.Frag} {m : Mu} {H : Hp} {vs : List Vl} {xs : List V} {us : List Value} (rv : RVs K m H vs xs) (r : Vals xs us) : ∀ (perm : List Nat) {ws : List Vl}, permL vs perm = some ws → ∃ ys zs, permL us perm = some zs ∧ RVs K m H ws ys ∧ Vals ys zs
  | [], ws, h => by cases h; exact ⟨[], [], rfl, rfl, .nil⟩
  | i :: perm, ws, h => by
    obtain ⟨w, h1, h2⟩ := obind h
    obtain ⟨ws', h3, rfl⟩ := omap h2
    obtain ⟨ys, zs, q1, q2, q3⟩ := perm_rel rv r perm h3
    obtain ⟨y, g1, g2⟩ := rv.get h1
    obtain ⟨z, g3, g4⟩ := r.get g1
    refine ⟨y :: ys, z :: zs, ?_, ⟨y, ys, rfl, g2, q2⟩, .cons g4 q3⟩
    show (us[i]?).bind (fun v => (permL us perm).map (v :: ·)) = _
    rw [g3, q1]
    rfl
theorem snd_callk {f : Nat} {es ks : IE} {nms : List Str} {perm : List Nat} (hs : OkK G N cl C k ks) : OkE G N cl C k (.callk f es ks nms perm) := by
  intro sc fnB W X c x h
  cases x <;> first | (cases h; done) | skip
  rename_i fe as kws pos
  cases fe <;> first | (cases h; done) | skip
  rename_i y p
  have h : (isNil es && as.isEmpty && decide (G.fns[f]? = some y) && gloB sc y && chkk G N sc ks kws && decide (kws.map (·.arg) = nms.map some) && decide ((y, nms, perm) ∈ G.kws) && !kws.isEmpty) = true := h
  simp only [Bool.and_eq_true, decide_eq_true_eq] at h
  obtain ⟨⟨⟨⟨⟨⟨⟨h8, h9⟩, e1⟩, h1⟩, h2⟩, h3⟩, h4⟩, _⟩ := h
  cases es <;> first | (cases h8; done) | skip
  cases as with
  | cons _ _ => cases h9
  | nil =>
  obtain ⟨q1, q2, q3⟩ := kw_all (env := X.env) (pos := pos) h3
  obtain ⟨a, fd, ps, g1, g2, g3, ar, kb, F⟩ := c.fn f y e1
  have hk := hs c h2
  refine ⟨fun pins st σ H Q I ⟨m, e, s, re, rs, h⟩ => ?_⟩
  refine wpAny_Call_Name_kw (ld_glob I (c.gl h1) g1 ?_ (gloB_ok h1).2)
  have h : Post X.K cl (RV X.K) (WE W σ) Q m H ((evs C ks e s).bind fun vs s => if vs.length = nms.length then (match permL vs perm with
    | some ws => C f ws s
    | none => .no) else .no) := h
  have hA : tA X.K cl C W ks σ H (fun xs H1 => ∃ m1 vs s1, RS X.K m1 H1 s1 ∧ RVs X.K m1 H1 vs xs ∧ Post X.K cl (RV X.K) (WE W σ) Q m1 H1 (if vs.length = nms.length then (match permL vs perm with
    | some ws => C f ws s1
    | none => .no) else .no)) := tA_k re rs h fun x H1 m1 v s1 re1 _ rs1 rv1 h1 => ⟨m1, v, s1, rs1, rv1, h1⟩
  refine PySem.W.callWith_KW0 (h₀ := X.base) I.ok.mod.kin g2 q1 (thn (hk.run pos pins st σ H _ I hA) fun us s1 ⟨xs, H1, I1, r, m1, vs, t1, rs1, rv1, q⟩ => ⟨I1.kIn, ?_⟩) (by rw [q3]; rfl)
  rw [q2]
  by_cases hn : vs.length = nms.length
  case neg => rw [if_neg hn] at q; exact q.elim
  rw [if_pos hn] at q
  cases hp : permL vs perm with
  | none => rw [hp] at q; exact q.elim
  | some ws =>
  rw [hp] at q
  simp only at q
  obtain ⟨ys, zs, p1, p2, p3⟩ := perm_rel rv1 r perm hp
  by_cases hl : ws.length = ps.length
  · have b : us.length = nms.length → BindsTo s1 fd ⟨[], nms.zip us⟩ (ps.zip zs) := fun hl => kb nms perm h4 s1 us zs hl p1
    have hy : ys.length = ps.length := by rw [← hl, p2.length]
    have run : us.length = nms.length → wpAny (model X.prog X.w) X.A (call (.ref a) [] (nms.zip us)) (EP X pins σ Q) X.xe s1 := fun hn => by
      refine wpAny_call (codeAny_mono (F.run X.A X.stack s1 H1 ⟨[], nms.zip us⟩ zs ys Q (WE W σ) c.rm c.gd I1.env0 (b hn) p3 ⟨hy, m1, t1, ws, p2, rs1, q⟩) fun r s' hq => ?_)
      cases r with
      | error e => exact passAt c.tk σ pins H1 s1 e s' I1 hq
      | ok fl =>
        cases fl with
        | ret u => exact I1.after hq
        | next => exact False.elim hq
        | brk => exact False.elim hq
        | cont => exact False.elim hq
    exact run (by rw [← r.length, ← rv1.length]; exact hn)
  · rw [ar ws t1 hl] at q
    exact q.elim
theorem snd_and1 {a : IE} (ha : OkE G N cl C k a) (ht : OkT G N cl C k a) : OkAnd G N cl C k (.cons a .nil) := by
  intro sc fnB W X c x pos h h0 h9
  clear h9
  cases x <;> first | (cases h; done) | skip
  rename_i b bs
  have h5 : chk G N sc a b = true ∧ chks G N sc .nil bs = true := by simpa only [chks, Bool.and_eq_true] using h
  cases bs with
  | cons _ _ => cases h5.2
  | nil =>
  simp only [List.all_cons, Bool.and_eq_true] at h0
  exact ⟨PE.weak (pe_one (ha c h5.1)) fun σ H Q q => q, PW.weak (pw_and1 (ht c h5.1 h0.1)) fun σ H Q q => q⟩
theorem snd_or1 {a : IE} (ha : OkE G N cl C k a) (ht : OkT G N cl C k a) : OkOr G N cl C k (.cons a .nil) := by
  intro sc fnB W X c x pos h h0 h9
  clear h9
  cases x <;> first | (cases h; done) | skip
  rename_i b bs
  have h5 : chk G N sc a b = true ∧ chks G N sc .nil bs = true := by simpa only [chks, Bool.and_eq_true] using h
  cases bs with
  | cons _ _ => cases h5.2
  | nil =>
  simp only [List.all_cons, Bool.and_eq_true] at h0
  exact ⟨PE.weak (pe_one (ha c h5.1)) fun σ H Q q => q, PW.weak (pw_or1 (ht c h5.1 h0.1)) fun σ H Q q => q⟩
theorem isTrue_rep {K : PySem.W.Frag} {m : Mu} {H : Hp} {v : Vl} {x : V} {b : Bool} (r : RV K m H v x) (h : isTrue? v = some b) : v = .d (.bool b) ∧ x = .bl b := by
  unfold isTrue? at h
  split at h
  · cases h; exact ⟨rfl, r⟩
  · cases h
theorem snd_and {a b r : IE} (ha : OkE G N cl C k a) (ht : OkT G N cl C k a) (hr : OkAnd G N cl C k (.cons b r)) : OkAnd G N cl C k (.cons a (.cons b r)) := by
  intro sc fnB W X c x pos h h0 h9
  clear h9
  cases x <;> first | (cases h; done) | skip
  rename_i y ys
  have h5 : chk G N sc a y = true ∧ chks G N sc (.cons b r) ys = true := by simpa only [chks, Bool.and_eq_true] using h
  cases ys with
  | nil => cases h5.2
  | cons z zs =>
  have h6 : tstF y = true ∧ (z :: zs).all tstF = true := by simpa only [List.all_cons, Bool.and_eq_true] using h0
  obtain ⟨r1, r2⟩ := hr c (pos := pos) h5.2 h6.2 (by simp)
  constructor
  · refine PE.weak (pe_and (ha c h5.1) r1) fun σ H Q ⟨m, e, s, re, rs, h⟩ => ?_
    refine tE_k re rs h fun x H1 m1 v s1 re1 _ rs1 rv1 h1 => ?_
    split at h1
    · rename_i q
      obtain ⟨rfl, rfl⟩ := isTrue_rep rv1 q
      refine ⟨true, rfl, ?_⟩
      rw [if_pos rfl]
      exact ⟨m1, e, s1, re1, rs1, h1⟩
    · rename_i q
      obtain ⟨rfl, rfl⟩ := isTrue_rep rv1 q
      refine ⟨false, rfl, ?_⟩
      rw [if_neg Bool.false_ne_true]
      exact Post.here rs1 (a := Vl.d (.bool false)) rfl h1
    · exact h1.no
  · refine PW.weak (pw_and (ht c h5.1 h6.1) r2) fun σ H Q ⟨m, e, s, re, rs, h⟩ => ?_
    refine tT_k (R' := REq) (Q := Q) (ie := a) (f := fun t s => if t = true then evT C (.and (.cons b r)) e s else .ok false s) re rs ?_ fun x H1 m1 s1 re1 _ rs1 p => ?_
    · simp only [evT, ev, ands, Rs.bind_assoc] at h ⊢
      refine Eq.mp ?_ h
      congr 1
      congr 1
      funext v s
      unfold isTrue?
      split <;> simp_all [Rs.bind, ofO, isTrue?]
    · cases x with
      | true => simp only [if_true] at p ⊢; exact ⟨m1, e, s1, re1, rs1, p⟩
      | false => simp only [Bool.false_eq_true, if_false] at p ⊢; exact Post.here rs1 rfl p
theorem snd_or {a b r : IE} (ha : OkE G N cl C k a) (ht : OkT G N cl C k a) (hr : OkOr G N cl C k (.cons b r)) : OkOr G N cl C k (.cons a (.cons b r)) := by
  intro sc fnB W X c x pos h h0 h9
  clear h9
  cases x <;> first | (cases h; done) | skip
  rename_i y ys
  have h5 : chk G N sc a y = true ∧ chks G N sc (.cons b r) ys = true := by simpa only [chks, Bool.and_eq_true] using h
  cases ys with
  | nil => cases h5.2
  | cons z zs =>
  have h6 : tstF y = true ∧ (z :: zs).all tstF = true := by simpa only [List.all_cons, Bool.and_eq_true] using h0
  obtain ⟨r1, r2⟩ := hr c (pos := pos) h5.2 h6.2 (by simp)
  constructor
  · refine PE.weak (pe_or (ha c h5.1) r1) fun σ H Q ⟨m, e, s, re, rs, h⟩ => ?_
    refine tE_k re rs h fun x H1 m1 v s1 re1 _ rs1 rv1 h1 => ?_
    split at h1
    · rename_i q
      obtain ⟨rfl, rfl⟩ := isTrue_rep rv1 q
      refine ⟨false, rfl, ?_⟩
      rw [if_neg Bool.false_ne_true]
      exact ⟨m1, e, s1, re1, rs1, h1⟩
    · rename_i q
      obtain ⟨rfl, rfl⟩ := isTrue_rep rv1 q
      refine ⟨true, rfl, ?_⟩
      rw [if_pos rfl]
      exact Post.here rs1 (a := Vl.d (.bool true)) rfl h1
    · exact h1.no
  · refine PW.weak (pw_or (ht c h5.1 h6.1) r2) fun σ H Q ⟨m, e, s, re, rs, h⟩ => ?_
    refine tT_k (R' := REq) (Q := Q) (ie := a) (f := fun t s => if t = true then .ok true s else evT C (.or (.cons b r)) e s) re rs ?_ fun x H1 m1 s1 re1 _ rs1 p => ?_
    · simp only [evT, ev, ors, Rs.bind_assoc] at h ⊢
      refine Eq.mp ?_ h
      congr 1
      congr 1
      funext v s
      unfold isTrue?
      split <;> simp_all [Rs.bind, ofO, isTrue?]
    · cases x with
      | true => simp only [if_true] at p ⊢; exact Post.here rs1 rfl p
      | false => simp only [Bool.false_eq_true, if_false] at p ⊢; exact ⟨m1, e, s1, re1, rs1, p⟩
theorem snd_bool {es : IE} (h1 : OkAnd G N cl C k es) (h2 : OkOr G N cl C k es) : (OkE G N cl C k (.and es) ∧ OkT G N cl C k (.and es)) ∧ (OkE G N cl C k (.or es) ∧ OkT G N cl C k (.or es)) := by
  refine ⟨⟨?_, ?_⟩, ?_, ?_⟩
  · intro sc fnB W X c x h
    cases x <;> first | (cases h; done) | skip
    simp only [chk, Bool.and_eq_true, decide_eq_true_eq] at h
    obtain ⟨⟨⟨e, h3⟩, h4⟩, h5⟩ := h
    subst e
    exact (h1 c h3 h4 (by rintro rfl; cases h5)).1
  · intro sc fnB W X c x h h9
    clear h9
    cases x <;> first | (cases h; done) | skip
    simp only [chk, Bool.and_eq_true, decide_eq_true_eq] at h
    obtain ⟨⟨⟨e, h3⟩, h4⟩, h5⟩ := h
    subst e
    exact (h1 c h3 h4 (by rintro rfl; cases h5)).2.pt
  · intro sc fnB W X c x h
    cases x <;> first | (cases h; done) | skip
    simp only [chk, Bool.and_eq_true, decide_eq_true_eq] at h
    obtain ⟨⟨⟨e, h3⟩, h4⟩, h5⟩ := h
    subst e
    exact (h2 c h3 h4 (by rintro rfl; cases h5)).1
  · intro sc fnB W X c x h h9
    clear h9
    cases x <;> first | (cases h; done) | skip
    simp only [chk, Bool.and_eq_true, decide_eq_true_eq] at h
    obtain ⟨⟨⟨e, h3⟩, h4⟩, h5⟩ := h
    subst e
    exact (h2 c h3 h4 (by rintro rfl; cases h5)).2.pt
end
end SM

set_option maxHeartbeats 1000000
/-! SM: targets, what is walked, comprehensions. -/
namespace SM
open PySem L2 PySem.Spec PyProof.Rows
section
variable {G : Sg} {N : List Str} {cl : Nat → Value} {C : Cal} {k : Nat}
/-! ### targets -/
def SameS (is : List Nat) (σ σ' : L2.St) : Prop := σ'.length = σ.length ∧ ∀ i, i ∉ is → σ'[i]? = σ[i]?
theorem SameS.refl {is : List Nat} {σ : L2.St} : SameS is σ σ := ⟨rfl, fun _ _ => rfl⟩
theorem SameS.trans {is js : List Nat} {σ σ' σ'' : L2.St} (a : SameS is σ σ') (b : SameS js σ' σ'') : SameS (is ++ js) σ σ'' :=
  ⟨b.1.trans a.1, fun i h => by
    rw [List.mem_append, not_or] at h
    exact (b.2 i h.2).trans (a.2 i h.1)⟩
theorem SameS.set {σ : L2.St} {i : Nat} {v : V} : SameS [i] σ (σ.set i (some v)) := ⟨by simp, fun j h => by rw [List.getElem?_set_ne]; simpa using fun e => h (by simp [e])⟩
theorem RE.set {K : PySem.W.Frag} {m : Mu} {H : Hp} {e : Sl} {σ : L2.St} (r : RE K m H e σ) {i : Nat} {u : Vl} {v : V} (rv : RV K m H u v) : RE K m H (e.set i (some u)) (σ.set i (some v)) := by
  refine ⟨by simp [r.len], fun j w h => ?_⟩
  by_cases hj : j = i
  · subst hj
    have hl : j < e.length := by
      have := (List.getElem?_eq_some_iff.mp h).1
      simpa using this
    rw [List.getElem?_set_self hl] at h
    cases h
    exact ⟨v, List.getElem?_set_self (by rw [← r.len]; exact hl), rv⟩
  · rw [List.getElem?_set_ne (Ne.symm hj)] at h ⊢
    exact r.at_ j w h
def tG (K : PySem.W.Frag) (tg : IE) : TG := fun v σ H Q => ∃ m e u e', RE K m H e σ ∧ RV K m H u v ∧ setTgV tg u e = some e' ∧ ∀ σ', RE K m H e' σ' → SameS (tgS tg) σ σ' → Q σ' H
def tGd (K : PySem.W.Frag) (tg : IE) : TG := fun v σ H Q => ∃ m e u e', RE K m H e σ ∧ Rep K m H u v ∧ setTg tg u e = some e' ∧ ∀ σ', RE K m H e' σ' → SameS (tgS tg) σ σ' → Q σ' H
def tGs (K : PySem.W.Frag) (tg : IE) : TGs := fun vs σ H Q => ∃ m e us e', RE K m H e σ ∧ Reps K m H us vs ∧ setTg.setTgs tg us e = some e' ∧ ∀ σ', RE K m H e' σ' → SameS (tgS tg) σ σ' → Q σ' H
theorem PG.weak {X : Cx} {e : Expr} {t t' : TG} (h : PG X e t) (w : ∀ v σ H Q, t' v σ H Q → t v σ H Q) : PG X e t' := ⟨fun pins s σ H v u Q I r q => h.run pins s σ H v u Q I r (w _ _ _ _ q)⟩
theorem PGs.weak {X : Cx} {e : List Expr} {t t' : TGs} (h : PGs X e t) (w : ∀ v σ H Q, t' v σ H Q → t v σ H Q) : PGs X e t' := ⟨fun pins s σ H v u Q I r q => h.run pins s σ H v u Q I r (w _ _ _ _ q)⟩
theorem locB_ok {sc : Scope} {x : Str} (h : locB sc x = true) : Loc sc x := by
  unfold locB at h
  split at h
  · exact .inl (by assumption)
  · exact .inr (by assumption)
  · cases h
theorem isLoc_ok {sc : Scope} {x : Str} (h : isLoc sc x = true) : sc.names.lookup x = some .local := by
  unfold isLoc at h
  split at h
  · assumption
  · cases h
theorem pg_nm {fnB : Str → Bool} {sc : Scope} {W : WX} {X : Cx} (c : Cok G N cl C k fnB sc W X) {i : Nat} {x : Str} {pos : Pos} (h1 : N[i]? = some x) (h2 : locB sc x = true) (h3 : (fnB x || isLoc sc x) = true) : PG X (.Name x pos) (gName i) := by
  refine pg_name (by rw [c.n]; exact c.nd) (by rw [c.n]; exact h1) (by rw [c.sc]; exact locB_ok h2) ?_
  rw [c.fnB, c.sc]
  rcases Bool.or_eq_true_iff.mp h3 with z | z
  · exact .inl z
  · exact .inr (isLoc_ok z)
theorem tgNoStar {fnB : Str → Bool} {sc : Scope} {tg : IE} {e : Expr} (h : chkG fnB sc N tg e = true) (es : List Expr) (env : Env) : assignEach (e :: es) env = (false, assign e env) :: assignEach es env := by
  cases e <;> first | rfl | skip
  cases tg <;> cases h
theorem tgsNoStar {fnB : Str → Bool} {sc : Scope} {env : Env} : ∀ {tg : IE} {es : List Expr}, chkG.chkGs fnB sc N tg es = true → assignEach es env = es.map fun e => (false, assign e env) := by
  intro tg
  induction tg with
  | cons a r _ ih =>
    intro es h
    cases es with
    | nil => rfl
    | cons e es =>
      simp only [chkG.chkGs, Bool.and_eq_true] at h
      rw [tgNoStar h.1, ih h.2]; rfl
  | nil =>
    intro es h
    cases es with
    | nil => rfl
    | cons e es => cases h
  | _ => intro es h; cases h
theorem findStar {env : Env} : ∀ es : List Expr, List.findIdx? (fun x : Bool × (Value → Sem Unit) => x.1) (es.map fun e => (false, assign e env)) = none
  | [] => rfl
  | a :: r => by
    simp only [List.map_cons, List.findIdx?_cons, findStar r]
    rfl
theorem snd_tg {fnB : Str → Bool} {sc : Scope} {W : WX} {X : Cx} (c : Cok G N cl C k fnB sc W X) : ∀ tg : IE, (∀ e, chkG fnB sc N tg e = true → PG X e (tGd X.K tg)) ∧ ∀ es, chkG.chkGs fnB sc N tg es = true → PGs X es (tGs X.K tg) := by
  intro tg
  induction tg with
  | var i =>
    refine ⟨fun e h => ?_, fun es h => (by cases es <;> cases h)⟩
    cases e <;> first | (cases h; done) | skip
    rename_i x pos
    simp only [chkG, Bool.and_eq_true, decide_eq_true_eq] at h
    exact PG.weak (pg_nm c h.1.1 h.1.2 h.2) fun v σ H Q ⟨m, e, u, e', re, rv, hs, q⟩ => by cases hs; exact q _ (re.set (u := .d u) rv) SameS.set
  | tup es ih =>
    refine ⟨fun e h => ?_, fun es h => (by cases es <;> cases h)⟩
    cases e <;> first | (cases h; done) | skip
    rename_i es' kk pos
    have h : chkG.chkGs fnB sc N es es' = true := h
    refine PG.weak (pg_tup (n := es'.length) c.calm (ih.2 es' h) (by rw [tgsNoStar h, List.length_map]) (by rw [tgsNoStar h]; exact findStar es')) fun v σ H Q ⟨m, e, u, e', re, rv, hs, q⟩ => ?_
    cases u <;> first | (cases hs; done) | skip
    rename_i us
    obtain ⟨a, ws, ev, h1, h2⟩ := rv
    have hl : ∀ (t : IE) (us : List PyData) (es : List Expr) (e e' : Sl), chkG.chkGs fnB sc N t es = true → setTg.setTgs t us e = some e' → us.length = es.length := by
      intro t
      induction t with
      | nil =>
        intro us es e e' h1 h2
        cases es <;> first | (cases h1; done) | skip
        cases us <;> first | rfl | (cases h2; done)
      | cons a r _ ih =>
        intro us es e e' h1 h2
        cases es <;> first | (cases h1; done) | skip
        cases us <;> first | (cases h2; done) | skip
        simp only [chkG.chkGs, Bool.and_eq_true] at h1
        simp only [setTg.setTgs] at h2
        obtain ⟨e1, _, h3⟩ := obind h2
        simp [ih _ _ _ _ h1.2 h3]
      | _ => intro us es e e' h1 h2; cases es <;> cases h1
    exact ⟨a, ws, ev, h1.sq, by rw [← h2.length]; exact hl _ _ _ _ _ h hs, m, e, us, e', re, h2, hs, q⟩
  | nil =>
    refine ⟨fun e h => (by cases e <;> cases h), fun es h => ?_⟩
    cases es <;> first | (cases h; done) | skip
    refine PGs.weak pgs_nil fun v σ H Q ⟨m, e, u, e', re, rv, hs, q⟩ => ?_
    cases u <;> first | (cases hs; done) | skip
    cases hs
    exact ⟨rv, q σ re SameS.refl⟩
  | cons a r ih1 ih2 =>
    refine ⟨fun e h => (by cases e <;> cases h), fun es h => ?_⟩
    cases es <;> first | (cases h; done) | skip
    rename_i x xs
    simp only [chkG.chkGs, Bool.and_eq_true] at h
    refine PGs.weak (pgs_cons (ih1.1 x h.1) (ih2.2 xs h.2) (by rw [tgNoStar h.1]; rfl)) fun v σ H Q ⟨m, e, u, e', re, rv, hs, q⟩ => ?_
    cases u <;> first | (cases hs; done) | skip
    rename_i u us
    obtain ⟨w, ws, ev, r1, r2⟩ := rv
    simp only [setTg.setTgs] at hs
    obtain ⟨e1, hs1, hs2⟩ := obind hs
    exact ⟨w, ws, ev, m, e, u, e1, re, r1, hs1, fun σ1 re1 s1 => ⟨m, e1, us, e', re1, r2, hs2, fun σ2 re2 s2 => q σ2 re2 (s1.trans s2)⟩⟩
  | _ => exact ⟨fun e h => (by cases e <;> cases h), fun es h => (by cases es <;> cases h)⟩
theorem snd_tgV {fnB : Str → Bool} {sc : Scope} {W : WX} {X : Cx} (c : Cok G N cl C k fnB sc W X) (tg : IE) (e : Expr) (h : chkG fnB sc N tg e = true) : PG X e (tG X.K tg) := by
  cases tg with
  | var i =>
    cases e <;> first | (cases h; done) | skip
    rename_i x pos
    simp only [chkG, Bool.and_eq_true, decide_eq_true_eq] at h
    exact PG.weak (pg_nm c h.1.1 h.1.2 h.2) fun v σ H Q ⟨m, e, u, e', re, rv, hs, q⟩ => by cases hs; exact q _ (re.set rv) SameS.set
  | tup es =>
    refine PG.weak ((snd_tg c (.tup es)).1 e h) fun v σ H Q ⟨m, e, u, e', re, rv, hs, q⟩ => ?_
    cases u with
    | r n => cases hs
    | d y => exact ⟨m, e, y, e', re, rv, hs, q⟩
  | _ => cases e <;> cases h

/-! ### what is walked -/
def WalkD (K : PySem.W.Frag) (m : Mu) (H : Hp) (ds : List PyData) (J : It) : Prop := ∃ (Gd : Hp → Prop) (Y : Nat → Hp → V → Hp → Prop), Walk J ds.length Gd Y ∧ (∀ m' H', Wk m H m' H' → Gd H') ∧
  ∀ m' H' s' i x H'', Wk m H m' H' → RS K m' H' s' → i < ds.length → Y i H' x H'' → (∀ a o, H' a = some o → H'' a = some o) ∧ ∃ d, ds[i]? = some d ∧ Rep K m' H'' d x
def RI (K : PySem.W.Frag) (m : Mu) (H : Hp) : Itr → It → Prop
  | .vals ds, J => WalkD K m H ds J
  | .ref n, J => ∃ a, m.l[n]? = some (some a) ∧ J = Itl K a
def tI (K : PySem.W.Frag) (cl : Nat → Value) (C : Cal) (W : WX) (ie : IE) : TI := fun σ H R => At K σ H fun m e s => Post K cl (RI K) (WE W σ) R m H (itr C ie e s)
def OkI (G : Sg) (N : List Str) (cl : Nat → Value) (C : Cal) (k : Nat) (ie : IE) : Prop := ∀ {sc : Scope} {fnB : Str → Bool} {W : WX} {X : Cx}, Cok G N cl C k fnB sc W X → ∀ {tg x : Expr}, zipTg ie tg = true → chki G N sc ie x = true → PI X tg x (tI X.K cl C W ie)
def iSeq (K : PySem.W.Frag) (tl : TE) : TI := fun σ H R => tl σ H fun x H1 => ∃ a, x = .ref a ∧ (((∃ xs, SqL K H1 a xs) ∧ R (Itl K a) H1) ∨ ((∃ xs, SqT K H1 a xs) ∧ R (Itt K a) H1))
theorem pi_seq {X : Cx} {tg l : Expr} {tl : TE} (hl : PE X l tl) : PI X tg l (iSeq X.K tl) := by
  refine ⟨fun pins st σ H R I h => ?_⟩
  refine thn (hl.run pins st σ H _ I h) fun v s1 ⟨x, H1, I1, r1, a, e, q1⟩ => ?_
  subst e
  cases r1
  have fp : ∀ b ∈ [s1.heap.objs.size], FpOk X pins H1 b := fun b hb => by
    have e : b = s1.heap.objs.size := by simpa using hb
    subst e
    exact I1.fpOk (Nat.le_refl _) (I1.hok.fresh (Nat.le_refl _))
  rcases q1 with ⟨⟨xs, hq⟩, q⟩ | ⟨⟨xs, hq⟩, q⟩
  · obtain ⟨its, _, p, _⟩ := I1.list hq
    exact wpAny_pyIter_list p.isList ⟨_, _, _, _, H1, rfl, I1.kept (t' := s1.toks) fun b o e => Heap.get?_push_of_some _ e, turn_list a _, ⟨_, Heap.get?_push_size _ rfl, rfl, rfl⟩, fp, q⟩
  · obtain ⟨its, _, p, _⟩ := I1.tuple hq
    exact wpAny_pyIter_tuple (show s1.heap.IsTuple a its.toArray from p) ⟨_, _, _, _, H1, rfl, I1.kept (t' := s1.toks) fun b o e => Heap.get?_push_of_some _ e, turn_tuple a _, ⟨_, Heap.get?_push_size _ rfl, rfl, rfl⟩, fp, q⟩
theorem Reps.get {K : PySem.W.Frag} {m : Mu} {H : Hp} {us : List PyData} {vs : List V} (h : Reps K m H us vs) {i : Nat} {v : V} (q : vs[i]? = some v) : ∃ d, us[i]? = some d ∧ Rep K m H d v := by
  obtain ⟨u, e, r⟩ := RVs.get' h.rvs q
  rw [List.getElem?_map] at e
  obtain ⟨d, e1, rfl⟩ := omap e
  exact ⟨d, e1, r⟩
theorem walk_ls {K : PySem.W.Frag} {m : Mu} {H : Hp} {ds : List PyData} {a : Addr} {ws : List V} (h1 : LsA K m H a ws) (h2 : Reps K m H ds ws) : WalkD K m H ds (Itl K a) := by
  refine ⟨_, _, by rw [h2.length]; exact walk_list (xs := ws), fun m' H' x => (h1.kp x.kp).sq, fun m' H' s' i v H'' x rs hi y => ?_⟩
  obtain ⟨rfl, y⟩ := y
  exact ⟨fun _ _ h => h, (h2.kp x.kp).get y⟩
theorem walk_tp {K : PySem.W.Frag} {m : Mu} {H : Hp} {ds : List PyData} {a : Addr} {ws : List V} (h1 : TpA K m H a ws) (h2 : Reps K m H ds ws) : WalkD K m H ds (Itt K a) := by
  refine ⟨_, _, by rw [h2.length]; exact walk_tup (xs := ws), fun m' H' x => (h1.kp x.kp).sq, fun m' H' s' i v H'' x rs hi y => ?_⟩
  obtain ⟨rfl, y⟩ := y
  exact ⟨fun _ _ h => h, (h2.kp x.kp).get y⟩
theorem snd_itv {a : IE} (ha : OkE G N cl C k a) : OkI G N cl C k (.itv a) := by
  intro sc fnB W X c tg x _ h
  refine PI.weak (pi_seq (ha c (x := x) h)) fun σ H R ⟨m, e, s, re, rs, h⟩ => ?_
  refine tE_k re rs h fun x H1 m1 v s1 re1 _ rs1 rv1 h1 => ?_
  obtain ⟨I, q, p⟩ := h1.ofO
  cases v with
  | r n =>
    obtain ⟨vs, q1, rfl⟩ := omap q
    obtain ⟨a, ws, rfl, g1, g2, g3⟩ := rs1.get q1 rv1
    exact ⟨a, rfl, .inl ⟨⟨ws, SqL.of g2⟩, Post.here rs1 (a := Itr.ref n) ⟨a, g1, rfl⟩ p⟩⟩
  | d y =>
    cases y with
    | list ds =>
      cases q
      obtain ⟨a, ws, rfl, g1, g2⟩ := rv1
      exact ⟨a, rfl, .inl ⟨⟨ws, g1.sq⟩, Post.here rs1 (a := Itr.vals ds) (walk_ls g1 g2) p⟩⟩
    | tuple ds =>
      cases q
      obtain ⟨a, ws, rfl, g1, g2⟩ := rv1
      exact ⟨a, rfl, .inr ⟨⟨ws, g1.sq⟩, Post.here rs1 (a := Itr.vals ds) (walk_tp g1 g2) p⟩⟩
    | _ => cases q
theorem walk_rg {K : PySem.W.Frag} {m : Mu} {H : Hp} {lo : Int} {n : Nat} : WalkD K m H ((List.range n).map fun k : Nat => PyData.int (lo + (k : Int))) (L2.Itr lo n) := by
  refine ⟨_, _, by rw [List.length_map, List.length_range]; exact walk_range, fun _ _ _ => trivial, fun m' H' s' i v H'' x rs hi y => ?_⟩
  obtain ⟨rfl, rfl⟩ := y
  rw [List.length_map, List.length_range] at hi
  exact ⟨fun _ _ h => h, .int (lo + (i : Int)), by rw [List.getElem?_map, List.getElem?_range hi]; rfl, rfl⟩
theorem rngV_some {i j : Int} {I : SM.Itr} (h : rngV i j = some I) : (-1000000 ≤ i ∧ i ≤ 1000000) ∧ (-1000000 ≤ j ∧ j ≤ 1000000) ∧ I = .vals ((List.range (j - i).toNat).map fun k : Nat => PyData.int (i + (k : Int))) := by
  unfold rngV at h
  split at h
  · rename_i c; cases h; exact ⟨c.1, c.2, rfl⟩
  · cases h
theorem optI_rep {K : PySem.W.Frag} {m : Mu} {H : Hp} {v : Vl} {x : V} {i : Int} (r : RV K m H v x) (h : optI v = some i) : x = .int i := by
  unfold optI at h
  split at h
  · cases h; exact r
  · cases h
theorem snd_rng1 {a : IE} (ha : OkE G N cl C k a) : OkI G N cl C k (.rng1 a) := by
  intro sc fnB W X c tg x _ h
  cases x <;> first | (cases h; done) | skip
  rename_i f as ks pos
  cases f <;> first | (cases h; done) | skip
  cases as with
  | nil => cases ks <;> cases h
  | cons a1 as =>
  cases as with
  | cons _ _ => cases ks <;> cases h
  | nil =>
  cases ks <;> first | (cases h; done) | skip
  simp only [chki, Bool.and_eq_true, decide_eq_true_eq] at h
  obtain ⟨⟨⟨e1, h1⟩, h2⟩, h3⟩ := h
  subst e1
  refine PI.weak (pi_range1 (c.gl h1) (c.bi _ h2) (pa_cons (ha c h3) pa_nil (star_ok h3 _ _)) (star_ok h3 _ _)) fun σ H R ⟨m, e, s, re, rs, h⟩ => ?_
  refine tE_k re rs h fun x H1 m1 v s1 re1 _ rs1 rv1 h1 => ?_
  obtain ⟨I, q, p⟩ := h1.ofO
  obtain ⟨j, q1, q2⟩ := obind q
  obtain ⟨_, g2, rfl⟩ := rngV_some q2
  have ex := optI_rep rv1 q1
  subst ex
  refine ⟨j, rfl, by omega, by omega, Post.here rs1 ?_ p⟩
  rw [Int.sub_zero]
  exact walk_rg
theorem snd_rng2 {a b : IE} (ha : OkE G N cl C k a) (hb : OkE G N cl C k b) : OkI G N cl C k (.rng2 a b) := by
  intro sc fnB W X c tg x _ h
  cases x <;> first | (cases h; done) | skip
  rename_i f as ks pos
  cases f <;> first | (cases h; done) | skip
  cases as with
  | nil => cases ks <;> cases h
  | cons a1 as =>
  cases as with
  | nil => cases ks <;> cases h
  | cons a2 as =>
  cases as with
  | cons _ _ => cases ks <;> cases h
  | nil =>
  cases ks <;> first | (cases h; done) | skip
  simp only [chki, Bool.and_eq_true, decide_eq_true_eq] at h
  obtain ⟨⟨⟨⟨e1, h1⟩, h2⟩, h3⟩, h4⟩ := h
  subst e1
  have st2 := star_ok h4 [] X.env
  have st1 := star_ok h3 [a2] X.env
  refine PI.weak (pi_range2 (c.gl h1) (c.bi _ h2) (pa_cons (ha c h3) (pa_cons (hb c h4) pa_nil st2) st1) (by rw [st1, st2]; rfl) st2) fun σ H R ⟨m, e, s, re, rs, h⟩ => ?_
  refine tE_k re rs h fun x H1 m1 v s1 re1 _ rs1 rv1 h1 => tE_k re1 rs1 h1 fun y H2 m2 w s2 _ x2 rs2 rv2 h2 => ?_
  obtain ⟨I, q, p⟩ := h2.ofO
  obtain ⟨i, q1, q2⟩ := obind q
  obtain ⟨j, q3, q4⟩ := obind q2
  obtain ⟨g1, g2, rfl⟩ := rngV_some q4
  have ex := optI_rep rv1 q1
  subst ex
  have ey := optI_rep rv2 q3
  subst ey
  refine ⟨i, j, rfl, ⟨by omega, by omega, by omega, by omega⟩, ?_⟩
  exact Post.here (R := RI X.K) (a := SM.Itr.vals ((List.range (j - i).toNat).map fun k : Nat => PyData.int (i + (k : Int)))) (b := L2.Itr i (j - i).toNat) rs2 walk_rg p
/-- a new pair -/
theorem pair_rep {K : PySem.W.Frag} {m : Mu} {H : Hp} {s : Sto} {T : Addr} {a b : PyData} {x y : V} (rs : RS K m H s) (hT : H T = none) (ra : Rep K m H a x) (rb : Rep K m H b y) : Rep K m (upd H T (.tup [x, y])) (.tuple [a, b]) (.ref T) := by
  have e : Ext m H m (upd H T (.tup [x, y])) := Ext.new hT
  exact ⟨T, [x, y], rfl, .inl ⟨rs.fresh hT, .inl upd_same⟩, x, [y], rfl, ra.ext e, y, [], rfl, rb.ext e, rfl⟩
/-- a list (false) or a tuple (true) -/
def seqD (k : Bool) (xs : List PyData) : PyData := match k with
  | false => .list xs
  | true => .tuple xs
theorem zipV_some {v w : Vl} {I : SM.Itr} (h : zipV v w = some I) : ∃ us vs k l, v = .d (seqD k us) ∧ w = .d (seqD l vs) ∧ I = .vals (List.zipWith (fun u v => PyData.tuple [u, v]) us vs) := by
  unfold zipV at h
  split at h
  · cases h; exact ⟨_, _, false, false, rfl, rfl, rfl⟩
  · cases h; exact ⟨_, _, true, true, rfl, rfl, rfl⟩
  · cases h; exact ⟨_, _, false, true, rfl, rfl, rfl⟩
  · cases h; exact ⟨_, _, true, false, rfl, rfl, rfl⟩
  · cases h
theorem rep_K {K : PySem.W.Frag} {m : Mu} {H : Hp} {v : Vl} {y : V} {k : Bool} {us : List PyData} (e : v = .d (seqD k us)) (r : RV K m H v y) : ∃ a ws, y = .ref a ∧ (∀ m' H', Wk m H m' H' → SqK k K H' a ws) ∧ Reps K m H us ws := by
  subst e
  cases k with
  | false => obtain ⟨a, ws, e, g1, g2⟩ := r; exact ⟨a, ws, e, fun m' H' x => (g1.kp x.kp).sq, g2⟩
  | true => obtain ⟨a, ws, e, g1, g2⟩ := r; exact ⟨a, ws, e, fun m' H' x => (g1.kp x.kp).sq, g2⟩
theorem snd_zip {a b : IE} (ha : OkE G N cl C k a) (hb : OkE G N cl C k b) : OkI G N cl C k (.zip a b) := by
  intro sc fnB W X c tg x hz h
  cases tg <;> first | (cases hz; done) | skip
  cases x <;> first | (cases h; done) | skip
  rename_i f as ks pos
  cases f <;> first | (cases h; done) | skip
  cases as with
  | nil => cases ks <;> cases h
  | cons a1 as =>
  cases as with
  | nil => cases ks <;> cases h
  | cons a2 as =>
  cases as with
  | cons _ _ => cases ks <;> cases h
  | nil =>
  cases ks <;> first | (cases h; done) | skip
  simp only [chki, Bool.and_eq_true, decide_eq_true_eq] at h
  obtain ⟨⟨⟨⟨e1, h1⟩, h2⟩, h3⟩, h4⟩ := h
  subst e1
  have st2 := star_ok h4 [] X.env
  have st1 := star_ok h3 [a2] X.env
  refine PI.weak (pi_zipM (c.gl h1) (c.bi _ h2) (pa_cons (ha c h3) (pa_cons (hb c h4) pa_nil st2) st1) st1 (by rw [st2]; rfl)) fun σ H R ⟨m, e, s, re, rs, h⟩ => ?_
  refine tE_k re rs h fun x H1 m1 v s1 re1 _ rs1 rv1 h1 => tE_k re1 rs1 h1 fun y H2 m2 w s2 _ x2 rs2 rv2 h2 => ?_
  obtain ⟨I, q, p⟩ := h2.ofO
  obtain ⟨us, vs, k1, k2, e1, e2, rfl⟩ := zipV_some q
  obtain ⟨a1, w1, rfl, g1, g2⟩ := rep_K e1 (rv1.ext x2)
  obtain ⟨a2, w2, rfl, g3, g4⟩ := rep_K e2 rv2
  refine ⟨a1, a2, k1, k2, w1, w2, rfl, (g1 _ _ Ext.refl.wk), (g3 _ _ Ext.refl.wk), ?_⟩
  refine Post.here (R := RI X.K) (a := SM.Itr.vals (List.zipWith (fun u v => PyData.tuple [u, v]) us vs)) (b := ItM k1 k2 X.K a1 a2) rs2 ?_ p
  refine ⟨fun H => SqK k1 X.K H a1 w1 ∧ SqK k2 X.K H a2 w2, YPair (fun i => w1[i]?) (fun i => w2[i]?), by rw [List.length_zipWith, g2.length, g4.length]; exact walk_M (xs := w1) (ys := w2), fun m' H' x => ⟨g1 _ _ x, g3 _ _ x⟩, fun m' H' s' i v H'' x rs hi y => ?_⟩
  obtain ⟨T, x1, y1, rfl, hT, rfl, e1, e2⟩ := y
  obtain ⟨d1, f1, r1⟩ := (g2.kp x.kp).get e1
  obtain ⟨d2, f2, r2⟩ := (g4.kp x.kp).get e2
  refine ⟨upd_keep hT, .tuple [d1, d2], ?_, pair_rep rs hT r1 r2⟩
  rw [List.getElem?_zipWith, f1, f2]
theorem enumV_some {v : Vl} {I : SM.Itr} (h : enumV v = some I) : ∃ us k, v = .d (seqD k us) ∧ I = .vals (us.zipIdx.map fun p => PyData.tuple [.int p.2, p.1]) := by
  unfold enumV at h
  split at h
  · cases h; exact ⟨_, false, rfl, rfl⟩
  · cases h; exact ⟨_, true, rfl, rfl⟩
  · cases h
theorem walk_enT {K : PySem.W.Frag} {a : Addr} {xs : List V} : Walk (ItEnT K a) xs.length (fun H => SqT K H a xs) (YPair (fun i => some (.int (i : Nat))) (fun i => xs[i]?)) := by
  refine ⟨fun i _ hi q => ⟨xs, xs[i], q, by simp [hi]⟩, fun _ q => ⟨xs, q, rfl⟩, fun i H v H' _ q y => ?_⟩
  obtain ⟨T, x, h1, h2, h3, h4⟩ := y
  exact ⟨T, .int (i : Nat), x, h1, h2, h3, rfl, h4 xs q⟩
theorem snd_enum {a : IE} (ha : OkE G N cl C k a) : OkI G N cl C k (.enum a) := by
  intro sc fnB W X c tg x hz h
  cases tg <;> first | (cases hz; done) | skip
  cases x <;> first | (cases h; done) | skip
  rename_i f as ks pos
  cases f <;> first | (cases h; done) | skip
  cases as with
  | nil => cases ks <;> cases h
  | cons a1 as =>
  cases as with
  | cons _ _ => cases ks <;> cases h
  | nil =>
  cases ks <;> first | (cases h; done) | skip
  simp only [chki, Bool.and_eq_true, decide_eq_true_eq] at h
  obtain ⟨⟨⟨e1, h1⟩, h2⟩, h3⟩ := h
  subst e1
  have st1 := star_ok h3 [] X.env
  refine PI.weak (pi_enT (c.gl h1) (c.bi _ h2) (pa_cons (ha c h3) pa_nil st1) st1) fun σ H R ⟨m, e, s, re, rs, h⟩ => ?_
  refine tE_k re rs h fun x H1 m1 v s1 re1 _ rs1 rv1 h1 => ?_
  obtain ⟨I, q, p⟩ := h1.ofO
  obtain ⟨us, k1, e1, rfl⟩ := enumV_some q
  obtain ⟨a1, w1, rfl, g1, g2⟩ := rep_K e1 rv1
  cases k1 with
  | false =>
    refine ⟨a1, w1, rfl, .inl ⟨g1 _ _ Ext.refl.wk, ?_⟩⟩
    refine Post.here (R := RI X.K) (a := SM.Itr.vals (us.zipIdx.map fun p => PyData.tuple [.int p.2, p.1])) (b := Ite X.K a1) rs1 ?_ p
    refine ⟨_, _, by rw [List.length_map, List.length_zipIdx, g2.length]; exact walk_enum (xs := w1), fun m' H' x => g1 _ _ x, fun m' H' s' i v H'' x rs hi y => ?_⟩
    obtain ⟨T, x1, y1, rfl, hT, rfl, e1, e2⟩ := y
    cases e1
    obtain ⟨d2, f2, r2⟩ := (g2.kp x.kp).get e2
    refine ⟨upd_keep hT, .tuple [.int i, d2], ?_, pair_rep rs hT rfl r2⟩
    rw [List.getElem?_map, List.getElem?_zipIdx, f2]
    simp
  | true =>
    refine ⟨a1, w1, rfl, .inr ⟨g1 _ _ Ext.refl.wk, ?_⟩⟩
    refine Post.here (R := RI X.K) (a := SM.Itr.vals (us.zipIdx.map fun p => PyData.tuple [.int p.2, p.1])) (b := ItEnT X.K a1) rs1 ?_ p
    refine ⟨_, _, by rw [List.length_map, List.length_zipIdx, g2.length]; exact walk_enT (xs := w1), fun m' H' x => g1 _ _ x, fun m' H' s' i v H'' x rs hi y => ?_⟩
    obtain ⟨T, x1, y1, rfl, hT, rfl, e1, e2⟩ := y
    cases e1
    obtain ⟨d2, f2, r2⟩ := (g2.kp x.kp).get e2
    refine ⟨upd_keep hT, .tuple [.int i, d2], ?_, pair_rep rs hT rfl r2⟩
    rw [List.getElem?_map, List.getElem?_zipIdx, f2]
    simp
/-! ### tests of a comprehension -/
theorem snd_cnil : OkC G N cl C k .nil := by
  intro sc fnB W X c x h
  cases x <;> first | (cases h; done) | skip
  refine PTs.weak pts_nil fun σ H Q ⟨m, e, s, re, rs, h⟩ => ?_
  exact Post.here (R := REq) (a := true) rs rfl h
theorem snd_ccons {a r : IE} (ht : OkT G N cl C k a) : OkC G N cl C k (.cons a r) := by
  intro sc fnB W X c x h
  cases x with
  | nil => cases h
  | cons e es =>
  cases es with
  | cons _ _ => cases h
  | nil =>
  simp only [chkc, Bool.and_eq_true] at h
  exact PTs.weak (pts_one (ht c h.2 h.1)) fun σ H Q ⟨m, e, s, re, rs, h⟩ => ⟨m, e, s, re, rs, h⟩
/-! ### the slots of a comprehension -/
theorem wipe_in {σ : L2.St} : ∀ {vs : List Nat} {i : Nat}, i ∈ vs → i < σ.length → (L2.wipe σ vs)[i]? = some none
  | [], _, h, _ => by cases h
  | v :: vs, i, h, hl => by
    unfold L2.wipe
    by_cases e : v = i
    · subst e
      exact List.getElem?_set_self (by rw [L2.wipe_length]; exact hl)
    · rw [List.getElem?_set_ne e]
      exact wipe_in ((List.mem_cons.mp h).resolve_left fun z => e z.symm) hl
theorem wipe_wipe {σ σ2 : L2.St} {vs : List Nat} (h : SameS vs (L2.wipe σ vs) σ2) : L2.wipe σ2 vs = L2.wipe σ vs := by
  have hl : σ2.length = σ.length := by rw [h.1, L2.wipe_length]
  apply List.ext_getElem?
  intro i
  by_cases hi : i ∈ vs
  · by_cases hb : i < σ.length
    · rw [wipe_in hi (by rw [hl]; exact hb), wipe_in hi hb]
    · rw [List.getElem?_eq_none (by rw [L2.wipe_length, hl]; omega), List.getElem?_eq_none (by rw [L2.wipe_length]; omega)]
  · rw [L2.wipe_out hi]
    exact h.2 i hi
theorem SameS.sub {is js : List Nat} {σ σ' : L2.St} (h : SameS is σ σ') (s : ∀ i ∈ is, i ∈ js) : SameS js σ σ' := ⟨h.1, fun i hi => h.2 i fun z => hi (s i z)⟩
theorem wipeS_length (e : Sl) : ∀ vs : List Nat, (wipe e vs).length = e.length
  | [] => rfl
  | v :: vs => by unfold wipe; rw [List.length_set, wipeS_length e vs]
theorem wipeS_some {e : Sl} {i : Nat} {x : Vl} : ∀ {vs : List Nat}, (wipe e vs)[i]? = some (some x) → e[i]? = some (some x) ∧ i ∉ vs
  | [], h => ⟨h, by simp⟩
  | v :: vs, h => by
    unfold wipe at h
    by_cases hi : v = i
    · subst hi
      by_cases hv : v < (wipe e vs).length
      · rw [List.getElem?_set_self hv] at h; cases h
      · rw [List.getElem?_eq_none (by simpa using hv)] at h; cases h
    · rw [List.getElem?_set_ne hi] at h
      obtain ⟨h1, h2⟩ := wipeS_some h
      exact ⟨h1, by simp only [List.mem_cons, not_or]; exact ⟨fun e => hi e.symm, h2⟩⟩
theorem RE.wipe {K : PySem.W.Frag} {m : Mu} {H : Hp} {e : Sl} {σ : L2.St} (r : RE K m H e σ) (vs : List Nat) : RE K m H (wipe e vs) (L2.wipe σ vs) :=
  ⟨by rw [wipeS_length, L2.wipe_length, r.len], fun i v h => by
    obtain ⟨h1, h2⟩ := wipeS_some h
    rw [L2.wipe_out h2]
    exact r.at_ i v h1⟩
theorem own_map (N : List Str) (own : List Nat) : (ownP N own).map (·.2) = own := by
  unfold ownP
  rw [List.map_map]
  exact List.map_id own
/-! ### the new list, hidden -/
theorem Wk.trans {m m' m'' : Mu} {H H' H'' : Hp} (a : Wk m H m' H') (b : Wk m' H' m'' H'') : Wk m H m'' H'' where
  kp := fun x o h n => let ⟨h1, n1⟩ := a.kp x o h n; b.kp x o h1 n1
  len := Nat.le_trans a.len b.len
  pl := fun n hn => by
    rcases b.pl n (Nat.lt_of_lt_of_le hn a.len) with h | h
    · rcases a.pl n hn with h' | h'
      · exact .inl (h.trans h')
      · exact .inr (h.trans h')
    · exact .inr h
def del (H : Hp) (D : Addr) : Hp := fun a => if a = D then none else H a
theorem del_self {H : Hp} {D : Addr} : del H D D = none := if_pos rfl
theorem del_ne {H : Hp} {a D : Addr} (h : a ≠ D) : del H D a = H a := if_neg h
theorem upd_del {H : Hp} {D : Addr} {o : HO} : upd (del H D) D o = upd H D o := by
  funext a
  by_cases h : a = D
  · subst h; rw [upd_same, upd_same]
  · rw [upd_ne h, upd_ne h, del_ne h]
theorem upd_del' {H : Hp} {D : Addr} {o : HO} (h : H D = some o) : upd (del H D) D o = H := by
  rw [upd_del]
  funext a
  by_cases e : a = D
  · subst e; rw [upd_same, h]
  · rw [upd_ne e]
section
variable {K : PySem.W.Frag} {m m' : Mu} {H H' : Hp} {s s' : Sto} {D : Addr}
theorem Wk.unhide {h : List Addr} (e : m.hid = D :: h) : Wk m H (m.show h) (del H D) := by
  refine ⟨fun a u q n => ⟨?_, fun z => n ?_⟩, Nat.le_refl _, fun _ _ => .inl rfl⟩
  · rw [del_ne]; exact q
    rintro rfl
    exact n (.inr (by rw [e]; exact List.mem_cons_self))
  · rcases z with z | z
    · exact .inl z
    · exact .inr (by rw [e]; exact List.mem_cons_of_mem _ z)
theorem RS.unhide (r : RS K m H s) {h : List Addr} (e : m.hid = D :: h) (hn : D ∉ h) : RS K (m.show h) (del H D) s := by
  have dm : D ∈ m.hid := by rw [e]; exact List.mem_cons_self
  refine ⟨r.len, fun n vs q => ?_, r.dead, r.inj, fun a ha => ⟨?_, (r.hd a (by rw [e]; exact List.mem_cons_of_mem _ ha)).2⟩⟩
  · obtain ⟨a, ws, h1, h2, h3⟩ := r.at_ n vs q
    refine ⟨a, ws, h1, ?_, RVs.wk (Wk.unhide e) h3⟩
    rw [del_ne]; exact h2
    rintro rfl
    exact (r.hd _ dm).2 (List.mem_of_getElem? h1)
  · rw [del_ne]
    · exact (r.hd a (by rw [e]; exact List.mem_cons_of_mem _ ha)).1
    · rintro rfl; exact hn ha
/-- out of a turn's run -/
theorem unhide_all {u : HO} (rs : RS K m H s) (hD : H D = none) (x : Ext (m.hide D) (upd H D u) m' H') (rs' : RS K m' H' s') :
    H' D = some u ∧ Ext m H (m'.show m.hid) (del H' D) ∧ RS K (m'.show m.hid) (del H' D) s' ∧ Wk m' H' (m'.show m.hid) (del H' D) := by
  have nl := rs.freshL hD
  have e : m'.hid = D :: m.hid := x.hid
  have nh : D ∉ m.hid := fun z => (rs.hd D z).1 hD
  refine ⟨(x.kl D _ upd_same nl).1, ⟨fun a o q n => ?_, x.len, x.pl, rfl⟩, rs'.unhide e nh, Wk.unhide e⟩
  have ne : a ≠ D := ne_of_none q hD
  obtain ⟨h1, h2⟩ := x.kl a o (by rw [upd_ne ne]; exact q) n
  exact ⟨by rw [del_ne ne]; exact h1, h2⟩
end
theorem Rs.bind_ok {α β : Type} {r : Rs α} {f : α → Sto → Rs β} {b : β} {s : Sto} (h : r.bind f = .ok b s) : ∃ a s1, r = .ok a s1 ∧ f a s1 = .ok b s := by
  cases r with
  | ok a s1 => exact ⟨a, s1, rfl, h⟩
  | ex _ _ _ => cases h
  | no => cases h
/-- a comprehension's turn -/
def turnF (C : Cal) (elt tg cnd : IE) (e : Sl) : Vl → Sto → Rs (Option Vl) := fun v s => match setTgV tg v e with
  | none => .no
  | some e1 => (tst C cnd e1 s).bind fun b s => if b then (ev C elt e1 s).bind fun x s => .ok (some x) s else .ok none s
theorem post_ok {α β : Type} {K : PySem.W.Frag} {m : Mu} {H : Hp} {s : Sto} {R : Mu → Hp → α → β → Prop} {E : XK} {Q : β → Hp → Prop} {r : Rs α} {a : α} (h : r = .ok a s) (f : ∀ m' H' b, Ext m H m' H' → RS K m' H' s → R m' H' a b → Q b H') : Post K cl R E Q m H r := by
  subst h; exact f
theorem comp_turn {K : PySem.W.Frag} {m : Mu} {Gh H'' : Hp} {s s' : Sto} {D : Addr} {acc : List Vl} {ws : List V} {e : Sl} {σ : L2.St} {elt tg cnd : IE} {own : List Nat} {u : Vl} {x : V} {o : Option Vl} {P : Hp → Prop}
    (rs : RS K m Gh s) (hD : Gh D = none) (rv : RVs K m Gh acc ws) (re : RE K m Gh e σ) (hk : ∀ a o, upd Gh D (.lst ws) a = some o → H'' a = some o) (ru : RV K (m.hide D) H'' u x)
    (ht : turnF C elt tg cnd (wipe e own) u s = .ok o s') (hsub : ∀ i ∈ tgS tg, i ∈ own) (hsz : ∀ v, o = some v → acc.length < sizeLine)
    (cont : ∀ m' G' ws', Ext m Gh m' G' → G' D = none → RS K m' G' s' → RVs K m' G' (acc ++ o.toList) ws' → P (upd G' D (.lst ws'))) :
    tG K tg x (L2.wipe σ own) H'' fun σ2 H2 => L2.wipe σ2 own = L2.wipe σ own ∧ tC K cl C noW cnd σ2 H2 fun b H3 =>
      if b = true then tE K cl C noW elt σ2 H3 fun y H4 => ∃ acc, H4 D = some (.lst acc) ∧ acc.length < sizeLine ∧ P (upd H4 D (.lst (acc ++ [y]))) else P H3 := by
  have x1 : Ext (m.hide D) (upd Gh D (.lst ws)) (m.hide D) H'' := Ext.same hk
  have w1 : Wk m Gh (m.hide D) H'' := (Wk.hide hD).trans x1.wk
  have rs1 : RS K (m.hide D) H'' s := (rs.hide hD).same hk
  have re1 : RE K (m.hide D) H'' (wipe e own) (L2.wipe σ own) := (re.wk w1).wipe own
  unfold turnF at ht
  cases hs : setTgV tg u (wipe e own) with
  | none => rw [hs] at ht; cases ht
  | some e1 =>
  rw [hs] at ht
  obtain ⟨b, s1, ht1, ht2⟩ := Rs.bind_ok ht
  refine ⟨_, _, _, _, re1, ru, hs, fun σ2 re2 hsame => ⟨wipe_wipe (hsame.sub hsub), _, _, _, re2, rs1, post_ok ht1 fun m3 H3 b' x3 rs3 eb => ?_⟩⟩
  have eb : b = b' := eb
  subst eb
  cases b with
  | false =>
    simp only [Bool.false_eq_true, if_false] at ht2 ⊢
    cases ht2
    obtain ⟨g1, g2, g3, g4⟩ := unhide_all rs hD (x1.trans x3) rs3
    have := cont _ _ ws g2 del_self g3 (by
      rw [show acc ++ (none : Option Vl).toList = acc from List.append_nil acc]
      exact rv.ext g2)
    rwa [upd_del' g1] at this
  | true =>
    simp only [if_true] at ht2 ⊢
    obtain ⟨v, s2, ht3, ht4⟩ := Rs.bind_ok ht2
    cases ht4
    refine ⟨_, _, _, re2.ext x3, rs3, post_ok ht3 fun m4 H4 y x4 rs4 ry => ?_⟩
    obtain ⟨g1, g2, g3, g4⟩ := unhide_all rs hD (x1.trans (x3.trans x4)) rs4
    refine ⟨ws, g1, by rw [← rv.length]; exact hsz v rfl, ?_⟩
    have := cont _ _ (ws ++ [y]) g2 del_self g3 (RVs.app (rv.ext g2) (RVs.one (ry.wk g4)))
    rwa [upd_del] at this
end
end SM

set_option maxHeartbeats 1000000
/-! SM: comprehensions, and every expression. -/
namespace SM
open PySem L2 PySem.Spec PyProof.Rows
section
variable {G : Sg} {N : List Str} {cl : Nat → Value} {C : Cal} {k : Nat}
theorem snd_frz {a : IE} (ha : OkE G N cl C k a) : OkE G N cl C k (.frz a) := by
  intro sc fnB W X c x h
  refine PE.weak (ha c (x := x) h) fun σ H Q ⟨m, e, s, re, rs, h⟩ => ?_
  refine tE_k re rs h fun x H1 m1 v s1 re1 _ rs1 rv1 h1 => ?_
  cases v with
  | d y => exact Post.here (R := RV X.K) (a := Vl.d y) rs1 rv1 h1
  | r n =>
    have h1 : Post X.K cl (RV X.K) (WE W σ) Q m1 H1 (ofP ((listAt n s1).bind fun vs => (frzL vs s1).bind fun p => (listAt n p.2).map fun _ => (Vl.d (.list p.1), p.2.set n none))) := h1
    have lst : ∀ {st : Sto} {us : List Vl}, listAt n st = some us → st[n]? = some (some (.lst us)) := fun {st us} q => by
      unfold listAt at q
      split at q
      · cases q; assumption
      · cases q
    cases q : listAt n s1 with
    | none => rw [q] at h1; exact h1.elim
    | some vs =>
      rw [q] at h1
      cases q2 : frzL vs s1 with
      | none => simp [q2] at h1; exact h1.elim
      | some p =>
        simp [q2] at h1
        cases q3 : listAt n p.2 with
        | none => simp [q3] at h1; exact h1.elim
        | some us =>
          simp [q3] at h1
          obtain ⟨a, ws, rfl, g1, g2, g3⟩ := rs1.get q rv1
          obtain ⟨m2, f1, f2, f3⟩ := RS.frzL rs1 g3 q2
          obtain ⟨a2, ws2, k1, k2, _⟩ := f2.at_ n us (lst q3)
          have ea : a2 = a := by
            rcases f1.pl n (List.getElem?_eq_some_iff.mp g1).1 with z | z
            · rw [z, g1] at k1; cases k1; rfl
            · rw [z] at k1; cases k1
          subst ea
          obtain ⟨e1, e2, e3⟩ := f2.freeze (lst q3) k1 g2 f3
          exact h1 _ _ _ (f1.trans e1) e2 e3
/-- list(range(j)) -/
theorem lrg_fin {mf : Bool} {a : IE} (ha : OkE G N cl C k a) {sc : Scope} {fnB : Str → Bool} {W : WX} {X : Cx} (c : Cok G N cl C k fnB sc W X) {y z : Str} {p p2 pos pos2 : Pos} {a2 : Expr} (h : chk G N sc (.lrg mf a) (.Call (.Name y p) [.Call (.Name z p2) [a2] [] pos2] [] pos) = true) :
    PE X (.Call (.Name y p) [.Call (.Name z p2) [a2] [] pos2] [] pos) (tE X.K cl C W (.lrg mf a)) := by
  simp only [chk, Bool.and_eq_true, decide_eq_true_eq] at h
  obtain ⟨⟨⟨⟨⟨⟨e1, h1⟩, h2⟩, e2⟩, h3⟩, h4⟩, h5⟩ := h
  subst e1
  subst e2
  refine PE.weak (pe_listRg c.calm (c.gl h1) (c.bi _ h2) (prg_1 (c.gl h3) (c.bi _ h4) (ha c h5) (star_ok h5 _ _)) (by rfl)) fun σ H Q ⟨m, e, s, re, rs, h⟩ => ?_
  refine tE_k re rs h fun x H1 m1 v s1 re1 _ rs1 rv1 h1 => ?_
  have pp := h1.pure
  unfold lrgV at pp
  split at pp
  · rename_i j
    split at pp
    · rename_i hj
      have ex : x = .int j := rv1
      subst ex
      have rr : ∀ l : List Nat, RVs X.K m1 H1 (l.map fun i : Nat => Vl.d (.int i)) (l.map fun i => V.int (0 + (i : Nat))) := fun l => by
        induction l with
        | nil => exact rfl
        | cons i l ih => exact ⟨_, _, rfl, by show V.int _ = V.int _; rw [Int.zero_add], ih⟩
      refine ⟨j, rfl, ⟨by omega, by omega, by omega, by omega, by omega⟩, fun q hq => ?_⟩
      have rv : RVs X.K m1 H1 ((List.range j.toNat).map fun i : Nat => Vl.d (.int i)) (rgV 0 j) := by
        unfold rgV
        rw [Int.sub_zero]
        exact rr _
      exact mkL_new rs1 rv hq pp
    · exact pp.elim
  · exact pp.elim
theorem snd_lrg {mf : Bool} {a : IE} (ha : OkE G N cl C k a) : OkE G N cl C k (.lrg mf a) := by
  intro sc fnB W X c x h
  cases x <;> first | (cases h; done) | skip
  rename_i f as ks pos
  cases f <;> first | (cases h; done) | skip
  rename_i y p
  cases as with
  | nil => cases ks <;> cases h
  | cons a1 as =>
  cases a1
  case Call f2 as2 ks2 pos2 =>
    cases f2
    case Name z p2 =>
      cases as2 with
      | nil => cases ks2 <;> cases as <;> cases ks <;> cases h
      | cons a2 as2 =>
      cases as2 with
      | cons _ _ => cases ks2 <;> cases as <;> cases ks <;> cases h
      | nil =>
      cases ks2 <;> cases as <;> cases ks <;> first | (cases h; done) | skip
      exact lrg_fin ha c h
    all_goals (cases as2 <;> cases ks2 <;> cases as <;> cases ks <;> cases h)
  all_goals (cases as <;> cases ks <;> cases h)
theorem foldi {sc : Scope} {ie : IE} {tg e : Expr} (h : chki G N sc ie e = true) (env : Env) (x : Value) : foldedSetIterable e env x = pure x := by
  cases ie with
  | itv a => exact fold_ok h env x
  | _ => cases e <;> first | rfl | (cases h; done)
theorem listAt_of {n : Nat} {s : Sto} {vs : List Vl} (q : listAt n s = some vs) : s[n]? = some (some (.lst vs)) := by
  unfold listAt at q
  split at q
  · cases q; assumption
  · cases q
/-- the end of a comprehension -/
theorem comp_end {K : PySem.W.Frag} {mf : Bool} {m1 m : Mu} {H1 Gh : Hp} {s2 : Sto} {D : Addr} {vs : List Vl} {ws : List V} {E : XK} {Q : VK} (p : Post K cl (RV K) E Q m1 H1 (ofP (mkL mf vs s2))) (x : Ext m1 H1 m Gh) (rs : RS K m Gh s2) (hD : Gh D = none) (rv : RVs K m Gh vs ws) : Q (.ref D) (upd Gh D (.lst ws)) := by
  have p := Post.ext x p
  refine mkL_new (K := K) (mf := mf) rs rv hD ?_
  cases q : mkL mf vs s2 with
  | none => rw [q] at p; exact p.elim
  | some r => rw [q] at p; obtain ⟨a, s'⟩ := r; exact p
theorem mkL_le {K : PySem.W.Frag} {mf : Bool} {m : Mu} {H : Hp} {s : Sto} {vs : List Vl} {E : XK} {Q : VK} (p : Post K cl (RV K) E Q m H (ofP (mkL mf vs s))) : vs.length ≤ sizeLine := by
  unfold mkL at p
  split at p
  · assumption
  · exact p.elim
theorem appO {acc r : List Vl} (o : Option Vl) : acc ++ (match o with | some v => v :: r | none => r) = (acc ++ o.toList) ++ r := by
  cases o <;> simp
theorem comp_reads {fnB : Str → Bool} {sc : Scope} {W : WX} {X : Cx} {mf : Bool} {elt tg it cnd : IE} {own : List Nat} (hsub : ∀ i ∈ tgS tg, i ∈ own) : ∀ σ H Q, tE X.K cl C W (.comp mf elt tg it cnd own) σ H Q → tLc (tI X.K cl C W it) (tG X.K tg) (tC X.K cl C noW cnd) (tE X.K cl C noW elt) own σ H Q := by
  intro σ H Q ⟨m, e, s, re, rs, h⟩
  refine ⟨m, e, s, re, rs, post_k h fun J H1 m1 I s1 x1 rs1 ri p => ?_⟩
  have re1 := re.ext x1
  intro D hD
  replace p : Post X.K cl (RV X.K) (WE W σ) Q m1 H1 ((noex (cmI (turnF C elt tg cnd (wipe e own)) I s1)).bind fun vs s => ofP (mkL mf vs s)) := p
  cases hq : cmI (turnF C elt tg cnd (wipe e own)) I s1 with
  | ex _ _ _ => rw [hq] at p; exact p.elim
  | no => rw [hq] at p; exact p.elim
  | ok vs s2 =>
  rw [hq] at p
  replace p : Post X.K cl (RV X.K) (WE W σ) Q m1 H1 (ofP (mkL mf vs s2)) := p
  have hlen := mkL_le p
  cases I with
  | vals ds =>
    obtain ⟨Gd, Y, wk, hg, hy⟩ := ri
    have hq : cmL (turnF C elt tg cnd (wipe e own)) ds s1 = .ok vs s2 := hq
    refine lc_it wk (fun i Hh => ∃ (m' : Mu) (Gh : Hp) (s' : Sto) (acc : List Vl) (ws : List V) (rest : List Vl), Hh = upd Gh D (.lst ws) ∧ Gh D = none ∧ Ext m1 H1 m' Gh ∧ RS X.K m' Gh s' ∧ RVs X.K m' Gh acc ws ∧
      cmL (turnF C elt tg cnd (wipe e own)) (ds.drop i) s' = .ok rest s2 ∧ vs = acc ++ rest) ?_ ?_ ?_ ?_
    · exact ⟨m1, H1, s1, [], [], vs, rfl, hD, Ext.refl, rs1, rfl, hq, rfl⟩
    · rintro i Hh - ⟨m', Gh, s', acc, ws, rest, rfl, g1, g2, g3, g4, g5, g6⟩
      exact hg m' _ (g2.trans (Ext.new g1)).wk
    · rintro i x Hh H'' hi ⟨m', Gh, s', acc, ws, rest, rfl, g1, g2, g3, g4, g5, g6⟩ y
      rw [List.drop_eq_getElem_cons hi] at g5
      obtain ⟨o, s3, t1, t2⟩ := Rs.bind_ok g5
      obtain ⟨r', s4, t3, t4⟩ := Rs.bind_ok t2
      injection t4 with t4 t5
      subst t5
      have wkh : Wk m1 H1 (m'.hide D) (upd Gh D (.lst ws)) := g2.wk.trans (Wk.hide g1)
      obtain ⟨k1, d, k2, k3⟩ := hy _ _ _ _ _ _ wkh (g3.hide g1) hi y
      rw [List.getElem?_eq_getElem hi] at k2
      injection k2 with k2
      have hvs : vs = (acc ++ o.toList) ++ r' := by rw [g6, ← t4]; exact appO o
      refine comp_turn (u := .d d) g3 g1 g4 (re1.ext g2) k1 k3 (by rw [← k2]; exact t1) hsub (fun v ho => ?_) (fun m'' G'' ws'' q1 q2 q3 q4 => ?_)
      · subst ho
        have : vs.length = acc.length + 1 + r'.length := by rw [hvs]; simp; omega
        omega
      · exact ⟨m'', G'', s3, _, ws'', r', rfl, q2, g2.trans q1, q3, q4, t3, hvs⟩
    · rintro Hh ⟨m', Gh, s', acc, ws, rest, rfl, g1, g2, g3, g4, g5, g6⟩
      rw [List.drop_length] at g5
      cases g5
      rw [List.append_nil] at g6
      subst g6
      exact comp_end p g2 g3 g1 g4
  | ref n =>
    obtain ⟨a, ha, rfl⟩ := ri
    have hq : cmR (turnF C elt tg cnd (wipe e own)) n ((listAt n s1).map List.length |>.getD 0) 0 s1 = .ok vs s2 := hq
    refine ⟨fun i f Hh => ∃ (m' : Mu) (Gh : Hp) (s' : Sto) (acc : List Vl) (ws : List V) (rest : List Vl), Hh = upd Gh D (.lst ws) ∧ Gh D = none ∧ Ext m1 H1 m' Gh ∧ RS X.K m' Gh s' ∧ RVs X.K m' Gh acc ws ∧
      cmR (turnF C elt tg cnd (wipe e own)) n f i s' = .ok rest s2 ∧ vs = acc ++ rest, ⟨_, m1, H1, s1, [], [], vs, rfl, hD, Ext.refl, rs1, rfl, hq, rfl⟩, ?_⟩
    rintro i f Hh ⟨m', Gh, s', acc, ws, rest, rfl, g1, g2, g3, g4, g5, g6⟩
    unfold cmR at g5
    cases ql : listAt n s' with
    | none => rw [ql] at g5; cases g5
    | some us =>
    rw [ql] at g5
    simp only at g5
    obtain ⟨a', zs, z1, z2, z3⟩ := g3.at_ n us (listAt_of ql)
    have hn1 : n < m1.l.length := (List.getElem?_eq_some_iff.mp ha).1
    have ea : a' = a := by
      rcases g2.pl n hn1 with z | z
      · rw [z, ha] at z1; cases z1; rfl
      · rw [z] at z1; cases z1
    subst ea
    have na : a' ≠ D := ne_of_none z2 g1
    have za : (upd Gh D (.lst ws)) a' = some (.lst zs) := by rw [upd_ne na]; exact z2
    cases qi : us[i]? with
    | none =>
      rw [qi] at g5
      cases g5
      rw [List.append_nil] at g6
      subst g6
      refine .inl ⟨⟨zs, SqL.of za, ?_⟩, comp_end p g2 g3 g1 g4⟩
      rw [← z3.length]
      exact List.getElem?_eq_none_iff.mp qi
    | some u =>
      rw [qi] at g5
      simp only at g5
      cases f with
      | zero => cases g5
      | succ f =>
      simp only at g5
      obtain ⟨o, s3, t1, t2⟩ := Rs.bind_ok g5
      obtain ⟨r', s4, t3, t4⟩ := Rs.bind_ok t2
      injection t4 with t4 t5
      subst t5
      obtain ⟨x, w1, w2⟩ := z3.get qi
      have hvs : vs = (acc ++ o.toList) ++ r' := by rw [g6, ← t4]; exact appO o
      refine .inr ⟨⟨zs, x, SqL.of za, w1⟩, fun Hh => ∃ (m' : Mu) (Gh : Hp) (s' : Sto) (acc : List Vl) (ws : List V) (rest : List Vl), Hh = upd Gh D (.lst ws) ∧ Gh D = none ∧ Ext m1 H1 m' Gh ∧ RS X.K m' Gh s' ∧ RVs X.K m' Gh acc ws ∧
        cmR (turnF C elt tg cnd (wipe e own)) n f (i + 1) s' = .ok rest s4 ∧ vs = acc ++ rest, fun H' q => ⟨f, Nat.lt_succ_self f, q⟩, fun x' H' y => ?_⟩
      obtain ⟨rfl, y⟩ := y
      have := y zs (SqL.of za)
      rw [w1] at this
      cases this
      refine comp_turn (u := u) g3 g1 g4 (re1.ext g2) (fun _ _ h => h) (RV.wk (Wk.hide g1) w2) t1 hsub (fun v ho => ?_) (fun m'' G'' ws'' q1 q2 q3 q4 => ?_)
      · subst ho
        have : vs.length = acc.length + 1 + r'.length := by rw [hvs]; simp; omega
        omega
      · exact ⟨m'', G'', s3, _, ws'', r', rfl, q2, g2.trans q1, q3, q4, t3, hvs⟩
theorem snd_comp {mf : Bool} {elt tg it cnd : IE} {own : List Nat} (he : OkE G N cl C k elt) (hi : OkI G N cl C k it) (hcnd : OkC G N cl C k cnd) : OkE G N cl C k (.comp mf elt tg it cnd own) := by
  intro sc fnB W X c x h
  cases x <;> first | (cases h; done) | skip
  rename_i elt' gens scope pos
  cases gens with
  | nil => cases h
  | cons g gs =>
  cases gs with
  | cons _ _ =>
    obtain ⟨_, _, _, nn⟩ := g
    cases nn with
    | negSucc _ => cases h
    | ofNat n => cases n <;> cases h
  | nil =>
  obtain ⟨tg', it', ifs', nn⟩ := g
  cases nn with
  | negSucc _ => cases h
  | ofNat nn =>
  cases nn with
  | succ _ => cases h
  | zero =>
  have h : (zipTg it tg' && chki G N sc it it' && blkC N sc scope (ownP N own) && chkG (blkF scope) (relS scope sc) N tg tg' && (tgS tg).all (fun i => decide (i ∈ own)) && chkc G N (relS scope sc) cnd ifs' && chk G N (relS scope sc) elt elt') = true := h
  simp only [Bool.and_eq_true] at h
  obtain ⟨⟨⟨⟨⟨⟨h1, h2⟩, h3⟩, h4⟩, h5⟩, h6⟩, h7⟩ := h
  have hsub : ∀ i ∈ tgS tg, i ∈ own := fun i hi => by
    have := List.all_eq_true.mp h5 i hi
    exact of_decide_eq_true this
  have blk := c.blk
  refine PE.weak (pe_lc (wi := tI X.K cl C W it) (g := tG X.K tg) (tt := tC X.K cl C noW cnd) (te := tE X.K cl C noW elt) (own := ownP N own) c.calm (by rw [c.n]; exact c.nd) (hi c h1 h2) (by rw [c.n, c.sc]; exact blkOk_by h3)
    (fun s H Ca cls fp => snd_tgV (c.blk s H scope Ca cls fp) tg tg' h4) (fun s H Ca cls fp => hcnd (c.blk s H scope Ca cls fp) h6) (fun s H Ca cls fp => he (c.blk s H scope Ca cls fp) h7) (fun x => foldi (tg := tg') h2 X.env x)) fun σ H Q q => by
    rw [own_map]
    exact comp_reads (sc := sc) (fnB := fnB) hsub σ H Q q
/-! ### dict displays -/
theorem snd_dic {ks vs : IE} (hv : ∀ v r, vs = .cons v r → OkE G N cl C k v) : OkE G N cl C k (.dic ks vs) := by
  intro sc fnB W X c x h
  cases x <;> first | (cases h; done) | skip
  rename_i ks' vs' pos
  replace h : chkd G N sc vs ks ks' vs' = true := h
  cases vs <;> first | (cases ks <;> cases h; done) | skip
  · cases ks <;> first | (cases h; done) | skip
    cases ks' with
    | cons _ _ => cases h
    | nil =>
    cases vs' with
    | cons _ _ => cases h
    | nil =>
    refine PE.weak pe_dnewK fun σ H Q ⟨m, e, s, re, rs, h⟩ => ?_
    have h : Post X.K cl (RV X.K) (WE W σ) Q m H (.ok (.d (.dict [])) s) := h
    intro p hp
    exact h m _ (.ref p) (Ext.new hp) (rs.new hp) ⟨p, [], rfl, rs.fresh hp, upd_same, rfl⟩
  · rename_i v r
    cases r <;> first | (cases h; done) | skip
    cases ks <;> first | (cases h; done) | skip
    rename_i k0 kr
    cases k0 <;> first | (cases h; done) | skip
    rename_i d
    cases d <;> first | (cases h; done) | skip
    rename_i y
    cases kr <;> first | (cases h; done) | skip
    cases ks' with
    | nil => cases h
    | cons k1 ks' =>
    cases k1 with
    | none => cases h
    | some k1 =>
    cases k1 <;> first | (cases h; done) | skip
    rename_i z j p1
    cases z <;> first | (cases h; done) | skip
    rename_i z
    cases ks' with
    | cons _ _ => cases h
    | nil =>
    cases vs' with
    | nil => cases h
    | cons w vs' =>
    cases vs' with
    | cons _ _ => cases h
    | nil =>
    have h : (decide (y = z) && chk G N sc v w) = true := h
    simp only [Bool.and_eq_true, decide_eq_true_eq] at h
    obtain ⟨e1, h1⟩ := h
    subst e1
    refine PE.weak (pe_disp (pps_cons pe_str (hv v _ rfl c h1) pps_nil) rfl rfl (by simp) (by simp)) fun σ H Q ⟨m, e, s, re, rs, h⟩ => ?_
    have h : Post X.K cl (RV X.K) (WE W σ) Q m H ((noex ((ev C v e s).bind fun a s => .ok [a] s)).bind fun b s => ofP (dicV [.d (.str y)] b s)) := h
    intro p hp
    cases hq : ev C v e s with
    | ex _ _ _ => rw [hq] at h; exact h.elim
    | no => rw [hq] at h; exact h.elim
    | ok u s1 =>
    rw [hq] at h
    have h : Post X.K cl (RV X.K) (WE W σ) Q m H (ofP (dicV [.d (.str y)] [u] s1)) := h
    have w0 : Wk m H (m.hide p) (upd H p (.dK [])) := Wk.hide hp
    refine ⟨m.hide p, e, s, re.wk w0, rs.hide hp, post_ok hq fun m1 H1 x x1 rs1 rx => ?_⟩
    obtain ⟨g1, g2, g3, g4⟩ := unhide_all rs hp x1 rs1
    refine ⟨g1, [(.inr y, x)], rfl, by simp, ?_⟩
    cases u with
    | r n => exact h.elim
    | d z =>
      have h : Post X.K cl (RV X.K) (WE W σ) Q m H (.ok (.d (.dict [(.str y, z)])) s1) := h
      rw [← upd_del]
      have e2 : Ext (m1.show m.hid) (SM.del H1 p) (m1.show m.hid) (upd (SM.del H1 p) p (.dK (mergeK [] [(.inr y, x)]))) := Ext.new del_self
      refine h _ _ _ (g2.trans e2) (g3.new del_self) ⟨p, mergeK [] [(.inr y, x)], rfl, g3.fresh del_self, upd_same, .inr y, x, [], rfl, rfl, ?_, rfl⟩
      exact Rep.kp e2.kp (Rep.kp g4.kp rx)
end
end SM

set_option maxHeartbeats 1000000
/-! SM: every expression. -/
namespace SM
open PySem L2 PySem.Spec PyProof.Rows
section
variable {G : Sg} {N : List Str} {cl : Nat → Value} {C : Cal} {k : Nat}
structure Oks (G : Sg) (N : List Str) (cl : Nat → Value) (C : Cal) (k : Nat) (ie : IE) : Prop where
  e : OkE G N cl C k ie
  t : OkT G N cl C k ie
  a : OkA G N cl C k ie
  o : OkO G N cl C k ie
  c : OkC G N cl C k ie
  i : OkI G N cl C k ie
  kk : OkK G N cl C k ie
  h : ∀ v r, ie = .cons v r → OkE G N cl C k v
  an : OkAnd G N cl C k ie
  or : OkOr G N cl C k ie
theorem okT_plain {ie : IE} (h : OkE G N cl C k ie) (p : ∀ (sc : Scope) (x : Expr), chk G N sc ie x = true → plainT x = true) : OkT G N cl C k ie := by
  intro sc fnB W X c x h1 _
  exact pt_plain (h c h1) (p _ _ h1)
theorem Oks.mk' {ie : IE} (e : OkE G N cl C k ie) (t : OkT G N cl C k ie)
    (a : ∀ sc x, chks G N sc ie x = false) (o : ∀ sc x, chko G N sc ie x = false) (c : ∀ sc x, chkc G N sc ie x = false) (i : ∀ sc x, chki G N sc ie x = false) (kk : ∀ sc x, chkk G N sc ie x = false) (h : ∀ v r, ie ≠ .cons v r := by intro _ _ e; cases e) : Oks G N cl C k ie where
  h := fun v r e => absurd e (h v r)
  kk := fun _ _ h => by rw [kk] at h; cases h
  e := e
  t := t
  a := fun _ _ h => by rw [a] at h; cases h
  o := fun _ _ h => by rw [o] at h; cases h
  c := fun _ _ h => by rw [c] at h; cases h
  i := fun _ _ _ _ h => by rw [i] at h; cases h
  an := fun _ _ _ h => by rw [a] at h; cases h
  or := fun _ _ _ h => by rw [a] at h; cases h
theorem Oks.it {ie : IE} (i : OkI G N cl C k ie) (e : ∀ sc x, chk G N sc ie x = false)
    (a : ∀ sc x, chks G N sc ie x = false) (o : ∀ sc x, chko G N sc ie x = false) (c : ∀ sc x, chkc G N sc ie x = false) (kk : ∀ sc x, chkk G N sc ie x = false) (h : ∀ v r, ie ≠ .cons v r := by intro _ _ e; cases e) : Oks G N cl C k ie where
  h := fun v r e => absurd e (h v r)
  kk := fun _ _ h => by rw [kk] at h; cases h
  e := fun _ _ h => by rw [e] at h; cases h
  t := fun _ _ h => by rw [e] at h; cases h
  a := fun _ _ h => by rw [a] at h; cases h
  o := fun _ _ h => by rw [o] at h; cases h
  c := fun _ _ h => by rw [c] at h; cases h
  i := i
  an := fun _ _ _ h => by rw [a] at h; cases h
  or := fun _ _ _ h => by rw [a] at h; cases h
theorem okT_frz {a : IE} (h : OkT G N cl C k a) : OkT G N cl C k (.frz a) := by
  intro sc fnB W X c x h1 h2
  refine PT.weak (h c (x := x) h1 h2) fun σ H Q ⟨m, e, s, re, rs, q⟩ => ⟨m, e, s, re, rs, ?_⟩
  unfold evT at q ⊢
  replace q : Post X.K cl REq (WE W σ) Q m H ((ev C a.frz e s).bind fun v s => ofO (isTrue? v) s) := q
  show Post X.K cl REq (WE W σ) Q m H ((ev C a e s).bind fun v s => ofO (isTrue? v) s)
  rw [show ev C (.frz a) e s = (ev C a e s).bind fun x s => ofP (frzV x s) from rfl, Rs.bind_assoc] at q
  cases hv : ev C a e s with
  | no => rw [hv] at q; exact q
  | ex _ _ _ => rw [hv] at q; exact q
  | ok v s1 =>
    rw [hv] at q
    cases v with
    | d y => exact q
    | r n =>
      exfalso
      have q : Post X.K cl REq (WE W σ) Q m H ((ofP ((listAt n s1).bind fun vs => (frzL vs s1).bind fun p => (listAt n p.2).map fun _ => (Vl.d (.list p.1), p.2.set n none))).bind fun v s => ofO (isTrue? v) s) := q
      cases q1 : listAt n s1 with
      | none => rw [q1] at q; exact q
      | some vs =>
        rw [q1] at q
        cases q2 : frzL vs s1 with
        | none => simp [q2] at q; exact q
        | some p =>
          simp [q2] at q
          cases q3 : listAt n p.2 with
          | none => simp [q3] at q; exact q
          | some us => simp [q3] at q; exact q
theorem chkF_ok {ie : IE} (e : ∀ sc x, chk G N sc ie x = false) (a : ∀ sc x, chks G N sc ie x = false) (o : ∀ sc x, chko G N sc ie x = false) (c : ∀ sc x, chkc G N sc ie x = false) (i : ∀ sc x, chki G N sc ie x = false) (kk : ∀ sc x, chkk G N sc ie x = false) (h : ∀ v r, ie ≠ .cons v r := by intro _ _ e; cases e) : Oks G N cl C k ie :=
  Oks.mk' (fun _ _ h => by rw [e] at h; cases h) (fun _ _ h => by rw [e] at h; cases h) a o c i kk h
theorem oks : ∀ ie : IE, Oks G N cl C k ie := by
  intro ie
  induction ie with
  | nil => exact ⟨fun _ _ h => (by cases h), fun _ _ h => (by cases h), snd_nil, snd_onil, snd_cnil, fun _ _ _ _ h => (by cases h), snd_knil, fun _ _ e => (by cases e),
      fun {sc} {fnB} {W} {X} _ {x} {pos} h _ n => (by cases x with
        | nil => exact absurd rfl n
        | cons _ _ => cases h), fun {sc} {fnB} {W} {X} _ {x} {pos} h _ n => (by cases x with
        | nil => exact absurd rfl n
        | cons _ _ => cases h)⟩
  | cons a r iha ihr =>
    refine ⟨fun _ _ h => (by cases h), fun _ _ h => (by cases h), snd_cons iha.e ihr.a, snd_o iha.e, snd_ccons iha.t, fun _ _ _ _ h => (by cases h), snd_kcons iha.e ihr.kk, fun v r e => (by cases e; exact iha.e), ?_, ?_⟩
    · cases r with
      | nil => exact snd_and1 iha.e iha.t
      | cons b r => exact snd_and iha.e iha.t ihr.an
      | _ =>
        intro sc fnB W X c x pos h
        cases x with
        | nil => cases h
        | cons x xs => simp only [chks, Bool.and_eq_true] at h; cases xs <;> cases h.2
    · cases r with
      | nil => exact snd_or1 iha.e iha.t
      | cons b r => exact snd_or iha.e iha.t ihr.or
      | _ =>
        intro sc fnB W X c x pos h
        cases x with
        | nil => cases h
        | cons x xs => simp only [chks, Bool.and_eq_true] at h; cases xs <;> cases h.2
  | var i => exact .mk' snd_var (okT_plain snd_var fun sc x h => by cases x <;> first | rfl | (cases h; done)) (fun _ x => by cases x <;> rfl) (fun _ x => by cases x <;> rfl) (fun _ x => by cases x <;> rfl) (fun _ x => by cases x <;> rfl) (fun _ x => by cases x <;> rfl)
  | lit d => exact .mk' snd_lit (okT_plain snd_lit fun sc x h => by cases x <;> first | rfl | (cases d <;> cases h; done)) (fun _ x => by cases x <;> rfl) (fun _ x => by cases x <;> rfl) (fun _ x => by cases x <;> rfl) (fun _ x => by cases x <;> rfl) (fun _ x => by cases x <;> rfl)
  | glob x d => exact .mk' snd_glob (okT_plain snd_glob fun sc x h => by cases x <;> first | rfl | (cases h; done)) (fun _ x => by cases x <;> rfl) (fun _ x => by cases x <;> rfl) (fun _ x => by cases x <;> rfl) (fun _ x => by cases x <;> rfl) (fun _ x => by cases x <;> rfl)
  | bop m o a b iha ihb => exact .mk' (snd_bop iha.e ihb.e) (okT_plain (snd_bop iha.e ihb.e) fun sc x h => by cases x <;> first | rfl | (cases h; done)) (fun _ x => by cases x <;> rfl) (fun _ x => by cases x <;> rfl) (fun _ x => by cases x <;> rfl) (fun _ x => by cases x <;> rfl) (fun _ x => by cases x <;> rfl)
  | neg a iha => exact .mk' (snd_neg iha.e) (okT_plain (snd_neg iha.e) fun sc x h => by
      cases x <;> first | rfl | (cases h; done) | skip
      rename_i op _ _
      cases op <;> first | rfl | (simp [chk] at h; done)) (fun _ x => by cases x <;> rfl) (fun _ x => by cases x <;> rfl) (fun _ x => by cases x <;> rfl) (fun _ x => by cases x <;> rfl) (fun _ x => by cases x <;> rfl)
  | not a iha => exact .mk' (snd_not iha.e iha.t).1 (snd_not iha.e iha.t).2 (fun _ x => by cases x <;> rfl) (fun _ x => by cases x <;> rfl) (fun _ x => by cases x <;> rfl) (fun _ x => by cases x <;> rfl) (fun _ x => by cases x <;> rfl)
  | cmp o a b iha ihb => exact .mk' (snd_cmp iha.e ihb.e).1 (snd_cmp iha.e ihb.e).2 (fun _ x => by cases x <;> rfl) (fun _ x => by cases x <;> rfl) (fun _ x => by cases x <;> rfl) (fun _ x => by cases x <;> rfl) (fun _ x => by cases x <;> rfl)
  | chain o p a b c iha ihb ihc => exact .mk' (snd_chain iha.e ihb.e ihc.e).1 (snd_chain iha.e ihb.e ihc.e).2 (fun _ x => by cases x <;> rfl) (fun _ x => by cases x <;> rfl) (fun _ x => by cases x <;> rfl) (fun _ x => by cases x <;> rfl) (fun _ x => by cases x <;> rfl)
  | and es ih => exact .mk' (snd_bool ih.an ih.or).1.1 (snd_bool ih.an ih.or).1.2 (fun _ x => by cases x <;> rfl) (fun _ x => by cases x <;> rfl) (fun _ x => by cases x <;> rfl) (fun _ x => by cases x <;> rfl) (fun _ x => by cases x <;> rfl)
  | or es ih => exact .mk' (snd_bool ih.an ih.or).2.1 (snd_bool ih.an ih.or).2.2 (fun _ x => by cases x <;> rfl) (fun _ x => by cases x <;> rfl) (fun _ x => by cases x <;> rfl) (fun _ x => by cases x <;> rfl) (fun _ x => by cases x <;> rfl)
  | ite c a b ihc iha ihb => exact .mk' (snd_ite ihc.t iha.e ihb.e) (fun {sc} {fnB} {W} {X} _ {x} h h2 => by cases x <;> first | (cases h2; done) | (cases h; done)) (fun _ x => by cases x <;> rfl) (fun _ x => by cases x <;> rfl) (fun _ x => by cases x <;> rfl) (fun _ x => by cases x <;> rfl) (fun _ x => by cases x <;> rfl)
  | tup es ih => exact .mk' (snd_tup ih.a) (okT_plain (snd_tup ih.a) fun sc x h => by cases x <;> first | rfl | (cases h; done)) (fun _ x => by cases x <;> rfl) (fun _ x => by cases x <;> rfl) (fun _ x => by cases x <;> rfl) (fun _ x => by cases x <;> rfl) (fun _ x => by cases x <;> rfl)
  | lst m es ih => exact .mk' (snd_lst ih.a) (okT_plain (snd_lst ih.a) fun sc x h => by cases x <;> first | rfl | (cases h; done)) (fun _ x => by cases x <;> rfl) (fun _ x => by cases x <;> rfl) (fun _ x => by cases x <;> rfl) (fun _ x => by cases x <;> rfl) (fun _ x => by cases x <;> rfl)
  | rep m es k' ih ihk => exact .mk' (snd_rep ih.a ihk.e) (okT_plain (snd_rep ih.a ihk.e) fun sc x h => by cases x <;> first | rfl | (cases h; done)) (fun _ x => by cases x <;> rfl) (fun _ x => by cases x <;> rfl) (fun _ x => by cases x <;> rfl) (fun _ x => by cases x <;> rfl) (fun _ x => by cases x <;> rfl)
  | idx a i iha ihi => exact .mk' (snd_idx iha.e ihi.e) (okT_plain (snd_idx iha.e ihi.e) fun sc x h => by cases x <;> first | rfl | (cases h; done)) (fun _ x => by cases x <;> rfl) (fun _ x => by cases x <;> rfl) (fun _ x => by cases x <;> rfl) (fun _ x => by cases x <;> rfl) (fun _ x => by cases x <;> rfl)
  | sli m a lo hi iha ihl ihh => exact .mk' (snd_sli iha.e ihl.o ihh.o) (okT_plain (snd_sli iha.e ihl.o ihh.o) fun sc x h => by cases x <;> first | rfl | (cases h; done)) (fun _ x => by cases x <;> rfl) (fun _ x => by cases x <;> rfl) (fun _ x => by cases x <;> rfl) (fun _ x => by cases x <;> rfl) (fun _ x => by cases x <;> rfl)
  | rev m a iha => exact .mk' (snd_rev iha.e) (okT_plain (snd_rev iha.e) fun sc x h => by cases x <;> first | rfl | (cases h; done)) (fun _ x => by cases x <;> rfl) (fun _ x => by cases x <;> rfl) (fun _ x => by cases x <;> rfl) (fun _ x => by cases x <;> rfl) (fun _ x => by cases x <;> rfl)
  | bi m b es ih => exact .mk' (snd_bi ih.a) (okT_plain (snd_bi ih.a) fun sc x h => by cases x <;> first | rfl | (cases h; done)) (fun _ x => by cases x <;> rfl) (fun _ x => by cases x <;> rfl) (fun _ x => by cases x <;> rfl) (fun _ x => by cases x <;> rfl) (fun _ x => by cases x <;> rfl)
  | isi a t iha => exact .mk' (snd_isi iha.e) (okT_plain (snd_isi iha.e) fun sc x h => by cases x <;> first | rfl | (cases h; done)) (fun _ x => by cases x <;> rfl) (fun _ x => by cases x <;> rfl) (fun _ x => by cases x <;> rfl) (fun _ x => by cases x <;> rfl) (fun _ x => by cases x <;> rfl)
  | me f a es iha ih => exact .mk' (snd_me iha.e ih.a) (okT_plain (snd_me iha.e ih.a) fun sc x h => by cases x <;> first | rfl | (cases h; done)) (fun _ x => by cases x <;> rfl) (fun _ x => by cases x <;> rfl) (fun _ x => by cases x <;> rfl) (fun _ x => by cases x <;> rfl) (fun _ x => by cases x <;> rfl)
  | call f es ih => exact .mk' (snd_call ih.a) (okT_plain (snd_call ih.a) fun sc x h => by cases x <;> first | rfl | (cases h; done)) (fun _ x => by cases x <;> rfl) (fun _ x => by cases x <;> rfl) (fun _ x => by cases x <;> rfl) (fun _ x => by cases x <;> rfl) (fun _ x => by cases x <;> rfl)
  | comp m elt tg it cnd own ihe _ ihi ihc => exact .mk' (snd_comp ihe.e ihi.i ihc.c) (okT_plain (snd_comp ihe.e ihi.i ihc.c) fun sc x h => by cases x <;> first | rfl | (cases h; done)) (fun _ x => by cases x <;> rfl) (fun _ x => by cases x <;> rfl) (fun _ x => by cases x <;> rfl) (fun _ x => by cases x <;> rfl) (fun _ x => by cases x <;> rfl)
  | frz a iha => exact .mk' (snd_frz iha.e) (okT_frz iha.t) (fun _ x => by cases x <;> rfl) (fun _ x => by cases x <;> rfl) (fun _ x => by cases x <;> rfl) (fun _ x => by cases x <;> rfl) (fun _ x => by cases x <;> rfl)
  | lrg mf a iha => exact .mk' (snd_lrg iha.e) (okT_plain (snd_lrg iha.e) fun sc x h => by cases x <;> first | rfl | (cases h; done)) (fun _ x => by cases x <;> rfl) (fun _ x => by cases x <;> rfl) (fun _ x => by cases x <;> rfl) (fun _ x => by cases x <;> rfl) (fun _ x => by cases x <;> rfl)
  | rng1 a iha => exact .it (snd_rng1 iha.e) (fun _ x => by cases x <;> rfl) (fun _ x => by cases x <;> rfl) (fun _ x => by cases x <;> rfl) (fun _ x => by cases x <;> rfl) (fun _ x => by cases x <;> rfl)
  | rng2 a b iha ihb => exact .it (snd_rng2 iha.e ihb.e) (fun _ x => by cases x <;> rfl) (fun _ x => by cases x <;> rfl) (fun _ x => by cases x <;> rfl) (fun _ x => by cases x <;> rfl) (fun _ x => by cases x <;> rfl)
  | zip a b iha ihb => exact .it (snd_zip iha.e ihb.e) (fun _ x => by cases x <;> rfl) (fun _ x => by cases x <;> rfl) (fun _ x => by cases x <;> rfl) (fun _ x => by cases x <;> rfl) (fun _ x => by cases x <;> rfl)
  | enum a iha => exact .it (snd_enum iha.e) (fun _ x => by cases x <;> rfl) (fun _ x => by cases x <;> rfl) (fun _ x => by cases x <;> rfl) (fun _ x => by cases x <;> rfl) (fun _ x => by cases x <;> rfl)
  | itv a iha => exact .it (snd_itv iha.e) (fun _ x => by cases x <;> rfl) (fun _ x => by cases x <;> rfl) (fun _ x => by cases x <;> rfl) (fun _ x => by cases x <;> rfl) (fun _ x => by cases x <;> rfl)
  | dic ks vs _ ihv =>
    have hd : OkE G N cl C k (.dic ks vs) := snd_dic ihv.h
    exact .mk' hd (okT_plain hd fun sc x h => by cases x <;> first | rfl | (cases h; done)) (fun _ x => by cases x <;> rfl) (fun _ x => by cases x <;> rfl) (fun _ x => by cases x <;> rfl) (fun _ x => by cases x <;> rfl) (fun _ x => by cases x <;> rfl)
  | callk f es ks nms perm _ ihk => exact .mk' (snd_callk ihk.kk) (okT_plain (snd_callk ihk.kk) fun sc x h => by cases x <;> first | rfl | (cases h; done)) (fun _ x => by cases x <;> rfl) (fun _ x => by cases x <;> rfl) (fun _ x => by cases x <;> rfl) (fun _ x => by cases x <;> rfl) (fun _ x => by cases x <;> rfl)
  | comp2 => exact chkF_ok (fun _ x => by cases x <;> rfl) (fun _ x => by cases x <;> rfl) (fun _ x => by cases x <;> rfl) (fun _ x => by cases x <;> rfl) (fun _ x => by cases x <;> rfl) (fun _ x => by cases x <;> rfl)
end
end SM

set_option maxHeartbeats 1000000
/-! SM: statements: the check, how a run's end is handed on. -/
namespace SM
open PySem L2 PySem.Spec PyProof.Rows
/-! ### the check -/
def isLC : Expr → Bool
  | .ListComp .. => true
  | _ => false
def isNm : Expr → Bool
  | .Name .. => true
  | _ => false
def nmOn (sc : Scope) (line : Nat) : Expr → Option Str
  | .Name id pos => if sc.names.lookup id == some .local && pos.line == line then some id else none
  | _ => none
def swNames (sc : Scope) (ts : List Expr) : List Str := ts.filterMap (nmOn sc ((ts.head?.map (·.pos.line)).getD 0))
def isStar : Expr → Bool
  | .Starred .. => true
  | _ => false
/-- the stores of a tuple by a tuple are in order -/
def swNone (sc : Scope) (ts vs : List Expr) : Bool :=
  (!(ts.length == 2 || ts.length == 3) || vs.length != ts.length) || (!vs.any isStar && (((swNames sc ts).length != ts.length || (swNames sc ts).eraseDups.length != (swNames sc ts).length) || vs.all (foldedForSure 8)))
def swSome (sc : Scope) (ts vs : List Expr) : Bool :=
  (ts.length == 2 || ts.length == 3) && vs.length == ts.length && !vs.any isStar && (swNames sc ts).length == ts.length && (swNames sc ts).eraseDups.length == (swNames sc ts).length && !vs.all (foldedForSure 8) && !vs.all (constantsAlone 8)
def plainSt (sc : Scope) : Expr → Expr → Bool
  | .Tuple ts _ _, .Tuple vs _ _ => swNone sc ts vs
  | .List .., _ => false
  | .Name y _, .ListComp .. => !(isLoc sc y)
  | t, e => !(isLC e && isNm t)
def chkTg (G : Sg) (N : List Str) (fnB : Str → Bool) (sc : Scope) : IE → Expr → Bool
  | .idx a i, .Subscript a' i' _ => plainIx i' && chk G N sc a a' && chk G N sc i i'
  | tg, t => chkG fnB sc N tg t
def lcOn (sc : Scope) (i : Nat) (own : List Nat) : Expr → Expr → Bool
  | .Name y py, .ListComp _ _ scope pos => isLoc sc y && (py.line == pos.line) && !(scope.names.any fun p => p.1 == y && (p.2 == .local || p.2 == .cell))
  | _, _ => false
def asgLC (sc : Scope) (tg a : IE) (t e' : Expr) : Bool := match tg, a with
  | .var i, .comp _ _ _ _ _ own => lcOn sc i own t e'
  | _, _ => false
def chkTs (G : Sg) (N : List Str) (fnB : Str → Bool) (sc : Scope) : IE → List Expr → Bool
  | .nil, [] => true
  | .cons t r, e :: es => chkTg G N fnB sc t e && chkTs G N fnB sc r es
  | _, _ => false
mutual
def chkS (G : Sg) (N : List Str) (fnB : Str → Bool) (sc : Scope) : IS → Stmt → Bool
  | .asg tg e, .Assign [t] e' _ => chkTg G N fnB sc tg t && chk G N sc e e' && (plainSt sc t e' || asgLC sc tg e t e')
  | .par (.var i) (.var j) a b, .Assign [.Tuple [.Name x px, .Name y py] _ _] (.Tuple [a', b'] _ _) _ => decide (N[i]? = some x) && decide (N[j]? = some y) && !(i == j) && isLoc sc x && isLoc sc y && swSome sc [.Name x px, .Name y py] [a', b'] && chk G N sc a a' && chk G N sc b b'
  | .par3 i j l a b c, .Assign [.Tuple [.Name x px, .Name y py, .Name z pz] _ _] (.Tuple [a', b', c'] _ _) _ => decide (N[i]? = some x) && decide (N[j]? = some y) && decide (N[l]? = some z) && !(i == j) && !(i == l) && !(j == l) && isLoc sc x && isLoc sc y && isLoc sc z &&
      swSome sc [.Name x px, .Name y py, .Name z pz] [a', b', c'] && chk G N sc a a' && chk G N sc b b' && chk G N sc c c'
  | .ptup ts es, .Assign [.Tuple ts' _ _] (.Tuple es' _ _) _ => chkTs G N fnB sc ts ts' && chks G N sc es es' && swNone sc ts' es'
  | .aug i o e, .AugAssign (.Name x _) op e' _ => decide (N[i]? = some x) && locB sc x && (fnB x || isLoc sc x) && decide (opOf o = op) && (decide (o = .add) || decide (o = .sub)) && chk G N sc e e'
  | .ite c a b, .If c' a' b' _ => tstF c' && chk G N sc c c' && chkSs G N fnB sc a a' && chkSs G N fnB sc b b'
  | .forr tg it body, .For t it' body' [] _ => chkG fnB sc N tg t && zipTg it t && chki G N sc it it' && chkSs G N fnB sc body body'
  | .whil c body, .While c' body' [] _ => tstF c' && chk G N sc c c' && chkSs G N fnB sc body body'
  | .ret e, .Return (some e') _ => chk G N sc e e'
  | .ret (.lit .none), .Return none _ => true
  | .expr e, .Expr e' _ => chk G N sc e e' && !isLC e'
  | .pass, .Pass _ => true
  | .pass, .Expr (.Constant (.str _) _ _) _ => true
  | .brk, .Break _ => true
  | .cont, .Continue _ => true
  | .never, _ => true
  | _, _ => false
def chkSs (G : Sg) (N : List Str) (fnB : Str → Bool) (sc : Scope) : IS → List Stmt → Bool
  | .nil, [] => true
  | .cons a r, st :: sts => chkS G N fnB sc a st && chkSs G N fnB sc r sts
  | .never, _ => true
  | _, _ => false
end
/-! ### the ends -/
section
variable {K : PySem.W.Frag} {cl : Nat → Value} {C : Cal} {W : WX} {m m' : Mu} {H H' : Hp} {e : Sl} {σ : L2.St} {s : Sto}
def PostF (K : PySem.W.Frag) (cl : Nat → Value) (W : WX) (D : Ends) (m : Mu) (H : Hp) : Fl → Prop
  | .nx e s => ∀ m' H' σ', Ext m H m' H' → RS K m' H' s → RE K m' H' e σ' → D.nx σ' H'
  | .bk e s => ∀ m' H' σ', Ext m H m' H' → RS K m' H' s → RE K m' H' e σ' → D.bk σ' H'
  | .ct e s => ∀ m' H' σ', Ext m H m' H' → RS K m' H' s → RE K m' H' e σ' → D.ct σ' H'
  | .rt v s => ∀ m' H' b, Ext m H m' H' → RS K m' H' s → RV K m' H' v b → D.rt b H'
  | .ex c v e s => ∀ m' H' d y σ', Ext m H m' H' → RS K m' H' s → RV K m' H' v y → H' d = some (.xd [("value", y)]) → RE K m' H' e σ' → W (cl c) (some d) σ' H'
  | .no => False
theorem PostF.ext {D : Ends} (x : Ext m H m' H') : ∀ {f : Fl}, PostF K cl W D m H f → PostF K cl W D m' H' f
  | .nx _ _, h => fun m2 H2 σ' y r q => h m2 H2 σ' (x.trans y) r q
  | .bk _ _, h => fun m2 H2 σ' y r q => h m2 H2 σ' (x.trans y) r q
  | .ct _ _, h => fun m2 H2 σ' y r q => h m2 H2 σ' (x.trans y) r q
  | .rt _ _, h => fun m2 H2 σ' y r q => h m2 H2 σ' (x.trans y) r q
  | .ex _ _ _ _, h => fun m2 H2 d y σ' z r q => h m2 H2 d y σ' (x.trans z) r q
  | .no, h => h
def bindF {α : Type} (e : Sl) (r : Rs α) (f : α → Sto → Fl) : Fl := match r with
  | .ok a s => f a s
  | .ex c v s => .ex c v e s
  | .no => .no
theorem liftR_bind {α : Type} (e : Sl) (r : Rs α) (f : α → Sto → Rs Sl) : liftR e (r.bind f) = bindF e r fun a s => liftR e (f a s) := by cases r <;> rfl
theorem postF_k {α δ : Type} {R : Mu → Hp → α → δ → Prop} {r : Rs α} {f : α → Sto → Fl} {D : Ends} {T : δ → Hp → Prop} (re : RE K m H e σ) (h : PostF K cl W D m H (bindF e r f))
    (k : ∀ x H1 m1 v s1, RE K m1 H1 e σ → Ext m H m1 H1 → RS K m1 H1 s1 → R m1 H1 v x → PostF K cl W D m1 H1 (f v s1) → T x H1) : Post K cl R (WE W σ) T m H r := by
  cases r with
  | ok a s1 => exact fun m' H' b x rs rv => k b H' m' a s1 (re.ext x) x rs rv (PostF.ext x h)
  | ex c v s1 => exact fun m' H' d y x rs rv hd => h m' H' d y σ x rs rv hd (re.ext x)
  | no => exact h
theorem sE_k {ie : IE} {f : Vl → Sto → Fl} {D : Ends} {T : VK} (re : RE K m H e σ) (rs : RS K m H s) (h : PostF K cl W D m H (bindF e (ev C ie e s) f))
    (k : ∀ x H1 m1 v s1, RE K m1 H1 e σ → Ext m H m1 H1 → RS K m1 H1 s1 → RV K m1 H1 v x → PostF K cl W D m1 H1 (f v s1) → T x H1) : tE K cl C W ie σ H T :=
  ⟨m, e, s, re, rs, postF_k re h k⟩
theorem sT_k {ie : IE} {f : Bool → Sto → Fl} {D : Ends} {T : Bool → Hp → Prop} (re : RE K m H e σ) (rs : RS K m H s) (h : PostF K cl W D m H (bindF e (evT C ie e s) f))
    (k : ∀ x H1 m1 s1, RE K m1 H1 e σ → Ext m H m1 H1 → RS K m1 H1 s1 → PostF K cl W D m1 H1 (f x s1) → T x H1) : tT K cl C W ie σ H T :=
  ⟨m, e, s, re, rs, postF_k (R := REq) re h fun x H1 m1 v s1 a b c d p => by cases d; exact k _ H1 m1 s1 a b c p⟩
theorem PostF.here {D : Ends} (re : RE K m H e σ) (rs : RS K m H s) (h : PostF K cl W D m H (.nx e s)) : D.nx σ H := h m H σ Ext.refl rs re
def tS (K : PySem.W.Frag) (cl : Nat → Value) (C : Cal) (W : WX) (fu : Nat) (is : IS) : TS := fun D σ H => At K σ H fun m e s => PostF K cl W D m H (exS C fu is e s)
theorem ifF {D : Ends} {c : IE} {f g : Sto → Fl} (h : PostF K cl W D m H (match ev C c e s with
    | .ok v s => (match isTrue? v with
      | some true => f s
      | some false => g s
      | none => .no)
    | .ex c v s => .ex c v e s
    | .no => .no)) : PostF K cl W D m H (bindF e (evT C c e s) fun b s => if b = true then f s else g s) := by
  unfold evT
  cases q : ev C c e s with
  | no => rw [q] at h; exact h
  | ex _ _ _ => rw [q] at h; exact h
  | ok v s1 =>
    rw [q] at h
    cases q2 : isTrue? v with
    | none => simp only [q2] at h; exact h.elim
    | some b =>
      simp only [q2] at h
      show PostF K cl W D m H (bindF e (ofO (isTrue? v) s1) _)
      rw [q2]
      cases b <;> exact h
end
/-! ### the stores of a tuple -/
section
variable {X : Cx} {sc : Scope}
theorem blockK (hk : X.env.scope.kind = .function) : X.env.blockKind = .function := by unfold Env.blockKind; rw [hk]; rfl
theorem swNames_eq (hs : X.env.scope = sc) (ts : List Expr) : (ts.filterMap fun
    | .Name id pos => if X.env.kindOf id == some .local && pos.line == (ts.head?.map (·.pos.line)).getD 0 then some id else none
    | _ => none) = swNames sc ts := by
  subst hs
  unfold swNames
  congr 1
theorem starAny (vs : List Expr) : (vs.any fun | .Starred .. => true | _ => false) = vs.any isStar := by
  congr 1
theorem sw_form {ts vs : List Expr} {k1 k2 : Nat} {p1 p2 : Pos} (hs : X.env.scope = sc) (hk : X.env.scope.kind = .function) : swappedStores [.Tuple ts k1 p1] (.Tuple vs k2 p2) X.env =
    if (!(ts.length == 2 || ts.length == 3) || vs.length != ts.length) = true then pure none else if vs.any isStar = true then pure none else
      if ((swNames sc ts).length != ts.length || (swNames sc ts).eraseDups.length != (swNames sc ts).length) = true then pure none else if vs.all (foldedForSure 8) = true then pure none else
        if vs.all (constantsAlone 8) = true then unsupported "assign.tuple-of-constant-expressions:order-of-the-stores" else pure (some (swNames sc ts)) := by
  unfold swappedStores
  rw [← swNames_eq hs, ← starAny]
  simp only [blockK hk]
  rw [show (ScopeKind.function != ScopeKind.function) = false from rfl, Bool.or_false]
  refine ite_congr rfl (fun _ => rfl) fun _ => ite_congr rfl (fun _ => rfl) fun _ => ite_congr rfl (fun _ => rfl) fun _ => ite_congr rfl (fun _ => rfl) fun _ => ?_
  split
  · trace_state
    rfl
  · rfl
theorem sw_none {ts vs : List Expr} {k1 k2 : Nat} {p1 p2 : Pos} (hs : X.env.scope = sc) (hk : X.env.scope.kind = .function) (h : swNone sc ts vs = true) : swappedStores [.Tuple ts k1 p1] (.Tuple vs k2 p2) X.env = pure none := by
  rw [sw_form hs hk]
  unfold swNone at h
  split
  · rfl
  · rename_i a
    rw [Bool.eq_false_iff.mpr a, Bool.false_or, Bool.and_eq_true] at h
    obtain ⟨h1, h2⟩ := h
    rw [if_neg (by intro z; rw [z] at h1; cases h1)]
    split
    · rfl
    · rename_i b
      rw [Bool.eq_false_iff.mpr b, Bool.false_or] at h2
      rw [if_pos h2]
theorem sw_some {ts vs : List Expr} {k1 k2 : Nat} {p1 p2 : Pos} (hs : X.env.scope = sc) (hk : X.env.scope.kind = .function) (h : swSome sc ts vs = true) : swappedStores [.Tuple ts k1 p1] (.Tuple vs k2 p2) X.env = pure (some (swNames sc ts)) := by
  rw [sw_form hs hk]
  unfold swSome at h
  simp only [Bool.and_eq_true] at h
  obtain ⟨⟨⟨⟨⟨⟨h1, h2⟩, h3⟩, h4⟩, h5⟩, h6⟩, h7⟩ := h
  rw [if_neg (by rw [h1]; simp only [bne, h2]; decide), if_neg (by intro z; rw [z] at h3; cases h3), if_neg (by simp only [bne, h4, h5]; decide), if_neg (by intro z; rw [z] at h6; cases h6), if_neg (by intro z; rw [z] at h7; cases h7)]
end
end SM

set_option maxHeartbeats 1000000
/-! SM: statements. -/
namespace SM
open PySem L2 PySem.Spec PyProof.Rows
structure CokS (G : Sg) (N : List Str) (cl : Nat → Value) (C : Cal) (k : Nat) (fnB : Str → Bool) (sc : Scope) (W : WX) (X : Cx) : Prop where
  c : Cok G N cl C k fnB sc W X
  kind : sc.kind = .function
  hp : PassesOwn (model X.prog X.w) X.A X.env X.xe
theorem PS.weak {X : Cx} {st : Stmt} {t t' : TS} (h : PS X st t) (w : ∀ D σ H, t' D σ H → t D σ H) : PS X st t' := ⟨fun pins s σ H D I q => h.run pins s σ H D I (w _ _ _ q)⟩
theorem PSs.weak {X : Cx} {st : List Stmt} {t t' : TS} (h : PSs X st t) (w : ∀ D σ H, t' D σ H → t D σ H) : PSs X st t' := ⟨fun pins s σ H D I q => h.run pins s σ H D I (w _ _ _ q)⟩
section
variable {G : Sg} {N : List Str} {cl : Nat → Value} {C : Cal} {k fu : Nat}
def OkS (G : Sg) (N : List Str) (cl : Nat → Value) (C : Cal) (k fu : Nat) (is : IS) : Prop := ∀ {sc : Scope} {fnB : Str → Bool} {W : WX} {X : Cx}, CokS G N cl C k fnB sc W X → ∀ {st : Stmt}, chkS G N fnB sc is st = true → PS X st (tS X.K cl C W fu is)
def OkSs (G : Sg) (N : List Str) (cl : Nat → Value) (C : Cal) (k fu : Nat) (is : IS) : Prop := ∀ {sc : Scope} {fnB : Str → Bool} {W : WX} {X : Cx}, CokS G N cl C k fnB sc W X → ∀ {sts : List Stmt}, chkSs G N fnB sc is sts = true → PSs X sts (tS X.K cl C W fu is)
section
variable {sc : Scope} {fnB : Str → Bool} {W : WX} {X : Cx}
theorem CokS.kk (c : CokS G N cl C k fnB sc W X) : X.env.scope.kind = .function := by rw [c.c.sc]; exact c.kind
theorem chk_dc {p1 p2 p3 p4 p5} : ∀ ie : IE, chk G N sc ie (.DictComp p1 p2 p3 p4 p5) = false := by
  intro ie
  induction ie with
  | frz a ih => exact ih
  | lit d => cases d <;> rfl
  | _ => rfl
theorem chk_sc {p1 p2 p3 p4} : ∀ ie : IE, chk G N sc ie (.SetComp p1 p2 p3 p4) = false := by
  intro ie
  induction ie with
  | frz a ih => exact ih
  | lit d => cases d <;> rfl
  | _ => rfl
theorem isLoc_eq {y : Str} : (sc.names.lookup y == some .local) = isLoc sc y := by
  unfold isLoc
  cases h : sc.names.lookup y with
  | none => rfl
  | some k => cases k <;> rfl
theorem sw_one (c : CokS G N cl C k fnB sc W X) {a : IE} {t e' : Expr} {l : Nat} (h : plainSt sc t e' = true) (h2 : chk G N sc a e' = true) : swapsWithSole [t] e' l X.env = pure false := by
  cases e' <;> first | rfl | (rw [chk_dc] at h2; cases h2; done) | (rw [chk_sc] at h2; cases h2; done) | skip
  cases t <;> first | rfl | (cases h; done) | skip
  rename_i elt gs scope pos y py
  have h : (!(isLoc sc y)) = true := h
  have hy : isLoc sc y = false := by simpa using h
  have ky : (X.env.kindOf y == some .local) = false := by
    show (X.env.scope.names.lookup y == some .local) = false
    rw [c.c.sc, isLoc_eq, hy]
  show swapsWith (.ListComp elt gs scope pos) (some (.Name y py)) l X.env = pure false
  unfold swapsWith
  simp only [ky, Bool.and_false, Bool.false_and]
theorem sw_two (c : CokS G N cl C k fnB sc W X) {t e' : Expr} (h : plainSt sc t e' = true) : swappedStores [t] e' X.env = pure none := by
  cases t <;> first | rfl | (cases h; done) | skip
  cases e' <;> first | rfl | skip
  exact sw_none c.c.sc c.kk h
theorem chkTg_one {tg : IE} {t : Expr} (h : chkTg G N fnB sc tg t = true) (env : Env) : (assignEach [t] env).map (·.2) = [assign t env] := by
  cases t <;> first | rfl | skip
  cases tg <;> cases h
def gS (K : PySem.W.Frag) (cl : Nat → Value) (C : Cal) (W : WX) (tg : IE) : TG := fun v σ H Q => ∃ m e s u, RE K m H e σ ∧ RS K m H s ∧ RV K m H u v ∧ PostF K cl W { nx := Q, rt := fun _ _ => False } m H (liftR e (asgT C tg u e s))
theorem snd_gS (c : Cok G N cl C k fnB sc W X) {tg : IE} {t : Expr} (h : chkTg G N fnB sc tg t = true) : PG X t (gS X.K cl C W tg) := by
  by_cases hi : ∃ a i, tg = .idx a i
  · obtain ⟨a, i, rfl⟩ := hi
    cases t <;> first | (cases h; done) | skip
    rename_i a' i' pos
    have h : (plainIx i' && chk G N sc a a' && chk G N sc i i') = true := h
    simp only [Bool.and_eq_true] at h
    obtain ⟨⟨h1, h2⟩, h3⟩ := h
    refine PG.weak (pg_sub ((oks a).e c h2) ((oks i).e c h3) set_ok (by cases i' <;> first | (intro _; rfl) | (cases h1; done))) fun v σ H Q ⟨m, e, s, u, re, rs, rv, p⟩ => ?_
    have p : PostF X.K cl W { nx := Q, rt := fun _ _ => False } m H (liftR e ((ev C a e s).bind fun o s => (ev C i e s).bind fun k s => match setV o k u s with
      | some s => .ok e s
      | none => .no)) := p
    rw [liftR_bind] at p
    refine sE_k re rs p fun x H1 m1 o s1 re1 x1 rs1 ro p => ?_
    rw [liftR_bind] at p
    refine sE_k re1 rs1 p fun y H2 m2 k s2 re2 x2 rs2 rk p => ?_
    cases q : setV o k u s2 with
    | none => simp only [q] at p; exact p.elim
    | some s3 =>
      simp only [q] at p
      exact ⟨m2, s2, o, k, u, s3, ro.ext x2, rk, (rv.ext x1).ext x2, rs2, q, fun m' H' x3 rs3 => p m' H' σ x3 rs3 (re2.ext x3)⟩
  · have e1 : chkG fnB sc N tg t = true := by
      cases tg <;> first | exact h | skip
      exact absurd ⟨_, _, rfl⟩ hi
    refine PG.weak (snd_tgV c tg t e1) fun v σ H Q ⟨m, e, s, u, re, rs, rv, p⟩ => ?_
    have e2 : asgT C tg u e s = ofO (setTgV tg u e) s := by
      cases tg <;> first | rfl | skip
      exact absurd ⟨_, _, rfl⟩ hi
    rw [e2] at p
    cases q : setTgV tg u e with
    | none => rw [q] at p; exact p.elim
    | some e' => rw [q] at p; exact ⟨m, e, u, e', re, rv, q, fun σ' re' _ => PostF.here re' rs p⟩
/-! ### a tuple of places -/
theorem tg1NoStar {tg : IE} {e : Expr} (h : chkTg G N fnB sc tg e = true) (es : List Expr) (env : Env) : assignEach (e :: es) env = (false, assign e env) :: assignEach es env := by
  cases e <;> first | rfl | skip
  cases tg <;> cases h
theorem tsNoStar {env : Env} : ∀ {tg : IE} {es : List Expr}, chkTs G N fnB sc tg es = true → assignEach es env = es.map fun e => (false, assign e env) := by
  intro tg
  induction tg with
  | cons a r _ ih =>
    intro es h
    cases es with
    | nil => rfl
    | cons e es =>
      simp only [chkTs, Bool.and_eq_true] at h
      rw [tg1NoStar h.1, ih h.2]; rfl
  | nil =>
    intro es h
    cases es with
    | nil => rfl
    | cons e es => cases h
  | _ => intro es h; cases h
theorem ts_len : ∀ {tg : IE} {es : List Expr}, chkTs G N fnB sc tg es = true → ieLen tg = es.length := by
  intro tg
  induction tg with
  | cons a r _ ih =>
    intro es h
    cases es with
    | nil => cases h
    | cons e es =>
      simp only [chkTs, Bool.and_eq_true] at h
      simp [ieLen, ih h.2]
  | nil =>
    intro es h
    cases es with
    | nil => rfl
    | cons e es => cases h
  | _ => intro es h; cases es <;> cases h
def gPs (K : PySem.W.Frag) (cl : Nat → Value) (C : Cal) (W : WX) (ts : IE) : TGs := fun vs σ H Q => ∃ m e s us, RE K m H e σ ∧ RS K m H s ∧ RVs K m H us vs ∧ PostF K cl W { nx := Q, rt := fun _ _ => False } m H (asgs C ts us e s)
theorem snd_gPs (c : Cok G N cl C k fnB sc W X) : ∀ {ts : IE} {tl : List Expr}, chkTs G N fnB sc ts tl = true → PGs X tl (gPs X.K cl C W ts) := by
  intro ts
  induction ts with
  | nil =>
    intro tl h
    cases tl <;> first | (cases h; done) | skip
    refine PGs.weak pgs_nil fun vs σ H Q ⟨m, e, s, us, re, rs, rv, p⟩ => ?_
    cases us with
    | nil => exact ⟨rv, PostF.here re rs p⟩
    | cons u us => exact p.elim
  | cons t r _ ih =>
    intro tl h
    cases tl <;> first | (cases h; done) | skip
    rename_i x xs
    simp only [chkTs, Bool.and_eq_true] at h
    refine PGs.weak (pgs_cons (snd_gS c h.1) (ih h.2) (by rw [tg1NoStar h.1]; rfl)) fun vs σ H Q ⟨m, e, s, us, re, rs, rv, p⟩ => ?_
    cases us with
    | nil => exact p.elim
    | cons u us =>
      obtain ⟨w, ws, ev, r1, r2⟩ := rv
      refine ⟨w, ws, ev, m, e, s, u, re, rs, r1, ?_⟩
      have p : PostF X.K cl W { nx := Q, rt := fun _ _ => False } m H (match asgT C t u e s with
        | .ok e' s' => asgs C r us e' s'
        | .ex c v s => .ex c v e s
        | .no => .no) := p
      cases q : asgT C t u e s with
      | ok e1 s1 =>
        rw [q] at p
        exact fun m' H' σ' x rs' re' => ⟨m', e1, s1, us, re', rs', r2.ext x, PostF.ext x p⟩
      | ex c v s1 => rw [q] at p; exact p
      | no => rw [q] at p; exact p.elim
  | _ => intro tl h; cases tl <;> cases h
theorem PostF.liftNx {m : Mu} {H : Hp} {e : Sl} {D D' : Ends} {r : Rs Sl} (h : PostF X.K cl W D m H (liftR e r)) (q : ∀ σ H, D.nx σ H → D'.nx σ H) : PostF X.K cl W D' m H (liftR e r) := by
  cases r with
  | ok e' s => exact fun m' H' σ' x r z => q _ _ (h m' H' σ' x r z)
  | ex c v s => exact h
  | no => exact h
theorem sndS_asg {tg a : IE} : OkS G N cl C k fu (.asg tg a) := by
  intro sc fnB W X c st h
  cases st <;> first | (cases h; done) | skip
  rename_i ts e' pos
  cases ts with
  | nil => cases h
  | cons t ts =>
  cases ts with
  | cons _ _ => cases h
  | nil =>
  have h : (chkTg G N fnB sc tg t && chk G N sc a e' && (plainSt sc t e' || asgLC sc tg a t e')) = true := by
    cases tg <;> exact h
  simp only [Bool.and_eq_true, Bool.or_eq_true] at h
  obtain ⟨⟨h1, h2⟩, h3⟩ := h
  rcases h3 with h3 | h3
  · refine PS.weak (ps_asg ((oks a).e c.c h2) (snd_gS c.c h1) (sw_one c h3 h2) (sw_two c h3) (chkTg_one h1 _)) fun D σ H ⟨m, e, s, re, rs, p⟩ => ?_
    have p : PostF X.K cl W D m H (liftR e ((ev C a e s).bind fun v s => asgT C tg v e s)) := p
    rw [liftR_bind] at p
    refine sE_k re rs p fun x H1 m1 v s1 re1 x1 rs1 rv p => ?_
    exact ⟨m1, e, s1, v, re1, rs1, rv, p.liftNx fun _ _ z => z⟩
  · cases tg <;> first | (cases h3; done) | skip
    rename_i i
    cases a <;> first | (cases h3; done) | skip
    rename_i mf elt tg' it cnd own
    · cases t <;> first | (cases h3; done) | skip
      rename_i y py
      cases e' <;> first | (cases h3; done) | skip
      rename_i elt' gens scope lpos
      have h3 : (isLoc sc y && (py.line == lpos.line) && !(scope.names.any fun p => p.1 == y && (p.2 == .local || p.2 == .cell))) = true := h3
      simp only [Bool.and_eq_true] at h3
      obtain ⟨⟨h4, h5⟩, h6⟩ := h3
      cases gens with
      | nil => cases h2
      | cons g gs =>
      cases gs with
      | cons _ _ =>
        obtain ⟨_, _, _, nn⟩ := g
        cases nn with
        | negSucc _ => cases h2
        | ofNat n => cases n <;> cases h2
      | nil =>
      obtain ⟨tg1, it1, ifs1, nn⟩ := g
      cases nn with
      | negSucc _ => cases h2
      | ofNat nn =>
      cases nn with
      | succ _ => cases h2
      | zero =>
      have h2 : (zipTg it tg1 && chki G N sc it it1 && blkC N sc scope (ownP N own) && chkG (blkF scope) (relS scope sc) N tg' tg1 && (tgS tg').all (fun i => decide (i ∈ own)) && chkc G N (relS scope sc) cnd ifs1 && chk G N (relS scope sc) elt elt') = true := h2
      simp only [Bool.and_eq_true] at h2
      obtain ⟨⟨⟨⟨⟨⟨g1, g2⟩, g3⟩, g4⟩, g5⟩, g6⟩, g7⟩ := h2
      have hsub : ∀ i ∈ tgS tg', i ∈ own := fun i hi => by
        have := List.all_eq_true.mp g5 i hi
        exact of_decide_eq_true this
      have h1 : (decide (N[i]? = some y) && locB sc y && (fnB y || isLoc sc y)) = true := h1
      simp only [Bool.and_eq_true, decide_eq_true_eq] at h1
      refine PS.weak (ps_setLc (i := i) (wi := tI X.K cl C W it) (g := tG X.K tg') (tt := tC X.K cl C noW cnd) (te := tE X.K cl C noW elt) (own := ownP N own) c.c.calm (by rw [c.c.n]; exact c.c.nd) (by rw [c.c.n]; exact h1.1.1) (by rw [c.c.sc]; exact isLoc_ok h4)
        (sw_true c.kk (by rw [c.c.sc]; exact isLoc_ok h4) h5 (by simpa using h6)) ((oks it).i c.c g1 g2) (by rw [c.c.n, c.c.sc]; exact blkOk_by g3)
        (fun s H Ca cls fp => snd_tgV (c.c.blk s H scope Ca cls fp) tg' tg1 g4) (fun s H Ca cls fp => (oks cnd).c (c.c.blk s H scope Ca cls fp) g6) (fun s H Ca cls fp => (oks elt).e (c.c.blk s H scope Ca cls fp) g7) (fun x => foldi (tg := tg1) g2 X.env x)) fun D σ H ⟨m, e, s, re, rs, p⟩ => ?_
      rw [own_map]
      refine comp_reads (cl := cl) (C := C) (W := W) (mf := mf) (sc := sc) (fnB := fnB) hsub _ _ _ ?_
      have p : PostF X.K cl W D m H (liftR e ((ev C (.comp mf elt tg' it cnd own) e s).bind fun v s => ofO (some (e.set i (some v))) s)) := p
      rw [liftR_bind] at p
      refine sE_k re rs p fun x H1 m1 v s1 re1 x1 rs1 rv p => ?_
      exact PostF.here (re1.set rv) rs1 p
theorem asgs_nx {D : Ends} {m : Mu} {H : Hp} : ∀ {ts : IE} {us : List Vl} {e : Sl} {s : Sto}, PostF X.K cl W D m H (asgs C ts us e s) → PostF X.K cl W { nx := D.nx, rt := fun _ _ => False } m H (asgs C ts us e s) := by
  intro ts
  induction ts with
  | nil =>
    intro us e s p
    cases us with
    | nil => exact p
    | cons u us => exact p
  | cons t r _ ih =>
    intro us e s p
    cases us with
    | nil => exact p
    | cons u us =>
      have p : PostF X.K cl W D m H (match asgT C t u e s with
        | .ok e' s' => asgs C r us e' s'
        | .ex c v s => .ex c v e s
        | .no => .no) := p
      show PostF X.K cl W { nx := D.nx, rt := fun _ _ => False } m H (match asgT C t u e s with
        | .ok e' s' => asgs C r us e' s'
        | .ex c v s => .ex c v e s
        | .no => .no)
      cases q : asgT C t u e s with
      | ok e1 s1 => rw [q] at p; exact ih p
      | ex c v s1 => rw [q] at p; exact p
      | no => rw [q] at p; exact p
  | _ => intro us e s p; exact p
theorem sndS_ptup {ts es : IE} : OkS G N cl C k fu (.ptup ts es) := by
  intro sc fnB W X c st h
  cases st <;> first | (cases h; done) | skip
  rename_i tl e' pos
  cases tl with
  | nil => cases h
  | cons t tl =>
  cases tl with
  | cons _ _ => cases t <;> cases e' <;> cases h
  | nil =>
  cases t <;> first | (cases h; done) | skip
  cases e' <;> first | (cases h; done) | skip
  rename_i ts' k1 p1 es' k2 p2
  have h : (chkTs G N fnB sc ts ts' && chks G N sc es es' && swNone sc ts' es') = true := h
  simp only [Bool.and_eq_true] at h
  obtain ⟨⟨h1, h2⟩, h3⟩ := h
  refine PS.weak (ps_asg (pe_tup ((oks es).a c.c h2)) (pg_tup (n := ts'.length) c.c.calm (snd_gPs c.c h1) (by rw [tsNoStar h1, List.length_map]) (by rw [tsNoStar h1]; exact findStar ts')) rfl (sw_none c.c.sc c.kk h3) rfl) fun D σ H ⟨m, e, s, re, rs, p⟩ => ?_
  have p : PostF X.K cl W D m H (bindF e (evs C es e s) fun vs s => if vs.length = ieLen ts ∧ vs.length ≤ 16777216 then asgs C ts vs e s else .no) := by
    have p : PostF X.K cl W D m H (match evs C es e s with
      | .ok vs s => if vs.length = ieLen ts ∧ vs.length ≤ 16777216 then asgs C ts vs e s else .no
      | .ex c v s => .ex c v e s
      | .no => .no) := p
    cases q : evs C es e s with
    | ok vs s1 => rw [q] at p; exact p
    | ex d v s1 => rw [q] at p; exact p
    | no => rw [q] at p; exact p
  refine ⟨m, e, s, re, rs, postF_k (R := fun m H us vs => RVs X.K m H us vs) re p fun xs H1 m1 vs s1 re1 x1 rs1 rv1 p => ?_⟩
  by_cases hz : vs.length = ieLen ts ∧ vs.length ≤ 16777216
  · rw [if_pos hz] at p
    have hl := rv1.length
    refine ⟨by rw [← hl, sizeLine_eq]; exact hz.2, fun q hq => ⟨q, xs, rfl, ?_, by rw [← hl, hz.1]; exact ts_len h1, m1, e, s1, vs, re1.ext (Ext.new hq), rs1.new hq, rv1.ext (Ext.new hq), ?_⟩⟩
    · exact .inl (.inl upd_same)
    · exact asgs_nx (PostF.ext (Ext.new (o := .tup xs) hq) p)
  · rw [if_neg hz] at p
    exact p.elim
theorem chk_starE {ie : IE} {e : Expr} (h : chk G N sc ie e = true) : isStar e = false := by
  cases e <;> first | rfl | (rw [chk_star] at h; cases h)
theorem sndS_par {t u a b : IE} : OkS G N cl C k fu (.par t u a b) := by
  intro sc fnB W X c st h
  cases t <;> first | (cases h; done) | skip
  rename_i i
  cases u <;> first | (cases h; done) | skip
  rename_i j
  cases st <;> first | (cases h; done) | skip
  rename_i ts e' pos
  cases ts with
  | nil => cases h
  | cons t ts =>
  cases t <;> first | (cases h; done) | skip
  rename_i es kt pt
  cases es with
  | nil => cases ts <;> cases h
  | cons t1 es =>
  cases t1 <;> first | (cases h; done) | skip
  rename_i x px
  cases es with
  | nil => cases ts <;> cases h
  | cons t2 es =>
  cases t2 <;> first | (cases h; done) | skip
  rename_i y py
  cases es with
  | cons _ _ => cases ts <;> cases h
  | nil =>
  cases ts with
  | cons _ _ => cases h
  | nil =>
  cases e' <;> first | (cases h; done) | skip
  rename_i vs k2 p2
  cases vs with
  | nil => cases h
  | cons a' vs =>
  cases vs with
  | nil => cases h
  | cons b' vs =>
  cases vs with
  | cons _ _ => cases h
  | nil =>
  have h : (decide (N[i]? = some x) && decide (N[j]? = some y) && !(i == j) && isLoc sc x && isLoc sc y && swSome sc [.Name x px, .Name y py] [a', b'] && chk G N sc a a' && chk G N sc b b') = true := h
  simp only [Bool.and_eq_true, decide_eq_true_eq] at h
  obtain ⟨⟨⟨⟨⟨⟨⟨h1, h2⟩, h3⟩, h4⟩, h5⟩, h6⟩, h7⟩, h8⟩ := h
  have hij : i ≠ j := by rintro rfl; simp at h3
  have st2 := star_ok h8 [] X.env
  have st1 := star_ok h7 [b'] X.env
  have nm : swNames sc [.Name x px, .Name y py] = [x, y] := by
    unfold swSome at h6
    simp only [Bool.and_eq_true] at h6
    have z := h6.1.1.1.2
    unfold swNames at z ⊢
    unfold nmOn at z ⊢
    simp only [List.filterMap_cons, List.filterMap_nil] at z ⊢
    split at z <;> split at z <;> simp_all
  have sw := sw_some (X := X) (k1 := kt) (k2 := k2) (p1 := pt) (p2 := p2) c.c.sc c.kk h6
  rw [nm] at sw
  refine PS.weak (ps_par (i := i) (j := j) c.c.calm (by rw [c.c.n]; exact c.c.nd) (by rw [c.c.n]; exact h1) (by rw [c.c.n]; exact h2) hij (by rw [c.c.sc]; exact isLoc_ok h4) (by rw [c.c.sc]; exact isLoc_ok h5)
    (pa_cons ((oks a).e c.c h7) (pa_cons ((oks b).e c.c h8) pa_nil st2) st1) sw) fun D σ H ⟨m, e, s, re, rs, p⟩ => ?_
  have p : PostF X.K cl W D m H (liftR e ((ev C a e s).bind fun v s => (ev C b e s).bind fun w s => .ok ((e.set i (some v)).set j (some w)) s)) := p
  rw [liftR_bind] at p
  refine sE_k re rs p fun x H1 m1 v s1 re1 x1 rs1 rv p => ?_
  rw [liftR_bind] at p
  refine sE_k re1 rs1 p fun y H2 m2 w s2 re2 x2 rs2 rw' p => ?_
  exact ⟨x, y, rfl, PostF.here ((re2.set (rv.ext x2)).set rw') rs2 p⟩
theorem sndS_par3 {i j l : Nat} {a b d : IE} : OkS G N cl C k fu (.par3 i j l a b d) := by
  intro sc fnB W X c st h
  cases st <;> first | (cases h; done) | skip
  rename_i ts e' pos
  cases ts with
  | nil => cases h
  | cons t ts =>
  cases t <;> first | (cases h; done) | skip
  rename_i es kt pt
  cases es with
  | nil => cases ts <;> cases h
  | cons t1 es =>
  cases t1 <;> first | (cases h; done) | skip
  rename_i x px
  cases es with
  | nil => cases ts <;> cases h
  | cons t2 es =>
  cases t2 <;> first | (cases h; done) | skip
  rename_i y py
  cases es with
  | nil => cases ts <;> cases h
  | cons t3 es =>
  cases t3 <;> first | (cases h; done) | skip
  rename_i z pz
  cases es with
  | cons _ _ => cases ts <;> cases h
  | nil =>
  cases ts with
  | cons _ _ => cases h
  | nil =>
  cases e' <;> first | (cases h; done) | skip
  rename_i vs k2 p2
  cases vs with
  | nil => cases h
  | cons a' vs =>
  cases vs with
  | nil => cases h
  | cons b' vs =>
  cases vs with
  | nil => cases h
  | cons d' vs =>
  cases vs with
  | cons _ _ => cases h
  | nil =>
  have h : (decide (N[i]? = some x) && decide (N[j]? = some y) && decide (N[l]? = some z) && !(i == j) && !(i == l) && !(j == l) && isLoc sc x && isLoc sc y && isLoc sc z &&
      swSome sc [.Name x px, .Name y py, .Name z pz] [a', b', d'] && chk G N sc a a' && chk G N sc b b' && chk G N sc d d') = true := h
  simp only [Bool.and_eq_true, decide_eq_true_eq] at h
  obtain ⟨⟨⟨⟨⟨⟨⟨⟨⟨⟨⟨⟨h1, h2⟩, h3⟩, h4⟩, h5⟩, h6⟩, h7⟩, h8⟩, h9⟩, g1⟩, g2⟩, g3⟩, g4⟩ := h
  have hij : i ≠ j := by rintro rfl; simp at h4
  have hil : i ≠ l := by rintro rfl; simp at h5
  have hjl : j ≠ l := by rintro rfl; simp at h6
  have st3 := star_ok g4 [] X.env
  have st2 := star_ok g3 [d'] X.env
  have st1 := star_ok g2 [b', d'] X.env
  have nm : swNames sc [.Name x px, .Name y py, .Name z pz] = [x, y, z] := by
    unfold swSome at g1
    simp only [Bool.and_eq_true] at g1
    have w := g1.1.1.1.2
    unfold swNames at w ⊢
    unfold nmOn at w ⊢
    simp only [List.filterMap_cons, List.filterMap_nil] at w ⊢
    split at w <;> split at w <;> split at w <;> simp_all
  have sw := sw_some (X := X) (k1 := kt) (k2 := k2) (p1 := pt) (p2 := p2) c.c.sc c.kk g1
  rw [nm] at sw
  refine PS.weak (ps_par3 (i := i) (j := j) (l := l) c.c.calm (by rw [c.c.n]; exact c.c.nd) (by rw [c.c.n]; exact h1) (by rw [c.c.n]; exact h2) (by rw [c.c.n]; exact h3) hij hil hjl (by rw [c.c.sc]; exact isLoc_ok h7) (by rw [c.c.sc]; exact isLoc_ok h8) (by rw [c.c.sc]; exact isLoc_ok h9)
    (pa_cons ((oks a).e c.c g2) (pa_cons ((oks b).e c.c g3) (pa_cons ((oks d).e c.c g4) pa_nil st3) st2) st1) sw) fun D σ H ⟨m, e, s, re, rs, p⟩ => ?_
  have p : PostF X.K cl W D m H (liftR e ((ev C a e s).bind fun v s => (ev C b e s).bind fun w s => (ev C d e s).bind fun x s => .ok (((e.set i (some v)).set j (some w)).set l (some x)) s)) := p
  rw [liftR_bind] at p
  refine sE_k re rs p fun x H1 m1 v s1 re1 x1 rs1 rv p => ?_
  rw [liftR_bind] at p
  refine sE_k re1 rs1 p fun y H2 m2 w s2 re2 x2 rs2 rw' p => ?_
  rw [liftR_bind] at p
  refine sE_k re2 rs2 p fun z H3 m3 u s3 re3 x3 rs3 ru p => ?_
  exact ⟨x, y, z, rfl, PostF.here (((re3.set ((rv.ext x2).ext x3)).set (rw'.ext x3)).set ru) rs3 p⟩
theorem binI_int {o : BOp} {x y z : Int} (h : decide (o = .add) = true ∨ decide (o = .sub) = true) (q : binI o x y = some z) : (o = .add ∧ z = x + y) ∨ (o = .sub ∧ z = x - y) := by
  rcases h with h | h
  · have e := of_decide_eq_true h
    subst e; cases q; exact .inl ⟨rfl, rfl⟩
  · have e := of_decide_eq_true h
    subst e; cases q; exact .inr ⟨rfl, rfl⟩
def augOp : BOp → Int → Int → Int
  | .add, i, j => i + j
  | _, i, j => i - j
def augI (o : BOp) : TIp := ipI (augOp o)
theorem ip_ok {o : BOp} (h : decide (o = .add) = true ∨ decide (o = .sub) = true) : PIp X (opOf o) (augI o) := by
  rcases h with h | h
  · have e := of_decide_eq_true h
    subst e; exact ip_add
  · have e := of_decide_eq_true h
    subst e; exact ip_sub
theorem sndS_aug {i : Nat} {o : BOp} {a : IE} : OkS G N cl C k fu (.aug i o a) := by
  intro sc fnB W X c st h
  cases st <;> first | (cases h; done) | skip
  rename_i t op e' pos
  cases t <;> first | (cases h; done) | skip
  rename_i x px
  have h : (decide (N[i]? = some x) && locB sc x && (fnB x || isLoc sc x) && decide (opOf o = op) && (decide (o = .add) || decide (o = .sub)) && chk G N sc a e') = true := h
  simp only [Bool.and_eq_true, decide_eq_true_eq] at h
  obtain ⟨⟨⟨⟨⟨h1, h2⟩, h3⟩, h4⟩, h5⟩, h6⟩ := h
  subst h4
  have h5 : decide (o = .add) = true ∨ decide (o = .sub) = true := by simpa using h5
  refine PS.weak (ps_aug (i := i) (by rw [c.c.n]; exact c.c.nd) (by rw [c.c.n]; exact h1) (by rw [c.c.sc]; exact locB_ok h2) ((oks a).e c.c h6) (ip_ok h5) (by
    rw [c.c.fnB, c.c.sc]
    rcases Bool.or_eq_true_iff.mp h3 with z | z
    · exact .inl z
    · exact .inr (isLoc_ok z))) fun D σ H ⟨m, e, s, re, rs, p⟩ => ?_
  have p : PostF X.K cl W D m H (match e[i]? with
    | some (some (.d (.int x))) => liftR e ((ev C a e s).bind fun y s => match y with
      | .d (.int y) => ofO ((binI o x y).map fun z => e.set i (some (.d (.int z)))) s
      | _ => .no)
    | _ => .no) := p
  split at p
  · rename_i x0 hx
    obtain ⟨v, e1, rv⟩ := re.at_ i _ hx
    cases rv
    refine ⟨_, e1, ?_⟩
    rw [liftR_bind] at p
    refine sE_k re rs p fun y H1 m1 v s1 re1 x1 rs1 rv p => ?_
    split at p
    · rename_i y0
      cases rv
      cases q : binI o x0 y0 with
      | none => rw [q] at p; exact p.elim
      | some z =>
        rw [q] at p
        have q2 : augOp o x0 y0 = z := by
          rcases binI_int h5 q with ⟨rfl, rfl⟩ | ⟨rfl, rfl⟩ <;> rfl
        refine ⟨x0, y0, rfl, rfl, ?_⟩
        show D.nx (σ.set i (some (.int (augOp o x0 y0)))) H1
        rw [q2]
        exact PostF.here (re1.set (u := .d (.int z)) rfl) rs1 p
    · exact p.elim
  · exact p.elim
theorem sndS_ite {a : IE} {x y : IS} (hx : OkSs G N cl C k fu x) (hy : OkSs G N cl C k fu y) : OkS G N cl C k fu (.ite a x y) := by
  intro sc fnB W X c st h
  cases st <;> first | (cases h; done) | skip
  rename_i a' x' y' pos
  have h : (tstF a' && chk G N sc a a' && chkSs G N fnB sc x x' && chkSs G N fnB sc y y') = true := h
  simp only [Bool.and_eq_true] at h
  obtain ⟨⟨⟨h1, h2⟩, h3⟩, h4⟩ := h
  refine PS.weak (ps_if ((oks a).t c.c h2 h1) (hx c h3) (hy c h4)) fun D σ H ⟨m, e, s, re, rs, p⟩ => ?_
  have p := ifF (f := fun s => exS C fu x e s) (g := fun s => exS C fu y e s) p
  refine sT_k re rs p fun b H1 m1 s1 re1 x1 rs1 p => ?_
  cases b with
  | true => exact ⟨m1, e, s1, re1, rs1, p⟩
  | false => exact ⟨m1, e, s1, re1, rs1, p⟩
theorem exS_ret (fu : Nat) {a : IE} {e : Sl} {s : Sto} : exS C fu (.ret a) e s = bindF e (ev C a e s) fun v s => .rt v s := by
  show (match ev C a e s with
    | .ok v s => Fl.rt v s
    | .ex c v s => .ex c v e s
    | .no => .no) = _
  cases ev C a e s <;> rfl
theorem exS_expr (fu : Nat) {a : IE} {e : Sl} {s : Sto} : exS C fu (.expr a) e s = bindF e (ev C a e s) fun v s => .nx e s := by
  show (match ev C a e s with
    | .ok _ s => Fl.nx e s
    | .ex c v s => .ex c v e s
    | .no => .no) = _
  cases ev C a e s <;> rfl
theorem sndS_ret {a : IE} : OkS G N cl C k fu (.ret a) := by
  intro sc fnB W X c st h
  cases st <;> first | (cases h; done) | (cases a <;> cases h; done) | skip
  rename_i e' pos
  cases e' with
  | some e' =>
    have h : chk G N sc a e' = true := by cases a <;> exact h
    refine PS.weak (ps_ret ((oks a).e c.c h)) fun D σ H ⟨m, e, s, re, rs, p⟩ => ?_
    have p : PostF X.K cl W D m H (bindF e (ev C a e s) fun v s => .rt v s) := by rw [← exS_ret fu]; exact p
    exact sE_k re rs p fun x H1 m1 v s1 re1 x1 rs1 rv p => p m1 H1 x Ext.refl rs1 rv
  | none =>
    cases a <;> first | (cases h; done) | skip
    rename_i d
    cases d <;> first | (cases h; done) | skip
    refine PS.weak ps_retN fun D σ H ⟨m, e, s, re, rs, p⟩ => ?_
    exact p m H .non Ext.refl rs rfl
theorem sndS_expr {a : IE} : OkS G N cl C k fu (.expr a) := by
  intro sc fnB W X c st h
  cases st <;> first | (cases h; done) | skip
  rename_i e' pos
  have h : (chk G N sc a e' && !isLC e') = true := h
  simp only [Bool.and_eq_true] at h
  refine PS.weak (ps_expr ((oks a).e c.c h.1) ?_) fun D σ H ⟨m, e, s, re, rs, p⟩ => ?_
  · obtain ⟨h1, h2⟩ := h
    cases e' <;> first | rfl | (rw [chk_dc] at h1; cases h1; done) | (rw [chk_sc] at h1; cases h1; done) | (cases h2; done)
  · have p : PostF X.K cl W D m H (bindF e (ev C a e s) fun v s => .nx e s) := by rw [← exS_expr fu]; exact p
    exact sE_k re rs p fun x H1 m1 v s1 re1 x1 rs1 rv p => PostF.here re1 rs1 p
theorem sndS_small : OkS G N cl C k fu .pass ∧ OkS G N cl C k fu .brk ∧ OkS G N cl C k fu .cont ∧ OkS G N cl C k fu .never := by
  refine ⟨?_, ?_, ?_, ?_⟩
  · intro sc fnB W X c st h
    cases st <;> first | (cases h; done) | skip
    · rename_i e' pos
      cases e' <;> first | (cases h; done) | skip
      rename_i d _ _
      cases d <;> first | (cases h; done) | skip
      exact PS.weak ps_doc fun D σ H ⟨m, e, s, re, rs, p⟩ => PostF.here re rs p
    · exact PS.weak ps_pass fun D σ H ⟨m, e, s, re, rs, p⟩ => PostF.here re rs p
  · intro sc fnB W X c st h
    cases st <;> first | (cases h; done) | skip
    exact PS.weak ps_break fun D σ H ⟨m, e, s, re, rs, p⟩ => p m H σ Ext.refl rs re
  · intro sc fnB W X c st h
    cases st <;> first | (cases h; done) | skip
    exact PS.weak ps_continue fun D σ H ⟨m, e, s, re, rs, p⟩ => p m H σ Ext.refl rs re
  · intro sc fnB W X c st h
    exact PS.weak ps_never fun D σ H ⟨m, e, s, re, rs, p⟩ => p
/-! ### loops -/
theorem loopF {m : Mu} {H : Hp} {D : Ends} {Nx : L2.St → Hp → Prop} {f : Fl} {g : Sl → Sto → Fl} (h : PostF X.K cl W D m H (match f with
    | .nx e s => g e s
    | .ct e s => g e s
    | .bk e s => .nx e s
    | .rt v s => .rt v s
    | .ex c v e s => .ex c v e s
    | .no => .no)) (hN : ∀ m' H' σ' e s, Ext m H m' H' → RS X.K m' H' s → RE X.K m' H' e σ' → PostF X.K cl W D m' H' (g e s) → Nx σ' H') : PostF X.K cl W { D with nx := Nx, ct := Nx, bk := D.nx } m H f := by
  cases f with
  | nx e s => exact fun m' H' σ' x rs re => hN m' H' σ' e s x rs re (PostF.ext x h)
  | ct e s => exact fun m' H' σ' x rs re => hN m' H' σ' e s x rs re (PostF.ext x h)
  | bk e s => exact h
  | rt v s => exact h
  | ex c v e s => exact h
  | no => exact h
theorem sndS_whil {a : IE} {x : IS} (hx : OkSs G N cl C k fu x) : OkS G N cl C k fu (.whil a x) := by
  intro sc fnB W X c st h
  cases st <;> first | (cases h; done) | skip
  rename_i a' x' orelse pos
  cases orelse with
  | cons _ _ => cases h
  | nil =>
  have h : (tstF a' && chk G N sc a a' && chkSs G N fnB sc x x') = true := h
  simp only [Bool.and_eq_true] at h
  obtain ⟨⟨h1, h2⟩, h3⟩ := h
  refine PS.weak (ps_while c.hp ((oks a).t c.c h2 h1) (hx c h3)) fun D σ H ⟨m, e, s, re, rs, p⟩ => ?_
  refine ⟨fun n σ H => At X.K σ H fun m e s => PostF X.K cl W D m H (whL (ev C a) (exS C fu x) n e s), ⟨fu, m, e, s, re, rs, p⟩, ?_⟩
  rintro n σ H ⟨m, e, s, re, rs, p⟩
  cases n with
  | zero => exact p.elim
  | succ n =>
    have p := ifF (f := fun s => match exS C fu x e s with
        | .nx e s => whL (ev C a) (exS C fu x) n e s
        | .ct e s => whL (ev C a) (exS C fu x) n e s
        | .bk e s => .nx e s
        | .rt v s => .rt v s
        | .ex c v e s => .ex c v e s
        | .no => .no) (g := fun s => .nx e s) p
    refine sT_k re rs p fun b H1 m1 s1 re1 x1 rs1 p => ?_
    cases b with
    | false => exact PostF.here re1 rs1 p
    | true =>
      refine ⟨fun σ' H' => At X.K σ' H' fun m e s => PostF X.K cl W D m H' (whL (ev C a) (exS C fu x) n e s), fun σ' H' q => ⟨n, Nat.lt_succ_self n, q⟩, ?_⟩
      exact ⟨m1, e, s1, re1, rs1, loopF p fun m' H' σ' e s x rs re q => ⟨m', e, s, re, rs, q⟩⟩
end
end
end SM

set_option maxHeartbeats 1000000
/-! SM: for; every statement. -/
namespace SM
open PySem L2 PySem.Spec PyProof.Rows
section
variable {G : Sg} {N : List Str} {cl : Nat → Value} {C : Cal} {k fu : Nat}
def turnS (C : Cal) (fu : Nat) (tg : IE) (body : IS) : Vl → Sl → Sto → Fl := fun v e s => match setTgV tg v e with
  | none => .no
  | some e => exS C fu body e s
theorem exS_for {tg it : IE} {body : IS} {e : Sl} {s : Sto} : exS C fu (.forr tg it body) e s = bindF e (itr C it e s) fun I s => goI (turnS C fu tg body) I e s := by
  show (match itr C it e s with
    | .ok I s => goI (turnS C fu tg body) I e s
    | .ex c v s => .ex c v e s
    | .no => .no) = _
  cases itr C it e s <;> rfl
theorem sndS_forr {tg it : IE} {body : IS} (hb : OkSs G N cl C k fu body) : OkS G N cl C k fu (.forr tg it body) := by
  intro sc fnB W X c st h
  cases st <;> first | (cases h; done) | skip
  rename_i t it' body' orelse pos
  cases orelse with
  | cons _ _ => cases h
  | nil =>
  have h : (chkG fnB sc N tg t && zipTg it t && chki G N sc it it' && chkSs G N fnB sc body body') = true := h
  simp only [Bool.and_eq_true] at h
  obtain ⟨⟨⟨h1, h2⟩, h3⟩, h4⟩ := h
  refine PS.weak (ps_for c.hp c.c.calm ((oks it).i c.c h2 h3) (snd_tgV c.c tg t h1) (hb c h4) (fun x => foldi (tg := t) h3 X.env x)) fun D σ H ⟨m, e, s, re, rs, p⟩ => ?_
  replace p : PostF X.K cl W D m H (exS C fu (.forr tg it body) e s) := p
  rw [exS_for] at p
  refine ⟨m, e, s, re, rs, postF_k (R := RI X.K) re p fun J H1 m1 I s1 re1 x1 rs1 ri p => ?_⟩
  cases I with
  | vals ds =>
    obtain ⟨Gd, Y, wk, hg, hy⟩ := ri
    have p : PostF X.K cl W D m1 H1 (goL (turnS C fu tg body) ds e s1) := p
    refine for_it wk (fun i σ' H' => ∃ m' e' s', Wk m1 H1 m' H' ∧ RE X.K m' H' e' σ' ∧ RS X.K m' H' s' ∧ PostF X.K cl W D m' H' (goL (turnS C fu tg body) (ds.drop i) e' s')) ?_ ?_ ?_ ?_
    · exact ⟨m1, e, s1, Ext.refl.wk, re1, rs1, p⟩
    · rintro i σ' H' - ⟨m', e', s', w, _, _, _⟩
      exact hg _ _ w
    · rintro i x σ' H' H'' hi ⟨m', e', s', w, re', rs', p⟩ y
      obtain ⟨k1, d, k2, k3⟩ := hy _ _ _ _ _ _ w rs' hi y
      rw [List.getElem?_eq_getElem hi] at k2
      injection k2 with k2
      rw [List.drop_eq_getElem_cons hi, k2] at p
      have xs : Ext m' H' m' H'' := Ext.same k1
      have p : PostF X.K cl W D m' H' (match turnS C fu tg body (.d d) e' s' with
        | .nx e s => goL (turnS C fu tg body) (ds.drop (i + 1)) e s
        | .ct e s => goL (turnS C fu tg body) (ds.drop (i + 1)) e s
        | .bk e s => .nx e s
        | .rt v s => .rt v s
        | .ex c v e s => .ex c v e s
        | .no => .no) := p
      unfold turnS at p
      cases q : setTgV tg (.d d) e' with
      | none => simp only [q] at p; exact p.elim
      | some e1 =>
        simp only [q] at p
        refine ⟨m', e', .d d, e1, re'.ext xs, k3, q, fun σ2 re2 _ => ⟨m', e1, s', re2, rs'.same k1, loopF (PostF.ext xs p) fun m2 H2 σ3 e2 s2 x2 rs2 re2 p2 => ?_⟩⟩
        exact ⟨m2, e2, s2, (w.trans xs.wk).trans x2.wk, re2, rs2, p2⟩
    · rintro σ' H' ⟨m', e', s', w, re', rs', p⟩
      rw [List.drop_length] at p
      exact PostF.here re' rs' p
  | ref n =>
    obtain ⟨a, ha, rfl⟩ := ri
    have hn1 : n < m1.l.length := (List.getElem?_eq_some_iff.mp ha).1
    have p : PostF X.K cl W D m1 H1 (goR (turnS C fu tg body) n ((listAt n s1).map List.length |>.getD 0) 0 e s1) := p
    refine ⟨fun i f σ' H' => ∃ m' e' s', Wk m1 H1 m' H' ∧ RE X.K m' H' e' σ' ∧ RS X.K m' H' s' ∧ PostF X.K cl W D m' H' (goR (turnS C fu tg body) n f i e' s'), ⟨_, m1, e, s1, Ext.refl.wk, re1, rs1, p⟩, ?_⟩
    rintro i f σ' H' ⟨m', e', s', w, re', rs', p⟩
    unfold goR at p
    cases ql : listAt n s' with
    | none => rw [ql] at p; exact p.elim
    | some us =>
    rw [ql] at p
    simp only at p
    obtain ⟨a', zs, z1, z2, z3⟩ := rs'.at_ n us (listAt_of ql)
    have ea : a' = a := by
      rcases w.pl n hn1 with z | z
      · rw [z, ha] at z1; cases z1; rfl
      · rw [z] at z1; cases z1
    subst ea
    cases qi : us[i]? with
    | none =>
      rw [qi] at p
      refine .inl ⟨⟨zs, SqL.of z2, ?_⟩, PostF.here re' rs' p⟩
      rw [← z3.length]
      exact List.getElem?_eq_none_iff.mp qi
    | some u =>
      rw [qi] at p
      simp only at p
      cases f with
      | zero => exact p.elim
      | succ f =>
      simp only at p
      obtain ⟨x, w1, w2⟩ := z3.get qi
      refine .inr ⟨⟨zs, x, SqL.of z2, w1⟩, fun σ' H' => ∃ m' e' s', Wk m1 H1 m' H' ∧ RE X.K m' H' e' σ' ∧ RS X.K m' H' s' ∧ PostF X.K cl W D m' H' (goR (turnS C fu tg body) n f (i + 1) e' s'), fun σ' H' q => ⟨f, Nat.lt_succ_self f, q⟩, fun x' H'' y => ?_⟩
      obtain ⟨rfl, y⟩ := y
      have := y zs (SqL.of z2)
      rw [w1] at this
      cases this
      have p : PostF X.K cl W D m' H'' (match turnS C fu tg body u e' s' with
        | .nx e s => goR (turnS C fu tg body) n f (i + 1) e s
        | .ct e s => goR (turnS C fu tg body) n f (i + 1) e s
        | .bk e s => .nx e s
        | .rt v s => .rt v s
        | .ex c v e s => .ex c v e s
        | .no => .no) := p
      unfold turnS at p
      cases q : setTgV tg u e' with
      | none => simp only [q] at p; exact p.elim
      | some e1 =>
        simp only [q] at p
        refine ⟨m', e', u, e1, re', w2, q, fun σ2 re2 _ => ⟨m', e1, s', re2, rs', loopF p fun m2 H2 σ3 e2 s2 x2 rs2 re2 p2 => ?_⟩⟩
        exact ⟨m2, e2, s2, w.trans x2.wk, re2, rs2, p2⟩
structure OksS (G : Sg) (N : List Str) (cl : Nat → Value) (C : Cal) (k fu : Nat) (is : IS) : Prop where
  s : OkS G N cl C k fu is
  b : OkSs G N cl C k fu is
theorem OksS.one {is : IS} (s : OkS G N cl C k fu is) (h : ∀ (fnB : Str → Bool) (sc : Scope) (sts : List Stmt), chkSs G N fnB sc is sts = false) : OksS G N cl C k fu is := ⟨s, fun _ _ q => by rw [h] at q; cases q⟩
theorem oksS : ∀ is : IS, OksS G N cl C k fu is := by
  intro is
  induction is with
  | nil =>
    refine ⟨fun {sc} {fnB} {W} {X} c {st} h => (by cases st <;> cases h), fun {sc} {fnB} {W} {X} c {sts} h => ?_⟩
    cases sts with
    | cons _ _ => cases h
    | nil => exact PSs.weak pss_nil fun D σ H ⟨m, e, s, re, rs, p⟩ => PostF.here re rs p
  | cons a r iha ihr =>
    refine ⟨fun {sc} {fnB} {W} {X} c {st} h => (by cases st <;> cases h), fun {sc} {fnB} {W} {X} c {sts} h => ?_⟩
    cases sts with
    | nil => cases h
    | cons st sts =>
      have h : (chkS G N fnB sc a st && chkSs G N fnB sc r sts) = true := h
      simp only [Bool.and_eq_true] at h
      refine PSs.weak (pss_cons (iha.s c h.1) (ihr.b c h.2)) fun D σ H ⟨m, e, s, re, rs, p⟩ => ⟨m, e, s, re, rs, ?_⟩
      have p : PostF X.K cl W D m H (match exS C fu a e s with
        | .nx e s => exS C fu r e s
        | f => f) := p
      show PostF X.K cl W { nx := tS X.K cl C W fu r D, rt := D.rt, bk := D.bk, ct := D.ct } m H (exS C fu a e s)
      cases q : exS C fu a e s with
      | nx e1 s1 => rw [q] at p; exact fun m' H' σ' x rs re => ⟨m', e1, s1, re, rs, PostF.ext x p⟩
      | rt _ _ => rw [q] at p; exact p
      | bk _ _ => rw [q] at p; exact p
      | ct _ _ => rw [q] at p; exact p
      | ex _ _ _ _ => rw [q] at p; exact p
      | no => rw [q] at p; exact p
  | asg tg e => exact .one sndS_asg fun _ _ x => by cases x <;> rfl
  | par t u a b => exact .one sndS_par fun _ _ x => by cases x <;> rfl
  | par3 => exact .one sndS_par3 fun _ _ x => by cases x <;> rfl
  | ptup => exact .one sndS_ptup fun _ _ x => by cases x <;> rfl
  | aug => exact .one sndS_aug fun _ _ x => by cases x <;> rfl
  | ite c a b iha ihb => exact .one (sndS_ite iha.b ihb.b) fun _ _ x => by cases x <;> rfl
  | forr tg it b ihb => exact .one (sndS_forr ihb.b) fun _ _ x => by cases x <;> rfl
  | whil c b ihb => exact .one (sndS_whil ihb.b) fun _ _ x => by cases x <;> rfl
  | ret => exact .one sndS_ret fun _ _ x => by cases x <;> rfl
  | expr => exact .one sndS_expr fun _ _ x => by cases x <;> rfl
  | pass => exact .one sndS_small.1 fun _ _ x => by cases x <;> rfl
  | brk => exact .one sndS_small.2.1 fun _ _ x => by cases x <;> rfl
  | cont => exact .one sndS_small.2.2.1 fun _ _ x => by cases x <;> rfl
  | never => exact ⟨sndS_small.2.2.2, fun {sc} {fnB} {W} {X} c {sts} h => PSs.weak pss_never fun D σ H ⟨m, e, s, re, rs, p⟩ => p⟩
end
end SM

set_option maxHeartbeats 1000000
/-! SM: defs, level by level; the law's own call. -/
namespace SM
open PySem L2 PySem.Spec PyProof.Rows
section
variable {P : Program} {w : World} {K : PySem.W.Frag} {mg : Str → Option Value} {base : Heap}
/-- a def whose body keeps it, where nothing is being shown -/
theorem fnG_of {x qual : Str} {params : Arguments} {body : List Stmt} {scope : Scope} {f : Addr} {fd : FuncData} {N ps : List Str} {k : Nat} {sp : Sp} (F : FunD K x qual params body scope [] [] f fd) (S : FnScope N ps scope)
    (len : ∀ vs H Q E, sp vs H Q E → vs.length = ps.length)
    (hb : ∀ (cdv : Value) (A : Around) (out : List Env) (s : Shared) (H : Hp) (vs : List V) (Q : VK) (E : XK), Room k (A.deeper (envOfC qual scope s.heap.objs.size f cdv)) → A.guards = some [] → sp vs H Q E →
      ∃ t, PSs (cxOf (L2.CX P w) P w K mg base N qual scope f cdv A out s H E) body t ∧ t { nx := fun _ H' => Q .non H', rt := Q } (start N vs) H) : FnG P w K mg base (k + 1) f fd ps sp := by
  obtain ⟨oc, od, dV, kV, doc, pm, an, cdv, ct, osl, rfl, lk, hcd, _, _⟩ := F.ex
  refine ⟨len, fun A out sh H args us vs Q E room gd env bind vals prom => ?_⟩
  have inK : K.In sh.heap := env.mod.kin.keeps fun b o q => (env.bs b o q).1
  have noLim : sh.heap.NoLimit := env.mod.nolimit.keeps fun b o q => (env.bs b o q).1
  have kinds : ∀ y ∈ ps.zip us, scope.names.lookup y.1 = some .local ∨ (scope.names.lookup y.1 = some .cell ∧ ((cellsFrom (sh.heap.objs.size + 1) scope.names []).lookup y.1).isSome = true) := by
    rintro ⟨nm, v⟩ hy
    exact (S.par nm (List.of_mem_zip hy).1).imp id fun q => ⟨q, PySem.W.cellsFrom_some _ _ _ (.inl q)⟩
  refine codeAny_call_function room.depth (inK _ _ lk) rfl S.co S.gen rfl (PySem.W.codeRec_of inK hcd) (bind _ _ _ _ (wpAny_newFunctionEnv_cells S.kind kinds fun env' he s1 incall => ?_))
  subst he
  refine ⟨noLim.keeps incall.toInCall.keep, codeAny_func ?_⟩
  obtain ⟨t, runs, holds⟩ := hb cdv A out sh H vs Q E (room.deeper _) gd prom
  have inv := inv_start (CX := L2.CX P w) (N := N) (E := E) S room.hd env (len _ _ _ _ prom) vals incall
  refine wpAny_mono (runs.run [] s1 (start N vs) H _ inv holds) (fun fl s' hs => ?_) fun e s' hs => hs
  cases fl with
  | ret u => obtain ⟨v, _, H', J, rv, q⟩ := hs; exact ⟨v, H', J.os, J.bare, J.base, J.hok, rv, q⟩
  | next => obtain ⟨_, H', J, q⟩ := hs; exact ⟨.non, H', J.os, J.bare, J.base, J.hok, rfl, q⟩
  | brk => obtain ⟨_, _, _, q⟩ := hs; exact q.elim
  | cont => obtain ⟨_, _, _, q⟩ := hs; exact q.elim
end
/-! ### the table of defs -/
structure DefAt (G : Sg) (K : PySem.W.Frag) (mg : Str → Option Value) (x : Str) (F : Df) (a : Addr) (fd : FuncData) (ps : List Str) : Prop where
  gl : mg x = some (.ref a)
  bd : ∀ (s : Shared) (us : List Value), us.length = ps.length → BindsTo s fd ⟨us, []⟩ (ps.zip us)
  np : F.np = ps.length
  kp : PySem.W.keepIn K (.ref a) = true
  kw : ∀ (nms : List Str) (perm : List Nat), (x, nms, perm) ∈ G.kws → KwB fd ps nms perm
  ex : ∃ (N : List Str) (qual : Str) (params : Arguments) (body : List Stmt) (scope : Scope), FunD K x qual params body scope [] [] a fd ∧ FnScope N ps scope ∧ F.ns = N.length ∧ chkSs G N (fun _ => true) scope F.body body = true
def DefOk (G : Sg) (K : PySem.W.Frag) (mg : Str → Option Value) (x : Str) (F : Df) : Prop := ∃ (a : Addr) (fd : FuncData) (ps : List Str), DefAt G K mg x F a fd ps
structure TabOk (G : Sg) (K : PySem.W.Frag) (mg : Str → Option Value) (P : List Df) : Prop where
  fn : ∀ (f : Nat) (x : Str), G.fns[f]? = some x → ∃ F, P[f]? = some F ∧ DefOk G K mg x F
  cn : ∀ (x : Str) (d : PyData), (x, d) ∈ G.cns → ∃ u v, mg x = some u ∧ L2.RelV v u ∧ ∀ m H, Rep K m H d v
  bi : ∀ x ∈ G.bis, mg x = none
  gc : ((("gcd" : Str) ∈ G.mth) → mg "gcd" = some (.builtin "math.gcd")) ∧ ((("lcm" : Str) ∈ G.mth) → mg "lcm" = some (.builtin "math.lcm"))
section
variable {G : Sg} {P : Program} {w : World} {K : PySem.W.Frag} {mg : Str → Option Value} {T : List Df} {cl : Nat → Value} {fu : Nat}
theorem leave_post {s₀ : Sto} {m : Mu} {H : Hp} {fl : Fl} {Q : VK} {E : XK} (rs : RS K m H s₀) (p : Post K cl (RV K) E Q m H (leave s₀ fl)) : PostF K cl (fun cls d _ H => E cls d H) { nx := fun _ H' => Q .non H', rt := Q } m H fl := by
  cases fl with
  | nx e s =>
    intro m' H' σ' x rs' _
    simp only [leave] at p
    split at p
    · rename_i c
      obtain ⟨h1, h2, h3⟩ := rs.cut x rs' (v := .d .none) (y := .non) rfl c
      exact p _ _ _ h1 h2 h3
    · exact p m' H' .non x rs' rfl
  | rt v s =>
    intro m' H' b x rs' rv
    simp only [leave] at p
    split at p
    · rename_i c
      obtain ⟨h1, h2, h3⟩ := rs.cut x rs' rv c
      exact p _ _ _ h1 h2 h3
    · exact p m' H' b x rs' rv
  | bk e s => exact (show False from p).elim
  | ct e s => exact (show False from p).elim
  | ex c v e s => exact fun m' H' d y σ' x rs' rv hd _ => p m' H' d y x rs' rv hd
  | no => exact p
theorem RVs.start {m : Mu} {H : Hp} {us : List Vl} {vs : List V} (r : RVs K m H us vs) (N : List Str) (n : Nat) (hn : us.length = n) : RE K m H (us.map some ++ List.replicate (N.length - n) none) (L2.start N vs) := by
  subst hn
  refine ⟨by unfold L2.start; simp [r.length], fun i v h => ?_⟩
  have hl := r.length
  by_cases hi : i < us.length
  · rw [List.getElem?_append_left (by simpa using hi), List.getElem?_map] at h
    obtain ⟨u, e, rfl'⟩ := omap h
    cases rfl'
    obtain ⟨y, e2, rv⟩ := r.get e
    refine ⟨y, ?_, rv⟩
    unfold L2.start
    rw [List.getElem?_append_left (by simpa [← hl] using hi), List.getElem?_map, e2]
    rfl
  · rw [List.getElem?_append_right (by simpa using hi), List.getElem?_replicate] at h
    split at h <;> cases h
theorem callI_len {f : Nat} {F : Df} (hF : T[f]? = some F) {vs : List Vl} (h : vs.length ≠ F.np) (s : Sto) : ∀ k, callI T fu k f vs s = .no
  | 0 => rfl
  | k + 1 => by
    unfold callI
    rw [hF]
    exact if_neg h
theorem binds_all {fd : FuncData} {ps : List Str} (h : ∀ (s : Shared) (us : List Value), us.length = ps.length → BindsTo s fd ⟨us, []⟩ (ps.zip us)) : Binds K fd ps [] := fun s us _ hl => by
  rw [List.append_nil] at hl ⊢
  exact h s us hl
theorem level (tab : TabOk G K mg T) (base : Heap) : ∀ (k f : Nat) (x : Str) (F : Df) (a : Addr) (fd : FuncData) (ps : List Str), T[f]? = some F → DefAt G K mg x F a fd ps → FnG P w K mg base k a fd ps (spI K cl (callI T fu k) f ps.length)
  | 0, f, x, F, a, fd, ps, hF, D => by
    refine ⟨fun vs H Q E z => z.1, fun A out s H args us vs Q E _ _ _ _ _ z => ?_⟩
    obtain ⟨_, m, s, us, _, _, p⟩ := z
    exact p.elim
  | k + 1, f, x, F, a, fd, ps, hF, D => by
    obtain ⟨N, qual, params, body, scope, h2, h3, h5, h7⟩ := D.ex
    have h4 := D.np
    refine fnG_of h2 h3 (fun vs H Q E z => z.1) fun cdv A out s H vs Q E room gd z => ?_
    obtain ⟨hl, m, st, us, rv, rs, p⟩ := z
    have ck : Cok G N cl (callI T fu k) k (fun _ => true) scope (fun cls d _ H => E cls d H) (cxOf (L2.CX P w) P w K mg base N qual scope a cdv A out s H E) := by
      refine ⟨rfl, rfl, rfl, rfl, h3.nd, takes_of rfl rfl rfl rfl, gd, room, fun f x h => ?_, tab.cn, tab.bi, tab.gc⟩
      obtain ⟨F, hF, a, fd, ps, D⟩ := tab.fn f x h
      exact ⟨a, fd, ps, D.gl, D.kp, binds_all D.bd, fun vs s hl => callI_len hF (by rw [D.np]; exact hl) s k, D.kw, level tab base k f x F a fd ps hF D⟩
    refine ⟨_, (oksS (fu := fu) F.body).b ⟨ck, h3.kind, passes_of rfl⟩ h7, m, _, st, RVs.start rv N F.np (by rw [rv.length, hl, h4]), rs, leave_post rs ?_⟩
    have e : callI T fu (k + 1) f us st = leave st (exS (callI T fu k) fu F.body (us.map some ++ List.replicate (F.ns - F.np) none) st) := by
      show (match T[f]? with
        | some F => if us.length = F.np then leave st (exS (callI T fu k) fu F.body (us.map some ++ List.replicate (F.ns - F.np) none) st) else .no
        | none => .no) = _
      rw [hF]
      exact if_pos (by rw [rv.length, hl, h4])
    rw [e, h5] at p
    exact p
end
/-! ### the law's own call -/
/-- what is tracked at the start: the script, where it is no object of the module -/
noncomputable def hp0 (K : PySem.W.Frag) (a : Addr) (o : Obj) (ns : List Int) : Hp := fun b => if b = a then (match K.lookup a with
  | some _ => none
  | none => some (.frz o (.lst (ns.map V.int)))) else none
section
variable {K : PySem.W.Frag} {a : Addr} {o : Obj} {ns : List Int}
theorem hp0_ne {b : Addr} (h : b ≠ a) : hp0 K a o ns b = none := if_neg h
theorem hp0_some {b : Addr} {u : HO} (h : hp0 K a o ns b = some u) : b = a ∧ K.lookup a = none ∧ u = .frz o (.lst (ns.map V.int)) := by
  by_cases e : b = a
  · subst e
    have h : (match K.lookup b with
      | some _ => none
      | none => some (HO.frz o (.lst (ns.map V.int)))) = some u := (if_pos rfl).symm.trans h
    cases q : K.lookup b with
    | none => rw [q] at h; cases h; exact ⟨rfl, rfl, rfl⟩
    | some _ => rw [q] at h; cases h
  · rw [hp0_ne e] at h; cases h
theorem hp0_at (h : K.lookup a = none) : hp0 K a o ns a = some (.frz o (.lst (ns.map V.int))) := by
  unfold hp0
  rw [if_pos rfl, h]
end
theorem call_law {P : Program} {w : World} {K : PySem.W.Frag} {mg mb : Str → Option Value} {k : Nat} {fa a : Addr} {fd : FuncData} {x : Str} {sp : Sp} {sh : Shared} {vs : List Value} {ns : List Int}
    (inK : K.In sh.heap) (glo : sh.heap.Ns mainGlobals mg) (blt : sh.heap.Ns builtinsNs mb) (boot : ∀ x : Str, x ≠ "__name__" → mb x = bootBuiltins x) (lim : sh.heap.NoLimit) (noGen : sh.gens = #[])
    (obj : sh.heap.get? a = some { cls := .type "list", data := .seq vs.toArray }) (nums : IntsAre vs ns) (small : ns.length ≤ sizeLine) (room : Room k callerA)
    (keeps : ∀ base : Heap, K.In base → base.Ns mainGlobals mg → FnG P w K mg base k fa fd [x] sp) (binds : ∀ (s : Shared) (u : Value), BindsTo s fd ⟨[u], []⟩ [(x, u)])
    (prom : ∀ H : Hp, SqL K H a (ns.map V.int) → sp [.ref a] H (fun v _ => v = .bl true) fun _ _ _ => False) :
    codeAny (model P w) callerA (.call (.ref fa) ⟨[.ref a], []⟩) (fun r s' => r = .ok (.ret (.bool true)) ∧ OldK sh.heap s'.heap ∧ s'.os = sh.os ∧ AllBare s'.gens) sh := by
  have vals := vals_ints nums
  have count := nums.length
  generalize ho : ({ cls := .type "list", data := .seq vs.toArray } : Obj) = o at obj
  obtain ⟨T, hT⟩ : ∃ T : Hp, T = hp0 K a o ns := ⟨_, rfl⟩
  have only : ∀ {b : Addr}, T b ≠ none → b = a ∧ K.lookup a = none := fun {b} z => by
    cases q : T b with
    | none => exact absurd q z
    | some u => rw [hT] at q; exact ⟨(hp0_some q).1, (hp0_some q).2.1⟩
  have plain : ∀ {b : Addr} {c : Obj} {es : Array DictEntry} {n : Nat}, sh.heap.get? b = some c → c.data = .dict es n → T b = none := fun {b c es n} e d => by
    cases q : T b with
    | none => rfl
    | some u =>
      exfalso
      have ea := (only (by rw [q]; exact fun z => nomatch z)).1
      rw [ea, obj] at e
      cases e
      rw [← ho] at d
      exact nomatch d
  have keepNs : ∀ {b : Addr} {m : Str → Option Value}, sh.heap.Ns b m → (hidT sh.heap T).Ns b m := fun {b m} q => by
    obtain ⟨c, es, n, e, d, r⟩ := q
    exact ⟨c, es, n, hidT_get e (plain e d), d, r⟩
  have inB : K.In (hidT sh.heap T) := fun b c e => hidT_get (inK b c e) (by
    cases q : T b with
    | none => rfl
    | some u =>
      exfalso
      obtain ⟨e1, e2⟩ := only (b := b) (by rw [q]; exact fun z => nomatch z)
      rw [e1, e2] at e
      cases e)
  have wide : ∀ u, K.lookup a = some u → u = o := fun u e => by
    have := inK a u e
    rw [obj] at this
    exact (Option.some.inj this).symm
  have hS : SqL K T a (ns.map V.int) := by
    cases q : K.lookup a with
    | none =>
      refine .inl (.inr ⟨o, ?_⟩)
      rw [hT]
      exact hp0_at q
    | some u =>
      have := wide u q
      subst this
      subst ho
      exact .inr ⟨_, vs.toArray, _, q, rfl, rfl, rfl, by rw [List.size_toArray, count]; exact small, by simpa using vals⟩
  have hok : HOk P w T sh.heap := fun b u q => by
    rw [hT] at q
    obtain ⟨rfl, _, rfl⟩ := hp0_some q
    subst ho
    exact ⟨obj, by rw [List.length_map]; exact small, vs, _, vals, obj⟩
  have noLim : (hidT sh.heap T).NoLimit := by
    obtain ⟨mc, q1, q2⟩ := lim
    exact ⟨mc, keepNs q1, q2⟩
  have env : Env0 P w K mg (hidT sh.heap T) callerA [] sh T :=
    ⟨rfl, ⟨inB, keepNs glo, ⟨mb, keepNs blt, boot⟩, noLim⟩, fun _ _ e => of_hidT e, Nat.le_of_eq (hidT_size _ _), trivial, fun b z => (by cases z), hok, .of_eq noGen⟩
  have run := (keeps _ inB (keepNs glo)).run callerA [] sh T ⟨[.ref a], []⟩ [.ref a] [.ref a] _ _ room rfl env (binds sh (.ref a)) (.cons rfl .nil) (prom T hS)
  refine codeAny_mono run fun r s' h => ?_
  cases r with
  | error e =>
    obtain ⟨_, _, _, _, _, _, _, _, _, _, _, _, z⟩ := h
    exact z.elim
  | ok fl =>
    cases fl with
    | next => exact False.elim h
    | brk => exact False.elim h
    | cont => exact False.elim h
    | ret u =>
      obtain ⟨v, T', os, bare, un, hok', rel, q⟩ := h
      have q : v = .bl true := q
      subst q
      have eu : u = Value.bool true := rel
      subst eu
      refine ⟨rfl, OldK.of_keep fun b c e => ?_, os, bare⟩
      cases q : T b with
      | none => exact un.keep b c e q (fun z => by cases z) (by simp)
      | some u =>
        rw [hT] at q
        obtain ⟨rfl, q2, rfl⟩ := hp0_some q
        rw [obj] at e
        cases e
        exact (hok' _ _ (un.frzs _ _ _ (by rw [hT]; exact hp0_at q2))).1
/-- the end of a law's head: the table of defs, the law among them, its run by values -/
theorem walk_law {l : PySem.W.OpenLaw} {n k fu : Nat} {q : Program} {loose : List Str} {XP : (Str → Option Value) → Heap → Prop} {YP : World → Heap → Prop} {d : DefRec} {G : Sg} {T : List Df} {fl : Nat}
    (most : l.most = some n) (small : n ≤ sizeLine) (noDef : d.params.defaults = []) (room : Room k callerA)
    (facts : ∀ (w : World) (mg : Str → Option Value) (h : Heap), YP w h → h.Ns mainGlobals mg → ∃ K : PySem.W.Frag, K.In h ∧ TabOk G K mg T) (name : G.fns[fl]? = some d.name) (one : (T[fl]?).map Df.np = some 1)
    (law : ∀ ns : List Int, ns.length ≤ n → (∀ i ∈ ns, Builtin.Int.intBits i ≤ 1048576) → ∃ s, callI T fu k fl [.d (.list (ns.map PyData.int))] [] = .ok (.d (.bool true)) s) :
    PySem.W.WalkO q loose XP YP l.row.toRowW d [] (fun f vs => PySem.call f vs) := by
  refine Att.attach_callB most noDef fun w s₀ sh mg mb fa o pm cd doc a vs ns ground yes _ _ _ atName obj nums len bits noGen => ?_
  obtain ⟨K, inK, tab⟩ := facts w mg _ yes ground.T.g
  obtain ⟨F, hF, a', fd, ps, D⟩ := tab.fn fl d.name name
  have q1 := D.gl
  rw [atName] at q1
  cases q1
  rw [hF] at one
  have one : some F.np = some 1 := one
  have e1 : ps.length = 1 := by injection one with e; rw [← D.np, e]
  obtain ⟨x, rfl⟩ : ∃ x, ps = [x] := by
    cases ps with
    | nil => cases e1
    | cons x r => cases r with
      | nil => exact ⟨x, rfl⟩
      | cons _ _ => cases e1
  refine call_law (P := l.prog) (w := w) (x := x) (fd := fd) (sp := spI K (fun _ => .none) (callI T fu k) fl 1) inK ground.T.g ground.T.b ground.T.builtins ground.T.nolimit noGen obj nums (Nat.le_trans len small) room (fun base _ _ => ?_) (fun s u => D.bd s [u] rfl) fun H hS => ?_
  · exact level tab base k fl d.name F fa fd [x] hF D
  · obtain ⟨s, hs⟩ := law ns len bits
    refine ⟨rfl, ⟨[], []⟩, [], [.d (.list (ns.map PyData.int))], ⟨_, [], rfl, ⟨a, _, rfl, ?_, RVs.ofInts ns⟩, rfl⟩, ⟨rfl, fun n vs q => (by simp at q), fun n q => (by simp at q), fun i j a q => (by simp at q), fun a q => (by simp at q)⟩, ?_⟩
    · rcases hS with z | z
      · exact .inl ⟨fun q => q.elim (fun q => (by cases q)) fun q => (by cases q), z⟩
      · exact .inr z
    · rw [hs]
      intro m' H' b _ _ r
      exact r
end SM

set_option maxHeartbeats 1000000
/-! SM: what the head tells of the defs. -/
namespace SM
open PySem L2 PySem.Spec PyProof.Rows
/-- an import's built-in function -/
def impB (K : PySem.W.Frag) (g : Str × String) : Bool := He.eqO (PySem.W.nsIn K mainGlobals g.1) (some (some (.builtin g.2)))
def intsB : List Value → List Int → Bool
  | [], [] => true
  | .int i _ :: r, j :: q => decide (i = j) && intsB r q
  | _, _ => false
/-- a tuple of ints -/
def tupB (K : PySem.W.Frag) (g : Str × List Int) : Bool := match PySem.W.nsIn K mainGlobals g.1 with
  | some (some (.ref a)) => (match K.lookup a with
    | some o => decide (o.cls = .type "tuple") && (match o.data with
      | .seq its _ => decide (its.size ≤ sizeLine) && intsB its.toList g.2
      | _ => false)
    | none => false)
  | _ => false
/-- what else the head tells -/
inductive Gx where
  | imp (x : Str) (b : String)
  | tup (x : Str) (ns : List Int)
def Gx.ok (K : PySem.W.Frag) : Gx → Bool
  | .imp x b => impB K (x, b)
  | .tup x ns => tupB K (x, ns)
abbrev AlG : Type := He.AlD × Bool
def obsGG (n : Nat) (fa : List He.Fa) (fn : List He.DefD) (gs : List Gx) (g : Addr → Option Obj) : AlG := (He.obsD fa fn (He.frG g (He.asD g n)), gs.all (Gx.ok (He.frG g (He.asD g n))))
def hookG (n : Nat) (fa : List He.Fa) (fn : List He.DefD) (gs : List Gx) : PySem.W.Hook where
  α := AlG
  obs := fun s => obsGG n fa fn gs s.heap.get?
  val := fun _ => (He.valD fn, true)
  says := fun _ h => ∃ K : PySem.W.Frag, K.In h ∧ He.SaysD fa fn K ∧ gs.all (Gx.ok K) = true
  of := fun _ _ e => ⟨_, He.frG_in, (Prod.mk.inj e).1, (Prod.mk.inj e).2⟩
  keeps := fun _ _ _ ⟨K, hK, c⟩ k => ⟨K, PySem.W.Frag.In.keeps hK k, c⟩
theorem obsGG_eq {n : Nat} {fa : List He.Fa} {fn : List He.DefD} {gs : List Gx} {g : Addr → Option Obj} {s : Shared} (h : ∀ a, g a = s.heap.get? a) : obsGG n fa fn gs g = (hookG n fa fn gs).obs s := by
  have e : g = s.heap.get? := funext h
  rw [e] <;> rfl
section
variable {G : Sg} {K : PySem.W.Frag} {h : Heap} {mg : Str → Option Value} {fa : List He.Fa} {fn : List He.DefD}
theorem imp_ok (X : K.In h) (ns : h.Ns mainGlobals mg) {gs : List Gx} (c : gs.all (Gx.ok K) = true) {x : Str} {b : String} (m : Gx.imp x b ∈ gs) : mg x = some (.builtin b) :=
  PySem.W.mg_of X ns (He.eqO_ok (List.all_eq_true.mp c _ m))
theorem kwA {x qual : Str} {params : Arguments} {body : List Stmt} {scope : Scope} {f : Addr} {fd : FuncData} {ps nms : List Str} {perm : List Nat} (F : FunD K x qual params body scope [] [] f fd)
    (q : ∀ (kV doc pm : Value) (an : Option Addr) (cdv ct : Value) (us zs : List Value), us.length = nms.length → permL us perm = some zs → bindArgs (PySem.W.fnOf x qual params body scope .none kV doc pm an cdv ct) ⟨[], nms.zip us⟩ = pure (ps.zip zs)) : KwB fd ps nms perm := by
  obtain ⟨oc, od, dV, kV, doc, pm, an, cdv, ct, osl, rfl, lk, hcd, hD, hK⟩ := F.ex
  rcases hD with ⟨_, rfl⟩ | ⟨e, _⟩
  · exact fun s us zs hl hp => .of_eq (q kV doc pm an cdv ct us zs hl hp)
  · exact absurd rfl e
theorem kw_none {α : Type} {x : Str} {l : List (Str × α)} (n : l.all (fun p => !decide (p.1 = x)) = true) {a : α} (m : (x, a) ∈ l) : False := by
  have := List.all_eq_true.mp n _ m
  simp at this
theorem kw_some {α : Type} [DecidableEq α] {x : Str} {l : List (Str × α)} {a b : α} (n : l.all (fun p => !decide (p.1 = x) || decide (p.2 = a)) = true) (m : (x, b) ∈ l) : b = a := by
  have := List.all_eq_true.mp n _ m
  simpa using this
theorem kw_two {α : Type} [DecidableEq α] {x : Str} {l : List (Str × α)} {a a' b : α} (n : l.all (fun p => !decide (p.1 = x) || (decide (p.2 = a) || decide (p.2 = a'))) = true) (m : (x, b) ∈ l) : b = a ∨ b = a' := by
  have := List.all_eq_true.mp n _ m
  simpa using this
/-- a def of the table -/
theorem defOk_of {i : Nat} {x qual : Str} {params : Arguments} {body : List Stmt} {scope : Scope} {F : Df} {N ps : List Str} (X : K.In h) (ns : h.Ns mainGlobals mg) (c : He.SaysD fa fn K) (j : Nat) (hf : fa[j]? = some (.glo x)) (hd : fn[i]? = some ⟨(x, none), x, qual, params, body, scope, [], []⟩)
    (S : FnScope N ps scope) (hp : F.np = ps.length) (hn : F.ns = N.length)
    (bd : ∀ (kV doc pm : Value) (an : Option Addr) (cdv ct : Value) (us : List Value), us.length = ps.length → bindArgs (PySem.W.fnOf x qual params body scope .none kV doc pm an cdv ct) ⟨us, []⟩ = pure (ps.zip us))
    (kw : ∀ (nms : List Str) (perm : List Nat), (x, nms, perm) ∈ G.kws → ∀ (kV doc pm : Value) (an : Option Addr) (cdv ct : Value) (us zs : List Value), us.length = nms.length → permL us perm = some zs →
      bindArgs (PySem.W.fnOf x qual params body scope .none kV doc pm an cdv ct) ⟨[], nms.zip us⟩ = pure (ps.zip zs))
    (ck : chkSs G N (fun _ => true) scope F.body body = true) : DefOk G K mg x F := by
  obtain ⟨fd, Fd⟩ := c.def_ i hd
  have gl := He.glo_ok X ns (c.fact j hf)
  exact ⟨_, fd, ps, gl, fun s us hl => FunD.bindsA Fd bd s us hl, hp, Fd.kp, fun nms perm m => kwA Fd (kw nms perm m), N, qual, params, body, scope, Fd, S, hn, ck⟩
theorem intsB_vals : ∀ {vs : List Value} {ns : List Int}, intsB vs ns = true → Vals (ns.map V.int) vs
  | [], [], _ => .nil
  | [], _ :: _, h => by cases h
  | v :: vs, [], h => by cases v <;> cases h
  | v :: vs, n :: ns, h => by
    cases v <;> first | (cases h; done) | skip
    simp only [intsB, Bool.and_eq_true, decide_eq_true_eq] at h
    obtain ⟨rfl, h2⟩ := h
    exact .cons ⟨_, rfl⟩ (intsB_vals h2)
theorem cn_tup (X : K.In h) (ns : h.Ns mainGlobals mg) {gs : List Gx} (c : gs.all (Gx.ok K) = true) {x : Str} {is : List Int} (m : Gx.tup x is ∈ gs) : ∃ u v, mg x = some u ∧ L2.RelV v u ∧ ∀ m H, Rep K m H (.tuple (is.map .int)) v := by
  have t : tupB K (x, is) = true := List.all_eq_true.mp c _ m
  unfold tupB at t
  split at t
  · rename_i a e
    split at t
    · rename_i o eo
      simp only [Bool.and_eq_true, decide_eq_true_eq] at t
      obtain ⟨t1, t2⟩ := t
      split at t2
      · rename_i its n ed
        simp only [Bool.and_eq_true, decide_eq_true_eq] at t2
        exact ⟨.ref a, .ref a, PySem.W.mg_of X ns e, rfl, fun m H => ⟨a, is.map V.int, rfl, .inr ⟨o, its, n, eo, t1, ed, t2.1, intsB_vals t2.2⟩, RVs.ofInts is⟩⟩
      · cases t2
    · cases t
  · cases t
theorem cn_int (X : K.In h) (ns : h.Ns mainGlobals mg) (c : He.SaysD fa fn K) (j : Nat) {x : Str} {i : Int} (hf : fa[j]? = some (.int x i)) : ∃ u v, mg x = some u ∧ L2.RelV v u ∧ ∀ m H, Rep K m H (.int i) v := by
  obtain ⟨t, e⟩ := He.int_ok X ns (c.fact j hf)
  exact ⟨_, .int i, e, ⟨t, rfl⟩, fun _ _ => rfl⟩
end
end SM

set_option maxHeartbeats 1000000
/-! SM: plain rules of the interpreter's runs. -/
namespace SM
open PySem
variable {C : Cal} {fu k : Nat} {e : Sl} {s : Sto}
theorem leave_pure (x : PyData) (s : Sto) : leave s (.rt (.d x) s) = .ok (.d x) s := by
  have h : Cut s (.d x) s := ⟨trivial, fun _ _ => .inl rfl⟩
  simp only [leave, if_pos h, List.take_length]
theorem leave_nx (e : Sl) (s : Sto) : leave s (.nx e s) = .ok (.d .none) s := by
  have h : Cut s (.d .none) s := ⟨trivial, fun _ _ => .inl rfl⟩
  simp only [leave, if_pos h, List.take_length]
/-! ### one step each -/
@[simp] theorem ok_bind {α β : Type} (a : α) (s : Sto) (f : α → Sto → Rs β) : (Rs.ok a s).bind f = f a s := rfl
@[simp] theorem bindF_ok {α : Type} (e : Sl) (a : α) (s : Sto) (f : α → Sto → Fl) : bindF e (.ok a s) f = f a s := rfl
@[simp] theorem ofO_some {α : Type} (a : α) (s : Sto) : ofO (some a) s = .ok a s := rfl
@[simp] theorem ofP_some {α : Type} (a : α) (s : Sto) : ofP (some (a, s)) = .ok a s := rfl
@[simp] theorem isTrue_bool (b : Bool) : isTrue? (Vl.d (.bool b)) = some b := rfl
@[simp] theorem optI_int (i : Int) : optI (.d (.int i)) = some i := rfl
@[simp] theorem ev_lit (d : PyData) : ev C (.lit d) e s = .ok (.d d) s := rfl
@[simp] theorem ev_glob (x : Str) (d : PyData) : ev C (.glob x d) e s = .ok (.d d) s := rfl
def varR (o : Option (Option Vl)) (s : Sto) : Rs Vl := match o with
  | some (some v) => .ok v s
  | _ => .no
@[simp] theorem varR_some (v : Vl) (s : Sto) : varR (some (some v)) s = .ok v s := rfl
@[simp] theorem ev_var (i : Nat) : ev C (.var i) e s = varR (e[i]?) s := by
  show (match e[i]? with
    | some (some v) => Rs.ok v s
    | _ => .no) = _
  unfold varR
  rfl
@[simp] theorem ev_bop (m : Bool) (o : BOp) (a b : IE) : ev C (.bop m o a b) e s = (ev C a e s).bind fun x s => (ev C b e s).bind fun y s => ofP (binV m o x y s) := rfl
def negR (x : Vl) (s : Sto) : Rs Vl := match x with
  | .d (.int i) => .ok (Vl.d (.int (-i))) s
  | _ => .no
@[simp] theorem negR_int (i : Int) (s : Sto) : negR (.d (.int i)) s = .ok (Vl.d (.int (-i))) s := rfl
@[simp] theorem ev_neg (a : IE) : ev C (.neg a) e s = (ev C a e s).bind negR := rfl
theorem evT_eq (a : IE) : evT C a e s = (ev C a e s).bind fun v s => ofO (isTrue? v) s := rfl
@[simp] theorem ev_not (a : IE) : ev C (.not a) e s = (evT C a e s).bind fun t s => .ok (Vl.d (.bool (!t))) s := by
  unfold evT
  show ((ev C a e s).bind fun x s => match isTrue? x with
    | some b => Rs.ok (Vl.d (.bool (!b))) s
    | none => .no) = _
  cases ev C a e s with
  | ok v s1 =>
    show (match isTrue? v with
      | some b => Rs.ok (Vl.d (.bool (!b))) s1
      | none => .no) = (ofO (isTrue? v) s1).bind _
    cases isTrue? v <;> rfl
  | ex _ _ _ => rfl
  | no => rfl
@[simp] theorem ev_cmp (o : COp) (a b : IE) : ev C (.cmp o a b) e s = (ev C a e s).bind fun x s => (ev C b e s).bind fun y s => ofO ((cmpV o x y s).map fun b => Vl.d (.bool b)) s := rfl
@[simp] theorem ev_chain (o p : COp) (a b c : IE) : ev C (.chain o p a b c) e s = (ev C a e s).bind fun x s => (ev C b e s).bind fun y s => (ofO (cmpV o x y s) s).bind fun t s => if t = true then (ev C c e s).bind fun z s => ofO ((cmpV p y z s).map fun b => Vl.d (.bool b)) s else .ok (Vl.d (.bool false)) s := by
  show ((ev C a e s).bind fun x s => (ev C b e s).bind fun y s => match cmpV o x y s with
    | some true => (ev C c e s).bind fun z s => ofO ((cmpV p y z s).map fun b => Vl.d (.bool b)) s
    | some false => .ok (Vl.d (.bool false)) s
    | none => .no) = _
  congr 1
  funext x s1
  congr 1
  funext y s2
  cases cmpV o x y s2 with
  | none => rfl
  | some t => cases t <;> rfl
@[simp] theorem ev_and (es : IE) : ev C (.and es) e s = ands C es e s := rfl
@[simp] theorem ev_or (es : IE) : ev C (.or es) e s = ors C es e s := rfl
@[simp] theorem ands_one (a : IE) : ands C (.cons a .nil) e s = ev C a e s := rfl
@[simp] theorem ors_one (a : IE) : ors C (.cons a .nil) e s = ev C a e s := rfl
/-- one of two runs, by a truth -/
def iteK {β : Type} (f g : Sl → Sto → β) (e : Sl) (t : Bool) (s : Sto) : β := if t = true then f e s else g e s
@[simp] theorem iteK_eq {β : Type} (f g : Sl → Sto → β) (e : Sl) (t : Bool) (s : Sto) : iteK f g e t s = if t = true then f e s else g e s := rfl
def litK (b : Bool) (_ : Sl) (s : Sto) : Rs Vl := .ok (Vl.d (.bool b)) s
@[simp] theorem litK_eq (b : Bool) (e : Sl) (s : Sto) : litK b e s = .ok (Vl.d (.bool b)) s := rfl
@[simp] theorem ands_two (a b r : IE) : ands C (.cons a (.cons b r)) e s = (evT C a e s).bind (iteK (ands C (.cons b r)) (litK false) e) := by
  unfold evT
  show ((ev C a e s).bind fun x s => match isTrue? x with
    | some true => ands C (.cons b r) e s
    | some false => Rs.ok (Vl.d (.bool false)) s
    | none => .no) = _
  cases ev C a e s with
  | ok v s1 =>
    show (match isTrue? v with
      | some true => ands C (.cons b r) e s1
      | some false => Rs.ok (Vl.d (.bool false)) s1
      | none => .no) = (ofO (isTrue? v) s1).bind _
    cases isTrue? v with
    | none => rfl
    | some t => cases t <;> rfl
  | ex _ _ _ => rfl
  | no => rfl
@[simp] theorem ors_two (a b r : IE) : ors C (.cons a (.cons b r)) e s = (evT C a e s).bind (iteK (litK true) (ors C (.cons b r)) e) := by
  unfold evT
  show ((ev C a e s).bind fun x s => match isTrue? x with
    | some false => ors C (.cons b r) e s
    | some true => Rs.ok (Vl.d (.bool true)) s
    | none => .no) = _
  cases ev C a e s with
  | ok v s1 =>
    show (match isTrue? v with
      | some false => ors C (.cons b r) e s1
      | some true => Rs.ok (Vl.d (.bool true)) s1
      | none => .no) = (ofO (isTrue? v) s1).bind _
    cases isTrue? v with
    | none => rfl
    | some t => cases t <;> rfl
  | ex _ _ _ => rfl
  | no => rfl
@[simp] theorem ev_ite (c a b : IE) : ev C (.ite c a b) e s = (evT C c e s).bind (iteK (ev C a) (ev C b) e) := by
  unfold evT
  show ((ev C c e s).bind fun x s => match isTrue? x with
    | some true => ev C a e s
    | some false => ev C b e s
    | none => .no) = _
  cases ev C c e s with
  | ok v s1 =>
    show (match isTrue? v with
      | some true => ev C a e s1
      | some false => ev C b e s1
      | none => .no) = (ofO (isTrue? v) s1).bind _
    cases isTrue? v with
    | none => rfl
    | some t => cases t <;> rfl
  | ex _ _ _ => rfl
  | no => rfl
@[simp] theorem ev_tup (es : IE) : ev C (.tup es) e s = (evs C es e s).bind fun vs s => if vs.length ≤ 16777216 then ofO ((allD vs).map fun ds => Vl.d (.tuple ds)) s else .no := rfl
@[simp] theorem ev_lst (m : Bool) (es : IE) : ev C (.lst m es) e s = (evs C es e s).bind fun vs s => ofP (mkL m vs s) := rfl
def repR (m : Bool) (vs : List Vl) (x : Vl) (s : Sto) : Rs Vl := match x with
  | .d (.int k) => if 0 ≤ k ∧ k ≤ 1000 then ofP (mkL m (List.replicate k.toNat vs).flatten s) else .no
  | _ => .no
@[simp] theorem repR_int (m : Bool) (vs : List Vl) (k : Int) (s : Sto) : repR m vs (.d (.int k)) s = if 0 ≤ k ∧ k ≤ 1000 then ofP (mkL m (List.replicate k.toNat vs).flatten s) else .no := rfl
@[simp] theorem ev_rep (m : Bool) (es k : IE) : ev C (.rep m es k) e s = (evs C es e s).bind fun vs s => if vs.length ≤ 1000 then (ev C k e s).bind (repR m vs) else .no := rfl
@[simp] theorem noex_ok {α : Type} (a : α) (s : Sto) : noex (.ok a s) = .ok a s := rfl
@[simp] theorem ev_dic (ks vs : IE) : ev C (.dic ks vs) e s = (evs C ks e s).bind fun a s => (noex (evs C vs e s)).bind fun b s => ofP (dicV a b s) := rfl
@[simp] theorem dicV_nil : dicV [] [] s = some (.d (.dict []), s) := rfl
@[simp] theorem dicV_one (k : Str) (v : PyData) : dicV [.d (.str k)] [.d v] s = some (.d (.dict [(.str k, v)]), s) := rfl
def callkR (C : Cal) (f : Nat) (us : List Vl) (n : Nat) (perm : List Nat) (vs : List Vl) (s : Sto) : Rs Vl := if vs.length = n then (match permL (us ++ vs) perm with
  | some ws => C f ws s
  | none => .no) else .no
theorem callkR_eq {C : Cal} {f n : Nat} {us vs ws : List Vl} {perm : List Nat} {s : Sto} (h : vs.length = n) (p : permL (us ++ vs) perm = some ws) : callkR C f us n perm vs s = C f ws s := by
  unfold callkR
  rw [if_pos h, p]
@[simp] theorem ev_callk (f : Nat) (es ks : IE) (nms : List Str) (perm : List Nat) : ev C (.callk f es ks nms perm) e s = (evs C es e s).bind fun us s => (evs C ks e s).bind (callkR C f us nms.length perm) := rfl
@[simp] theorem ev_idx (a i : IE) : ev C (.idx a i) e s = (ev C a e s).bind fun x s => (ev C i e s).bind fun y s => ofP (idxV x y s) := rfl
@[simp] theorem ev_sli (m : Bool) (a lo hi : IE) : ev C (.sli m a lo hi) e s = (ev C a e s).bind fun x s => (evo C lo e s).bind fun l s => (evo C hi e s).bind fun h s => ofP (sliV m x l h s) := rfl
@[simp] theorem ev_rev (m : Bool) (a : IE) : ev C (.rev m a) e s = (ev C a e s).bind fun x s => ofP (revV m x s) := rfl
@[simp] theorem ev_bi (m : Bool) (b : Bi) (es : IE) : ev C (.bi m b es) e s = (evs C es e s).bind fun vs s => ofP (biV m b vs s) := rfl
@[simp] theorem ev_isi (a : IE) (t : Ty) : ev C (.isi a t) e s = (ev C a e s).bind fun x s => ofO ((isT t x s).map fun b => Vl.d (.bool b)) s := rfl
@[simp] theorem ev_call (f : Nat) (es : IE) : ev C (.call f es) e s = (evs C es e s).bind fun vs s => C f vs s := rfl
@[simp] theorem ev_frz (a : IE) : ev C (.frz a) e s = (ev C a e s).bind fun x s => ofP (frzV x s) := rfl
@[simp] theorem evs_nil : evs C .nil e s = .ok [] s := rfl
@[simp] theorem evs_cons (a r : IE) : evs C (.cons a r) e s = (ev C a e s).bind fun x s => (evs C r e s).bind fun xs s => .ok (x :: xs) s := rfl
@[simp] theorem evo_nil : evo C .nil e s = .ok none s := rfl
@[simp] theorem evo_cons (a r : IE) : evo C (.cons a r) e s = (ev C a e s).bind fun x s => ofO ((optI x).map some) s := rfl
@[simp] theorem tst_nil : tst C .nil e s = .ok true s := rfl
@[simp] theorem tst_cons (a r : IE) : tst C (.cons a r) e s = evT C a e s := rfl
/-! ### statements -/
@[simp] theorem exS_nil : exS C fu .nil e s = .nx e s := rfl
def thenF (f : Fl) (g : Sl → Sto → Fl) : Fl := match f with
  | .nx e s => g e s
  | f => f
@[simp] theorem thenF_nx (e : Sl) (s : Sto) (g : Sl → Sto → Fl) : thenF (.nx e s) g = g e s := rfl
@[simp] theorem thenF_rt (v : Vl) (s : Sto) (g : Sl → Sto → Fl) : thenF (.rt v s) g = .rt v s := rfl
@[simp] theorem thenF_ct (e : Sl) (s : Sto) (g : Sl → Sto → Fl) : thenF (.ct e s) g = .ct e s := rfl
@[simp] theorem thenF_bk (e : Sl) (s : Sto) (g : Sl → Sto → Fl) : thenF (.bk e s) g = .bk e s := rfl
@[simp] theorem exS_cons (a r : IS) : exS C fu (.cons a r) e s = thenF (exS C fu a e s) (exS C fu r) := by
  show (match exS C fu a e s with
    | .nx e s => exS C fu r e s
    | f => f) = _
  cases exS C fu a e s <;> rfl
@[simp] theorem exS_ret' (a : IE) : exS C fu (.ret a) e s = bindF e (ev C a e s) fun v s => .rt v s := exS_ret fu
@[simp] theorem exS_expr' (a : IE) : exS C fu (.expr a) e s = bindF e (ev C a e s) fun _ s => .nx e s := exS_expr fu
@[simp] theorem exS_pass : exS C fu .pass e s = .nx e s := rfl
@[simp] theorem exS_ite (c : IE) (a b : IS) : exS C fu (.ite c a b) e s = bindF e (evT C c e s) (iteK (exS C fu a) (exS C fu b) e) := by
  unfold evT
  show (match ev C c e s with
    | .ok v s => (match isTrue? v with
      | some true => exS C fu a e s
      | some false => exS C fu b e s
      | none => .no)
    | .ex c v s => .ex c v e s
    | .no => .no) = _
  cases ev C c e s with
  | ok v s1 =>
    show (match isTrue? v with
      | some true => exS C fu a e s1
      | some false => exS C fu b e s1
      | none => .no) = bindF e (ofO (isTrue? v) s1) _
    cases isTrue? v with
    | none => rfl
    | some t => cases t <;> rfl
  | ex _ _ _ => rfl
  | no => rfl
@[simp] theorem exS_asgv (i : Nat) (a : IE) : exS C fu (.asg (.var i) a) e s = bindF e (ev C a e s) fun v s => .nx (e.set i (some v)) s := by
  show liftR e ((ev C a e s).bind fun v s => ofO (some (e.set i (some v))) s) = _
  rw [liftR_bind]
  rfl
@[simp] theorem exS_par (i j : Nat) (a b : IE) : exS C fu (.par (.var i) (.var j) a b) e s = bindF e (ev C a e s) fun v s => bindF e (ev C b e s) fun w s => .nx ((e.set i (some v)).set j (some w)) s := by
  show liftR e ((ev C a e s).bind fun v s => (ev C b e s).bind fun w s => .ok ((e.set i (some v)).set j (some w)) s) = _
  rw [liftR_bind]
  congr 1
  funext v s1
  rw [liftR_bind]
  rfl
theorem eqD_int (i j : Int) : eqD (.int i) (.int j) = some (decide (i = j)) := by
  show some (i == j) = _
  rw [Bool.beq_eq_decide_eq]
theorem eqD_bool (i j : Bool) : eqD (.bool i) (.bool j) = some (i == j) := rfl
theorem bools_map {α : Type} (f : α → Bool) : ∀ l : List α, bools? (l.map fun x => PyData.bool (f x)) = some (l.map f)
  | [] => rfl
  | a :: r => by simp [bools?, bools_map f r]
theorem ints_map {α : Type} (f : α → Int) : ∀ l : List α, ints? (l.map fun x => PyData.int (f x)) = some (l.map f)
  | [] => rfl
  | a :: r => by simp [ints?, ints_map f r]
theorem allV_map {α : Type} (f : α → Bool) (l : List α) : allV [.d (.list (l.map fun x => PyData.bool (f x)))] s = some (Vl.d (.bool (l.all f)), s) := by
  have h : dataL (.d (.list (l.map fun x => PyData.bool (f x)))) s = some (l.map fun x => PyData.bool (f x)) := allD_map _
  show ((dataL (.d (.list (l.map fun x => PyData.bool (f x)))) s).bind bools?).map _ = _
  rw [h]
  show (bools? (l.map fun x => PyData.bool (f x))).map _ = _
  rw [bools_map]
  show some (Vl.d (.bool ((l.map f).all id)), s) = _
  rw [List.all_map]
  rfl
theorem cm_map {turn : Vl → Sto → Rs (Option Vl)} {f : PyData → PyData} : ∀ {ds : List PyData}, (∀ x ∈ ds, turn (.d x) s = .ok (some (.d (f x))) s) → cmL turn ds s = .ok (ds.map fun x => Vl.d (f x)) s
  | [], _ => rfl
  | a :: r, h => by
    show (turn (.d a) s).bind _ = _
    rw [h a List.mem_cons_self]
    show (cmL turn r s).bind _ = _
    rw [cm_map (ds := r) fun x hx => h x (List.mem_cons_of_mem _ hx)]
    rfl
/-- [elt for tg in it], pure, over data -/
theorem comp_map {elt tg it : IE} {own : List Nat} {ds : List PyData} (f : PyData → PyData) (hi : itr C it e s = .ok (.vals ds) s) (hl : ds.length ≤ 16777216)
    (ht : ∀ x ∈ ds, ∃ e1, setTgV tg (.d x) (wipe e own) = some e1 ∧ ev C elt e1 s = .ok (.d (f x)) s) : ev C (.comp false elt tg it .nil own) e s = .ok (.d (.list (ds.map f))) s := by
  show ((itr C it e s).bind fun I s => (noex (cmI (turnF C elt tg .nil (wipe e own)) I s)).bind fun vs s => ofP (mkL false vs s)) = _
  rw [hi]
  show ((noex (cmL (turnF C elt tg .nil (wipe e own)) ds s)).bind fun vs s => ofP (mkL false vs s)) = _
  rw [cm_map (f := f) fun x hx => ?_]
  · show ofP (mkL false (ds.map fun x => Vl.d (f x)) s) = _
    unfold mkL
    rw [if_pos (by simpa using hl)]
    have : allD (ds.map fun x => Vl.d (f x)) = some (ds.map f) := by
      have := allD_map (ds.map f)
      rwa [List.map_map] at this
    rw [if_neg (by decide), this]
    rfl
  · obtain ⟨e1, h1, h2⟩ := ht x hx
    unfold turnF
    rw [h1]
    show (Rs.ok true s).bind _ = _
    show (ev C elt e1 s).bind _ = _
    rw [h2]
    rfl
theorem atI_nat {α : Type} {vs : List α} {i : Nat} (h : i < vs.length) : L2.atI vs (i : Int) = some vs[i] := by
  unfold L2.atI L2.ixN
  rw [if_pos (by omega), if_pos (by omega)]
  show vs[((i : Int)).toNat]? = _
  rw [Int.toNat_natCast, List.getElem?_eq_getElem h]
theorem idx_tup {xs : List PyData} {i : Nat} (h : i < xs.length) : idxV (.d (.tuple xs)) (.d (.int i)) s = some (.d xs[i], s) := by
  show (L2.atI (xs.map Vl.d) (i : Int)).map (·, s) = _
  rw [atI_nat (by simpa using h)]
  simp
theorem idx_lst {xs : List PyData} {i : Nat} (h : i < xs.length) : idxV (.d (.list xs)) (.d (.int i)) s = some (.d xs[i], s) := by
  show (L2.atI (xs.map Vl.d) (i : Int)).map (·, s) = _
  rw [atI_nat (by simpa using h)]
  simp
theorem idx0 (x : PyData) (xs : List PyData) : idxV (.d (.tuple (x :: xs))) (.d (.int 0)) s = some (.d x, s) := idx_tup (xs := x :: xs) (i := 0) (by simp)
theorem idx1 (x y : PyData) (xs : List PyData) : idxV (.d (.tuple (x :: y :: xs))) (.d (.int 1)) s = some (.d y, s) := idx_tup (xs := x :: y :: xs) (i := 1) (by simp)
/-! ### for over data, with an early end -/
theorem goL_all {turn : Vl → Sl → Sto → Fl} (Inv : Sl → Prop) (P : PyData → Bool) : ∀ (ds : List PyData) (_ : ∀ x ∈ ds, ∀ e, Inv e → if P x = true then ∃ e', turn (.d x) e s = .nx e' s ∧ Inv e' else turn (.d x) e s = .rt (.d (.bool false)) s) (e : Sl), Inv e →
    if ds.all P = true then ∃ e', goL turn ds e s = .nx e' s ∧ Inv e' else goL turn ds e s = .rt (.d (.bool false)) s
  | [], _, e, i => by
    rw [if_pos (by rfl)]
    exact ⟨e, rfl, i⟩
  | x :: r, h, e, i => by
    have hx := h x List.mem_cons_self e i
    cases q : P x with
    | false =>
      rw [q, if_neg (by decide)] at hx
      rw [List.all_cons, q, Bool.false_and, if_neg (by decide)]
      show (match turn (.d x) e s with
        | .nx e s => goL turn r e s
        | .ct e s => goL turn r e s
        | .bk e s => .nx e s
        | .rt v s => .rt v s
        | .ex c v e s => .ex c v e s
        | .no => .no) = _
      rw [hx]
    | true =>
      rw [q, if_pos rfl] at hx
      obtain ⟨e', h1, i'⟩ := hx
      have ih := goL_all Inv P r (fun y hy => h y (List.mem_cons_of_mem _ hy)) e' i'
      have step : goL turn (x :: r) e s = goL turn r e' s := by
        show (match turn (.d x) e s with
          | .nx e s => goL turn r e s
          | .ct e s => goL turn r e s
          | .bk e s => .nx e s
          | .rt v s => .rt v s
          | .ex c v e s => .ex c v e s
          | .no => .no) = _
        rw [h1]
      rw [List.all_cons, q, Bool.true_and, step]
      exact ih
theorem exS_for_vals {tg it : IE} {body : IS} {ds : List PyData} {s' : Sto} (h : itr C it e s = .ok (.vals ds) s') : exS C fu (.forr tg it body) e s = goL (turnS C fu tg body) ds e s' := by
  rw [exS_for, h]
  rfl
theorem binV_int (m : Bool) (o : BOp) (i j : Int) : binV m o (.d (.int i)) (.d (.int j)) s = (binI o i j).map fun k => (.d (.int k), s) := by cases o <;> rfl
theorem cmp_ne_int (i j : Int) : cmpV .ne (.d (.int i)) (.d (.int j)) s = some (!decide (i = j)) := by
  show (eqD (.int i) (.int j)).map (!·) = _
  rw [eqD_int]
  rfl
theorem cmp_eq_int (i j : Int) : cmpV .eq (.d (.int i)) (.d (.int j)) s = some (decide (i = j)) := eqD_int i j
def tgF (o : Option Sl) (s : Sto) : Fl := match o with
  | some e => .nx e s
  | none => .no
@[simp] theorem tgF_some (e : Sl) (s : Sto) : tgF (some e) s = .nx e s := rfl
@[simp] theorem exS_asgt (ts a : IE) : exS C fu (.asg (.tup ts) a) e s = bindF e (ev C a e s) fun v s => tgF (setTgV (.tup ts) v e) s := by
  show liftR e ((ev C a e s).bind fun v s => ofO (setTgV (.tup ts) v e) s) = _
  rw [liftR_bind]
  congr 1
  funext v s1
  cases setTgV (.tup ts) v e <;> rfl
theorem cmp_lt_int (i j : Int) : cmpV .lt (.d (.int i)) (.d (.int j)) s = some (decide (i < j)) := rfl
theorem cmp_le_int (i j : Int) : cmpV .le (.d (.int i)) (.d (.int j)) s = some (decide (i ≤ j)) := rfl
theorem cmp_ge_int (i j : Int) : cmpV .ge (.d (.int i)) (.d (.int j)) s = some (decide (j ≤ i)) := rfl
theorem cmp_gt_int (i j : Int) : cmpV .gt (.d (.int i)) (.d (.int j)) s = some (decide (j < i)) := rfl
end SM

set_option maxHeartbeats 1000000
/-! SM: what is true behind a run (weakest preconditions). -/
namespace SM
open PySem
abbrev XP : Type := Nat → Vl → Sto → Prop
abbrev nX : XP := fun _ _ _ => False
/-- the run ends well with Q, or raises with X -/
def Ok {α : Type} (r : Rs α) (Q : α → Sto → Prop) (X : XP) : Prop := match r with
  | .ok a s => Q a s
  | .ex c v s => X c v s
  | .no => False
structure Pt where
  n : Sl → Sto → Prop
  r : Vl → Sto → Prop
  b : Sl → Sto → Prop
  c : Sl → Sto → Prop
  x : Nat → Vl → Sl → Sto → Prop
def Sw (f : Fl) (P : Pt) : Prop := match f with
  | .nx e s => P.n e s
  | .rt v s => P.r v s
  | .bk e s => P.b e s
  | .ct e s => P.c e s
  | .ex c v e s => P.x c v e s
  | .no => False
section
variable {α β : Type} {C : Cal} {fu k : Nat} {e : Sl} {s : Sto} {Q Q' : α → Sto → Prop} {X X' : XP} {P P' : Pt}
@[simp] theorem Ok_ok (a : α) (s : Sto) : Ok (.ok a s) Q X = Q a s := rfl
@[simp] theorem Ok_bind (r : Rs β) (f : β → Sto → Rs α) : Ok (r.bind f) Q X = Ok r (fun a s => Ok (f a s) Q X) X := by cases r <;> rfl
@[simp] theorem Ok_ite (c : Prop) [Decidable c] (a b : Rs α) : Ok (if c then a else b) Q X = if c then Ok a Q X else Ok b Q X := by split <;> rfl
theorem Ok.mono {r : Rs α} (h : Ok r Q X) (f : ∀ a s, Q a s → Q' a s) (g : ∀ c v s, X c v s → X' c v s) : Ok r Q' X' := by
  cases r with
  | ok a s => exact f a s h
  | ex c v s => exact g c v s h
  | no => exact h
theorem Ok.imp {r : Rs α} (h : Ok r Q nX) (f : ∀ a s, Q a s → Q' a s) : Ok r Q' X := h.mono f fun _ _ _ z => z.elim
theorem Ok.and {r : Rs α} {Q1 Q2 : α → Sto → Prop} (h : Ok r Q1 X) (g : Ok r Q2 X) : Ok r (fun a s => Q1 a s ∧ Q2 a s) X := by
  cases r with
  | ok a s => exact ⟨h, g⟩
  | ex c v s => exact h
  | no => exact h
theorem Ok.eq {r : Rs α} {a : α} (h : r = .ok a s) (q : Q a s) : Ok r Q X := by rw [h]; exact q
theorem Ok.ex {r : Rs α} (h : Ok r Q nX) : ∃ a s, r = .ok a s ∧ Q a s := by
  cases r with
  | ok a s => exact ⟨a, s, rfl, h⟩
  | ex c v s => exact h.elim
  | no => exact h.elim
theorem Ok_one {r : Rs α} {a : α} (h : Ok r (fun b t => b = a ∧ t = s) nX) : r = .ok a s := by
  obtain ⟨b, t, h1, h2, h3⟩ := h.ex
  rw [h1, h2, h3]
theorem Sw.mono {f : Fl} (h : Sw f P) (n : ∀ e s, P.n e s → P'.n e s) (r : ∀ v s, P.r v s → P'.r v s) (b : ∀ e s, P.b e s → P'.b e s) (c : ∀ e s, P.c e s → P'.c e s) (x : ∀ c v e s, P.x c v e s → P'.x c v e s) : Sw f P' := by
  cases f with
  | nx e s => exact n e s h
  | rt v s => exact r v s h
  | bk e s => exact b e s h
  | ct e s => exact c e s h
  | ex d v e s => exact x d v e s h
  | no => exact h
@[simp] theorem Sw_nx (e : Sl) (s : Sto) : Sw (.nx e s) P = P.n e s := rfl
@[simp] theorem Sw_rt (v : Vl) (s : Sto) : Sw (.rt v s) P = P.r v s := rfl
@[simp] theorem Sw_bk (e : Sl) (s : Sto) : Sw (.bk e s) P = P.b e s := rfl
@[simp] theorem Sw_ct (e : Sl) (s : Sto) : Sw (.ct e s) P = P.c e s := rfl
@[simp] theorem Sw_no : Sw .no P = False := rfl
def nxt (g : Sl → Sto → Fl) (P : Pt) (e : Sl) (s : Sto) : Prop := Sw (g e s) P
@[simp] theorem nxt_eq (g : Sl → Sto → Fl) (P : Pt) (e : Sl) (s : Sto) : nxt g P e s = Sw (g e s) P := rfl
@[simp] theorem Sw_thenF (f : Fl) (g : Sl → Sto → Fl) : Sw (thenF f g) P = Sw f ⟨nxt g P, P.r, P.b, P.c, P.x⟩ := by cases f <;> rfl
@[simp] theorem Sw_bindF (r : Rs β) (f : β → Sto → Fl) : Sw (bindF e r f) P = Ok r (fun a s => Sw (f a s) P) (fun c v s => P.x c v e s) := by cases r <;> rfl
@[simp] theorem Sw_ite (c : Prop) [Decidable c] (a b : Fl) : Sw (if c then a else b) P = if c then Sw a P else Sw b P := by split <;> rfl
theorem Sw_tgF (o : Option Sl) : Sw (tgF o s) P = ∃ e, o = some e ∧ P.n e s := by
  cases o with
  | none => exact propext ⟨False.elim, fun ⟨_, h, _⟩ => by cases h⟩
  | some e => exact propext ⟨fun h => ⟨e, rfl, h⟩, fun ⟨e', h, g⟩ => by cases h; exact g⟩
theorem Sw_cut {a r : IS} (J : Sl → Sto → Prop) (h1 : Sw (exS C fu a e s) ⟨J, P.r, P.b, P.c, P.x⟩) (h2 : ∀ e s, J e s → Sw (exS C fu r e s) P) : Sw (exS C fu (.cons a r) e s) P := by
  rw [exS_cons, Sw_thenF]
  exact h1.mono (fun e s j => h2 e s j) (fun _ _ q => q) (fun _ _ q => q) (fun _ _ q => q) fun _ _ _ _ q => q
/-! ### more statements -/
@[simp] theorem exS_brk : exS C fu .brk e s = .bk e s := rfl
@[simp] theorem exS_cont : exS C fu .cont e s = .ct e s := rfl
@[simp] theorem exS_ptup (ts es : IE) : exS C fu (.ptup ts es) e s = bindF e (evs C es e s) fun vs s => if vs.length = ieLen ts ∧ vs.length ≤ 16777216 then asgs C ts vs e s else .no := by
  show (match evs C es e s with
    | .ok vs s => if vs.length = ieLen ts ∧ vs.length ≤ 16777216 then asgs C ts vs e s else .no
    | .ex c v s => .ex c v e s
    | .no => .no) = _
  cases evs C es e s <;> rfl
@[simp] theorem ieLen_cons (a r : IE) : ieLen (.cons a r) = ieLen r + 1 := rfl
@[simp] theorem ieLen_nil : ieLen .nil = 0 := rfl
@[simp] theorem asgs_nil : asgs C .nil [] e s = .nx e s := rfl
@[simp] theorem asgs_var (i : Nat) (r : IE) (v : Vl) (vs : List Vl) : asgs C (.cons (.var i) r) (v :: vs) e s = asgs C r vs (e.set i (some v)) s := rfl
def asgK (C : Cal) (r : IE) (vs : List Vl) (e : Sl) (o : Option Sto) : Fl := match o with
  | some s => asgs C r vs e s
  | none => .no
@[simp] theorem asgK_some (r : IE) (vs : List Vl) : asgK C r vs e (some s) = asgs C r vs e s := rfl
@[simp] theorem asgs_idx (a i r : IE) (v : Vl) (vs : List Vl) : asgs C (.cons (.idx a i) r) (v :: vs) e s = bindF e (ev C a e s) fun o s => bindF e (ev C i e s) fun k s => asgK C r vs e (setV o k v s) := by
  show (match (ev C a e s).bind fun o s => (ev C i e s).bind fun k s => match setV o k v s with
      | some s => .ok e s
      | none => .no with
    | .ok e' s' => asgs C r vs e' s'
    | .ex c v s => .ex c v e s
    | .no => .no) = _
  cases ev C a e s with
  | ok o s1 =>
    show (match (ev C i e s1).bind fun k s => match setV o k v s with
        | some s => .ok e s
        | none => .no with
      | .ok e' s' => asgs C r vs e' s'
      | .ex c v s => .ex c v e s
      | .no => .no) = bindF e (ev C i e s1) fun k s => asgK C r vs e (setV o k v s)
    cases ev C i e s1 with
    | ok k s2 =>
      show (match (match setV o k v s2 with
          | some s => Rs.ok e s
          | none => .no) with
        | .ok e' s' => asgs C r vs e' s'
        | .ex c v s => .ex c v e s
        | .no => .no) = asgK C r vs e (setV o k v s2)
      cases setV o k v s2 <;> rfl
    | ex d w s2 => rfl
    | no => rfl
  | ex d w s1 => rfl
  | no => rfl
@[simp] theorem exS_par3 (i j l : Nat) (a b c : IE) : exS C fu (.par3 i j l a b c) e s = bindF e (ev C a e s) fun v s => bindF e (ev C b e s) fun w s => bindF e (ev C c e s) fun x s => .nx (((e.set i (some v)).set j (some w)).set l (some x)) s := by
  show liftR e ((ev C a e s).bind fun v s => (ev C b e s).bind fun w s => (ev C c e s).bind fun x s => .ok (((e.set i (some v)).set j (some w)).set l (some x)) s) = _
  rw [liftR_bind]
  congr 1
  funext v s1
  rw [liftR_bind]
  congr 1
  funext w s2
  rw [liftR_bind]
  rfl
def setF (o : Option Sto) (e : Sl) : Fl := match o with
  | some s => .nx e s
  | none => .no
@[simp] theorem setF_some (s : Sto) (e : Sl) : setF (some s) e = .nx e s := rfl
@[simp] theorem exS_asgi (a i v : IE) : exS C fu (.asg (.idx a i) v) e s = bindF e (ev C v e s) fun v s => bindF e (ev C a e s) fun o s => bindF e (ev C i e s) fun k s => setF (setV o k v s) e := by
  show liftR e ((ev C v e s).bind fun v s => (ev C a e s).bind fun o s => (ev C i e s).bind fun k s => match setV o k v s with
    | some s => .ok e s
    | none => .no) = _
  rw [liftR_bind]
  congr 1
  funext v s1
  rw [liftR_bind]
  congr 1
  funext o s2
  rw [liftR_bind]
  congr 1
  funext k s3
  cases setV o k v s3 <;> rfl
def augF (o : BOp) (x y : Vl) (e : Sl) (i : Nat) (s : Sto) : Fl := match x, y with
  | .d (.int x), .d (.int y) => (match binI o x y with
    | some z => .nx (e.set i (some (.d (.int z)))) s
    | none => .no)
  | _, _ => .no
theorem exS_aug' (i : Nat) (o : BOp) (a : IE) {x : Int} (h : e[i]? = some (some (.d (.int x)))) : exS C fu (.aug i o a) e s = bindF e (ev C a e s) fun y s => augF o (.d (.int x)) y e i s := by
  show (match e[i]? with
    | some (some (.d (.int x))) => liftR e ((ev C a e s).bind fun y s => match y with
      | .d (.int y) => ofO ((binI o x y).map fun z => e.set i (some (.d (.int z)))) s
      | _ => .no)
    | _ => .no) = _
  rw [h]
  show liftR e _ = _
  rw [liftR_bind]
  congr 1
  funext y s1
  cases y with
  | r n => rfl
  | d y =>
    cases y <;> try rfl
    rename_i y
    show liftR e (ofO ((binI o x y).map fun z => e.set i (some (.d (.int z)))) s1) = (match binI o x y with
      | some z => Fl.nx (e.set i (some (.d (.int z)))) s1
      | none => .no)
    cases binI o x y <;> rfl
theorem Ok_ofO (o : Option α) (s : Sto) : Ok (ofO o s) Q X = ∃ a, o = some a ∧ Q a s := by
  cases o with
  | none => exact propext ⟨False.elim, fun ⟨_, h, _⟩ => by cases h⟩
  | some e => exact propext ⟨fun h => ⟨e, rfl, h⟩, fun ⟨e', h, g⟩ => by cases h; exact g⟩
theorem Ok_ofP (o : Po α) : Ok (ofP o) Q X = ∃ a s, o = some (a, s) ∧ Q a s := by
  cases o with
  | none => exact propext ⟨False.elim, fun ⟨_, _, h, _⟩ => by cases h⟩
  | some e => obtain ⟨a, s⟩ := e; exact propext ⟨fun h => ⟨a, s, rfl, h⟩, fun ⟨a', s', h, g⟩ => by cases h; exact g⟩
/-! ### calls -/
def Lv (s₀ : Sto) (v : Vl) (s : Sto) (Q : Vl → Sto → Prop) : Prop := ∀ s', (s' = s ∨ (Cut s₀ v s ∧ s' = s.take s₀.length)) → (Cut s₀ v s → s' = s.take s₀.length) → Q v s'
theorem Ok_leave {s₀ : Sto} {f : Fl} {Q : Vl → Sto → Prop} (h : Sw f ⟨fun _ s => Lv s₀ (.d .none) s Q, fun v s => Lv s₀ v s Q, fun _ _ => False, fun _ _ => False, fun c v _ s => X c v s⟩) : Ok (leave s₀ f) Q X := by
  cases f with
  | nx e s =>
    simp only [leave]
    split
    · rename_i c
      exact h _ (.inr ⟨c, rfl⟩) fun _ => rfl
    · rename_i c
      exact h _ (.inl rfl) fun z => absurd z c
  | rt v s =>
    simp only [leave]
    split
    · rename_i c
      exact h _ (.inr ⟨c, rfl⟩) fun _ => rfl
    · rename_i c
      exact h _ (.inl rfl) fun z => absurd z c
  | bk e s => exact h.elim
  | ct e s => exact h.elim
  | ex c v e s => exact h
  | no => exact h
theorem Ok_call {T : List Df} {f : Nat} {F : Df} {vs : List Vl} {Q : Vl → Sto → Prop} (hF : T[f]? = some F) (hl : vs.length = F.np)
    (h : Sw (exS (callI T fu k) fu F.body (vs.map some ++ List.replicate (F.ns - F.np) none) s) ⟨fun _ t => Lv s (.d .none) t Q, fun v t => Lv s v t Q, fun _ _ => False, fun _ _ => False, fun c v _ s => X c v s⟩) : Ok (callI T fu (k + 1) f vs s) Q X := by
  have e : callI T fu (k + 1) f vs s = leave s (exS (callI T fu k) fu F.body (vs.map some ++ List.replicate (F.ns - F.np) none) s) := by
    show (match T[f]? with
      | some F => if vs.length = F.np then leave s (exS (callI T fu k) fu F.body (vs.map some ++ List.replicate (F.ns - F.np) none) s) else .no
      | none => .no) = _
    rw [hF]
    exact if_pos hl
  rw [e]
  exact Ok_leave h
/-- nothing was made -/
theorem Lv_len {s₀ : Sto} {v : Vl} {Q : Vl → Sto → Prop} (hl : s.length = s₀.length) (q : Q v s) : Lv s₀ v s Q := by
  rintro s' (rfl | ⟨_, rfl⟩) _
  · exact q
  · rw [← hl, List.take_length]; exact q
/-- what was made is forgotten: the value is data, and the places that stood hold what they held or data -/
theorem Lv_cut {s₀ t : Sto} {x : PyData} {Q : Vl → Sto → Prop} (hl : s.length = s₀.length) (hs : ∀ i, i < s₀.length → s[i]? = s₀[i]? ∨ ∀ o, s[i]? = some o → ltO s₀.length o) (q : Q (.d x) s) : Lv s₀ (.d x) (s ++ t) Q := by
  have c : Cut s₀ (.d x) (s ++ t) := ⟨trivial, fun i hi => by
    rw [List.getElem?_append_left (by omega)]
    exact hs i hi⟩
  intro s' _ h
  rw [h c, ← hl, List.take_left]
  exact q
theorem Lv_app {t : Sto} {x : PyData} {Q : Vl → Sto → Prop} (q : Q (.d x) s) : Lv s (.d x) (s ++ t) Q := Lv_cut rfl (fun _ _ => .inl rfl) q
/-- a new list is told -/
theorem Lv_new {s₀ : Sto} {n : Nat} {Q : Vl → Sto → Prop} (hn : s₀.length ≤ n) (q : Q (.r n) s) : Lv s₀ (.r n) s Q := by
  have nc : ¬ Cut s₀ (.r n) s := fun c => by have : n < s₀.length := c.1; omega
  rintro s' (rfl | ⟨c, _⟩) _
  · exact q
  · exact absurd c nc
/-! ### loops -/
@[simp] theorem goI_vals (t : Vl → Sl → Sto → Fl) (xs : List PyData) : goI t (.vals xs) e s = goL t xs e s := rfl
@[simp] theorem exS_for' (tg it : IE) (body : IS) : exS C fu (.forr tg it body) e s = bindF e (itr C it e s) fun I s => goI (turnS C fu tg body) I e s := exS_for
@[simp] theorem itr_itv (a : IE) : itr C (.itv a) e s = (ev C a e s).bind fun x s => ofO (itrV x s) s := rfl
@[simp] theorem itr_rng1 (a : IE) : itr C (.rng1 a) e s = (ev C a e s).bind fun x s => ofO ((optI x).bind (rngV 0)) s := rfl
@[simp] theorem itr_rng2 (a b : IE) : itr C (.rng2 a b) e s = (ev C a e s).bind fun x s => (ev C b e s).bind fun y s => ofO ((optI x).bind fun i => (optI y).bind (rngV i)) s := rfl
@[simp] theorem itr_zip (a b : IE) : itr C (.zip a b) e s = (ev C a e s).bind fun x s => (ev C b e s).bind fun y s => ofO (zipV x y) s := rfl
@[simp] theorem itr_enum (a : IE) : itr C (.enum a) e s = (ev C a e s).bind fun x s => ofO (enumV x) s := rfl
theorem Sw_step (t : Vl → Sl → Sto → Fl) (x : PyData) (xs : List PyData) : Sw (goL t (x :: xs) e s) P = Sw (t (.d x) e s) ⟨fun e s => Sw (goL t xs e s) P, P.r, P.n, fun e s => Sw (goL t xs e s) P, P.x⟩ := by
  show Sw (match t (.d x) e s with
    | .nx e s => goL t xs e s
    | .ct e s => goL t xs e s
    | .bk e s => .nx e s
    | .rt v s => .rt v s
    | .ex c v e s => .ex c v e s
    | .no => .no) P = _
  cases t (.d x) e s <;> rfl
theorem Sw_goL {t : Vl → Sl → Sto → Fl} (I : List PyData → Sl → Sto → Prop) (step : ∀ x r e s, I (x :: r) e s → Sw (t (.d x) e s) ⟨I r, P.r, P.n, I r, P.x⟩) (last : ∀ e s, I [] e s → P.n e s) : ∀ {xs : List PyData} {e : Sl} {s : Sto}, I xs e s → Sw (goL t xs e s) P
  | [], e, s, h => last e s h
  | x :: r, e, s, h => by
    rw [Sw_step]
    exact (step x r e s h).mono (fun e s q => Sw_goL I step last q) (fun _ _ q => q) (fun _ _ q => q) (fun e s q => Sw_goL I step last q) fun _ _ _ _ q => q
/-- the same, over a list of other things -/
theorem Sw_goM {t : Vl → Sl → Sto → Fl} (f : α → PyData) (I : List α → Sl → Sto → Prop) (step : ∀ x r e s, I (x :: r) e s → Sw (t (.d (f x)) e s) ⟨I r, P.r, P.n, I r, P.x⟩) (last : ∀ e s, I [] e s → P.n e s) : ∀ {xs : List α} {e : Sl} {s : Sto}, I xs e s → Sw (goL t (xs.map f) e s) P
  | [], e, s, h => last e s h
  | x :: r, e, s, h => by
    rw [List.map_cons, Sw_step]
    exact (step x r e s h).mono (fun e s q => Sw_goM f I step last q) (fun _ _ q => q) (fun _ _ q => q) (fun e s q => Sw_goM f I step last q) fun _ _ _ _ q => q
theorem turnS_var (i : Nat) (body : IS) (v : Vl) : turnS C fu (.var i) body v e s = exS C fu body (e.set i (some v)) s := rfl
theorem turnS_of {tg : IE} {body : IS} {v : Vl} {e1 : Sl} (h : setTgV tg v e = some e1) : turnS C fu tg body v e s = exS C fu body e1 s := by unfold turnS; rw [h]
@[simp] theorem exS_whil (c : IE) (b : IS) : exS C fu (.whil c b) e s = whL (ev C c) (exS C fu b) fu e s := rfl
theorem Sw_whL {c : IE} {b : IS} (I : Nat → Sl → Sto → Prop) (step : ∀ m e s, I m e s → Ok (evT C c e s) (fun t s => if t = true then Sw (exS C fu b e s) ⟨fun e s => ∃ l, l < m ∧ I l e s, P.r, P.n, fun e s => ∃ l, l < m ∧ I l e s, P.x⟩ else P.n e s) (fun d v s => P.x d v e s)) :
    ∀ (n m : Nat) {e : Sl} {s : Sto}, m < n → I m e s → Sw (whL (ev C c) (exS C fu b) n e s) P
  | 0, m, e, s, h, _ => absurd h (Nat.not_lt_zero _)
  | n + 1, m, e, s, h, i => by
    have st := step m e s i
    unfold evT at st
    show Sw (match ev C c e s with
      | .ok v s => (match isTrue? v with
        | some true => (match exS C fu b e s with
          | .nx e s => whL (ev C c) (exS C fu b) n e s
          | .ct e s => whL (ev C c) (exS C fu b) n e s
          | .bk e s => .nx e s
          | .rt v s => .rt v s
          | .ex c v e s => .ex c v e s
          | .no => .no)
        | some false => .nx e s
        | none => .no)
      | .ex c v s => .ex c v e s
      | .no => .no) P
    cases q : ev C c e s with
    | no => rw [q] at st; exact st
    | ex d v s1 => rw [q] at st; exact st
    | ok v s1 =>
      rw [q] at st
      have st : Ok (ofO (isTrue? v) s1) (fun t s => if t = true then Sw (exS C fu b e s) ⟨fun e s => ∃ l, l < m ∧ I l e s, P.r, P.n, fun e s => ∃ l, l < m ∧ I l e s, P.x⟩ else P.n e s) (fun d v s => P.x d v e s) := st
      simp only
      cases q2 : isTrue? v with
      | none => rw [q2] at st; exact st
      | some t =>
        rw [q2] at st
        cases t with
        | false => exact st
        | true =>
          have st : Sw (exS C fu b e s1) ⟨fun e s => ∃ l, l < m ∧ I l e s, P.r, P.n, fun e s => ∃ l, l < m ∧ I l e s, P.x⟩ := st
          simp only
          cases q3 : exS C fu b e s1 with
          | nx e2 s2 => rw [q3] at st; obtain ⟨l, hl, i2⟩ := st; exact Sw_whL I step n l (by omega) i2
          | ct e2 s2 => rw [q3] at st; obtain ⟨l, hl, i2⟩ := st; exact Sw_whL I step n l (by omega) i2
          | bk e2 s2 => rw [q3] at st; exact st
          | rt v2 s2 => rw [q3] at st; exact st
          | ex d v2 e2 s2 => rw [q3] at st; exact st
          | no => rw [q3] at st; exact st
/-! ### comprehensions -/
theorem evs_map {turn : Vl → Sto → Rs (Option Vl)} {X : XP} (I : Nat → Sto → Prop) (R : PyData → Prop) : ∀ {ds : List PyData} {n : Nat} {s : Sto}, I n s → (∀ x ∈ ds, ∀ n s, I n s → Ok (turn (.d x) s) (fun o t => I (n + 1) t ∧ ∃ d, o = some (.d d) ∧ R d) nX) →
    Ok (cmL turn ds s) (fun vs t => I (n + ds.length) t ∧ ∃ xs : List PyData, vs = xs.map Vl.d ∧ xs.length = ds.length ∧ ∀ x ∈ xs, R x) X
  | [], n, s, i, _ => ⟨i, [], rfl, rfl, fun _ h => by cases h⟩
  | a :: r, n, s, i, h => by
    show Ok ((turn (.d a) s).bind fun o s => (cmL turn r s).bind fun r s => .ok (match o with | some v => v :: r | none => r) s) _ _
    rw [Ok_bind]
    refine (h a List.mem_cons_self n s i).imp fun o t ⟨i2, d, e, rd⟩ => ?_
    subst e
    rw [Ok_bind]
    refine (evs_map I R (X := nX) i2 fun x hx => h x (List.mem_cons_of_mem _ hx)).imp fun vs t2 ⟨i3, xs, e, hl, hr⟩ => ?_
    subst e
    refine ⟨by rw [List.length_cons, show n + (r.length + 1) = n + 1 + r.length by omega]; exact i3, d :: xs, rfl, by simp [hl], fun x hx => ?_⟩
    rcases List.mem_cons.mp hx with rfl | hx
    · exact rd
    · exact hr x hx
/-- [elt for tg in ..], drawn: what stands behind each turn, what each item is -/
theorem Ok_comp {elt tg it : IE} {own : List Nat} {Q : Vl → Sto → Prop} (I : Nat → Sto → Prop) (R : PyData → Prop) {ds : List PyData} {s' : Sto} (hi : itr C it e s = .ok (.vals ds) s') (hl : ds.length ≤ 16777216) (h0 : I 0 s')
    (ht : ∀ x ∈ ds, ∀ n s, I n s → ∃ e1, setTgV tg (.d x) (wipe e own) = some e1 ∧ Ok (ev C elt e1 s) (fun v t => I (n + 1) t ∧ ∃ d, v = .d d ∧ R d) nX)
    (hq : ∀ (xs : List PyData) (t : Sto), xs.length = ds.length → (∀ x ∈ xs, R x) → I ds.length t → Q (.d (.list xs)) t) : Ok (ev C (.comp false elt tg it .nil own) e s) Q X := by
  show Ok ((itr C it e s).bind fun I s => (noex (cmI (turnF C elt tg .nil (wipe e own)) I s)).bind fun vs s => ofP (mkL false vs s)) Q X
  rw [hi]
  show Ok ((noex (cmL (turnF C elt tg .nil (wipe e own)) ds s')).bind fun vs s => ofP (mkL false vs s)) Q X
  have key := evs_map (turn := turnF C elt tg .nil (wipe e own)) (X := nX) I R h0 (ds := ds) fun x hx n s i => by
    obtain ⟨e1, h1, h2⟩ := ht x hx n s i
    unfold turnF
    rw [h1]
    show Ok ((Rs.ok true s).bind fun b s => if b = true then (ev C elt e1 s).bind fun x s => .ok (some x) s else .ok none s) _ _
    show Ok ((ev C elt e1 s).bind fun x s => .ok (some x) s) _ _
    rw [Ok_bind]
    exact h2.imp fun v t ⟨i, d, e, r⟩ => ⟨i, d, by rw [e], r⟩
  obtain ⟨vs, t, hv, hI, xs, rfl, hx, hr⟩ := key.ex
  rw [hv]
  show Ok (ofP (mkL false (xs.map Vl.d) t)) Q X
  have m : mkL false (xs.map Vl.d) t = some (.d (.list xs), t) := by
    unfold mkL
    rw [if_pos (by simpa [hx] using hl), if_neg (by decide), allD_map]
    rfl
  rw [m]
  exact hq xs t hx hr (by rw [Nat.zero_add] at hI; exact hI)
/-- .. a list that is changed later -/
theorem Ok_compM {elt tg it : IE} {own : List Nat} {Q : Vl → Sto → Prop} (I : Nat → Sto → Prop) (R : PyData → Prop) {ds : List PyData} {s' : Sto} (hi : itr C it e s = .ok (.vals ds) s') (hl : ds.length ≤ 16777216) (h0 : I 0 s')
    (ht : ∀ x ∈ ds, ∀ n s, I n s → ∃ e1, setTgV tg (.d x) (wipe e own) = some e1 ∧ Ok (ev C elt e1 s) (fun v t => I (n + 1) t ∧ ∃ d, v = .d d ∧ R d) nX)
    (hq : ∀ (xs : List PyData) (t : Sto), xs.length = ds.length → (∀ x ∈ xs, R x) → I ds.length t → Q (.r t.length) (t ++ [some (.lst (xs.map Vl.d))])) : Ok (ev C (.comp true elt tg it .nil own) e s) Q X := by
  show Ok ((itr C it e s).bind fun I s => (noex (cmI (turnF C elt tg .nil (wipe e own)) I s)).bind fun vs s => ofP (mkL true vs s)) Q X
  rw [hi]
  show Ok ((noex (cmL (turnF C elt tg .nil (wipe e own)) ds s')).bind fun vs s => ofP (mkL true vs s)) Q X
  have key := evs_map (turn := turnF C elt tg .nil (wipe e own)) (X := nX) I R h0 (ds := ds) fun x hx n s i => by
    obtain ⟨e1, h1, h2⟩ := ht x hx n s i
    unfold turnF
    rw [h1]
    show Ok ((Rs.ok true s).bind fun b s => if b = true then (ev C elt e1 s).bind fun x s => .ok (some x) s else .ok none s) _ _
    show Ok ((ev C elt e1 s).bind fun x s => .ok (some x) s) _ _
    rw [Ok_bind]
    exact h2.imp fun v t ⟨i, d, e, r⟩ => ⟨i, d, by rw [e], r⟩
  obtain ⟨vs, t, hv, hI, xs, rfl, hx, hr⟩ := key.ex
  rw [hv]
  show Ok (ofP (mkL true (xs.map Vl.d) t)) Q X
  have m : mkL true (xs.map Vl.d) t = some (.r t.length, t ++ [some (.lst (xs.map Vl.d))]) := by
    unfold mkL
    rw [if_pos (by simpa [hx] using hl), if_pos rfl]
  rw [m]
  exact hq xs t hx hr (by rw [Nat.zero_add] at hI; exact hI)
/-- [elt for tg in .. if cnd], where nothing is changed -/
theorem cm_filter {turn : Vl → Sto → Rs (Option Vl)} {f : PyData → PyData} {p : PyData → Bool} : ∀ {ds : List PyData}, (∀ x ∈ ds, turn (.d x) s = .ok (if p x = true then some (.d (f x)) else none) s) → cmL turn ds s = .ok (((ds.filter p).map f).map Vl.d) s
  | [], _ => rfl
  | a :: r, h => by
    show (turn (.d a) s).bind _ = _
    rw [h a List.mem_cons_self]
    show (cmL turn r s).bind _ = _
    rw [cm_filter (ds := r) fun x hx => h x (List.mem_cons_of_mem _ hx)]
    cases q : p a <;> simp [q]
theorem comp_filter {elt tg it c : IE} {own : List Nat} {ds : List PyData} (f : PyData → PyData) (p : PyData → Bool) (hi : itr C it e s = .ok (.vals ds) s) (hl : ds.length ≤ 16777216)
    (ht : ∀ x ∈ ds, ∃ e1, setTgV tg (.d x) (wipe e own) = some e1 ∧ evT C c e1 s = .ok (p x) s ∧ (p x = true → ev C elt e1 s = .ok (.d (f x)) s)) : ev C (.comp false elt tg it (.cons c .nil) own) e s = .ok (.d (.list ((ds.filter p).map f))) s := by
  show ((itr C it e s).bind fun I s => (noex (cmI (turnF C elt tg (.cons c .nil) (wipe e own)) I s)).bind fun vs s => ofP (mkL false vs s)) = _
  rw [hi]
  show ((noex (cmL (turnF C elt tg (.cons c .nil) (wipe e own)) ds s)).bind fun vs s => ofP (mkL false vs s)) = _
  rw [cm_filter (f := f) (p := p) fun x hx => ?_]
  · show ofP (mkL false (((ds.filter p).map f).map Vl.d) s) = _
    unfold mkL
    rw [if_pos (by have := List.length_filter_le p ds; simp; omega), if_neg (by decide), allD_map]
    rfl
  · obtain ⟨e1, h1, h2, h3⟩ := ht x hx
    unfold turnF
    rw [h1]
    show (evT C c e1 s).bind _ = _
    rw [h2]
    cases q : p x with
    | false => rfl
    | true =>
      show (ev C elt e1 s).bind _ = _
      rw [h3 q]
      rfl
/-- .. where the tests draw -/
theorem evs_some {turn : Vl → Sto → Rs (Option Vl)} {X : XP} (I : Sto → Prop) (f : PyData → PyData) : ∀ {ds : List PyData} {s : Sto}, I s → (∀ x ∈ ds, ∀ s, I s → Ok (turn (.d x) s) (fun o t => I t ∧ (o = some (.d (f x)) ∨ o = none)) nX) →
    Ok (cmL turn ds s) (fun vs t => I t ∧ ∃ xs : List PyData, vs = (xs.map f).map Vl.d ∧ xs.Sublist ds) X
  | [], s, i, _ => ⟨i, [], rfl, .slnil⟩
  | a :: r, s, i, h => by
    show Ok ((turn (.d a) s).bind fun o s => (cmL turn r s).bind fun r s => .ok (match o with | some v => v :: r | none => r) s) _ _
    rw [Ok_bind]
    refine (h a List.mem_cons_self s i).imp fun o t ⟨i2, ho⟩ => ?_
    rw [Ok_bind]
    refine (evs_some I f (X := nX) i2 fun x hx => h x (List.mem_cons_of_mem _ hx)).imp fun vs t2 ⟨i3, xs, e, hl⟩ => ?_
    subst e
    rcases ho with rfl | rfl
    · exact ⟨i3, a :: xs, rfl, hl.cons₂ a⟩
    · exact ⟨i3, xs, rfl, hl.cons a⟩
theorem Ok_comp_some {elt tg it c : IE} {own : List Nat} {Q : Vl → Sto → Prop} (I : Sto → Prop) (f : PyData → PyData) {ds : List PyData} {s' : Sto} (hi : itr C it e s = .ok (.vals ds) s') (hl : ds.length ≤ 16777216) (h0 : I s')
    (ht : ∀ x ∈ ds, ∀ s, I s → ∃ e1, setTgV tg (.d x) (wipe e own) = some e1 ∧ Ok (evT C c e1 s) (fun b t => I t ∧ (b = true → ev C elt e1 t = .ok (.d (f x)) t)) nX)
    (hq : ∀ (xs : List PyData) (t : Sto), xs.Sublist ds → I t → Q (.d (.list (xs.map f))) t) : Ok (ev C (.comp false elt tg it (.cons c .nil) own) e s) Q X := by
  show Ok ((itr C it e s).bind fun I s => (noex (cmI (turnF C elt tg (.cons c .nil) (wipe e own)) I s)).bind fun vs s => ofP (mkL false vs s)) Q X
  rw [hi]
  show Ok ((noex (cmL (turnF C elt tg (.cons c .nil) (wipe e own)) ds s')).bind fun vs s => ofP (mkL false vs s)) Q X
  have key := evs_some (turn := turnF C elt tg (.cons c .nil) (wipe e own)) (X := nX) I f h0 (ds := ds) fun x hx s i => by
    obtain ⟨e1, h1, h2⟩ := ht x hx s i
    unfold turnF
    rw [h1]
    show Ok ((evT C c e1 s).bind fun b s => if b = true then (ev C elt e1 s).bind fun x s => .ok (some x) s else .ok none s) _ _
    rw [Ok_bind]
    refine h2.imp fun b t ⟨i, h3⟩ => ?_
    cases b with
    | false => exact ⟨i, .inr rfl⟩
    | true =>
      rw [if_pos rfl, Ok_bind, h3 rfl]
      exact ⟨i, .inl rfl⟩
  obtain ⟨vs, t, hv, hI, xs, rfl, hx⟩ := key.ex
  rw [hv]
  show Ok (ofP (mkL false ((xs.map f).map Vl.d) t)) Q X
  have m : mkL false ((xs.map f).map Vl.d) t = some (.d (.list (xs.map f)), t) := by
    unfold mkL
    rw [if_pos (by have := hx.length_le; simp; omega), if_neg (by decide), allD_map]
    rfl
  rw [m]
  exact hq xs t hx hI
end
end SM

set_option maxHeartbeats 1000000
/-! SM: values, as simp reads them. -/
namespace SM
open PySem
section
variable {C : Cal} {n : Nat} {s t u : Sto} {vs ws : List Vl} {v : Vl} {m : Bool}
theorem listAt_lt (h : listAt n s = some vs) : n < s.length := by
  unfold listAt at h
  cases q : s[n]? with
  | none => rw [q] at h; cases h
  | some o => exact (List.getElem?_eq_some_iff.mp q).1
@[simp] theorem putL_length : (putL n vs s).length = s.length := by simp [putL]
theorem listAt_put (h : n < s.length) : listAt n (putL n vs s) = some vs := by
  unfold listAt putL
  simp [h]
theorem listAt_put_ne {j : Nat} (h : j ≠ n) : listAt j (putL n vs s) = listAt j s := by
  unfold listAt putL
  rw [List.getElem?_set_ne (Ne.symm h)]
theorem listAt_new : listAt s.length (s ++ [some (.lst vs)]) = some vs := by simp [listAt]
theorem listAt_old (h : n < s.length) : listAt n (s ++ t) = listAt n s := by simp [listAt, List.getElem?_append_left h]
theorem putL_new : putL s.length ws (s ++ [some (.lst vs)]) = s ++ [some (.lst ws)] := by simp [putL]
theorem putL_put : putL n ws (putL n vs s) = putL n ws s := by simp [putL]
theorem ixN_nat {k i : Nat} (h : i < k) : L2.ixN k (i : Int) = some i := by
  unfold L2.ixN
  rw [if_pos (by omega), if_pos (by omega)]
  simp
/-! ### places -/
@[simp] theorem atI0 {α : Type} (a : α) (l : List α) : L2.atI (a :: l) 0 = some a := by
  have := atI_nat (vs := a :: l) (i := 0) (by simp)
  simpa using this
@[simp] theorem atI1 {α : Type} (a b : α) (l : List α) : L2.atI (a :: b :: l) 1 = some b := by
  have := atI_nat (vs := a :: b :: l) (i := 1) (by simp)
  simpa using this
@[simp] theorem atI2 {α : Type} (a b c : α) (l : List α) : L2.atI (a :: b :: c :: l) 2 = some c := by
  have := atI_nat (vs := a :: b :: c :: l) (i := 2) (by simp)
  simpa using this
@[simp] theorem atI3 {α : Type} (a b c d : α) (l : List α) : L2.atI (a :: b :: c :: d :: l) 3 = some d := by
  have := atI_nat (vs := a :: b :: c :: d :: l) (i := 3) (by simp)
  simpa using this
@[simp] theorem atI4 {α : Type} (a b c d e : α) (l : List α) : L2.atI (a :: b :: c :: d :: e :: l) 4 = some e := by
  have := atI_nat (vs := a :: b :: c :: d :: e :: l) (i := 4) (by simp)
  simpa using this
@[simp] theorem atI5 {α : Type} (a0 a1 a2 a3 a4 a5 : α) (l : List α) : L2.atI (a0 :: a1 :: a2 :: a3 :: a4 :: a5 :: l) 5 = some a5 := by
  have := atI_nat (vs := a0 :: a1 :: a2 :: a3 :: a4 :: a5 :: l) (i := 5) (by simp)
  simpa using this
@[simp] theorem atI6 {α : Type} (a0 a1 a2 a3 a4 a5 a6 : α) (l : List α) : L2.atI (a0 :: a1 :: a2 :: a3 :: a4 :: a5 :: a6 :: l) 6 = some a6 := by
  have := atI_nat (vs := a0 :: a1 :: a2 :: a3 :: a4 :: a5 :: a6 :: l) (i := 6) (by simp)
  simpa using this
@[simp] theorem atI7 {α : Type} (a0 a1 a2 a3 a4 a5 a6 a7 : α) (l : List α) : L2.atI (a0 :: a1 :: a2 :: a3 :: a4 :: a5 :: a6 :: a7 :: l) 7 = some a7 := by
  have := atI_nat (vs := a0 :: a1 :: a2 :: a3 :: a4 :: a5 :: a6 :: a7 :: l) (i := 7) (by simp)
  simpa using this
@[simp] theorem atI8 {α : Type} (a0 a1 a2 a3 a4 a5 a6 a7 a8 : α) (l : List α) : L2.atI (a0 :: a1 :: a2 :: a3 :: a4 :: a5 :: a6 :: a7 :: a8 :: l) 8 = some a8 := by
  have := atI_nat (vs := a0 :: a1 :: a2 :: a3 :: a4 :: a5 :: a6 :: a7 :: a8 :: l) (i := 8) (by simp)
  simpa using this
@[simp] theorem atI9 {α : Type} (a0 a1 a2 a3 a4 a5 a6 a7 a8 a9 : α) (l : List α) : L2.atI (a0 :: a1 :: a2 :: a3 :: a4 :: a5 :: a6 :: a7 :: a8 :: a9 :: l) 9 = some a9 := by
  have := atI_nat (vs := a0 :: a1 :: a2 :: a3 :: a4 :: a5 :: a6 :: a7 :: a8 :: a9 :: l) (i := 9) (by simp)
  simpa using this
@[simp] theorem atI10 {α : Type} (a0 a1 a2 a3 a4 a5 a6 a7 a8 a9 a10 : α) (l : List α) : L2.atI (a0 :: a1 :: a2 :: a3 :: a4 :: a5 :: a6 :: a7 :: a8 :: a9 :: a10 :: l) 10 = some a10 := by
  have := atI_nat (vs := a0 :: a1 :: a2 :: a3 :: a4 :: a5 :: a6 :: a7 :: a8 :: a9 :: a10 :: l) (i := 10) (by simp)
  simpa using this
@[simp] theorem atI11 {α : Type} (a0 a1 a2 a3 a4 a5 a6 a7 a8 a9 a10 a11 : α) (l : List α) : L2.atI (a0 :: a1 :: a2 :: a3 :: a4 :: a5 :: a6 :: a7 :: a8 :: a9 :: a10 :: a11 :: l) 11 = some a11 := by
  have := atI_nat (vs := a0 :: a1 :: a2 :: a3 :: a4 :: a5 :: a6 :: a7 :: a8 :: a9 :: a10 :: a11 :: l) (i := 11) (by simp)
  simpa using this
@[simp] theorem atI12 {α : Type} (a0 a1 a2 a3 a4 a5 a6 a7 a8 a9 a10 a11 a12 : α) (l : List α) : L2.atI (a0 :: a1 :: a2 :: a3 :: a4 :: a5 :: a6 :: a7 :: a8 :: a9 :: a10 :: a11 :: a12 :: l) 12 = some a12 := by
  have := atI_nat (vs := a0 :: a1 :: a2 :: a3 :: a4 :: a5 :: a6 :: a7 :: a8 :: a9 :: a10 :: a11 :: a12 :: l) (i := 12) (by simp)
  simpa using this
@[simp] theorem atI13 {α : Type} (a0 a1 a2 a3 a4 a5 a6 a7 a8 a9 a10 a11 a12 a13 : α) (l : List α) : L2.atI (a0 :: a1 :: a2 :: a3 :: a4 :: a5 :: a6 :: a7 :: a8 :: a9 :: a10 :: a11 :: a12 :: a13 :: l) 13 = some a13 := by
  have := atI_nat (vs := a0 :: a1 :: a2 :: a3 :: a4 :: a5 :: a6 :: a7 :: a8 :: a9 :: a10 :: a11 :: a12 :: a13 :: l) (i := 13) (by simp)
  simpa using this
@[simp] theorem atI14 {α : Type} (a0 a1 a2 a3 a4 a5 a6 a7 a8 a9 a10 a11 a12 a13 a14 : α) (l : List α) : L2.atI (a0 :: a1 :: a2 :: a3 :: a4 :: a5 :: a6 :: a7 :: a8 :: a9 :: a10 :: a11 :: a12 :: a13 :: a14 :: l) 14 = some a14 := by
  have := atI_nat (vs := a0 :: a1 :: a2 :: a3 :: a4 :: a5 :: a6 :: a7 :: a8 :: a9 :: a10 :: a11 :: a12 :: a13 :: a14 :: l) (i := 14) (by simp)
  simpa using this
@[simp] theorem atI15 {α : Type} (a0 a1 a2 a3 a4 a5 a6 a7 a8 a9 a10 a11 a12 a13 a14 a15 : α) (l : List α) : L2.atI (a0 :: a1 :: a2 :: a3 :: a4 :: a5 :: a6 :: a7 :: a8 :: a9 :: a10 :: a11 :: a12 :: a13 :: a14 :: a15 :: l) 15 = some a15 := by
  have := atI_nat (vs := a0 :: a1 :: a2 :: a3 :: a4 :: a5 :: a6 :: a7 :: a8 :: a9 :: a10 :: a11 :: a12 :: a13 :: a14 :: a15 :: l) (i := 15) (by simp)
  simpa using this
@[simp] theorem atI16 {α : Type} (a0 a1 a2 a3 a4 a5 a6 a7 a8 a9 a10 a11 a12 a13 a14 a15 a16 : α) (l : List α) : L2.atI (a0 :: a1 :: a2 :: a3 :: a4 :: a5 :: a6 :: a7 :: a8 :: a9 :: a10 :: a11 :: a12 :: a13 :: a14 :: a15 :: a16 :: l) 16 = some a16 := by
  have := atI_nat (vs := a0 :: a1 :: a2 :: a3 :: a4 :: a5 :: a6 :: a7 :: a8 :: a9 :: a10 :: a11 :: a12 :: a13 :: a14 :: a15 :: a16 :: l) (i := 16) (by simp)
  simpa using this
@[simp] theorem atI17 {α : Type} (a0 a1 a2 a3 a4 a5 a6 a7 a8 a9 a10 a11 a12 a13 a14 a15 a16 a17 : α) (l : List α) : L2.atI (a0 :: a1 :: a2 :: a3 :: a4 :: a5 :: a6 :: a7 :: a8 :: a9 :: a10 :: a11 :: a12 :: a13 :: a14 :: a15 :: a16 :: a17 :: l) 17 = some a17 := by
  have := atI_nat (vs := a0 :: a1 :: a2 :: a3 :: a4 :: a5 :: a6 :: a7 :: a8 :: a9 :: a10 :: a11 :: a12 :: a13 :: a14 :: a15 :: a16 :: a17 :: l) (i := 17) (by simp)
  simpa using this
@[simp] theorem atI18 {α : Type} (a0 a1 a2 a3 a4 a5 a6 a7 a8 a9 a10 a11 a12 a13 a14 a15 a16 a17 a18 : α) (l : List α) : L2.atI (a0 :: a1 :: a2 :: a3 :: a4 :: a5 :: a6 :: a7 :: a8 :: a9 :: a10 :: a11 :: a12 :: a13 :: a14 :: a15 :: a16 :: a17 :: a18 :: l) 18 = some a18 := by
  have := atI_nat (vs := a0 :: a1 :: a2 :: a3 :: a4 :: a5 :: a6 :: a7 :: a8 :: a9 :: a10 :: a11 :: a12 :: a13 :: a14 :: a15 :: a16 :: a17 :: a18 :: l) (i := 18) (by simp)
  simpa using this
@[simp] theorem atI19 {α : Type} (a0 a1 a2 a3 a4 a5 a6 a7 a8 a9 a10 a11 a12 a13 a14 a15 a16 a17 a18 a19 : α) (l : List α) : L2.atI (a0 :: a1 :: a2 :: a3 :: a4 :: a5 :: a6 :: a7 :: a8 :: a9 :: a10 :: a11 :: a12 :: a13 :: a14 :: a15 :: a16 :: a17 :: a18 :: a19 :: l) 19 = some a19 := by
  have := atI_nat (vs := a0 :: a1 :: a2 :: a3 :: a4 :: a5 :: a6 :: a7 :: a8 :: a9 :: a10 :: a11 :: a12 :: a13 :: a14 :: a15 :: a16 :: a17 :: a18 :: a19 :: l) (i := 19) (by simp)
  simpa using this
@[simp] theorem atI20 {α : Type} (a0 a1 a2 a3 a4 a5 a6 a7 a8 a9 a10 a11 a12 a13 a14 a15 a16 a17 a18 a19 a20 : α) (l : List α) : L2.atI (a0 :: a1 :: a2 :: a3 :: a4 :: a5 :: a6 :: a7 :: a8 :: a9 :: a10 :: a11 :: a12 :: a13 :: a14 :: a15 :: a16 :: a17 :: a18 :: a19 :: a20 :: l) 20 = some a20 := by
  have := atI_nat (vs := a0 :: a1 :: a2 :: a3 :: a4 :: a5 :: a6 :: a7 :: a8 :: a9 :: a10 :: a11 :: a12 :: a13 :: a14 :: a15 :: a16 :: a17 :: a18 :: a19 :: a20 :: l) (i := 20) (by simp)
  simpa using this
@[simp] theorem atI21 {α : Type} (a0 a1 a2 a3 a4 a5 a6 a7 a8 a9 a10 a11 a12 a13 a14 a15 a16 a17 a18 a19 a20 a21 : α) (l : List α) : L2.atI (a0 :: a1 :: a2 :: a3 :: a4 :: a5 :: a6 :: a7 :: a8 :: a9 :: a10 :: a11 :: a12 :: a13 :: a14 :: a15 :: a16 :: a17 :: a18 :: a19 :: a20 :: a21 :: l) 21 = some a21 := by
  have := atI_nat (vs := a0 :: a1 :: a2 :: a3 :: a4 :: a5 :: a6 :: a7 :: a8 :: a9 :: a10 :: a11 :: a12 :: a13 :: a14 :: a15 :: a16 :: a17 :: a18 :: a19 :: a20 :: a21 :: l) (i := 21) (by simp)
  simpa using this
@[simp] theorem atI22 {α : Type} (a0 a1 a2 a3 a4 a5 a6 a7 a8 a9 a10 a11 a12 a13 a14 a15 a16 a17 a18 a19 a20 a21 a22 : α) (l : List α) : L2.atI (a0 :: a1 :: a2 :: a3 :: a4 :: a5 :: a6 :: a7 :: a8 :: a9 :: a10 :: a11 :: a12 :: a13 :: a14 :: a15 :: a16 :: a17 :: a18 :: a19 :: a20 :: a21 :: a22 :: l) 22 = some a22 := by
  have := atI_nat (vs := a0 :: a1 :: a2 :: a3 :: a4 :: a5 :: a6 :: a7 :: a8 :: a9 :: a10 :: a11 :: a12 :: a13 :: a14 :: a15 :: a16 :: a17 :: a18 :: a19 :: a20 :: a21 :: a22 :: l) (i := 22) (by simp)
  simpa using this
@[simp] theorem atI23 {α : Type} (a0 a1 a2 a3 a4 a5 a6 a7 a8 a9 a10 a11 a12 a13 a14 a15 a16 a17 a18 a19 a20 a21 a22 a23 : α) (l : List α) : L2.atI (a0 :: a1 :: a2 :: a3 :: a4 :: a5 :: a6 :: a7 :: a8 :: a9 :: a10 :: a11 :: a12 :: a13 :: a14 :: a15 :: a16 :: a17 :: a18 :: a19 :: a20 :: a21 :: a22 :: a23 :: l) 23 = some a23 := by
  have := atI_nat (vs := a0 :: a1 :: a2 :: a3 :: a4 :: a5 :: a6 :: a7 :: a8 :: a9 :: a10 :: a11 :: a12 :: a13 :: a14 :: a15 :: a16 :: a17 :: a18 :: a19 :: a20 :: a21 :: a22 :: a23 :: l) (i := 23) (by simp)
  simpa using this
theorem atI_mem {α : Type} {xs : List α} {i : Int} (h0 : 0 ≤ i) (h : i < xs.length) : ∃ x ∈ xs, L2.atI xs i = some x := by
  have := atI_nat (vs := xs) (i := i.toNat) (by omega)
  rw [Int.toNat_of_nonneg h0] at this
  exact ⟨_, List.getElem_mem _, this⟩
theorem Ok_atI {xs : List PyData} {j : Int} {Q : Vl → Sto → Prop} {X : XP} (h0 : 0 ≤ j) (h1 : j < xs.length) (h : ∀ y ∈ xs, Q (.d y) s) : Ok (ofP (Option.map (fun x => (Vl.d x, s)) (L2.atI xs j))) Q X := by
  obtain ⟨y, hy, e⟩ := atI_mem h0 h1
  rw [e]
  exact h y hy
theorem Ok_comp_map {elt tg it : IE} {own : List Nat} {e : Sl} {ds : List PyData} {Q : Vl → Sto → Prop} {X : XP} (f : PyData → PyData) (hi : itr C it e s = .ok (.vals ds) s) (hl : ds.length ≤ 16777216)
    (ht : ∀ x ∈ ds, ∃ e1, setTgV tg (.d x) (wipe e own) = some e1 ∧ ev C elt e1 s = .ok (.d (f x)) s) (hq : Q (.d (.list (ds.map f))) s) : Ok (ev C (.comp false elt tg it .nil own) e s) Q X := Ok.eq (comp_map f hi hl ht) hq
theorem Ok_comp_filter {elt tg it c : IE} {own : List Nat} {e : Sl} {ds : List PyData} {Q : Vl → Sto → Prop} {X : XP} (f : PyData → PyData) (p : PyData → Bool) (hi : itr C it e s = .ok (.vals ds) s) (hl : ds.length ≤ 16777216)
    (ht : ∀ x ∈ ds, ∃ e1, setTgV tg (.d x) (wipe e own) = some e1 ∧ evT C c e1 s = .ok (p x) s ∧ (p x = true → ev C elt e1 s = .ok (.d (f x)) s)) (hq : Q (.d (.list ((ds.filter p).map f))) s) : Ok (ev C (.comp false elt tg it (.cons c .nil) own) e s) Q X := Ok.eq (comp_filter f p hi hl ht) hq
@[simp] theorem ixN_1_0 : L2.ixN 1 0 = some 0 := rfl
@[simp] theorem ixN_2_0 : L2.ixN 2 0 = some 0 := rfl
@[simp] theorem ixN_2_1 : L2.ixN 2 1 = some 1 := rfl
@[simp] theorem ixN_3_0 : L2.ixN 3 0 = some 0 := rfl
@[simp] theorem ixN_3_1 : L2.ixN 3 1 = some 1 := rfl
@[simp] theorem ixN_3_2 : L2.ixN 3 2 = some 2 := rfl
@[simp] theorem ixN_4_0 : L2.ixN 4 0 = some 0 := rfl
@[simp] theorem ixN_4_1 : L2.ixN 4 1 = some 1 := rfl
@[simp] theorem ixN_4_2 : L2.ixN 4 2 = some 2 := rfl
@[simp] theorem ixN_4_3 : L2.ixN 4 3 = some 3 := rfl
@[simp] theorem ixN_5_0 : L2.ixN 5 0 = some 0 := rfl
@[simp] theorem ixN_5_1 : L2.ixN 5 1 = some 1 := rfl
@[simp] theorem ixN_5_2 : L2.ixN 5 2 = some 2 := rfl
@[simp] theorem ixN_5_3 : L2.ixN 5 3 = some 3 := rfl
@[simp] theorem ixN_5_4 : L2.ixN 5 4 = some 4 := rfl
@[simp] theorem ixN_6_0 : L2.ixN 6 0 = some 0 := rfl
@[simp] theorem ixN_6_1 : L2.ixN 6 1 = some 1 := rfl
@[simp] theorem ixN_6_2 : L2.ixN 6 2 = some 2 := rfl
@[simp] theorem ixN_6_3 : L2.ixN 6 3 = some 3 := rfl
@[simp] theorem ixN_6_4 : L2.ixN 6 4 = some 4 := rfl
@[simp] theorem ixN_6_5 : L2.ixN 6 5 = some 5 := rfl
@[simp] theorem ixN_7_0 : L2.ixN 7 0 = some 0 := rfl
@[simp] theorem ixN_7_1 : L2.ixN 7 1 = some 1 := rfl
@[simp] theorem ixN_7_2 : L2.ixN 7 2 = some 2 := rfl
@[simp] theorem ixN_7_3 : L2.ixN 7 3 = some 3 := rfl
@[simp] theorem ixN_7_4 : L2.ixN 7 4 = some 4 := rfl
@[simp] theorem ixN_7_5 : L2.ixN 7 5 = some 5 := rfl
@[simp] theorem ixN_7_6 : L2.ixN 7 6 = some 6 := rfl
@[simp] theorem ixN_1_m : L2.ixN 1 (-1) = some 0 := rfl
@[simp] theorem ixN_2_m : L2.ixN 2 (-1) = some 1 := rfl
@[simp] theorem ixN_3_m : L2.ixN 3 (-1) = some 2 := rfl
@[simp] theorem ixN_4_m : L2.ixN 4 (-1) = some 3 := rfl
@[simp] theorem ixN_5_m : L2.ixN 5 (-1) = some 4 := rfl
@[simp] theorem ixN_6_m : L2.ixN 6 (-1) = some 5 := rfl
@[simp] theorem ixN_7_m : L2.ixN 7 (-1) = some 6 := rfl
@[simp] theorem idxV_r (i : Int) : idxV (.r n) (.d (.int i)) s = ((listAt n s).bind fun vs => L2.atI vs i).map (·, s) := by
  show ((listAt n s).bind _) = _
  cases listAt n s <;> rfl
theorem atI_map {α β : Type} (f : α → β) (l : List α) (i : Int) : L2.atI (l.map f) i = (L2.atI l i).map f := by
  unfold L2.atI
  rw [List.length_map]
  cases L2.ixN l.length i <;> simp
@[simp] theorem idxV_t (xs : List PyData) (i : Int) : idxV (.d (.tuple xs)) (.d (.int i)) s = (L2.atI xs i).map fun x => (.d x, s) := by
  show (L2.atI (xs.map Vl.d) i).map (·, s) = _
  rw [atI_map]
  cases L2.atI xs i <;> rfl
@[simp] theorem idxV_l (xs : List PyData) (i : Int) : idxV (.d (.list xs)) (.d (.int i)) s = (L2.atI xs i).map fun x => (.d x, s) := by
  show (L2.atI (xs.map Vl.d) i).map (·, s) = _
  rw [atI_map]
  cases L2.atI xs i <;> rfl
@[simp] theorem setV_r (i : Int) (v : Vl) : setV (.r n) (.d (.int i)) v s = (listAt n s).bind fun vs => (L2.ixN vs.length i).map fun j => putL n (vs.set j v) s := rfl
/-! ### built-in functions -/
@[simp] theorem w_len_t (xs : List PyData) : biV m .len [.d (.tuple xs)] s = some (.d (.int xs.length), s) := by simp [biV, lenV, itemsV, itemsD]
@[simp] theorem w_len_l (xs : List PyData) : biV m .len [.d (.list xs)] s = some (.d (.int xs.length), s) := by simp [biV, lenV, itemsV, itemsD]
@[simp] theorem w_len_r : biV m .len [.r n] s = (listAt n s).map fun l => (.d (.int l.length), s) := rfl
@[simp] theorem w_abs (i : Int) : biV m .abs [.d (.int i)] s = some (.d (.int i.natAbs), s) := by
  show some (Vl.d (.int (if i < 0 then -i else i)), s) = _
  congr 4
  split <;> omega
@[simp] theorem w_int (i : Int) : biV m .int [.d (.int i)] s = some (.d (.int i), s) := rfl
@[simp] theorem w_int_b (b : Bool) : biV m .int [.d (.bool b)] s = some (.d (.int (if b then 1 else 0)), s) := rfl
@[simp] theorem w_gcd (i j : Int) : biV m .gcd [.d (.int i), .d (.int j)] s = some (.d (.int (Int.gcd i j)), s) := rfl
@[simp] theorem w_max (i j : Int) : biV m .max [.d (.int i), .d (.int j)] s = some (.d (.int (max i j)), s) := by
  show some (Vl.d (.int (if j > i then j else i)), s) = _
  congr 4
  omega
@[simp] theorem w_min (i j : Int) : biV m .min [.d (.int i), .d (.int j)] s = some (.d (.int (min i j)), s) := by
  show some (Vl.d (.int (if j < i then j else i)), s) = _
  congr 4
  omega
@[simp] theorem w_min3 (i j k : Int) : biV m .min [.d (.int i), .d (.int j), .d (.int k)] s = some (.d (.int (min (min i j) k)), s) := by
  have e : minV [.d (.int i), .d (.int j), .d (.int k)] s = some (Vl.d (.int (if k < (if j < i then j else i) then k else (if j < i then j else i))), s) := rfl
  show minV [.d (.int i), .d (.int j), .d (.int k)] s = _
  rw [e]
  congr 4
  omega
theorem w_ints (is : List Int) : ints? (is.map .int) = some is := by
  have := ints_map id is
  simpa using this
@[simp] theorem w_sum (is : List Int) : biV m .sum [.d (.list (is.map .int))] s = some (.d (.int is.sum), s) := by
  show ((dataL (.d (.list (is.map .int))) s).bind ints?).map _ = _
  have h : dataL (.d (.list (is.map .int))) s = some (is.map .int) := allD_map _
  rw [h]
  show (ints? (is.map .int)).map _ = _
  rw [w_ints]
  rfl
def vI (i : Int) : Vl := .d (.int i)
theorem vI_map (is : List Int) : is.map vI = (is.map PyData.int).map Vl.d := by rw [List.map_map]; rfl
theorem allD_vI (is : List Int) : allD (is.map vI) = some (is.map .int) := by rw [vI_map]; exact allD_map _
theorem w_sum_r {is : List Int} (h : listAt n s = some (is.map vI)) : biV m .sum [.r n] s = some (.d (.int is.sum), s) := by
  show ((dataL (.r n) s).bind ints?).map _ = _
  have h : dataL (.r n) s = some (is.map .int) := by
    show (listAt n s).bind allD = _
    rw [h]
    exact allD_vI _
  rw [h]
  show (ints? (is.map .int)).map _ = _
  rw [w_ints]
  rfl
@[simp] theorem w_tup_l (xs : List PyData) : biV m .tuple [.d (.list xs)] s = some (.d (.tuple xs), s) := by
  show (dataV (.d (.list xs)) s).map _ = _
  have h : dataV (.d (.list xs)) s = some xs := allD_map _
  rw [h]
  rfl
@[simp] theorem w_tup_t (xs : List PyData) : biV m .tuple [.d (.tuple xs)] s = some (.d (.tuple xs), s) := by
  show (dataV (.d (.tuple xs)) s).map _ = _
  have h : dataV (.d (.tuple xs)) s = some xs := allD_map _
  rw [h]
  rfl
theorem w_tup_r {xs : List PyData} (h : listAt n s = some (xs.map Vl.d)) : biV m .tuple [.r n] s = some (.d (.tuple xs), s) := by
  show (dataV (.r n) s).map _ = _
  have h : dataV (.r n) s = some xs := by
    show (listAt n s).bind allD = _
    rw [h]
    exact allD_map _
  rw [h]
  rfl
@[simp] theorem allD_nil : allD [] = some [] := rfl
@[simp] theorem allD_d (x : PyData) (r : List Vl) : allD (.d x :: r) = (allD r).map (x :: ·) := rfl
@[simp] theorem allD_m (l : List PyData) : allD (l.map Vl.d) = some l := allD_map l
@[simp] theorem mkL_f : mkL false vs s = if vs.length ≤ 16777216 then (allD vs).map fun ds => (.d (.list ds), s) else none := rfl
@[simp] theorem allD_rep (k : Nat) (x : PyData) : allD (List.replicate k (Vl.d x)) = some (List.replicate k x) := by
  have := allD_map (List.replicate k x)
  rwa [List.map_replicate] at this
theorem mkL_data (xs : List PyData) : mkL false (xs.map Vl.d) s = if xs.length ≤ 16777216 then some (.d (.list xs), s) else none := by
  unfold mkL
  rw [allD_map, List.length_map]
  rfl
theorem mkL_true : mkL true vs s = if vs.length ≤ 16777216 then some (.r s.length, s ++ [some (.lst vs)]) else none := rfl
@[simp] theorem w_list_t (xs : List PyData) : biV false .list [.d (.tuple xs)] s = if xs.length ≤ 16777216 then some (.d (.list xs), s) else none := by
  show (itemsV (.d (.tuple xs)) s).bind (fun l => mkL false l s) = _
  exact mkL_data xs
@[simp] theorem w_list_l (xs : List PyData) : biV false .list [.d (.list xs)] s = if xs.length ≤ 16777216 then some (.d (.list xs), s) else none := by
  show (itemsV (.d (.list xs)) s).bind (fun l => mkL false l s) = _
  exact mkL_data xs
@[simp] theorem w_repr (x : PyData) : biV m .repr [.d x] s = if x.showable = true ∧ x.shown.length ≤ 16777216 ∧ x.depth ≤ 100 ∧ (x.hasDict = false ∨ noLst x = true) then some (.d (.str x.shown), s) else none := rfl
@[simp] theorem w_str (i : Int) : biV m .str [.d (.int i)] s = if i.natAbs.log2 < 1920 then some (.d (.str (toString i)), s) else none := rfl
/-! ### operators -/
@[simp] theorem bin_add (i j : Int) : binV m .add (.d (.int i)) (.d (.int j)) s = some (.d (.int (i + j)), s) := rfl
@[simp] theorem bin_sub (i j : Int) : binV m .sub (.d (.int i)) (.d (.int j)) s = some (.d (.int (i - j)), s) := rfl
@[simp] theorem bin_mul (i j : Int) : binV m .mul (.d (.int i)) (.d (.int j)) s = if mulOk i j then some (.d (.int (i * j)), s) else none := by
  show (if mulOk i j then some (i * j) else none : Option Int).map (fun k => (Vl.d (.int k), s)) = _
  split <;> rfl
@[simp] theorem bin_mod (i j : Int) : binV m .mod (.d (.int i)) (.d (.int j)) s = if 0 < j then some (.d (.int (i % j)), s) else none := by
  show (if 0 < j then some (i % j) else none : Option Int).map (fun k => (Vl.d (.int k), s)) = _
  split <;> rfl
@[simp] theorem bin_fdiv (i j : Int) : binV m .fdiv (.d (.int i)) (.d (.int j)) s = if 0 < j ∧ j.natAbs.log2 < 9000 then some (.d (.int (i / j)), s) else if j < 0 ∧ j.natAbs.log2 < 9000 then some (.d (.int (i.fdiv j)), s) else none := by
  show (if 0 < j ∧ j.natAbs.log2 < 9000 then some (i / j) else if j < 0 ∧ j.natAbs.log2 < 9000 then some (i.fdiv j) else none : Option Int).map (fun k => (Vl.d (.int k), s)) = _
  split
  · rfl
  · split <;> rfl
theorem bin_pow {i j k : Int} (h : binI .pow i j = some k) : binV m .pow (.d (.int i)) (.d (.int j)) s = some (.d (.int k), s) := by
  show (binI .pow i j).map _ = _
  rw [h]
  rfl
@[simp] theorem bin_tt (a b : List PyData) : binV m .add (.d (.tuple a)) (.d (.tuple b)) s = if a.length + b.length ≤ 16777216 then some (.d (.tuple (a ++ b)), s) else none := by
  show binD .add (.tuple a) (.tuple b) s = _
  simp [binD]
@[simp] theorem bin_ll (a b : List PyData) : binV false .add (.d (.list a)) (.d (.list b)) s = if a.length + b.length ≤ 16777216 then some (.d (.list (a ++ b)), s) else none := by
  show mkL false (a.map Vl.d ++ b.map Vl.d) s = _
  rw [← List.map_append, mkL_data, List.length_append]
@[simp] theorem bin_llm (a b : List PyData) : binV true .add (.d (.list a)) (.d (.list b)) s = mkL true ((a ++ b).map Vl.d) s := by
  show mkL true (a.map Vl.d ++ b.map Vl.d) s = _
  rw [← List.map_append]
@[simp] theorem bin_tm (a : List PyData) (j : Int) : binV m .mul (.d (.tuple a)) (.d (.int j)) s = if 2 ≤ j ∧ j ≤ 1000 ∧ a.length ≤ 1000 then some (.d (.tuple (List.replicate j.toNat a).flatten), s) else none := by
  show binD .mul (.tuple a) (.int j) s = _
  simp [binD]
@[simp] theorem mulOk_rs {i j : Int} (h : j.natAbs < 2 ^ 64) : mulOk i j ↔ True := ⟨fun _ => trivial, fun _ => .inr (.inl h)⟩
@[simp] theorem mulOk_ls {i j : Int} (h : i.natAbs < 2 ^ 64) : mulOk i j ↔ True := ⟨fun _ => trivial, fun _ => .inl h⟩
@[simp] theorem log2_s {j : Nat} (h : j < 2 ^ 64) : Nat.log2 j < 9000 ↔ True := by
  refine ⟨fun _ => trivial, fun _ => ?_⟩
  by_cases h0 : j = 0
  · subst h0; decide
  · exact Nat.lt_trans ((Nat.log2_lt h0).mpr h) (by decide)
theorem mulOk_r {i j : Int} (h : j.natAbs < 2 ^ 64) : mulOk i j := .inr (.inl h)
theorem mulOk_l {i j : Int} (h : i.natAbs < 2 ^ 64) : mulOk i j := .inl h
/-! ### comparisons -/
theorem eqD_str (i j : Str) : eqD (.str i) (.str j) = some (decide (i = j)) := rfl
@[simp] theorem c_eq (i j : Int) : cmpV .eq (.d (.int i)) (.d (.int j)) s = some (decide (i = j)) := eqD_int i j
@[simp] theorem c_ne (i j : Int) : cmpV .ne (.d (.int i)) (.d (.int j)) s = some (!decide (i = j)) := cmp_ne_int i j
@[simp] theorem c_lt (i j : Int) : cmpV .lt (.d (.int i)) (.d (.int j)) s = some (decide (i < j)) := rfl
@[simp] theorem c_le (i j : Int) : cmpV .le (.d (.int i)) (.d (.int j)) s = some (decide (i ≤ j)) := rfl
@[simp] theorem c_gt (i j : Int) : cmpV .gt (.d (.int i)) (.d (.int j)) s = some (decide (j < i)) := rfl
@[simp] theorem c_ge (i j : Int) : cmpV .ge (.d (.int i)) (.d (.int j)) s = some (decide (j ≤ i)) := rfl
@[simp] theorem c_eqb (i j : Bool) : cmpV .eq (.d (.bool i)) (.d (.bool j)) s = some (i == j) := rfl
@[simp] theorem c_eqs (i j : Str) : cmpV .eq (.d (.str i)) (.d (.str j)) s = some (decide (i = j)) := eqD_str i j
@[simp] theorem c_nes (i j : Str) : cmpV .ne (.d (.str i)) (.d (.str j)) s = some (!decide (i = j)) := by
  show (eqD (.str i) (.str j)).map (!·) = _
  rw [eqD_str]
  rfl
@[simp] theorem rng_nat (k : Nat) (h : k ≤ 1000000) : rngV 0 (k : Int) = some (.vals ((List.range k).map fun j : Nat => PyData.int j)) := by
  unfold rngV
  rw [if_pos (by omega)]
  simp
theorem rng_int {k : Int} (h0 : 0 ≤ k) (h : k ≤ 1000000) : rngV 0 k = some (.vals ((List.range k.toNat).map fun j : Nat => PyData.int j)) := by
  have := rng_nat k.toNat (by omega)
  rwa [Int.toNat_of_nonneg h0] at this
theorem rng1_ok {a : IE} {e : Sl} {k : Int} (ha : ev C a e s = .ok (.d (.int k)) t) (h0 : 0 ≤ k) (h : k ≤ 1000000) : itr C (.rng1 a) e s = .ok (.vals ((List.range k.toNat).map fun j : Nat => PyData.int j)) t := by
  rw [itr_rng1, ha, ok_bind, optI_int]
  show ofO (rngV 0 k) t = _
  rw [rng_int h0 h]
  rfl
theorem itv_t {a : IE} {e : Sl} {xs : List PyData} (ha : ev C a e s = .ok (.d (.tuple xs)) t) : itr C (.itv a) e s = .ok (.vals xs) t := by
  rw [itr_itv, ha]
  rfl
theorem itv_l {a : IE} {e : Sl} {xs : List PyData} (ha : ev C a e s = .ok (.d (.list xs)) t) : itr C (.itv a) e s = .ok (.vals xs) t := by
  rw [itr_itv, ha]
  rfl
@[simp] theorem itrV_t (xs : List PyData) : itrV (.d (.tuple xs)) s = some (.vals xs) := rfl
@[simp] theorem itrV_l (xs : List PyData) : itrV (.d (.list xs)) s = some (.vals xs) := rfl
@[simp] theorem zip_l (a b : List PyData) : zipV (.d (.list a)) (.d (.list b)) = some (.vals (List.zipWith (fun u v => PyData.tuple [u, v]) a b)) := rfl
@[simp] theorem enum_l (a : List PyData) : enumV (.d (.list a)) = some (.vals (a.zipIdx.map fun p => PyData.tuple [.int p.2, p.1])) := rfl
@[simp] theorem frz_d (x : PyData) : frzV (.d x) s = some (.d x, s) := rfl
@[simp] theorem sli_t (xs : List PyData) (lo hi : Option Int) : sliV m (.d (.tuple xs)) lo hi s = some (.d (.tuple (cutL xs lo hi)), s) := rfl
@[simp] theorem sli_l (xs : List PyData) (lo hi : Option Int) : sliV false (.d (.list xs)) lo hi s = if (cutL xs lo hi).length ≤ 16777216 then some (.d (.list (cutL xs lo hi)), s) else none := mkL_data _
@[simp] theorem rev_t (xs : List PyData) : revV m (.d (.tuple xs)) s = some (.d (.tuple xs.reverse), s) := rfl
@[simp] theorem rev_l (xs : List PyData) : revV false (.d (.list xs)) s = if xs.length ≤ 16777216 then some (.d (.list xs.reverse), s) else none := by
  show mkL false (xs.reverse.map Vl.d) s = _
  rw [mkL_data, List.length_reverse]
theorem cut_sub {α : Type} (xs : List α) (lo hi : Option Int) : (cutL xs lo hi).Sublist xs := (List.take_sublist _ _).trans (List.drop_sublist _ _)
theorem cut_to {α : Type} (xs : List α) {i : Int} (h0 : 0 ≤ i) : cutL xs none (some i) = xs.take i.toNat := by
  have e : HT.sIx xs.length xs.length (some i) = min i.toNat xs.length := by
    have := HT.sIx_nat xs.length xs.length i.toNat
    rwa [Int.toNat_of_nonneg h0] at this
  unfold cutL
  rw [e, HT.sIx_none, List.drop_zero, Nat.sub_zero]
  by_cases h : i.toNat ≤ xs.length
  · rw [Nat.min_eq_left h]
  · rw [Nat.min_eq_right (by omega), List.take_length, List.take_of_length_le (by omega)]
theorem cut_from {α : Type} (xs : List α) {i : Int} (h0 : 0 ≤ i) : cutL xs (some i) none = xs.drop i.toNat := by
  have e : HT.sIx xs.length 0 (some i) = min i.toNat xs.length := by
    have := HT.sIx_nat xs.length 0 i.toNat
    rwa [Int.toNat_of_nonneg h0] at this
  unfold cutL
  rw [e, HT.sIx_none]
  by_cases h : i.toNat ≤ xs.length
  · rw [Nat.min_eq_left h]
    exact List.take_of_length_le (by simp)
  · rw [Nat.min_eq_right (by omega), List.drop_of_length_le (Nat.le_refl _), List.drop_of_length_le (by omega)]
    simp
@[simp] theorem isT_tup (x : PyData) : isT .tuple (.d x) s = some (match x with | .tuple _ => true | _ => false) := by cases x <;> rfl
@[simp] theorem isT_int (x : PyData) : isT .int (.d x) s = some (match x with | .int _ => true | .bool _ => true | _ => false) := by cases x <;> rfl
@[simp] theorem isT_bool (x : PyData) : isT .bool (.d x) s = some (match x with | .bool _ => true | _ => false) := by cases x <;> rfl
@[simp] theorem isT_lst (x : PyData) : isT .list (.d x) s = some (match x with | .list _ => true | _ => false) := by cases x <;> rfl
/-- only the place n is another one -/
def Fr (n : Nat) (s t : Sto) : Prop := t.length = s.length ∧ ∀ j, j ≠ n → t[j]? = s[j]?
theorem Fr.refl : Fr n s s := ⟨rfl, fun _ _ => rfl⟩
theorem Fr.trans (a : Fr n s t) (b : Fr n t u) : Fr n s u := ⟨b.1.trans a.1, fun j h => (b.2 j h).trans (a.2 j h)⟩
theorem Fr.put : Fr n s (putL n vs s) := ⟨putL_length, fun j h => by unfold putL; rw [List.getElem?_set_ne (Ne.symm h)]⟩
theorem Fr.putr (a : Fr n s t) : Fr n s (putL n vs t) := a.trans .put
end
end SM

set_option maxHeartbeats 1000000
/-! SM: values that repr shows. -/
namespace SM
open PySem
mutual
/-- tuples of ints below 2 ^ b -/
def plB (b : Nat) : PyData → Bool
  | .int i => decide (i.natAbs < 2 ^ b)
  | .tuple xs => plBs b xs
  | _ => false
def plBs (b : Nat) : List PyData → Bool
  | [] => true
  | x :: xs => plB b x && plBs b xs
end
mutual
/-- what repr shows -/
def okB : PyData → Bool
  | .none | .bool _ => true
  | .int i => decide (i.natAbs < 2 ^ 1900)
  | .str x => x.cps.toList.all fun c => decide (c < 16 ^ 8)
  | .list xs | .tuple xs => okBs xs
  | .dict kvs => okKv kvs
def okBs : List PyData → Bool
  | [] => true
  | x :: xs => okB x && okBs xs
def okKv : List (PyData × PyData) → Bool
  | [] => true
  | (k, v) :: r => okB k && okB v && okKv r
end
theorem plBs_all {b : Nat} : ∀ {xs : List PyData}, plBs b xs = true ↔ ∀ x ∈ xs, plB b x = true
  | [] => by simp [plBs]
  | x :: xs => by simp [plBs, plBs_all (xs := xs)]
theorem okBs_all : ∀ {xs : List PyData}, okBs xs = true ↔ ∀ x ∈ xs, okB x = true
  | [] => by simp [okBs]
  | x :: xs => by simp [okBs, okBs_all (xs := xs)]
theorem noLsts_all : ∀ {xs : List PyData}, noLsts xs = true ↔ ∀ x ∈ xs, noLst x = true
  | [] => by simp [noLsts]
  | x :: xs => by simp [noLsts, noLsts_all (xs := xs)]
theorem noDicts_all : ∀ {xs : List PyData}, PyData.hasDictAll xs = false ↔ ∀ x ∈ xs, PyData.hasDict x = false
  | [] => by simp [PyData.hasDictAll]
  | x :: xs => by simp [PyData.hasDictAll, noDicts_all (xs := xs)]
mutual
theorem plB_ok {b : Nat} (hb : b ≤ 1900) : ∀ {x : PyData}, plB b x = true → okB x = true ∧ x.hasDict = false ∧ noLst x = true
  | .int i, h => by
    simp only [plB, decide_eq_true_eq] at h
    refine ⟨?_, rfl, rfl⟩
    simp only [okB, decide_eq_true_eq]
    exact Nat.lt_of_lt_of_le h (Nat.pow_le_pow_right (by decide) hb)
  | .tuple xs, h => plBs_ok hb (xs := xs) h
theorem plBs_ok {b : Nat} (hb : b ≤ 1900) : ∀ {xs : List PyData}, plBs b xs = true → okBs xs = true ∧ PyData.hasDictAll xs = false ∧ noLsts xs = true
  | [], _ => ⟨rfl, rfl, rfl⟩
  | x :: xs, h => by
    simp only [plBs, Bool.and_eq_true] at h
    obtain ⟨a1, a2, a3⟩ := plB_ok hb h.1
    obtain ⟨b1, b2, b3⟩ := plBs_ok hb h.2
    simp only [okBs, PyData.hasDictAll, noLsts, a1, a2, a3, b1, b2, b3]
    decide
end
mutual
theorem plB_mono {b c : Nat} (hb : b ≤ c) : ∀ {x : PyData}, plB b x = true → plB c x = true
  | .int i, h => by
    simp only [plB, decide_eq_true_eq] at h ⊢
    exact Nat.lt_of_lt_of_le h (Nat.pow_le_pow_right (by decide) hb)
  | .tuple xs, h => plBs_mono hb (xs := xs) h
theorem plBs_mono {b c : Nat} (hb : b ≤ c) : ∀ {xs : List PyData}, plBs b xs = true → plBs c xs = true
  | [], _ => rfl
  | x :: xs, h => by
    simp only [plBs, Bool.and_eq_true] at h ⊢
    exact ⟨plB_mono hb h.1, plBs_mono hb h.2⟩
end
theorem log2_1920 {i : Int} (h : i.natAbs < 2 ^ 1900) : i.natAbs.log2 < 1920 := by
  by_cases h0 : i.natAbs = 0
  · rw [h0]; decide
  · exact Nat.lt_trans ((Nat.log2_lt h0).mpr h) (by decide)
theorem int_short {i : Int} (h : i.natAbs < 2 ^ 1900) : (PyData.shown (.int i)).length ≤ 2000 := by
  have e := int_text_length_le (a := i) (k := 1920) (by decide) (log2_1920 h)
  show (Str.ofString (toString i)).length ≤ 2000
  rw [ofString_length]
  omega
mutual
theorem okB_shows : ∀ {x : PyData}, okB x = true → x.showable = true ∧ x.leavesShort 2000 = true
  | .none, _ => ⟨rfl, rfl⟩
  | .bool _, _ => ⟨rfl, rfl⟩
  | .int i, h => by
    simp only [okB, decide_eq_true_eq] at h
    exact ⟨by simp only [PyData.showable, decide_eq_true_eq]; exact log2_1920 h, by simp only [PyData.leavesShort, decide_eq_true_eq]; exact int_short h⟩
  | .str x, h => ⟨rfl, h⟩
  | .list xs, h => okBs_shows (xs := xs) h
  | .tuple xs, h => okBs_shows (xs := xs) h
  | .dict kvs, h => okKv_shows (kvs := kvs) h
theorem okBs_shows : ∀ {xs : List PyData}, okBs xs = true → PyData.showableAll xs = true ∧ PyData.leavesShortAll 2000 xs = true
  | [], _ => ⟨rfl, rfl⟩
  | x :: xs, h => by
    simp only [okBs, Bool.and_eq_true] at h
    obtain ⟨a1, a2⟩ := okB_shows h.1
    obtain ⟨b1, b2⟩ := okBs_shows h.2
    simp only [PyData.showableAll, PyData.leavesShortAll, a1, a2, b1, b2]
    decide
theorem okKv_shows : ∀ {kvs : List (PyData × PyData)}, okKv kvs = true → PyData.showableKv kvs = true ∧ PyData.leavesShortKv 2000 kvs = true
  | [], _ => ⟨rfl, rfl⟩
  | (k, v) :: r, h => by
    simp only [okKv, Bool.and_eq_true] at h
    obtain ⟨a1, a2⟩ := okB_shows h.1.1
    obtain ⟨b1, b2⟩ := okB_shows h.1.2
    obtain ⟨c1, c2⟩ := okKv_shows h.2
    simp only [PyData.showableKv, PyData.leavesShortKv, a1, a2, b1, b2, c1, c2]
    decide
end
/-- a value, of a size and a depth -/
structure Rp (N D : Nat) (x : PyData) : Prop where
  ok : okB x = true
  bk : x.bulk ≤ N
  dp : x.depth ≤ D
  hd : x.hasDict = false ∨ noLst x = true
theorem Rp.mono {N D N' D' : Nat} {x : PyData} (h : Rp N D x) (hN : N ≤ N') (hD : D ≤ D') : Rp N' D' x := ⟨h.ok, Nat.le_trans h.bk hN, Nat.le_trans h.dp hD, h.hd⟩
theorem Rp.shows {x : PyData} (h : Rp 8000 100 x) : x.showable = true ∧ x.shown.length ≤ 16777216 ∧ x.depth ≤ 100 ∧ (x.hasDict = false ∨ noLst x = true) := by
  obtain ⟨h1, h2⟩ := okB_shows h.ok
  refine ⟨h1, ?_, h.dp, h.hd⟩
  have := PyData.shown_le_bulk 2000 (by decide) x h2
  have h3 : (2000 + 2) * x.bulk ≤ 2002 * 8000 := Nat.mul_le_mul_left _ h.bk
  omega
def rpB (N D : Nat) (x : PyData) : Bool := (okB x && decide (x.bulk ≤ N)) && (decide (x.depth ≤ D) && (!x.hasDict || noLst x))
theorem rpB_rp {N D : Nat} {x : PyData} (h : rpB N D x = true) : Rp N D x := by
  simp only [rpB, Bool.and_eq_true, decide_eq_true_eq, Bool.or_eq_true, Bool.not_eq_true'] at h
  exact ⟨h.1.1, h.1.2, h.2.1, h.2.2⟩
/-- .. without lists and dicts -/
structure Pl (b N D : Nat) (x : PyData) : Prop where
  pl : plB b x = true
  bk : x.bulk ≤ N
  dp : x.depth ≤ D
theorem Pl.rp {b N D : Nat} {x : PyData} (h : Pl b N D x) (hb : b ≤ 1900) : Rp N D x := ⟨(plB_ok hb h.pl).1, h.bk, h.dp, .inl (plB_ok hb h.pl).2.1⟩
theorem Pl.mono {b N D b' N' D' : Nat} {x : PyData} (h : Pl b N D x) (hb : b ≤ b') (hN : N ≤ N') (hD : D ≤ D') : Pl b' N' D' x := ⟨plB_mono hb h.pl, Nat.le_trans h.bk hN, Nat.le_trans h.dp hD⟩
theorem bulk_app : ∀ (xs ys : List PyData), PyData.bulkAll (xs ++ ys) = PyData.bulkAll xs + PyData.bulkAll ys
  | [], ys => by simp [PyData.bulkAll]
  | x :: xs, ys => by simp only [List.cons_append, PyData.bulkAll, bulk_app xs ys]; omega
theorem depth_app : ∀ (xs ys : List PyData), PyData.depthAll (xs ++ ys) = max (PyData.depthAll xs) (PyData.depthAll ys)
  | [], ys => by simp [PyData.depthAll]
  | x :: xs, ys => by simp only [List.cons_append, PyData.depthAll, depth_app xs ys]; omega
theorem depth_le {D : Nat} : ∀ {xs : List PyData}, PyData.depthAll xs ≤ D ↔ ∀ x ∈ xs, x.depth ≤ D
  | [] => by simp [PyData.depthAll]
  | x :: xs => by
    have := depth_le (D := D) (xs := xs)
    simp only [PyData.depthAll, List.mem_cons, forall_eq_or_imp, ← this]
    omega
theorem bulk_le {N : Nat} : ∀ {xs : List PyData}, (∀ x ∈ xs, x.bulk ≤ N) → PyData.bulkAll xs ≤ xs.length * (N + 1)
  | [], _ => by simp [PyData.bulkAll]
  | x :: xs, h => by
    have h1 := h x List.mem_cons_self
    have h2 := bulk_le (N := N) (xs := xs) fun y hy => h y (List.mem_cons_of_mem _ hy)
    simp only [PyData.bulkAll, List.length_cons, Nat.add_mul, Nat.one_mul]
    omega
theorem bulk_mem {x : PyData} : ∀ {xs : List PyData}, x ∈ xs → x.bulk + 1 ≤ PyData.bulkAll xs
  | y :: xs, h => by
    rcases List.mem_cons.mp h with rfl | h
    · simp only [PyData.bulkAll]; omega
    · have := bulk_mem h
      simp only [PyData.bulkAll]; omega
/-- a tuple of plain things -/
theorem Pl.tup {b N D L : Nat} {xs : List PyData} (h : ∀ x ∈ xs, Pl b N D x) (hl : xs.length ≤ L) : Pl b (L * (N + 1)) (D + 1) (.tuple xs) :=
  ⟨plBs_all.mpr fun x hx => (h x hx).pl, Nat.le_trans (bulk_le fun x hx => (h x hx).bk) (Nat.mul_le_mul_right _ hl), Nat.succ_le_succ (depth_le.mpr fun x hx => (h x hx).dp)⟩
theorem Pl.int {b : Nat} {i : Int} (h : i.natAbs < 2 ^ b) : Pl b 0 0 (.int i) := ⟨by simpa [plB] using h, Nat.le_refl 0, Nat.le_refl 0⟩
theorem Pl.items {b N D : Nat} {xs : List PyData} (h : Pl b N D (.tuple xs)) : ∀ x ∈ xs, Pl b N D x := fun x hx =>
  ⟨plBs_all.mp h.pl x hx, Nat.le_trans (Nat.le_trans (Nat.le_succ _) (bulk_mem hx)) h.bk, Nat.le_trans (depth_le.mp (Nat.le_refl _) x hx) (Nat.le_of_succ_le h.dp)⟩
/-- a part of a tuple's items, a tuple again -/
theorem Pl.sub {b N D : Nat} {xs ys : List PyData} (h : Pl b N D (.tuple xs)) (hs : ys.Sublist xs) : Pl b N D (.tuple ys) := by
  have hb : PyData.bulkAll ys ≤ PyData.bulkAll xs := by
    clear h
    induction hs with
    | slnil => exact Nat.le_refl _
    | cons a _ ih => simp only [PyData.bulkAll]; omega
    | cons_cons a _ ih => simp only [PyData.bulkAll]; omega
  exact ⟨plBs_all.mpr fun x hx => plBs_all.mp h.pl x (hs.subset hx), Nat.le_trans hb h.bk, Nat.le_trans (Nat.succ_le_succ (depth_le.mpr fun x hx => depth_le.mp (Nat.le_refl _) x (hs.subset hx))) h.dp⟩
theorem Pl.app {b N D N' : Nat} {xs ys : List PyData} (h : Pl b N D (.tuple xs)) (g : Pl b N' D (.tuple ys)) : Pl b (N + N') D (.tuple (xs ++ ys)) := by
  refine ⟨plBs_all.mpr fun x hx => ?_, ?_, ?_⟩
  · rcases List.mem_append.mp hx with hx | hx
    · exact plBs_all.mp h.pl x hx
    · exact plBs_all.mp g.pl x hx
  · have h1 : PyData.bulkAll xs ≤ N := h.bk
    have h2 : PyData.bulkAll ys ≤ N' := g.bk
    show PyData.bulkAll _ ≤ _
    rw [bulk_app]; omega
  · have h1 : PyData.depthAll xs + 1 ≤ D := h.dp
    have h2 : PyData.depthAll ys + 1 ≤ D := g.dp
    show PyData.depthAll _ + 1 ≤ _
    rw [depth_app]; omega
theorem Pl.perm {b N D : Nat} {xs ys : List PyData} (h : Pl b N D (.tuple xs)) (hs : ys.Perm xs) : Pl b N D (.tuple ys) := by
  have hb : PyData.bulkAll ys = PyData.bulkAll xs := by
    clear h
    induction hs with
    | nil => rfl
    | cons a _ ih => simp only [PyData.bulkAll, ih]
    | swap a b l => simp only [PyData.bulkAll]; omega
    | trans _ _ ih1 ih2 => exact ih1.trans ih2
  exact ⟨plBs_all.mpr fun x hx => plBs_all.mp h.pl x (hs.subset hx), by show PyData.bulkAll ys ≤ N; rw [hb]; exact h.bk, Nat.le_trans (Nat.succ_le_succ (depth_le.mpr fun x hx => depth_le.mp (Nat.le_refl _) x (hs.subset hx))) h.dp⟩
theorem Pl.rep {b N D : Nat} {xs : List PyData} (h : Pl b N D (.tuple xs)) : ∀ k : Nat, Pl b (k * N) (max D 1) (.tuple (List.replicate k xs).flatten)
  | 0 => ⟨rfl, by simp [PyData.bulk, PyData.bulkAll], by simp [PyData.depth, PyData.depthAll]; omega⟩
  | k + 1 => by
    rw [List.replicate_succ, List.flatten_cons, Nat.add_mul, Nat.one_mul, Nat.add_comm]
    exact (h.mono (Nat.le_refl _) (Nat.le_refl _) (by omega)).app (h.rep k)
end SM

set_option maxHeartbeats 1000000
/-! plain: fractions of weights, their least common denominator. -/
namespace SM
open PySem
/-- w over S in lowest terms -/
def frO (w S : Int) : Int × Int := (w / (Int.gcd w S : Nat), S / (Int.gcd w S : Nat))
theorem gcd_pos {w S : Int} (h : 0 < S) : (1 : Int) ≤ (Int.gcd w S : Nat) := by
  have : 0 < Int.gcd w S := Int.gcd_pos_of_ne_zero_right _ (by omega)
  omega
theorem frO_w {w S : Int} (h : 0 < S) : (frO w S).1 * (Int.gcd w S : Nat) = w := Int.ediv_mul_cancel (Int.gcd_dvd_left ..)
theorem frO_S {w S : Int} (h : 0 < S) : (frO w S).2 * (Int.gcd w S : Nat) = S := Int.ediv_mul_cancel (Int.gcd_dvd_right ..)
theorem frO_cross {w S : Int} (h : 0 < S) : (frO w S).1 * S = w * (frO w S).2 := by
  have h1 := frO_w (w := w) h
  have h2 := frO_S (w := w) h
  calc (frO w S).1 * S = (frO w S).1 * ((frO w S).2 * (Int.gcd w S : Nat)) := by rw [h2]
    _ = ((frO w S).1 * (Int.gcd w S : Nat)) * (frO w S).2 := by rw [Int.mul_comm (frO w S).2, Int.mul_assoc]
    _ = w * (frO w S).2 := by rw [h1]
theorem frO_pos {w S : Int} (h : 0 < S) : 1 ≤ (frO w S).2 := by
  have h2 := frO_S (w := w) h
  have g := gcd_pos (w := w) h
  rcases Int.lt_or_le 0 (frO w S).2 with z | z
  · omega
  · have : (frO w S).2 * (Int.gcd w S : Nat) ≤ 0 := Int.mul_nonpos_of_nonpos_of_nonneg z (by omega)
    omega
theorem frO_nn {w S : Int} (h : 0 < S) (hw : 0 ≤ w) : 0 ≤ (frO w S).1 := Int.ediv_nonneg hw (by have := gcd_pos (w := w) h; omega)
theorem frO_dvd {w S : Int} (h : 0 < S) : (frO w S).2 ∣ S := ⟨_, (frO_S h).symm⟩
theorem frO_gcd {w S : Int} (h : 0 < S) : Int.gcd (frO w S).1 (frO w S).2 = 1 := by
  have g := gcd_pos (w := w) h
  exact Int.gcd_ediv_gcd_ediv_gcd (by omega)
theorem frO_zero {w S : Int} (h : 0 < S) : (frO w S).1 = 0 ↔ w = 0 := by
  have h1 := frO_w (w := w) h
  have g := gcd_pos (w := w) h
  constructor
  · intro z; rw [z] at h1; omega
  · intro z
    rw [z] at h1
    rcases Int.mul_eq_zero.mp h1 with e | e
    · rw [z]; exact e
    · rw [z] at g; omega
theorem frO_le {w S : Int} (h : 0 < S) : (frO w S).2 ≤ S := Int.le_of_dvd h (frO_dvd h)
theorem frO_abs {w S : Int} (h : 0 < S) : (frO w S).1.natAbs ≤ w.natAbs := Int.natAbs_ediv_le_natAbs ..
def frs (is : List Int) : List (Int × Int) := is.map fun w => frO w is.sum
/-- the least common multiple of what stands below -/
def lcmF : Int → List (Int × Int) → Int
  | L, [] => L
  | L, p :: r => lcmF (Int.lcm L p.2 : Nat) r
theorem lcmF_dvd {S : Int} : ∀ {ps : List (Int × Int)} {L : Int}, L ∣ S → (∀ p ∈ ps, p.2 ∣ S) → lcmF L ps ∣ S
  | [], _, h, _ => h
  | p :: r, L, h, hp => by
    show lcmF (Int.lcm L p.2 : Nat) r ∣ S
    exact lcmF_dvd (Int.coe_lcm_dvd h (hp p List.mem_cons_self)) fun q hq => hp q (List.mem_cons_of_mem _ hq)
theorem lcmF_ge : ∀ {ps : List (Int × Int)} {L : Int}, L ∣ lcmF L ps
  | [], _ => Int.dvd_refl _
  | p :: r, L => Int.dvd_trans (Int.dvd_lcm_left (a:=L) (b:=p.2)) (lcmF_ge (ps := r))
theorem lcmF_of : ∀ {ps : List (Int × Int)} {L : Int}, ∀ p ∈ ps, p.2 ∣ lcmF L ps
  | [], _, _, h => by cases h
  | p :: r, L, q, h => by
    rcases List.mem_cons.mp h with rfl | h
    · exact Int.dvd_trans (Int.dvd_lcm_right (a:=L) (b:=q.2)) (lcmF_ge (ps := r))
    · exact lcmF_of (ps := r) q h
/-! ### sums over 0, 1, .. -/
def sumR (f : Nat → Int) (n : Nat) : Int := ((List.range n).map f).sum
@[simp] theorem sumR_zero (f : Nat → Int) : sumR f 0 = 0 := rfl
theorem sumR_succ (f : Nat → Int) (n : Nat) : sumR f (n + 1) = sumR f n + f n := by simp [sumR, List.range_succ]
theorem sumR_congr {f g : Nat → Int} : ∀ {n : Nat}, (∀ k, k < n → f k = g k) → sumR f n = sumR g n
  | 0, _ => rfl
  | n + 1, h => by rw [sumR_succ, sumR_succ, sumR_congr (n := n) (fun k hk => h k (by omega)), h n (by omega)]
theorem sumR_mul (f : Nat → Int) (c : Int) : ∀ n, sumR (fun k => f k * c) n = sumR f n * c
  | 0 => by simp
  | n + 1 => by rw [sumR_succ, sumR_succ, sumR_mul f c n, Int.add_mul]
theorem sumR_sub (f g : Nat → Int) : ∀ n, sumR (fun k => f k - g k) n = sumR f n - sumR g n
  | 0 => by simp
  | n + 1 => by rw [sumR_succ, sumR_succ, sumR_succ, sumR_sub f g n]; omega
theorem sumR_nn {f : Nat → Int} : ∀ {n : Nat}, (∀ k, k < n → 0 ≤ f k) → 0 ≤ sumR f n
  | 0, _ => by simp
  | n + 1, h => by
    have h1 := sumR_nn (n := n) fun k hk => h k (by omega)
    have h2 := h n (by omega)
    rw [sumR_succ]; omega
theorem sumR_eq0 {f : Nat → Int} : ∀ {n : Nat}, (∀ k, k < n → 0 ≤ f k) → (sumR f n = 0 ↔ ∀ k, k < n → f k = 0)
  | 0, _ => by simp
  | n + 1, h => by
    have h0 : ∀ k, k < n → 0 ≤ f k := fun k hk => h k (by omega)
    have h1 := sumR_nn h0
    have h2 := h n (by omega)
    have ih := sumR_eq0 h0
    rw [sumR_succ]
    constructor
    · intro z k hk
      have z1 : sumR f n = 0 := by omega
      by_cases e : k = n
      · subst e; omega
      · exact ih.mp z1 k (by omega)
    · intro z
      rw [ih.mpr fun k hk => z k (by omega), z n (by omega)]
      rfl
theorem sumR_abs {f : Nat → Int} {B : Nat} : ∀ {n : Nat}, (∀ k, k < n → (f k).natAbs ≤ B) → (sumR f n).natAbs ≤ n * B
  | 0, _ => by simp
  | n + 1, h => by
    have h1 := sumR_abs (n := n) fun k hk => h k (by omega)
    have h2 := h n (by omega)
    rw [sumR_succ, Nat.add_mul]; omega
theorem range_getD {α : Type} (d : α) (xs : List α) : (List.range xs.length).map (fun k => xs.getD k d) = xs := by
  refine List.ext_getElem (by simp) fun i h1 h2 => ?_
  simp [List.getD_eq_getElem?_getD, h2]
theorem sum_sumR (xs : List Int) : xs.sum = sumR (fun k => xs.getD k 0) xs.length := by
  unfold sumR
  rw [range_getD]
theorem map_range {α β : Type} (d : α) (f : α → β) (xs : List α) : xs.map f = (List.range xs.length).map fun k => f (xs.getD k d) := by
  conv => lhs; rw [← range_getD d xs]
  rw [List.map_map]
  rfl
theorem getD_lt {α : Type} {d : α} {xs : List α} {i : Nat} (h : i < xs.length) : xs.getD i d = xs[i] := by simp [List.getD_eq_getElem?_getD, h]
theorem getD_mem {α : Type} {d : α} {xs : List α} {i : Nat} (h : i < xs.length) : xs.getD i d ∈ xs := by rw [getD_lt h]; exact List.getElem_mem _
theorem zipIdx_range {α β : Type} (d : α) (f : α × Nat → β) (xs : List α) : xs.zipIdx.map f = (List.range xs.length).map fun k => f (xs.getD k d, k) := by
  refine List.ext_getElem (by simp) fun i h1 h2 => ?_
  have h3 : i < xs.length := by simpa using h2
  simp [List.getD_eq_getElem?_getD, h3]
/-! ### what choices get -/
def dot (P : Nat → Nat → Int) (o : Nat) (ws : List Int) : Int := sumR (fun k => ws.getD k 0 * P o k) ws.length
theorem getD_map0 (c : Int) (ns : List Int) (k : Nat) : (ns.map (· * c)).getD k 0 = ns.getD k 0 * c := by
  simp only [List.getD_eq_getElem?_getD, List.getElem?_map]
  cases ns[k]? <;> simp
theorem dot_scale (P : Nat → Nat → Int) (o : Nat) (c : Int) (ns : List Int) : dot P o (ns.map (· * c)) = dot P o ns * c := by
  unfold dot
  rw [List.length_map, ← sumR_mul]
  refine sumR_congr fun k _ => ?_
  rw [getD_map0, Int.mul_assoc, Int.mul_assoc, Int.mul_comm c]
theorem sum_scale (c : Int) (ns : List Int) : (ns.map (· * c)).sum = ns.sum * c := by
  rw [sum_sumR, sum_sumR, List.length_map, ← sumR_mul]
  exact sumR_congr fun k _ => getD_map0 c ns k
/-- the greatest of a list of numbers -/
theorem maxL_some : ∀ {xs : List Int}, xs ≠ [] → ∃ m, maxL xs = some m ∧ m ∈ xs ∧ ∀ x ∈ xs, x ≤ m
  | [], h => absurd rfl h
  | [a], _ => ⟨a, rfl, by simp, by simp⟩
  | a :: b :: r, _ => by
    obtain ⟨m, h1, h2, h3⟩ := maxL_some (xs := b :: r) (by simp)
    refine ⟨max a m, ?_, ?_, ?_⟩
    · show (match maxL (b :: r) with
        | none => some a
        | some m => some (if m > a then m else a)) = _
      rw [h1]
      simp only
      congr 1
      omega
    · rcases Int.le_total a m with h | h
      · rw [Int.max_eq_right h]; exact List.mem_cons_of_mem _ h2
      · rw [Int.max_eq_left h]; exact List.mem_cons_self
    · intro x hx
      rcases List.mem_cons.mp hx with rfl | hx
      · omega
      · have := h3 x hx; omega
def mxO (f : Nat → Int) (m : Nat) : Int := (maxL ((List.range m).map f)).getD 0
theorem mxO_of {f : Nat → Int} {m : Nat} (h : 1 ≤ m) : maxL ((List.range m).map f) = some (mxO f m) ∧ (∃ o, o < m ∧ mxO f m = f o) ∧ ∀ o, o < m → f o ≤ mxO f m := by
  obtain ⟨x, h1, h2, h3⟩ := maxL_some (xs := (List.range m).map f) (by simp; omega)
  have e : mxO f m = x := by simp [mxO, h1]
  rw [e]
  refine ⟨h1, ?_, fun o ho => h3 _ (List.mem_map.mpr ⟨o, by simpa using ho, rfl⟩)⟩
  obtain ⟨o, ho, rfl⟩ := List.mem_map.mp h2
  exact ⟨o, by simpa using ho, rfl⟩
theorem mxO_scale {f : Nat → Int} {m : Nat} (h : 1 ≤ m) {c : Int} (hc : 0 < c) : mxO (fun o => f o * c) m = mxO f m * c := by
  obtain ⟨_, ⟨o, ho, e⟩, g⟩ := mxO_of (f := f) h
  obtain ⟨_, ⟨o', ho', e'⟩, g'⟩ := mxO_of (f := fun o => f o * c) h
  refine Int.le_antisymm ?_ ?_
  · rw [e']
    exact Int.mul_le_mul_of_nonneg_right (g o' ho') (by omega)
  · rw [e]
    exact g' o ho
/-- all that has a part is best -/
def Bst (P : Nat → Nat → Int) (us ws : List Int) : Prop := ∀ k, k < us.length → us.getD k 0 ≠ 0 → dot P k ws = mxO (fun o => dot P o ws) us.length
theorem gain_zero {P : Nat → Nat → Int} {us ws : List Int} (h1 : 1 ≤ us.length) (hu : ∀ u ∈ us, 0 ≤ u) :
    sumR (fun k => us.getD k 0 * dot P k ws) us.length = mxO (fun o => dot P o ws) us.length * us.sum ↔ Bst P us ws := by
  obtain ⟨_, _, g⟩ := mxO_of (f := fun o => dot P o ws) h1
  unfold Bst
  generalize mxO (fun o => dot P o ws) us.length = M at g ⊢
  have k1 : M * us.sum - sumR (fun k => us.getD k 0 * dot P k ws) us.length = sumR (fun k => us.getD k 0 * (M - dot P k ws)) us.length := by
    rw [sum_sumR, Int.mul_comm M, ← sumR_mul, ← sumR_sub]
    exact sumR_congr fun k _ => (Int.mul_sub ..).symm
  have k2 := sumR_eq0 (f := fun k => us.getD k 0 * (M - dot P k ws)) (n := us.length) fun k hk => Int.mul_nonneg (hu _ (getD_mem hk)) (by have := g k hk; omega)
  have k3 : sumR (fun k => us.getD k 0 * dot P k ws) us.length = M * us.sum ↔ sumR (fun k => us.getD k 0 * (M - dot P k ws)) us.length = 0 := by omega
  rw [k3, k2]
  refine ⟨fun h k hk hn => ?_, fun h k hk => ?_⟩
  · rcases Int.mul_eq_zero.mp (h k hk) with z | z
    · exact absurd z hn
    · omega
  · by_cases z : us.getD k 0 = 0
    · rw [z]; simp
    · rw [h k hk z, Int.sub_self, Int.mul_zero]
end SM

set_option maxHeartbeats 1000000
/-! plain: games as lists of lists of numbers; loops by places. -/
namespace SM
open PySem
def rowD (r : List Int) : PyData := .tuple (r.map .int)
def tabD (A : List (List Int)) : PyData := .tuple (A.map rowD)
def gD (A B : List (List Int)) : PyData := .tuple [tabD A, tabD B]
def inB (x : Int) : Prop := -1000 ≤ x ∧ x ≤ 1000
def rwOk (C : Nat) (r : List Int) : Prop := r.length = C ∧ ∀ x ∈ r, inB x
structure Gv (A B : List (List Int)) (R C : Nat) : Prop where
  ra : A.length = R
  rb : B.length = R
  ca : ∀ r ∈ A, rwOk C r
  cb : ∀ r ∈ B, rwOk C r
  r1 : 1 ≤ R
  r5 : R ≤ 5
  c1 : 1 ≤ C
  c5 : C ≤ 5
def gt (A : List (List Int)) (i j : Nat) : Int := (A.getD i []).getD j 0
def pay (A B : List (List Int)) (sd own oth : Nat) : Int := if sd = 0 then gt A own oth else gt B oth own
def mn (R C sd : Nat) : Nat := if sd = 0 then R else C
@[simp] theorem mn0 (R C : Nat) : mn R C 0 = R := rfl
@[simp] theorem mn1 (R C : Nat) : mn R C 1 = C := rfl
theorem gt_in {A : List (List Int)} {C i j : Nat} (h : ∀ r ∈ A, rwOk C r) (hi : i < A.length) (hj : j < C) : inB (gt A i j) := by
  have h1 := h _ (getD_mem (d := []) hi)
  exact h1.2 _ (getD_mem (by rw [h1.1]; exact hj))
theorem gt_abs {x : Int} (h : inB x) : x.natAbs ≤ 1000 := by obtain ⟨h1, h2⟩ := h; omega
section
variable {C : Cal} {n : Nat} {s t : Sto} {m : Bool} {e : Sl} {A B : List (List Int)} {r : List Int}
theorem at_row {i : Nat} (h : i < A.length) : L2.atI (A.map rowD) (i : Int) = some (rowD (A.getD i [])) := by rw [atI_nat (by simpa using h), getD_lt h]; simp
theorem at_int {i : Nat} (h : i < r.length) : L2.atI (r.map PyData.int) (i : Int) = some (.int (r.getD i 0)) := by rw [atI_nat (by simpa using h), getD_lt h]; simp
@[simp] theorem idx_tab (i : Int) : idxV (.d (tabD A)) (.d (.int i)) s = (L2.atI (A.map rowD) i).map fun x => (.d x, s) := idxV_t ..
@[simp] theorem idx_row (i : Int) : idxV (.d (rowD r)) (.d (.int i)) s = (L2.atI (r.map PyData.int) i).map fun x => (.d x, s) := idxV_t ..
@[simp] theorem idx_g0 : idxV (.d (gD A B)) (.d (.int 0)) s = some (.d (tabD A), s) := by unfold gD; simp
@[simp] theorem idx_g1 : idxV (.d (gD A B)) (.d (.int 1)) s = some (.d (tabD B), s) := by unfold gD; simp
@[simp] theorem len_tab : biV m .len [.d (tabD A)] s = some (.d (.int A.length), s) := by unfold tabD; simp
@[simp] theorem len_row : biV m .len [.d (rowD r)] s = some (.d (.int r.length), s) := by unfold rowD; simp
@[simp] theorem itr_tab : itrV (.d (tabD A)) s = some (.vals (A.map rowD)) := rfl
@[simp] theorem itr_row : itrV (.d (rowD r)) s = some (.vals (r.map .int)) := rfl
@[simp] theorem max_l (is : List Int) : biV m .max [.d (.list (is.map .int))] s = (maxL is).map fun k => (.d (.int k), s) := by
  show ((dataV (.d (.list (is.map .int))) s).bind ints?).bind _ = _
  have h : dataV (.d (.list (is.map .int))) s = some (is.map .int) := allD_map _
  rw [h]
  show (ints? (is.map .int)).bind _ = _
  rw [w_ints, Option.bind_some]
@[simp] theorem max_row : biV m .max [.d (rowD r)] s = (maxL r).map fun k => (.d (.int k), s) := by
  show ((dataV (.d (.tuple (r.map .int))) s).bind ints?).bind _ = _
  have h : dataV (.d (.tuple (r.map .int))) s = some (r.map .int) := allD_map _
  rw [h]
  show (ints? (r.map .int)).bind _ = _
  rw [w_ints, Option.bind_some]
@[simp] theorem ev_lrg (m : Bool) (a : IE) : ev C (.lrg m a) e s = (ev C a e s).bind fun x s => ofP (lrgV m x s) := rfl
@[simp] theorem lrg_nat {k : Nat} (h : k ≤ 1000000) : lrgV false (.d (.int k)) s = some (.d (.list ((List.range k).map fun i : Nat => .int i)), s) := by
  unfold lrgV
  simp only
  rw [if_pos (by omega)]
  show mkL false ((List.range (Int.toNat k)).map ((Vl.d) ∘ fun i : Nat => PyData.int i)) s = _
  rw [← List.map_map, mkL_data, if_pos (by simp; omega)]
  simp
def meR (C : Cal) (f : Me) (es : IE) (e : Sl) (o : Vl) (s : Sto) : Rs Vl := match listV o s with
  | some _ => (evs C es e s).bind fun xs s => ofP (meV f o xs s)
  | none => .no
@[simp] theorem ev_me (f : Me) (o es : IE) : ev C (.me f o es) e s = (ev C o e s).bind (meR C f es e) := by
  show (ev C o e s).bind _ = _
  congr 1
  funext o s
  unfold meR
  cases listV o s <;> rfl
theorem meR_r {f : Me} {es : IE} {vs : List Vl} (h : listAt n s = some vs) : meR C f es e (.r n) s = (evs C es e s).bind fun xs s => ofP (meV f (.r n) xs s) := by
  unfold meR
  show (match listAt n s with
    | some _ => (evs C es e s).bind fun xs s => ofP (meV f (.r n) xs s)
    | none => .no) = _
  rw [h]
@[simp] theorem meR_new {f : Me} {es : IE} {vs : List Vl} : meR C f es e (.r s.length) (s ++ [some (.lst vs)]) = (evs C es e (s ++ [some (.lst vs)])).bind fun xs t => ofP (meV f (.r s.length) xs t) := meR_r listAt_new
theorem app_r {vs : List Vl} {v : Vl} (h : listAt n s = some vs) (hl : vs.length < 16777216) : meV .append (.r n) [v] s = some (.d .none, putL n (vs ++ [v]) s) := by
  show (listAt n s).bind _ = _
  rw [h, Option.bind_some, if_pos hl]
theorem app_new {vs : List Vl} {v : Vl} (hl : vs.length < 16777216) : meV .append (.r s.length) [v] (s ++ [some (.lst vs)]) = some (.d .none, s ++ [some (.lst (vs ++ [v]))]) := by
  rw [app_r listAt_new hl, putL_new]
theorem frz_r {xs : List PyData} (h : listAt n s = some (xs.map Vl.d)) : frzV (.r n) s = some (.d (.list xs), s.set n none) := by
  show (listAt n s).bind _ = _
  rw [h, Option.bind_some, frzL_data, Option.bind_some]
  show (listAt n s).map _ = _
  rw [h]
  rfl
theorem frz_new {xs : List PyData} : frzV (.r s.length) (s ++ [some (.lst (xs.map Vl.d))]) = some (.d (.list xs), s ++ [none]) := by
  rw [frz_r listAt_new]
  simp
/-- [elt for x in xs], pure, over things told as data -/
theorem comp_on {α : Type} {elt tg it : IE} {own : List Nat} {xs : List α} (g f : α → PyData) (hi : itr C it e s = .ok (.vals (xs.map g)) s) (hl : xs.length ≤ 16777216)
    (ht : ∀ a ∈ xs, ∃ e1, setTgV tg (.d (g a)) (wipe e own) = some e1 ∧ ev C elt e1 s = .ok (.d (f a)) s) : ev C (.comp false elt tg it .nil own) e s = .ok (.d (.list (xs.map f))) s := by
  show ((itr C it e s).bind fun I s => (noex (cmI (turnF C elt tg .nil (wipe e own)) I s)).bind fun vs s => ofP (mkL false vs s)) = _
  rw [hi]
  show ((noex (cmL (turnF C elt tg .nil (wipe e own)) (xs.map g) s)).bind fun vs s => ofP (mkL false vs s)) = _
  have key : ∀ ys : List α, (∀ a ∈ ys, a ∈ xs) → cmL (turnF C elt tg .nil (wipe e own)) (ys.map g) s = .ok ((ys.map f).map Vl.d) s := by
    intro ys
    induction ys with
    | nil => intro _; rfl
    | cons a r ih =>
      intro hm
      obtain ⟨e1, h1, h2⟩ := ht a (hm a List.mem_cons_self)
      have tn : turnF C elt tg .nil (wipe e own) (.d (g a)) s = .ok (some (.d (f a))) s := by
        unfold turnF
        rw [h1]
        show (ev C elt e1 s).bind _ = _
        rw [h2]
        rfl
      show (turnF C elt tg .nil (wipe e own) (.d (g a)) s).bind _ = _
      rw [tn]
      show (cmL (turnF C elt tg .nil (wipe e own)) (r.map g) s).bind _ = _
      rw [ih fun x hx => hm x (List.mem_cons_of_mem _ hx)]
      rfl
  rw [key xs fun _ h => h]
  show ofP (mkL false ((xs.map f).map Vl.d) s) = _
  rw [mkL_data, if_pos (by simpa using hl)]
  rfl
/-- [elt for x in xs if c], pure, over things told as data -/
theorem filter_on {α : Type} {elt tg it c : IE} {own : List Nat} {xs : List α} (g f : α → PyData) (p : α → Bool) (hi : itr C it e s = .ok (.vals (xs.map g)) s) (hl : xs.length ≤ 16777216)
    (ht : ∀ a ∈ xs, ∃ e1, setTgV tg (.d (g a)) (wipe e own) = some e1 ∧ evT C c e1 s = .ok (p a) s ∧ (p a = true → ev C elt e1 s = .ok (.d (f a)) s)) : ev C (.comp false elt tg it (.cons c .nil) own) e s = .ok (.d (.list ((xs.filter p).map f))) s := by
  show ((itr C it e s).bind fun I s => (noex (cmI (turnF C elt tg (.cons c .nil) (wipe e own)) I s)).bind fun vs s => ofP (mkL false vs s)) = _
  rw [hi]
  show ((noex (cmL (turnF C elt tg (.cons c .nil) (wipe e own)) (xs.map g) s)).bind fun vs s => ofP (mkL false vs s)) = _
  have key : ∀ ys : List α, (∀ a ∈ ys, a ∈ xs) → cmL (turnF C elt tg (.cons c .nil) (wipe e own)) (ys.map g) s = .ok (((ys.filter p).map f).map Vl.d) s := by
    intro ys
    induction ys with
    | nil => intro _; rfl
    | cons a r ih =>
      intro hm
      obtain ⟨e1, h1, h2, h3⟩ := ht a (hm a List.mem_cons_self)
      have tn : turnF C elt tg (.cons c .nil) (wipe e own) (.d (g a)) s = .ok (if p a = true then some (.d (f a)) else none) s := by
        unfold turnF
        rw [h1]
        show (evT C c e1 s).bind _ = _
        rw [h2]
        cases q : p a with
        | false => rfl
        | true =>
          show (ev C elt e1 s).bind _ = _
          rw [h3 q]
          rfl
      show (turnF C elt tg (.cons c .nil) (wipe e own) (.d (g a)) s).bind _ = _
      rw [tn]
      show (cmL (turnF C elt tg (.cons c .nil) (wipe e own)) (r.map g) s).bind _ = _
      rw [ih fun x hx => hm x (List.mem_cons_of_mem _ hx)]
      cases q : p a <;> simp [q]
  rw [key xs fun _ h => h]
  show ofP (mkL false (((xs.filter p).map f).map Vl.d) s) = _
  rw [mkL_data, if_pos (by have := List.length_filter_le p xs; simp; omega)]
  rfl
/-- a loop by places -/
theorem Sw_goN {t : Vl → Sl → Sto → Fl} {P : Pt} (J : Nat → Sl → Sto → Prop) {xs : List PyData} (step : ∀ j (h : j < xs.length) e s, J j e s → Sw (t (.d xs[j]) e s) ⟨J (j + 1), P.r, P.n, J (j + 1), P.x⟩) (last : ∀ e s, J xs.length e s → P.n e s) {e : Sl} {s : Sto} (h0 : J 0 e s) : Sw (goL t xs e s) P := by
  refine Sw_goL (fun r e s => ∃ j, r = xs.drop j ∧ j ≤ xs.length ∧ J j e s) (fun x r e s ⟨j, hr, hj, h⟩ => ?_) (fun e s ⟨j, hr, hj, h⟩ => ?_) ⟨0, by simp, by omega, h0⟩
  · have hlt : j < xs.length := by
      rcases Nat.lt_or_ge j xs.length with z | z
      · exact z
      · rw [List.drop_eq_nil_of_le z] at hr; cases hr
    rw [List.drop_eq_getElem_cons hlt] at hr
    injection hr with e1 e2
    subst e1
    have hs := step j hlt e s h
    exact hs.mono (fun e s q => ⟨j + 1, e2, hlt, q⟩) (fun _ _ q => q) (fun _ _ q => q) (fun e s q => ⟨j + 1, e2, hlt, q⟩) fun _ _ _ _ q => q
  · have hge : xs.length ≤ j := by
      rcases Nat.lt_or_ge j xs.length with z | z
      · rw [List.drop_eq_getElem_cons z] at hr; cases hr
      · exact z
    have : j = xs.length := by omega
    subst this
    exact last e s h
theorem Sw_goR {t : Vl → Sl → Sto → Fl} {P : Pt} (k : Nat) (J : Nat → Sl → Sto → Prop) (step : ∀ j, j < k → ∀ e s, J j e s → Sw (t (.d (.int j)) e s) ⟨J (j + 1), P.r, P.n, J (j + 1), P.x⟩) (last : ∀ e s, J k e s → P.n e s) {e : Sl} {s : Sto} (h0 : J 0 e s) : Sw (goL t ((List.range k).map fun j : Nat => PyData.int j) e s) P := by
  refine Sw_goN J (fun j h e s q => ?_) (fun e s q => last e s (by simpa using q)) h0
  have hj : j < k := by simpa using h
  simp only [List.getElem_map, List.getElem_range]
  exact step j hj e s q
end
end SM

set_option maxHeartbeats 1000000
/-! plain: mixes of weights, as numbers over one number. -/
namespace SM
open PySem
structure Wt (ws : List Int) (c : Nat) : Prop where
  len : ws.length = c
  c5 : c ≤ 5
  rg : ∀ w ∈ ws, 0 ≤ w ∧ w < 2 ^ 1480
  pos : 0 < ws.sum
def frD (p : Int × Int) : PyData := .tuple [.int p.1, .int p.2]
def mixD (ws : List Int) : PyData := .tuple ((frs ws).map frD)
def lc (ws : List Int) : Int := lcmF 1 (frs ws)
def nsO (ws : List Int) : List Int := (frs ws).map fun p => p.1 * (lc ws / p.2)
def cO (ws : List Int) : Int := ws.sum / lc ws
theorem sum_lt5 {is : List Int} (h : ∀ i ∈ is, 0 ≤ i ∧ i < 2 ^ 1480) : is.sum ≤ is.length * 2 ^ 1480 := by
  induction is with
  | nil => simp
  | cons a is ih =>
    have ha := h a List.mem_cons_self
    have := ih fun j hj => h j (List.mem_cons_of_mem _ hj)
    simp only [List.sum_cons, List.length_cons]
    generalize (2 : Int) ^ 1480 = X at *
    have e : ((is.length + 1 : Nat) : Int) * X = is.length * X + X := by rw [Int.natCast_add, Int.add_mul]; simp
    rw [e]
    omega
section
variable {ws : List Int} {c : Nat}
theorem Wt.lt (h : Wt ws c) : ws.sum.natAbs < 2 ^ 1483 := by
  have h1 := sum_lt5 h.rg
  have h5 : (ws.length : Int) * 2 ^ 1480 ≤ 5 * 2 ^ 1480 := Int.mul_le_mul_of_nonneg_right (by have := h.len; have := h.c5; omega) (by decide +kernel)
  have e : (5 * 2 ^ 1480 : Int) < 2 ^ 1483 := by decide +kernel
  have := h.pos
  omega
theorem lcmF_pos : ∀ {ps : List (Int × Int)} {L : Int}, 0 < L → (∀ p ∈ ps, 1 ≤ p.2) → 0 < lcmF L ps
  | [], _, h, _ => h
  | p :: r, L, h, hp => by
    show 0 < lcmF (Int.lcm L p.2 : Nat) r
    refine lcmF_pos ?_ fun q hq => hp q (List.mem_cons_of_mem _ hq)
    have := hp p List.mem_cons_self
    have : 0 < Int.lcm L p.2 := Int.lcm_pos (by omega) (by omega)
    omega
theorem Wt.frs_mem (h : Wt ws c) {p : Int × Int} (hp : p ∈ frs ws) : ∃ w ∈ ws, p = frO w ws.sum := by
  obtain ⟨w, hw, e⟩ := List.mem_map.mp hp
  exact ⟨w, hw, e.symm⟩
theorem Wt.frs_pos (h : Wt ws c) : ∀ p ∈ frs ws, 1 ≤ p.2 ∧ p.2 ∣ ws.sum := fun p hp => by
  obtain ⟨w, hw, rfl⟩ := h.frs_mem hp
  exact ⟨frO_pos h.pos, frO_dvd h.pos⟩
theorem Wt.lc_pos (h : Wt ws c) : 0 < lc ws := lcmF_pos (by decide) fun p hp => (h.frs_pos p hp).1
theorem Wt.lc_dvd (h : Wt ws c) : lc ws ∣ ws.sum := lcmF_dvd ⟨_, (Int.one_mul _).symm⟩ fun p hp => (h.frs_pos p hp).2
theorem Wt.lc_mul (h : Wt ws c) : lc ws * cO ws = ws.sum := Int.mul_ediv_cancel' h.lc_dvd
theorem Wt.c_pos (h : Wt ws c) : 0 < cO ws := by
  have h1 := h.lc_mul
  have h2 := h.lc_pos
  have h3 := h.pos
  rcases Int.lt_or_le 0 (cO ws) with z | z
  · exact z
  · have : lc ws * cO ws ≤ 0 := Int.mul_nonpos_of_nonneg_of_nonpos (by omega) z
    omega
theorem Wt.ns_mul (h : Wt ws c) : ws = (nsO ws).map (· * cO ws) := by
  unfold nsO frs
  rw [List.map_map, List.map_map]
  conv => lhs; rw [← List.map_id ws]
  refine List.map_congr_left fun w hw => ?_
  have hp : frO w ws.sum ∈ frs ws := List.mem_map.mpr ⟨w, hw, rfl⟩
  have d : (frO w ws.sum).2 ∣ lc ws := lcmF_of _ hp
  have d1 := frO_pos (w := w) h.pos
  have cr := frO_cross (w := w) h.pos
  have lm := h.lc_mul
  obtain ⟨q, hq⟩ := d
  have e : lc ws / (frO w ws.sum).2 = q := by rw [hq]; exact Int.mul_ediv_cancel_left q (by omega)
  show w = (frO w ws.sum).1 * (lc ws / (frO w ws.sum).2) * cO ws
  rw [e]
  clear e hp
  generalize (frO w ws.sum).2 = b at *
  generalize (frO w ws.sum).1 = a at *
  generalize cO ws = k at *
  refine Int.eq_of_mul_eq_mul_right (a := b) (by omega) ?_
  rw [← cr, ← lm, hq]
  ac_rfl
theorem Wt.ns_sum (h : Wt ws c) : (nsO ws).sum = lc ws := by
  have h1 := h.lc_mul
  have h2 : ws.sum = (nsO ws).sum * cO ws := by
    conv => lhs; rw [h.ns_mul]
    exact sum_scale _ _
  have h3 := h.c_pos
  exact Int.eq_of_mul_eq_mul_right (a := cO ws) (by omega) (by rw [← h2, h1])
theorem ns_len : (nsO ws).length = ws.length := by simp [nsO, frs]
theorem Wt.ns_nn (h : Wt ws c) : ∀ x ∈ nsO ws, 0 ≤ x := fun x hx => by
  obtain ⟨p, hp, rfl⟩ := List.mem_map.mp hx
  obtain ⟨w, hw, rfl⟩ := h.frs_mem hp
  have h1 := frO_nn h.pos (h.rg w hw).1
  have h2 : 0 ≤ lc ws / (frO w ws.sum).2 := Int.ediv_nonneg (by have := h.lc_pos; omega) (by have := frO_pos (w := w) h.pos; omega)
  exact Int.mul_nonneg h1 h2
theorem Wt.ns_le (h : Wt ws c) : ∀ x ∈ nsO ws, x.natAbs < 2 ^ 1480 := fun x hx => by
  have h0 := h.ns_nn x hx
  have h1 : x * cO ws ∈ ws := by
    rw [h.ns_mul]
    have : x * cO ws ∈ (nsO ws).map (· * cO ws) := List.mem_map.mpr ⟨x, hx, rfl⟩
    rwa [← h.ns_mul] at this ⊢
  have h2 := (h.rg _ h1).2
  have h3 := h.c_pos
  have h4 : x * 1 ≤ x * cO ws := Int.mul_le_mul_of_nonneg_left (by omega) h0
  have e : ((2 ^ 1480 : Nat) : Int) = 2 ^ 1480 := by norm_cast
  omega
theorem Wt.lc_lt (h : Wt ws c) : (lc ws).natAbs < 2 ^ 1483 := by
  have h1 := Int.le_of_dvd h.pos h.lc_dvd
  have h2 := h.lc_pos
  have := h.lt
  omega
theorem Wt.ns0 (h : Wt ws c) (k : Nat) : (nsO ws).getD k 0 = 0 ↔ ws.getD k 0 = 0 := by
  have e : ws.getD k 0 = (nsO ws).getD k 0 * cO ws := by
    conv => lhs; rw [h.ns_mul]
    exact getD_map0 _ _ _
  have := h.c_pos
  rw [e]
  constructor
  · intro z; rw [z]; simp
  · intro z
    rcases Int.mul_eq_zero.mp z with q | q
    · exact q
    · omega
theorem frs_getD0 (h : Wt ws c) {k : Nat} (hk : k < ws.length) : ((frs ws).getD k (0, 1)).1 = 0 ↔ ws.getD k 0 = 0 := by
  have e : (frs ws).getD k (0, 1) = frO (ws.getD k 0) ws.sum := by
    rw [getD_lt (by simpa [frs] using hk), getD_lt hk]
    simp [frs]
  rw [e]
  exact frO_zero h.pos
/-- the best ones are the same against the numbers as against the weights -/
theorem Wt.dot_ns (h : Wt ws c) (P : Nat → Nat → Int) (o : Nat) : dot P o ws = dot P o (nsO ws) * cO ws := by
  conv => lhs; rw [h.ns_mul]
  exact dot_scale _ _ _ _
theorem Wt.best_ns (h : Wt ws c) (P : Nat → Nat → Int) {m : Nat} (hm : 1 ≤ m) (o : Nat) : dot P o ws = mxO (fun o => dot P o ws) m ↔ dot P o (nsO ws) = mxO (fun o => dot P o (nsO ws)) m := by
  have e : (fun o => dot P o ws) = fun o => dot P o (nsO ws) * cO ws := funext fun o => h.dot_ns P o
  have hc := h.c_pos
  rw [e, mxO_scale hm hc, h.dot_ns P o]
  constructor
  · intro z; exact Int.eq_of_mul_eq_mul_right (by omega) z
  · intro z; rw [z]
theorem Bst_ns {us : List Int} {d : Nat} (P : Nat → Nat → Int) (hu : Wt us d) (h : Wt ws c) : Bst P us ws ↔ Bst P (nsO us) (nsO ws) := by
  have h1 : 1 ≤ us.length := by
    cases us with
    | nil => have := hu.pos; simp at this
    | cons a r => simp
  unfold Bst
  rw [ns_len]
  constructor
  · intro z k hk hn
    exact (h.best_ns P h1 k).mp (z k hk fun q => hn ((hu.ns0 k).mpr q))
  · intro z k hk hn
    exact (h.best_ns P h1 k).mpr (z k hk fun q => hn ((hu.ns0 k).mp q))
theorem log_of {i : Int} {k : Nat} (h : i.natAbs < 2 ^ k) : i.natAbs.log2 < k ∨ i = 0 := by
  by_cases h0 : i = 0
  · exact .inr h0
  · exact .inl ((Nat.log2_lt (by omega)).mpr h)
theorem log_lt {i : Int} {k l : Nat} (h : i.natAbs < 2 ^ k) (hk : k ≤ l) (hl : 0 < l) : i.natAbs.log2 < l := by
  rcases log_of h with z | z
  · omega
  · subst z; simpa using hl
theorem mulOk_of {i j : Int} {k l : Nat} (hi : i.natAbs < 2 ^ k) (hj : j.natAbs < 2 ^ l) (h : k + l < 1000000) : mulOk i j := by
  rcases log_of hi with a | rfl
  · rcases log_of hj with b | rfl
    · exact .inr (.inr (by omega))
    · exact .inr (.inl (by decide))
  · exact .inl (by decide)
theorem fr_eq {M N a b : Int} (ha : 0 < a) (hb : 0 < b) : (frO M a).1 * (frO N b).2 = (frO N b).1 * (frO M a).2 ↔ M * b = N * a := by
  have h1 := frO_cross (w := M) ha
  have h2 := frO_cross (w := N) hb
  have p1 := frO_pos (w := M) ha
  have p2 := frO_pos (w := N) hb
  generalize (frO M a).1 = i at *
  generalize (frO M a).2 = j at *
  generalize (frO N b).1 = k at *
  generalize (frO N b).2 = l at *
  have e1 : i * l * (a * b) = M * b * (j * l) := by
    calc i * l * (a * b) = i * a * (l * b) := by ac_rfl
      _ = M * b * (j * l) := by rw [h1]; ac_rfl
  have e2 : k * j * (a * b) = N * a * (j * l) := by
    calc k * j * (a * b) = k * b * (j * a) := by ac_rfl
      _ = N * a * (j * l) := by rw [h2]; ac_rfl
  have jl : j * l ≠ 0 := by have := Int.mul_pos (show 0 < j by omega) (show 0 < l by omega); omega
  have ab : a * b ≠ 0 := by have := Int.mul_pos ha hb; omega
  constructor
  · intro z
    exact Int.eq_of_mul_eq_mul_right jl (by rw [← e1, ← e2, z])
  · intro z
    exact Int.eq_of_mul_eq_mul_right ab (by rw [e1, e2, z])
theorem frO_01 {x S : Int} (h : 0 < S) : frO x S = (0, 1) ↔ x = 0 := by
  constructor
  · intro z
    exact (frO_zero h).mp (by rw [z])
  · intro z
    subst z
    have : (Int.gcd 0 S : Int) = S := by simp; omega
    simp only [frO, this, Int.zero_ediv]
    rw [Int.ediv_self (by omega)]
theorem dot_abs {P : Nat → Nat → Int} {o : Nat} {ns : List Int} (hl : ns.length ≤ 5) (hn : ∀ x ∈ ns, x.natAbs < 2 ^ 1480) (hP : ∀ k, k < ns.length → (P o k).natAbs ≤ 1000) : (dot P o ns).natAbs < 2 ^ 1493 := by
  have h1 : (dot P o ns).natAbs ≤ ns.length * (2 ^ 1480 * 1000) := sumR_abs fun k hk => by
    rw [Int.natAbs_mul]
    exact Nat.mul_le_mul (Nat.le_of_lt (hn _ (getD_mem hk))) (hP k hk)
  have h2 : ns.length * (2 ^ 1480 * 1000) ≤ 5 * (2 ^ 1480 * 1000) := Nat.mul_le_mul_right _ hl
  have e : 5 * (2 ^ 1480 * 1000) < (2 : Nat) ^ 1493 := by decide +kernel
  exact Nat.lt_of_le_of_lt (Nat.le_trans h1 h2) e
theorem zip_range {xs : List Int} {f : Nat → Int} {m : Nat} (h : xs.length = m) : List.zipWith (fun u v => PyData.tuple [u, v]) (xs.map PyData.int) (((List.range m).map f).map PyData.int) = (List.range m).map fun k => PyData.tuple [.int (xs.getD k 0), .int (f k)] := by
  refine List.ext_getElem (by simp [h]) fun i h1 h2 => ?_
  have h3 : i < xs.length := by simp at h2; omega
  rw [List.getElem_zipWith]
  simp only [List.getElem_map, List.getElem_range]
  rw [getD_lt h3]
theorem pos_len (h : Wt ws c) : 1 ≤ ws.length := by
  cases ws with
  | nil => have := h.pos; simp at this
  | cons a r => simp
end
end SM

set_option maxHeartbeats 1000000
/-! plain: the least of a list. -/
namespace SM
open PySem
theorem minL_some : ∀ {xs : List Int}, xs ≠ [] → ∃ m, minL xs = some m ∧ m ∈ xs ∧ ∀ x ∈ xs, m ≤ x
  | [], h => absurd rfl h
  | [a], _ => ⟨a, rfl, by simp, by simp⟩
  | a :: b :: r, _ => by
    obtain ⟨m, h1, h2, h3⟩ := minL_some (xs := b :: r) (by simp)
    refine ⟨min a m, ?_, ?_, ?_⟩
    · show (match minL (b :: r) with
        | none => some a
        | some m => some (if m < a then m else a)) = _
      rw [h1]
      simp only
      congr 1
      omega
    · rcases Int.le_total a m with h | h
      · rw [Int.min_eq_left h]; exact List.mem_cons_self
      · rw [Int.min_eq_right h]; exact List.mem_cons_of_mem _ h2
    · intro x hx
      rcases List.mem_cons.mp hx with rfl | hx
      · omega
      · have := h3 x hx; omega
def mnO (f : Nat → Int) (m : Nat) : Int := (minL ((List.range m).map f)).getD 0
theorem mnO_of {f : Nat → Int} {m : Nat} (h : 1 ≤ m) : minL ((List.range m).map f) = some (mnO f m) ∧ (∃ o, o < m ∧ mnO f m = f o) ∧ ∀ o, o < m → mnO f m ≤ f o := by
  obtain ⟨x, h1, h2, h3⟩ := minL_some (xs := (List.range m).map f) (by simp; omega)
  have e : mnO f m = x := by simp [mnO, h1]
  rw [e]
  refine ⟨h1, ?_, fun o ho => h3 _ (List.mem_map.mpr ⟨o, by simpa using ho, rfl⟩)⟩
  obtain ⟨o, ho, rfl⟩ := List.mem_map.mp h2
  exact ⟨o, by simpa using ho, rfl⟩
theorem mnO_scale {f : Nat → Int} {m : Nat} (h : 1 ≤ m) {c : Int} (hc : 0 < c) : mnO (fun o => f o * c) m = mnO f m * c := by
  obtain ⟨_, ⟨o, ho, e⟩, g⟩ := mnO_of (f := f) h
  obtain ⟨_, ⟨o', ho', e'⟩, g'⟩ := mnO_of (f := fun o => f o * c) h
  refine Int.le_antisymm ?_ ?_
  · rw [e]
    exact g' o ho
  · rw [e']
    exact Int.mul_le_mul_of_nonneg_right (g o' ho') (by omega)
section
variable {s : Sto} {m : Bool} {r : List Int}
@[simp] theorem min_l (is : List Int) : biV m .min [.d (.list (is.map .int))] s = (minL is).map fun k => (.d (.int k), s) := by
  show ((dataV (.d (.list (is.map .int))) s).bind ints?).bind _ = _
  have h : dataV (.d (.list (is.map .int))) s = some (is.map .int) := allD_map _
  rw [h]
  show (ints? (is.map .int)).bind _ = _
  rw [w_ints, Option.bind_some]
end
/-- the fraction of two sums stays, both times one number -/
theorem frO_scale {a b c : Int} (hb : 0 < b) (hc : 0 < c) : frO (a * c) (b * c) = frO a b := by
  have g : (Int.gcd (a * c) (b * c) : Int) = (Int.gcd a b : Int) * c := by
    rw [Int.gcd_mul_right]
    have : (c.natAbs : Int) = c := by omega
    rw [Int.natCast_mul, this]
  unfold frO
  rw [g, Int.mul_ediv_mul_of_pos_left _ _ hc, Int.mul_ediv_mul_of_pos_left _ _ hc]
end SM
namespace SM
open PySem
section
variable {s : Sto}
theorem eqD_nil (xs : List PyData) : eqD (.list xs) (.list []) = some xs.isEmpty := by
  cases xs with
  | nil => rfl
  | cons a r => rfl
theorem c_eq_nil (xs : List PyData) : cmpV .eq (.d (.list xs)) (.d (.list [])) s = some xs.isEmpty := eqD_nil xs
theorem c_ne_nil (xs : List PyData) : cmpV .ne (.d (.list xs)) (.d (.list [])) s = some (!xs.isEmpty) := by
  show (eqD (.list xs) (.list [])).map (!·) = _
  rw [eqD_nil]
  rfl
theorem c_neb' (i j : Bool) : cmpV .ne (.d (.bool i)) (.d (.bool j)) s = some (!(i == j)) := rfl
end
def lsD (r : List Int) : PyData := .list (r.map .int)
def trp (T : List (List Int)) (C : Nat) : List (List Int) := (List.range C).map fun j => T.map fun r => r.getD j 0
theorem trp_gt {T : List (List Int)} {C i j : Nat} (hj : j < C) (hi : i < T.length) : gt (trp T C) j i = gt T i j := by
  unfold gt
  rw [getD_lt (show j < (trp T C).length by simpa [trp] using hj)]
  simp only [trp, List.getElem_map, List.getElem_range]
  rw [getD_lt (show i < (T.map fun r => r.getD j 0).length by simpa using hi), getD_lt hi]
  simp
end SM

set_option maxHeartbeats 1000000
/-! plain: comprehensions by places (what stands behind the turns depends on the place). -/
namespace SM
open PySem
section
variable {C : Cal} {fu k : Nat} {e : Sl} {s : Sto} {X : XP}
theorem evs_at {turn : Vl → Sto → Rs (Option Vl)} {X : XP} (I : Nat → Sto → Prop) (R : Nat → PyData → Prop) : ∀ {ds : List PyData} {k : Nat} {s : Sto}, I k s → (∀ j (h : j < ds.length) s, I (k + j) s → Ok (turn (.d ds[j]) s) (fun o t => I (k + j + 1) t ∧ ∃ d, o = some (.d d) ∧ R (k + j) d) nX) →
    Ok (cmL turn ds s) (fun vs t => I (k + ds.length) t ∧ ∃ xs : List PyData, vs = xs.map Vl.d ∧ xs.length = ds.length ∧ ∀ j (h : j < xs.length), R (k + j) xs[j]) X
  | [], k, s, i, _ => ⟨i, [], rfl, rfl, fun _ h => absurd h (Nat.not_lt_zero _)⟩
  | a :: r, k, s, i, h => by
    show Ok ((turn (.d a) s).bind fun o s => (cmL turn r s).bind fun r s => .ok (match o with | some v => v :: r | none => r) s) _ _
    rw [Ok_bind]
    refine (h 0 (by simp) s i).imp fun o t ⟨i2, d, e, rd⟩ => ?_
    subst e
    rw [Ok_bind]
    refine (evs_at I R (X := nX) (k := k + 1) i2 fun j hj s i => ?_).imp fun vs t2 ⟨i3, xs, e, hl, hr⟩ => ?_
    · have q := h (j + 1) (by simpa using hj) s (by rw [show k + (j + 1) = k + 1 + j by omega]; exact i)
      rw [show k + (j + 1) = k + 1 + j by omega] at q
      simpa using q
    · subst e
      refine ⟨by rw [List.length_cons, show k + (r.length + 1) = k + 1 + r.length by omega]; exact i3, d :: xs, rfl, by simp [hl], fun j hj => ?_⟩
      cases j with
      | zero => exact rd
      | succ j =>
        have := hr j (by simpa using hj)
        rw [show k + (j + 1) = k + 1 + j by omega]
        simpa using this
theorem Ok_comp_at {m : Bool} {elt tg it : IE} {own : List Nat} {Q : Vl → Sto → Prop} (I : Nat → Sto → Prop) (R : Nat → PyData → Prop) {ds : List PyData} {s' : Sto} (hi : itr C it e s = .ok (.vals ds) s') (hl : ds.length ≤ 16777216) (h0 : I 0 s')
    (ht : ∀ j (h : j < ds.length) s, I j s → ∃ e1, setTgV tg (.d ds[j]) (wipe e own) = some e1 ∧ Ok (ev C elt e1 s) (fun v t => I (j + 1) t ∧ ∃ d, v = .d d ∧ R j d) nX)
    (hq : ∀ (xs : List PyData) (t : Sto), xs.length = ds.length → (∀ j (h : j < xs.length), R j xs[j]) → I ds.length t → if m = true then Q (.r t.length) (t ++ [some (.lst (xs.map Vl.d))]) else Q (.d (.list xs)) t) : Ok (ev C (.comp m elt tg it .nil own) e s) Q X := by
  show Ok ((itr C it e s).bind fun I s => (noex (cmI (turnF C elt tg .nil (wipe e own)) I s)).bind fun vs s => ofP (mkL m vs s)) Q X
  rw [hi]
  show Ok ((noex (cmL (turnF C elt tg .nil (wipe e own)) ds s')).bind fun vs s => ofP (mkL m vs s)) Q X
  have key := evs_at (turn := turnF C elt tg .nil (wipe e own)) (X := nX) I R (k := 0) h0 (ds := ds) fun j hj s i => by
    rw [Nat.zero_add] at i ⊢
    obtain ⟨e1, h1, h2⟩ := ht j hj s i
    unfold turnF
    rw [h1]
    show Ok ((Rs.ok true s).bind fun b s => if b = true then (ev C elt e1 s).bind fun x s => .ok (some x) s else .ok none s) _ _
    show Ok ((ev C elt e1 s).bind fun x s => .ok (some x) s) _ _
    rw [Ok_bind]
    exact h2.imp fun v t ⟨i, d, e, r⟩ => ⟨i, d, by rw [e], r⟩
  obtain ⟨vs, t, hv, hI, xs, rfl, hx, hr⟩ := key.ex
  rw [hv]
  show Ok (ofP (mkL m (xs.map Vl.d) t)) Q X
  have q := hq xs t hx (fun j h => by have := hr j h; rwa [Nat.zero_add] at this) (by rw [Nat.zero_add] at hI; exact hI)
  cases m with
  | false =>
    rw [mkL_data, if_pos (by omega)]
    rw [if_neg (by decide)] at q
    exact q
  | true =>
    rw [mkL_true, if_pos (by simp; omega)]
    rw [if_pos rfl] at q
    exact q
end
end SM

set_option maxHeartbeats 1000000
/-! plain: lists of lists of numbers, in the store, each in a place of its own. -/
namespace SM
open PySem
section
variable {C : Cal} {fu n p : Nat} {e : Sl} {s t v w : Sto} {X : XP} {P Q : List Int → Prop} {rs : List Nat} {f : Nat → List Int} {row : List Int}
def upd (f : Nat → List Int) (q : Nat) (row : List Int) : Nat → List Int := fun r => if r = q then row else f r
theorem upd_self {q : Nat} : upd f q row q = row := by simp [upd]
theorem upd_ne {q r : Nat} (h : r ≠ q) : upd f q row r = f r := by simp [upd, h]
structure Rw (P : List Int → Prop) (rs : List Nat) (f : Nat → List Int) (v : Sto) : Prop where
  at_ : ∀ r ∈ rs, listAt r v = some ((f r).map vI)
  ok : ∀ r ∈ rs, P (f r)
  nd : rs.Nodup
theorem listAt_same {j : Nat} (h : w[j]? = v[j]?) : listAt j w = listAt j v := by unfold listAt; rw [h]
theorem Rw.lt (h : Rw P rs f v) : ∀ r ∈ rs, r < v.length := fun r hr => listAt_lt (h.at_ r hr)
theorem Rw.nin (h : Rw P rs f v) : v.length ∉ rs := fun z => Nat.lt_irrefl _ (h.lt _ z)
theorem Rw.eq (h : Rw P rs f v) (e : ∀ r ∈ rs, w[r]? = v[r]?) : Rw P rs f w := ⟨fun r hr => by rw [listAt_same (e r hr)]; exact h.at_ r hr, h.ok, h.nd⟩
theorem Rw.app (h : Rw P rs f v) : Rw P rs f (v ++ w) := h.eq fun r hr => List.getElem?_append_left (h.lt r hr)
theorem Rw.nil : Rw P [] f v := ⟨fun _ h => (by cases h), fun _ h => (by cases h), List.nodup_nil⟩
theorem nodup_set : ∀ {rs : List Nat} {i q : Nat}, rs.Nodup → q ∉ rs → (rs.set i q).Nodup
  | [], i, q, _, _ => by simp
  | a :: rs, 0, q, h, hq => by
    simp only [List.set_cons_zero, List.nodup_cons, List.mem_cons, not_or] at *
    exact ⟨hq.2, h.2⟩
  | a :: rs, i + 1, q, h, hq => by
    simp only [List.set_cons_succ, List.nodup_cons, List.mem_cons, not_or] at *
    refine ⟨fun z => ?_, nodup_set h.2 hq.2⟩
    rcases List.mem_or_eq_of_mem_set z with z | z
    · exact h.1 z
    · exact hq.1 z.symm
/-- rows, some of them as they were, one new -/
theorem Rw.new {rs' : List Nat} (h : Rw P rs f v) (hp : P row) (nd : rs'.Nodup) (hm : ∀ r ∈ rs', r ∈ rs ∨ r = v.length) : Rw P rs' (upd f v.length row) (v ++ [some (.lst (row.map vI))]) := by
  have key : ∀ r ∈ rs', (r ∈ rs ∧ r ≠ v.length) ∨ r = v.length := fun r hr => by
    rcases hm r hr with h1 | h1
    · exact .inl ⟨h1, fun z => by have := h.lt r h1; omega⟩
    · exact .inr h1
  refine ⟨fun r hr => ?_, fun r hr => ?_, nd⟩
  · rcases key r hr with ⟨h1, h2⟩ | rfl
    · rw [upd_ne h2]
      exact (h.app (w := [some (.lst (row.map vI))])).at_ r h1
    · rw [upd_self]
      exact listAt_new
  · rcases key r hr with ⟨h1, h2⟩ | rfl
    · rw [upd_ne h2]
      exact h.ok r h1
    · rw [upd_self]
      exact hp
theorem Rw.add (h : Rw P rs f v) (hp : P row) : Rw P (rs ++ [v.length]) (upd f v.length row) (v ++ [some (.lst (row.map vI))]) :=
  h.new hp (List.nodup_append.mpr ⟨h.nd, by simp, fun a ha b hb => by simp at hb; subst hb; have := h.lt a ha; omega⟩) fun r hr => by
    rcases List.mem_append.mp hr with hr | hr
    · exact .inl hr
    · exact .inr (by simpa using hr)
theorem Rw.set (h : Rw P rs f v) (hp : P row) {i : Nat} : Rw P (rs.set i v.length) (upd f v.length row) (v ++ [some (.lst (row.map vI))]) :=
  h.new hp (nodup_set h.nd h.nin) fun r hr => List.mem_or_eq_of_mem_set hr
theorem Rw.put (h : Rw P rs f v) {r : Nat} (hr : r ∈ rs) (hp : P row) : Rw P rs (upd f r row) (putL r (row.map vI) v) := by
  refine ⟨fun q hq => ?_, fun q hq => ?_, h.nd⟩
  · by_cases e : q = r
    · subst e; rw [upd_self]; exact listAt_put (h.lt q hq)
    · rw [upd_ne e, listAt_put_ne e]; exact h.at_ q hq
  · by_cases e : q = r
    · subst e; rw [upd_self]; exact hp
    · rw [upd_ne e]; exact h.ok q hq
theorem Rw.putp (h : Rw P rs f v) {ws : List Vl} (hp : p ∉ rs) : Rw P rs f (putL p ws v) := h.eq fun r hr => by
  unfold putL
  rw [List.getElem?_set_ne (fun z => by subst z; exact hp hr)]
/-- a list of rows -/
structure Tb (P : List Int → Prop) (p : Nat) (rs : List Nat) (f : Nat → List Int) (v : Sto) : Prop where
  rw_ : Rw P rs f v
  hd : listAt p v = some (rs.map Vl.r)
  np : p ∉ rs
theorem Tb.plt (h : Tb P p rs f v) : p < v.length := listAt_lt h.hd
theorem Tb.eq (h : Tb P p rs f v) (e : ∀ r, r = p ∨ r ∈ rs → w[r]? = v[r]?) : Tb P p rs f w := ⟨h.rw_.eq fun r hr => e r (.inr hr), by rw [listAt_same (e p (.inl rfl))]; exact h.hd, h.np⟩
theorem Tb.app (h : Tb P p rs f v) : Tb P p rs f (v ++ w) := h.eq fun r hr => List.getElem?_append_left (by rcases hr with rfl | hr; exact h.plt; exact h.rw_.lt r hr)
theorem Tb.fr (h : Tb P p rs f v) (x : Fr n v w) (hp : n ≠ p) (hn : n ∉ rs) : Tb P p rs f w := h.eq fun r hr => x.2 r (by rcases hr with rfl | hr; exact fun z => hp z.symm; exact fun z => hn (z ▸ hr))
theorem Tb.mono (h : Tb P p rs f v) (hi : ∀ r, P r → Q r) : Tb Q p rs f v := ⟨⟨h.rw_.at_, fun r hr => hi _ (h.rw_.ok r hr), h.rw_.nd⟩, h.hd, h.np⟩
/-- a new row at the end -/
theorem Tb.add (h : Tb P p rs f v) (hp : P row) : Tb P p (rs ++ [v.length]) (upd f v.length row) (putL p (rs.map Vl.r ++ [.r v.length]) (v ++ [some (.lst (row.map vI))])) := by
  have pl := h.plt
  have np : p ∉ rs ++ [v.length] := by simp; exact ⟨h.np, by omega⟩
  refine ⟨(h.rw_.add hp).putp np, ?_, np⟩
  rw [listAt_put (by simp; omega)]
  simp
theorem Tb.set (h : Tb P p rs f v) (hp : P row) {i : Nat} : Tb P p (rs.set i v.length) (upd f v.length row) (putL p ((rs.map Vl.r).set i (.r v.length)) (v ++ [some (.lst (row.map vI))])) := by
  have pl := h.plt
  have np : p ∉ rs.set i v.length := fun z => by
    rcases List.mem_or_eq_of_mem_set z with z | z
    · exact h.np z
    · omega
  refine ⟨(h.rw_.set hp).putp np, ?_, np⟩
  rw [listAt_put (by simp; omega), List.map_set]
theorem Tb.put (h : Tb P p rs f v) {r : Nat} (hr : r ∈ rs) (hp : P row) : Tb P p rs (upd f r row) (putL r (row.map vI) v) := by
  refine ⟨h.rw_.put hr hp, ?_, h.np⟩
  rw [listAt_put_ne (j := p) (n := r) (fun z => h.np (by rw [z]; exact hr))]
  exact h.hd
theorem Rw.tb (h : Rw P rs f v) : Tb P v.length rs f (v ++ [some (.lst (rs.map Vl.r))]) := ⟨h.app, listAt_new, h.nin⟩
theorem Tb.atR (h : Tb P p rs f v) {i : Nat} (hi : i < rs.length) : L2.atI (rs.map Vl.r) (i : Int) = some (.r rs[i]) := by
  rw [atI_nat (by simpa using hi)]
  simp
theorem Rw.frz : ∀ {rs : List Nat} {v : Sto}, Rw P rs f v → ∃ t, frzL (rs.map Vl.r) v = some ((rs.map f).map (fun r => PyData.list (r.map .int)), t) ∧ t.length = v.length ∧ ∀ j, j ∉ rs → t[j]? = v[j]?
  | [], v, h => ⟨v, rfl, rfl, fun _ _ => rfl⟩
  | r :: rs, v, h => by
    have nd := List.nodup_cons.mp h.nd
    have h2 : Rw P rs f (v.set r none) := by
      have h3 : Rw P rs f v := ⟨fun q hq => h.at_ q (List.mem_cons_of_mem _ hq), fun q hq => h.ok q (List.mem_cons_of_mem _ hq), nd.2⟩
      exact h3.eq fun q hq => by rw [List.getElem?_set_ne (fun z => by subst z; exact nd.1 hq)]
    obtain ⟨t, e, l, a⟩ := h2.frz
    refine ⟨t, ?_, by simpa using l, fun j hj => ?_⟩
    · show (listAt r v).bind (fun vs => (allD vs).bind fun ds => (frzL (rs.map Vl.r) (v.set r none)).map fun p => (PyData.list ds :: p.1, p.2)) = _
      rw [h.at_ r List.mem_cons_self, Option.bind_some, allD_vI, Option.bind_some, e]
      rfl
    · simp only [List.mem_cons, not_or] at hj
      rw [a j hj.2, List.getElem?_set_ne (fun z => hj.1 z.symm)]
theorem Tb.frz (h : Tb P p rs f v) : ∃ t, frzV (.r p) v = some (.d (.list ((rs.map f).map (fun r => PyData.list (r.map .int)))), t) ∧ t.length = v.length ∧ ∀ j, j ≠ p → j ∉ rs → t[j]? = v[j]? := by
  obtain ⟨t, e, l, a⟩ := h.rw_.frz
  refine ⟨t.set p none, ?_, by simpa using l, fun j h1 h2 => ?_⟩
  · show (listAt p v).bind (fun vs => (frzL vs v).bind fun q => (listAt p q.2).map fun _ => (Vl.d (.list q.1), q.2.set p none)) = _
    rw [h.hd, Option.bind_some, e, Option.bind_some]
    have : listAt p t = some (rs.map Vl.r) := by rw [listAt_same (a p h.np)]; exact h.hd
    rw [this]
    rfl
  · rw [List.getElem?_set_ne (fun z => h1 z.symm), a j h2]
/-! ### comprehensions and loops over lists of the store -/
theorem cmR_pure {turn : Vl → Sto → Rs (Option Vl)} {xs : List PyData} (g : PyData → PyData) (h : listAt p s = some (xs.map Vl.d)) (ht : ∀ x ∈ xs, turn (.d x) s = .ok (some (.d (g x))) s) :
    ∀ k i, xs.length ≤ i + k → cmR turn p k i s = .ok (((xs.drop i).map g).map Vl.d) s
  | k, i, hk => by
    unfold cmR
    rw [h]
    simp only
    by_cases hi : i < xs.length
    · have e1 : (xs.map Vl.d)[i]? = some (.d xs[i]) := by simp [hi]
      rw [e1]
      simp only
      cases k with
      | zero => omega
      | succ k =>
        simp only [ht _ (List.getElem_mem hi), ok_bind, cmR_pure g h ht k (i + 1) (by omega)]
        rw [List.drop_eq_getElem_cons hi]
        rfl
    · have e1 : (xs.map Vl.d)[i]? = none := by simp; omega
      rw [e1]
      rw [List.drop_eq_nil_of_le (by omega)]
      rfl
/-- [elt for x in r], pure, r in the store -/
theorem comp_ref {m : Bool} {elt tg it : IE} {own : List Nat} {xs : List PyData} (g : PyData → PyData) (hi : itr C it e s = .ok (.ref p) s) (h : listAt p s = some (xs.map Vl.d))
    (ht : ∀ x ∈ xs, ∃ e1, setTgV tg (.d x) (wipe e own) = some e1 ∧ ev C elt e1 s = .ok (.d (g x)) s) : ev C (.comp m elt tg it .nil own) e s = ofP (mkL m ((xs.map g).map Vl.d) s) := by
  show ((itr C it e s).bind fun I s => (noex (cmI (turnF C elt tg .nil (wipe e own)) I s)).bind fun vs s => ofP (mkL m vs s)) = _
  rw [hi]
  show ((noex (cmR (turnF C elt tg .nil (wipe e own)) p (((listAt p s).map List.length).getD 0) 0 s)).bind fun vs s => ofP (mkL m vs s)) = _
  rw [cmR_pure g h (fun x hx => ?_) _ 0 (by rw [h]; simp)]
  · rfl
  · obtain ⟨e1, h1, h2⟩ := ht x hx
    unfold turnF
    rw [h1]
    show (ev C elt e1 s).bind _ = _
    rw [h2]
    rfl
theorem itr_r {a : IE} {vs : List Vl} (ha : ev C a e s = .ok (.r p) t) (h : listAt p t = some vs) : itr C (.itv a) e s = .ok (.ref p) t := by
  rw [itr_itv, ha, ok_bind]
  have : itrV (.r p) t = some (.ref p) := by
    show (listAt _ _).map _ = _
    rw [h]
    rfl
  rw [this]
  rfl
/-- turns over a list of the store that stays -/
theorem evs_ref {turn : Vl → Sto → Rs (Option Vl)} {vs : List Vl} (I : Nat → List Vl → Sto → Prop) (hI : ∀ i acc w, I i acc w → listAt p w = some vs)
    (step : ∀ i (h : i < vs.length) acc w, I i acc w → Ok (turn vs[i] w) (fun o t => ∃ x, o = some x ∧ I (i + 1) (acc ++ [x]) t) nX) : ∀ k i acc w, vs.length ≤ i + k → i ≤ vs.length → I i acc w → Ok (cmR turn p k i w) (fun xs t => I vs.length (acc ++ xs) t) nX
  | k, i, acc, w, hk, hi, h => by
    unfold cmR
    rw [hI i acc w h]
    simp only
    by_cases hl : i < vs.length
    · have e1 : vs[i]? = some vs[i] := by simp [hl]
      rw [e1]
      simp only
      cases k with
      | zero => omega
      | succ k =>
        rw [Ok_bind]
        refine (step i hl acc w h).imp fun o t ⟨x, e, h2⟩ => ?_
        subst e
        rw [Ok_bind]
        refine (evs_ref I hI step k (i + 1) (acc ++ [x]) t (by omega) (by omega) h2).imp fun xs u h3 => ?_
        show I vs.length (acc ++ x :: xs) u
        rw [List.append_assoc] at h3
        exact h3
    · have e1 : vs[i]? = none := by simp; omega
      rw [e1]
      have : i = vs.length := by omega
      subst this
      show I vs.length (acc ++ []) w
      rw [List.append_nil]
      exact h
/-- [elt for x in r], r in the store, a list that is changed later -/
theorem Ok_comp_ref {elt tg it : IE} {own : List Nat} {Q : Vl → Sto → Prop} {vs : List Vl} (I : Nat → List Vl → Sto → Prop) (hi : itr C it e s = .ok (.ref p) t) (hI : ∀ i acc w, I i acc w → listAt p w = some vs) (hl : vs.length ≤ 16777216) (h0 : I 0 [] t)
    (step : ∀ i (h : i < vs.length) acc w, I i acc w → ∃ e1, setTgV tg vs[i] (wipe e own) = some e1 ∧ Ok (ev C elt e1 w) (fun x t => I (i + 1) (acc ++ [x]) t) nX)
    (hn : ∀ xs u, I vs.length xs u → xs.length = vs.length)
    (hq : ∀ xs u, I vs.length xs u → Q (.r u.length) (u ++ [some (.lst xs)])) : Ok (ev C (.comp true elt tg it .nil own) e s) Q X := by
  show Ok ((itr C it e s).bind fun I s => (noex (cmI (turnF C elt tg .nil (wipe e own)) I s)).bind fun vs s => ofP (mkL true vs s)) Q X
  rw [hi]
  show Ok ((noex (cmR (turnF C elt tg .nil (wipe e own)) p (((listAt p t).map List.length).getD 0) 0 t)).bind fun vs s => ofP (mkL true vs s)) Q X
  have key := evs_ref (turn := turnF C elt tg .nil (wipe e own)) (p := p) I hI (fun i h acc w hw => by
    obtain ⟨e1, h1, h2⟩ := step i h acc w hw
    unfold turnF
    rw [h1]
    show Ok ((Rs.ok true w).bind fun b s => if b = true then (ev C elt e1 s).bind fun x s => .ok (some x) s else .ok none s) _ _
    show Ok ((ev C elt e1 w).bind fun x s => .ok (some x) s) _ _
    rw [Ok_bind]
    exact h2.imp fun x t i => ⟨x, rfl, i⟩) (((listAt p t).map List.length).getD 0) 0 [] t (by rw [hI 0 [] t h0]; simp) (Nat.zero_le _) h0
  obtain ⟨xs, u, hv, hx⟩ := key.ex
  rw [hv]
  show Ok (ofP (mkL true xs u)) Q X
  rw [List.nil_append] at hx
  rw [mkL_true, if_pos (by rw [hn xs u hx]; exact hl)]
  exact hq xs u hx
/-- a loop over a list of the store that stays -/
theorem Sw_goRef {t : Vl → Sl → Sto → Fl} {P : Pt} {vs : List Vl} (J : Nat → Sl → Sto → Prop) (hJ : ∀ j e s, J j e s → listAt p s = some vs) (step : ∀ j (h : j < vs.length) e s, J j e s → Sw (t vs[j] e s) ⟨J (j + 1), P.r, P.n, J (j + 1), P.x⟩) (last : ∀ e s, J vs.length e s → P.n e s) :
    ∀ k j {e : Sl} {s : Sto}, vs.length ≤ j + k → j ≤ vs.length → J j e s → Sw (goR t p k j e s) P
  | k, j, e, s, hk, hj, h => by
    unfold goR
    rw [hJ j e s h]
    simp only
    by_cases hl : j < vs.length
    · have e1 : vs[j]? = some vs[j] := by simp [hl]
      rw [e1]
      simp only
      cases k with
      | zero => omega
      | succ k =>
        simp only
        have st := step j hl e s h
        cases q : t vs[j] e s with
        | nx e2 s2 => rw [q] at st; exact Sw_goRef J hJ step last k (j + 1) (by omega) (by omega) st
        | ct e2 s2 => rw [q] at st; exact Sw_goRef J hJ step last k (j + 1) (by omega) (by omega) st
        | bk e2 s2 => rw [q] at st; exact st
        | rt v2 s2 => rw [q] at st; exact st
        | ex d v2 e2 s2 => rw [q] at st; exact st
        | no => rw [q] at st; exact st
    · have e1 : vs[j]? = none := by simp; omega
      rw [e1]
      have : j = vs.length := by omega
      subst this
      exact last e s h
/-- .. its statement -/
theorem Sw_for_ref {tg it : IE} {body : IS} {P : Pt} {vs : List Vl} (J : Nat → Sl → Sto → Prop) (hi : itr C it e s = .ok (.ref p) t) (hJ : ∀ j e s, J j e s → listAt p s = some vs) (h0 : J 0 e t)
    (step : ∀ j (h : j < vs.length) e s, J j e s → Sw (turnS C fu tg body vs[j] e s) ⟨J (j + 1), P.r, P.n, J (j + 1), P.x⟩) (last : ∀ e s, J vs.length e s → P.n e s) : Sw (exS C fu (.forr tg it body) e s) P := by
  rw [exS_for', hi]
  show Sw (goR (turnS C fu tg body) p (((listAt p t).map List.length).getD 0) 0 e t) P
  exact Sw_goRef J hJ step last _ 0 (by rw [hJ 0 e t h0]; simp) (Nat.zero_le _) h0
/-- two statements ahead -/
theorem Sw_two {a b r : IS} {P : Pt} {J : Sl → Sto → Prop} (h1 : Sw (exS C fu (.cons a (.cons b .nil)) e s) ⟨J, P.r, P.b, P.c, P.x⟩) (h2 : ∀ e s, J e s → Sw (exS C fu r e s) P) : Sw (exS C fu (.cons a (.cons b r)) e s) P := by
  rw [exS_cons] at h1 ⊢
  cases q : exS C fu a e s with
  | nx e2 s2 =>
    rw [q, thenF_nx, exS_cons] at h1
    rw [thenF_nx, exS_cons]
    cases q2 : exS C fu b e2 s2 with
    | nx e3 s3 => rw [q2, thenF_nx] at h1; rw [thenF_nx]; exact h2 _ _ h1
    | ct e3 s3 => rw [q2] at h1; exact h1
    | bk e3 s3 => rw [q2] at h1; exact h1
    | rt v3 s3 => rw [q2] at h1; exact h1
    | ex d v3 e3 s3 => rw [q2] at h1; exact h1
    | no => rw [q2] at h1; exact h1
  | ct e2 s2 => rw [q] at h1; exact h1
  | bk e2 s2 => rw [q] at h1; exact h1
  | rt v2 s2 => rw [q] at h1; exact h1
  | ex d v2 e2 s2 => rw [q] at h1; exact h1
  | no => rw [q] at h1; exact h1
end
end SM

set_option maxHeartbeats 0
/-! ### the law's defs, as gen.py printed them -/
namespace Law
open PySem SM
abbrev i_is_integer : Nat := 0
abbrev i_anew : Nat := 1
abbrev i_is_within : Nat := 2
abbrev i_is_fraction : Nat := 3
abbrev i_comes_to_one : Nat := 4
abbrev i_are_chances : Nat := 5
abbrev i_is_a_row : Nat := 6
abbrev i_is_a_table : Nat := 7
abbrev i_many_of : Nat := 8
abbrev i_is_a_mix : Nat := 9
abbrev i_need_mix : Nat := 10
abbrev i_reduced : Nat := 11
abbrev i_got : Nat := 12
abbrev i_shares : Nat := 13
abbrev i_sums_against : Nat := 14
abbrev i_need_table : Nat := 15
abbrev i_enemies : Nat := 16
abbrev i_least_got : Nat := 17
abbrev i_most_got : Nat := 18
abbrev i_is_table : Nat := 19
abbrev i_against : Nat := 20
abbrev i_at_least : Nat := 21
abbrev i_at_most : Nat := 22
abbrev i__law_deck : Nat := 23
abbrev i__law_draw : Nat := 24
abbrev i__law_gcd : Nat := 25
abbrev i__law_ratio : Nat := 26
abbrev i__law_mix : Nat := 27
abbrev i__law_weights : Nat := 28
abbrev i__law_table : Nat := 29
abbrev i__law_frozen : Nat := 30
abbrev i__law_turned : Nat := 31
abbrev i__law_sums : Nat := 32
abbrev i__law_same : Nat := 33
abbrev i__law_odd : Nat := 34
abbrev i__law_bent : Nat := 35
abbrev i__law_integer : Nat := 36
abbrev i__law_is_table : Nat := 37
abbrev i__law_judged : Nat := 38
abbrev i__law_got_right : Nat := 39
abbrev i__law_values : Nat := 40
abbrev i__law_number_right : Nat := 41
abbrev i_law : Nat := 42
def n_is_integer : List Str := [("value" : PySem.Str)]
def b_is_integer : IS := (.cons (.ret (.and (.cons (.isi (.var 0) .int) (.cons (.not (.isi (.var 0) .bool)) .nil))))
  .nil)
def d_is_integer : Df := ⟨1, 1, b_is_integer⟩
def n_anew : List Str := [("value" : PySem.Str), ("part" : PySem.Str)]
def b_anew : IS := (.cons (.ite (.isi (.var 0) .list) (.cons (.ret (.comp false (.call i_anew (.cons (.var 1) .nil)) (.var 1) (.itv (.var 0)) .nil [1]))
    .nil) .nil)
  (.cons (.ite (.isi (.var 0) .tuple) (.cons (.ret (.bi false .tuple (.cons (.comp false (.call i_anew (.cons (.var 1) .nil)) (.var 1) (.itv (.var 0)) .nil [1]) .nil)))
    .nil) .nil)
  (.cons (.ret (.var 0))
  .nil)))
def d_anew : Df := ⟨1, 2, b_anew⟩
def n_is_within : List Str := [("value" : PySem.Str), ("least" : PySem.Str), ("most" : PySem.Str)]
def b_is_within : IS := (.cons (.ret (.and (.cons (.call i_is_integer (.cons (.var 0) .nil)) (.cons (.chain .le .le (.var 1) (.var 0) (.var 2)) .nil))))
  .nil)
def d_is_within : Df := ⟨3, 3, b_is_within⟩
def n_is_fraction : List Str := [("value" : PySem.Str)]
def b_is_fraction : IS := (.cons (.ite (.or (.cons (.not (.isi (.var 0) .tuple)) (.cons (.cmp .ne (.bi false .len (.cons (.var 0) .nil)) (.lit (.int 2))) (.cons (.not (.call i_is_integer (.cons (.idx (.var 0) (.lit (.int 0))) .nil))) (.cons (.not (.call i_is_integer (.cons (.idx (.var 0) (.lit (.int 1))) .nil))) .nil))))) (.cons (.ret (.lit (.bool false)))
    .nil) .nil)
  (.cons (.ret (.and (.cons (.cmp .ge (.idx (.var 0) (.lit (.int 1))) (.lit (.int 1))) (.cons (.cmp .eq (.bi false .gcd (.cons (.idx (.var 0) (.lit (.int 0))) (.cons (.idx (.var 0) (.lit (.int 1))) .nil))) (.lit (.int 1))) .nil))))
  .nil))
def d_is_fraction : Df := ⟨1, 1, b_is_fraction⟩
def n_comes_to_one : List Str := [("fractions" : PySem.Str), ("above" : PySem.Str), ("below" : PySem.Str), ("top" : PySem.Str), ("bottom" : PySem.Str)]
def b_comes_to_one : IS := (.cons (.asg (.tup (.cons (.var 1) (.cons (.var 2) .nil))) (.tup (.cons (.lit (.int 0)) (.cons (.lit (.int 1)) .nil))))
  (.cons (.forr (.tup (.cons (.var 3) (.cons (.var 4) .nil))) (.itv (.var 0)) (.cons (.par (.var 1) (.var 2) (.bop false .add (.bop false .mul (.var 1) (.var 4)) (.bop false .mul (.var 3) (.var 2))) (.bop false .mul (.var 2) (.var 4)))
    .nil))
  (.cons (.ret (.cmp .eq (.var 1) (.var 2)))
  .nil)))
def d_comes_to_one : Df := ⟨1, 5, b_comes_to_one⟩
def n_are_chances : List Str := [("value" : PySem.Str), ("many" : PySem.Str), ("part" : PySem.Str)]
def b_are_chances : IS := (.cons (.ite (.or (.cons (.not (.isi (.var 0) .tuple)) (.cons (.cmp .ne (.bi false .len (.cons (.var 0) .nil)) (.var 1)) (.cons (.not (.bi false .all (.cons (.comp false (.call i_is_fraction (.cons (.var 2) .nil)) (.var 2) (.itv (.var 0)) .nil [2]) .nil))) .nil)))) (.cons (.ret (.lit (.bool false)))
    .nil) .nil)
  (.cons (.ret (.and (.cons (.bi false .all (.cons (.comp false (.cmp .ge (.idx (.var 2) (.lit (.int 0))) (.lit (.int 0))) (.var 2) (.itv (.var 0)) .nil [2]) .nil)) (.cons (.call i_comes_to_one (.cons (.var 0) .nil)) .nil))))
  .nil))
def d_are_chances : Df := ⟨2, 3, b_are_chances⟩
def n_is_a_row : List Str := [("value" : PySem.Str), ("wide" : PySem.Str), ("number" : PySem.Str)]
def b_is_a_row : IS := (.cons (.ite (.or (.cons (.not (.isi (.var 0) .tuple)) (.cons (.cmp .ne (.bi false .len (.cons (.var 0) .nil)) (.var 1)) .nil))) (.cons (.ret (.lit (.bool false)))
    .nil) .nil)
  (.cons (.ret (.bi false .all (.cons (.comp false (.call i_is_within (.cons (.var 2) (.cons (.neg (.glob ("MOST_NUMBER" : PySem.Str) (.int 1000))) (.cons (.glob ("MOST_NUMBER" : PySem.Str) (.int 1000)) .nil)))) (.var 2) (.itv (.var 0)) .nil [2]) .nil)))
  .nil))
def d_is_a_row : Df := ⟨2, 3, b_is_a_row⟩
def n_is_a_table : List Str := [("value" : PySem.Str), ("row" : PySem.Str)]
def b_is_a_table : IS := (.cons (.ite (.or (.cons (.not (.isi (.var 0) .tuple)) (.cons (.not (.chain .le .le (.lit (.int 1)) (.bi false .len (.cons (.var 0) .nil)) (.glob ("MOST_CHOICES" : PySem.Str) (.int 5)))) (.cons (.not (.isi (.idx (.var 0) (.lit (.int 0))) .tuple)) .nil)))) (.cons (.ret (.lit (.bool false)))
    .nil) .nil)
  (.cons (.ret (.and (.cons (.chain .le .le (.lit (.int 1)) (.bi false .len (.cons (.idx (.var 0) (.lit (.int 0))) .nil)) (.glob ("MOST_CHOICES" : PySem.Str) (.int 5))) (.cons (.bi false .all (.cons (.comp false (.call i_is_a_row (.cons (.var 1) (.cons (.bi false .len (.cons (.idx (.var 0) (.lit (.int 0))) .nil)) .nil))) (.var 1) (.itv (.var 0)) .nil [1]) .nil)) .nil))))
  .nil))
def d_is_a_table : Df := ⟨1, 2, b_is_a_table⟩
def n_many_of : List Str := [("game" : PySem.Str), ("side" : PySem.Str)]
def b_many_of : IS := (.cons (.ret (.ite (.cmp .eq (.var 1) (.lit (.int 0))) (.bi false .len (.cons (.idx (.var 0) (.lit (.int 0))) .nil)) (.bi false .len (.cons (.idx (.idx (.var 0) (.lit (.int 0))) (.lit (.int 0))) .nil))))
  .nil)
def d_many_of : Df := ⟨2, 2, b_many_of⟩
def n_is_a_mix : List Str := [("game" : PySem.Str), ("side" : PySem.Str), ("value" : PySem.Str)]
def b_is_a_mix : IS := (.cons (.ret (.call i_are_chances (.cons (.var 2) (.cons (.call i_many_of (.cons (.var 0) (.cons (.var 1) .nil))) .nil))))
  .nil)
def d_is_a_mix : Df := ⟨3, 3, b_is_a_mix⟩
def n_need_mix : List Str := [("game" : PySem.Str), ("side" : PySem.Str), ("mix" : PySem.Str)]
def b_need_mix : IS := (.cons (.ite (.not (.call i_is_a_mix (.cons (.var 0) (.cons (.var 1) (.cons (.var 2) .nil))))) (.cons .never
    .nil) .nil)
  .nil)
def d_need_mix : Df := ⟨3, 3, b_need_mix⟩
def n_reduced : List Str := [("above" : PySem.Str), ("below" : PySem.Str), ("common" : PySem.Str)]
def b_reduced : IS := (.cons (.asg (.var 2) (.bi false .gcd (.cons (.var 0) (.cons (.var 1) .nil))))
  (.cons (.ite (.cmp .lt (.var 1) (.lit (.int 0))) (.cons (.asg (.var 2) (.neg (.var 2)))
    .nil) .nil)
  (.cons (.ret (.tup (.cons (.bop false .fdiv (.var 0) (.var 2)) (.cons (.bop false .fdiv (.var 1) (.var 2)) .nil))))
  .nil)))
def d_reduced : Df := ⟨2, 3, b_reduced⟩
def n_got : List Str := [("game" : PySem.Str), ("side" : PySem.Str), ("own" : PySem.Str), ("others" : PySem.Str)]
def b_got : IS := (.cons (.ret (.ite (.cmp .eq (.var 1) (.lit (.int 0))) (.idx (.idx (.idx (.var 0) (.lit (.int 0))) (.var 2)) (.var 3)) (.idx (.idx (.idx (.var 0) (.lit (.int 1))) (.var 3)) (.var 2))))
  .nil)
def d_got : Df := ⟨4, 4, b_got⟩
def n_shares : List Str := [("mix" : PySem.Str), ("below" : PySem.Str), ("chance" : PySem.Str)]
def b_shares : IS := (.cons (.asg (.var 1) (.lit (.int 1)))
  (.cons (.forr (.var 2) (.itv (.var 0)) (.cons (.asg (.var 1) (.bi false .lcm (.cons (.var 1) (.cons (.idx (.var 2) (.lit (.int 1))) .nil))))
    .nil))
  (.cons (.ret (.tup (.cons (.comp false (.bop false .mul (.idx (.var 2) (.lit (.int 0))) (.bop false .fdiv (.var 1) (.idx (.var 2) (.lit (.int 1))))) (.var 2) (.itv (.var 0)) .nil [2]) (.cons (.var 1) .nil))))
  .nil)))
def d_shares : Df := ⟨1, 3, b_shares⟩
def n_sums_against : List Str := [("game" : PySem.Str), ("side" : PySem.Str), ("numbers" : PySem.Str), ("found" : PySem.Str), ("own" : PySem.Str), ("others" : PySem.Str), ("number" : PySem.Str)]
def b_sums_against : IS := (.cons (.asg (.var 3) (.lst true .nil))
  (.cons (.forr (.var 4) (.rng1 (.call i_many_of (.cons (.var 0) (.cons (.var 1) .nil)))) (.cons (.expr (.me .append (.var 3) (.cons (.bi false .sum (.cons (.comp false (.bop false .mul (.var 6) (.call i_got (.cons (.var 0) (.cons (.var 1) (.cons (.var 4) (.cons (.var 5) .nil)))))) (.tup (.cons (.var 5) (.cons (.var 6) .nil))) (.enum (.var 2)) .nil [5, 6]) .nil)) .nil)))
    .nil))
  (.cons (.ret (.frz (.var 3)))
  .nil)))
def d_sums_against : Df := ⟨3, 7, b_sums_against⟩
def n_need_table : List Str := [("table" : PySem.Str)]
def b_need_table : IS := (.cons (.ite (.not (.call i_is_a_table (.cons (.var 0) .nil))) (.cons .never
    .nil) .nil)
  .nil)
def d_need_table : Df := ⟨1, 1, b_need_table⟩
def n_enemies : List Str := [("table" : PySem.Str), ("row" : PySem.Str), ("number" : PySem.Str)]
def b_enemies : IS := (.cons (.ret (.tup (.cons (.var 0) (.cons (.bi false .tuple (.cons (.comp false (.bi false .tuple (.cons (.comp false (.neg (.var 2)) (.var 2) (.itv (.var 1)) .nil [2]) .nil)) (.var 1) (.itv (.var 0)) .nil [1]) .nil)) .nil))))
  .nil)
def d_enemies : Df := ⟨1, 3, b_enemies⟩
def n_least_got : List Str := [("table" : PySem.Str), ("one" : PySem.Str), ("numbers" : PySem.Str), ("below" : PySem.Str)]
def b_least_got : IS := (.cons (.asg (.tup (.cons (.var 2) (.cons (.var 3) .nil))) (.call i_shares (.cons (.var 1) .nil)))
  (.cons (.ret (.call i_reduced (.cons (.bi false .min (.cons (.call i_sums_against (.cons (.tup (.cons (.var 0) (.cons (.var 0) .nil))) (.cons (.lit (.int 1)) (.cons (.var 2) .nil)))) .nil)) (.cons (.var 3) .nil))))
  .nil))
def d_least_got : Df := ⟨2, 4, b_least_got⟩
def n_most_got : List Str := [("table" : PySem.Str), ("other" : PySem.Str), ("numbers" : PySem.Str), ("below" : PySem.Str)]
def b_most_got : IS := (.cons (.asg (.tup (.cons (.var 2) (.cons (.var 3) .nil))) (.call i_shares (.cons (.var 1) .nil)))
  (.cons (.ret (.call i_reduced (.cons (.bi false .max (.cons (.call i_sums_against (.cons (.tup (.cons (.var 0) (.cons (.var 0) .nil))) (.cons (.lit (.int 0)) (.cons (.var 2) .nil)))) .nil)) (.cons (.var 3) .nil))))
  .nil))
def d_most_got : Df := ⟨2, 4, b_most_got⟩
def n_is_table : List Str := [("value" : PySem.Str)]
def b_is_table : IS := (.cons (.ret (.call i_is_a_table (.cons (.var 0) .nil)))
  .nil)
def d_is_table : Df := ⟨1, 1, b_is_table⟩
def n_against : List Str := [("table" : PySem.Str)]
def b_against : IS := (.cons (.expr (.call i_need_table (.cons (.var 0) .nil)))
  (.cons (.ret (.call i_enemies (.cons (.var 0) .nil)))
  .nil))
def d_against : Df := ⟨1, 1, b_against⟩
def n_at_least : List Str := [("table" : PySem.Str), ("one" : PySem.Str)]
def b_at_least : IS := (.cons (.expr (.call i_need_table (.cons (.var 0) .nil)))
  (.cons (.expr (.call i_need_mix (.cons (.tup (.cons (.var 0) (.cons (.var 0) .nil))) (.cons (.lit (.int 0)) (.cons (.var 1) .nil)))))
  (.cons (.ret (.call i_least_got (.cons (.var 0) (.cons (.var 1) .nil))))
  .nil)))
def d_at_least : Df := ⟨2, 2, b_at_least⟩
def n_at_most : List Str := [("table" : PySem.Str), ("other" : PySem.Str)]
def b_at_most : IS := (.cons (.expr (.call i_need_table (.cons (.var 0) .nil)))
  (.cons (.expr (.call i_need_mix (.cons (.tup (.cons (.var 0) (.cons (.var 0) .nil))) (.cons (.lit (.int 1)) (.cons (.var 1) .nil)))))
  (.cons (.ret (.call i_most_got (.cons (.var 0) (.cons (.var 1) .nil))))
  .nil)))
def d_at_most : Df := ⟨2, 2, b_at_most⟩
def n__law_deck : List Str := [("script" : PySem.Str), ("k" : PySem.Str), ("cell" : PySem.Str), ("mixed" : PySem.Str), ("other" : PySem.Str)]
def b__law_deck : IS := (.cons (.asg (.var 2) (.bop false .add (.bop false .mul (.lit (.int 61)) (.var 1)) (.lit (.int 23))))
  (.cons (.ite (.cmp .lt (.var 1) (.bi false .len (.cons (.var 0) .nil))) (.cons (.asg (.var 2) (.idx (.var 0) (.var 1)))
    .nil) .nil)
  (.cons (.asg (.var 3) (.bop false .add (.bop false .add (.bop false .mul (.lit (.int 7)) (.bi false .len (.cons (.var 0) .nil))) (.var 1)) (.lit (.int 1))))
  (.cons (.forr (.var 4) (.itv (.var 0)) (.cons (.asg (.var 3) (.bop false .mod (.bi false .int (.cons (.bop false .add (.bop false .mul (.var 3) (.lit (.int 8209))) (.bop false .mod (.bi false .int (.cons (.var 4) .nil)) (.bop false .add (.bop false .pow (.lit (.int 10)) (.lit (.int 21))) (.lit (.int 117))))) .nil)) (.bop false .add (.bop false .pow (.lit (.int 10)) (.lit (.int 28))) (.lit (.int 331)))))
    .nil))
  (.cons (.asg (.var 3) (.bop false .mod (.bi false .int (.cons (.bop false .add (.bop false .add (.bop false .add (.bop false .mul (.var 3) (.lit (.int 13))) (.bop false .mul (.bi false .abs (.cons (.var 2) .nil)) (.lit (.int 10007)))) (.bi false .int (.cons (.cmp .lt (.var 2) (.lit (.int 0))) .nil))) (.bop false .mul (.lit (.int 97)) (.var 1))) .nil)) (.bop false .add (.bop false .pow (.lit (.int 10)) (.lit (.int 28))) (.lit (.int 331)))))
  (.cons (.ret (.lst true (.cons (.bi false .max (.cons (.lit (.int 0)) (.cons (.bop false .sub (.bi false .abs (.cons (.var 2) .nil)) (.bop false .pow (.lit (.int 10)) (.lit (.int 18)))) .nil))) (.cons (.var 3) (.cons (.lit (.int 0)) .nil)))))
  .nil))))))
def d__law_deck : Df := ⟨2, 5, b__law_deck⟩
def n__law_draw : List Str := [("deck" : PySem.Str), ("many" : PySem.Str), ("found" : PySem.Str), ("mixed" : PySem.Str)]
def b__law_draw : IS := (.cons (.ite (.cmp .gt (.idx (.var 0) (.lit (.int 0))) (.lit (.int 0))) (.cons (.asg (.var 2) (.bop false .mod (.bi false .int (.cons (.idx (.var 0) (.lit (.int 0))) .nil)) (.var 1)))
    (.cons (.asg (.idx (.var 0) (.lit (.int 0))) (.bop false .fdiv (.idx (.var 0) (.lit (.int 0))) (.var 1)))
    (.cons (.ret (.var 2))
    .nil))) .nil)
  (.cons (.asg (.idx (.var 0) (.lit (.int 2))) (.bop false .add (.idx (.var 0) (.lit (.int 2))) (.lit (.int 1))))
  (.cons (.asg (.var 3) (.bop false .mod (.bi false .int (.cons (.bop false .add (.bop false .add (.idx (.var 0) (.lit (.int 1))) (.bop false .mul (.bop false .mul (.lit (.int 1299709)) (.idx (.var 0) (.lit (.int 2)))) (.idx (.var 0) (.lit (.int 2))))) (.bop false .mul (.lit (.int 15485863)) (.idx (.var 0) (.lit (.int 2))))) .nil)) (.bop false .add (.bop false .pow (.lit (.int 10)) (.lit (.int 28))) (.lit (.int 331)))))
  (.cons (.asg (.var 3) (.bop false .mod (.bi false .int (.cons (.bop false .add (.bop false .add (.bop false .mul (.bop false .mul (.var 3) (.var 3)) (.var 3)) (.bop false .mul (.lit (.int 11)) (.idx (.var 0) (.lit (.int 2))))) (.lit (.int 1))) .nil)) (.bop false .add (.bop false .pow (.lit (.int 10)) (.lit (.int 30))) (.lit (.int 57)))))
  (.cons (.asg (.var 3) (.bop false .fdiv (.bop false .mod (.bi false .int (.cons (.bop false .mul (.var 3) (.bop false .add (.var 3) (.lit (.int 104729)))) .nil)) (.bop false .add (.bop false .pow (.lit (.int 10)) (.lit (.int 31))) (.lit (.int 33)))) (.lit (.int 6007))))
  (.cons (.ite (.cmp .gt (.var 1) (.bop false .pow (.lit (.int 10)) (.lit (.int 20)))) (.cons (.ret (.bop false .mod (.bi false .int (.cons (.bop false .add (.bop false .mod (.bi false .int (.cons (.var 3) .nil)) (.bop false .pow (.lit (.int 10)) (.lit (.int 20)))) (.bop false .mul (.bop false .pow (.lit (.int 10)) (.lit (.int 20))) (.call i__law_draw (.cons (.var 0) (.cons (.bop false .add (.bop false .fdiv (.var 1) (.bop false .pow (.lit (.int 10)) (.lit (.int 20)))) (.lit (.int 1))) .nil))))) .nil)) (.var 1)))
    .nil) .nil)
  (.cons (.ret (.bop false .mod (.bi false .int (.cons (.var 3) .nil)) (.var 1)))
  .nil)))))))
def d__law_draw : Df := ⟨2, 4, b__law_draw⟩
def n__law_gcd : List Str := [("one" : PySem.Str), ("other" : PySem.Str)]
def b__law_gcd : IS := (.cons (.whil (.cmp .ne (.var 1) (.lit (.int 0))) (.cons (.par (.var 0) (.var 1) (.var 1) (.bop false .mod (.bi false .int (.cons (.var 0) .nil)) (.var 1)))
    .nil))
  (.cons (.ret (.bi false .abs (.cons (.var 0) .nil)))
  .nil))
def d__law_gcd : Df := ⟨2, 2, b__law_gcd⟩
def n__law_ratio : List Str := [("above" : PySem.Str), ("below" : PySem.Str), ("common" : PySem.Str)]
def b__law_ratio : IS := (.cons (.asg (.var 2) (.call i__law_gcd (.cons (.var 0) (.cons (.var 1) .nil))))
  (.cons (.ret (.tup (.cons (.bop false .fdiv (.var 0) (.var 2)) (.cons (.bop false .fdiv (.var 1) (.var 2)) .nil))))
  .nil))
def d__law_ratio : Df := ⟨2, 3, b__law_ratio⟩
def n__law_mix : List Str := [("weights" : PySem.Str), ("weight" : PySem.Str)]
def b__law_mix : IS := (.cons (.ret (.bi false .tuple (.cons (.comp false (.call i__law_ratio (.cons (.var 1) (.cons (.bi false .sum (.cons (.var 0) .nil)) .nil))) (.var 1) (.itv (.var 0)) .nil [1]) .nil)))
  .nil)
def d__law_mix : Df := ⟨1, 2, b__law_mix⟩
def n__law_weights : List Str := [("deck" : PySem.Str), ("many" : PySem.Str), ("reach" : PySem.Str), ("far" : PySem.Str), ("shift" : PySem.Str), ("found" : PySem.Str), ("choice" : PySem.Str), ("sure" : PySem.Str)]
def b__law_weights : IS := (.cons (.asg (.var 2) (.idx (.lst false (.cons (.lit (.int 2)) (.cons (.lit (.int 3)) (.cons (.lit (.int 7)) (.cons (.lit (.int 13)) (.cons (.bop false .pow (.lit (.int 10)) (.lit (.int 25))) (.cons (.bop false .pow (.bop false .pow (.lit (.int 10)) (.lit (.int 59))) (.lit (.int 5))) (.cons (.lit (.int 1)) (.cons (.lit (.int 0)) .nil))))))))) (.call i__law_draw (.cons (.var 0) (.cons (.lit (.int 8)) .nil)))))
  (.cons (.ite (.and (.cons (.cmp .eq (.var 2) (.lit (.int 0))) (.cons (.cmp .gt (.var 1) (.lit (.int 2))) .nil))) (.cons (.par (.var 3) (.var 4) (.bop false .add (.bop false .pow (.bop false .pow (.lit (.int 10)) (.lit (.int 49))) (.lit (.int 3))) (.call i__law_draw (.cons (.var 0) (.cons (.bop false .pow (.lit (.int 10)) (.lit (.int 20))) .nil)))) (.call i__law_draw (.cons (.var 0) (.cons (.var 1) .nil))))
    (.cons (.asg (.var 5) (.bop true .add (.lst false (.cons (.bop false .add (.bop false .mul (.lit (.int 2)) (.var 3)) (.lit (.int 1))) (.cons (.bop false .mul (.bop false .sub (.var 3) (.lit (.int 1))) (.bop false .add (.var 3) (.lit (.int 1)))) (.cons (.bop false .mul (.var 3) (.bop false .sub (.bop false .add (.bop false .mul (.bop false .mul (.lit (.int 2)) (.var 3)) (.var 3)) (.bop false .mul (.lit (.int 2)) (.var 3))) (.lit (.int 1)))) .nil)))) (.rep false (.cons (.lit (.int 0)) .nil) (.bop false .sub (.var 1) (.lit (.int 3))))))
    (.cons (.ret (.bop false .add (.sli false (.var 5) (.cons (.var 4) .nil) .nil) (.sli false (.var 5) .nil (.cons (.var 4) .nil))))
    .nil))) .nil)
  (.cons (.asg (.var 5) (.comp true (.call i__law_draw (.cons (.var 0) (.cons (.bi false .max (.cons (.lit (.int 1)) (.cons (.var 2) .nil))) .nil))) (.var 6) (.rng1 (.var 1)) .nil [6]))
  (.cons (.asg (.var 7) (.call i__law_draw (.cons (.var 0) (.cons (.var 1) .nil))))
  (.cons (.ite (.cmp .eq (.bi false .sum (.cons (.var 5) .nil)) (.lit (.int 0))) (.cons (.asg (.idx (.var 5) (.var 7)) (.lit (.int 1)))
    .nil) .nil)
  (.cons (.ret (.frz (.var 5)))
  .nil))))))
def d__law_weights : Df := ⟨2, 8, b__law_weights⟩
def n__law_table : List Str := [("deck" : PySem.Str), ("rows" : PySem.Str), ("columns" : PySem.Str), ("reach" : PySem.Str), ("found" : PySem.Str), ("row" : PySem.Str), ("column" : PySem.Str), ("line" : PySem.Str), ("number" : PySem.Str), ("turn" : PySem.Str), ("way" : PySem.Str), ("other" : PySem.Str), ("further" : PySem.Str), ("less" : PySem.Str), ("at" : PySem.Str)]
def b__law_table : IS := (.cons (.asg (.var 3) (.idx (.lst false (.cons (.lit (.int 2)) (.cons (.lit (.int 3)) (.cons (.lit (.int 5)) (.cons (.lit (.int 9)) (.cons (.lit (.int 41)) (.cons (.lit (.int 2001)) (.cons (.lit (.int 2001)) (.cons (.lit (.int 4)) .nil))))))))) (.call i__law_draw (.cons (.var 0) (.cons (.lit (.int 8)) .nil)))))
  (.cons (.asg (.var 4) (.lst true .nil))
  (.cons (.forr (.var 5) (.rng1 (.var 1)) (.cons (.expr (.me .append (.var 4) (.cons (.comp true (.bop false .sub (.call i__law_draw (.cons (.var 0) (.cons (.var 3) .nil))) (.bop false .fdiv (.var 3) (.lit (.int 2)))) (.var 6) (.rng1 (.var 2)) .nil [6]) .nil)))
    .nil))
  (.cons (.ite (.cmp .eq (.var 3) (.lit (.int 4))) (.cons (.asg (.var 4) (.comp true (.comp true (.idx (.lst false (.cons (.neg (.lit (.int 1000))) (.cons (.lit (.int 1000)) (.cons (.lit (.int 0)) (.cons (.lit (.int 999)) .nil))))) (.bop false .add (.var 8) (.lit (.int 2)))) (.var 8) (.itv (.var 7)) .nil [8]) (.var 7) (.itv (.var 4)) .nil [7]))
    .nil) .nil)
  (.cons (.forr (.var 9) (.rng1 (.call i__law_draw (.cons (.var 0) (.cons (.lit (.int 4)) .nil)))) (.cons (.asg (.tup (.cons (.var 10) (.cons (.var 5) (.cons (.var 11) .nil)))) (.tup (.cons (.call i__law_draw (.cons (.var 0) (.cons (.lit (.int 5)) .nil))) (.cons (.call i__law_draw (.cons (.var 0) (.cons (.var 1) .nil))) (.cons (.call i__law_draw (.cons (.var 0) (.cons (.var 1) .nil))) .nil)))))
    (.cons (.asg (.tup (.cons (.var 6) (.cons (.var 12) (.cons (.var 13) .nil)))) (.tup (.cons (.call i__law_draw (.cons (.var 0) (.cons (.var 2) .nil))) (.cons (.call i__law_draw (.cons (.var 0) (.cons (.var 2) .nil))) (.cons (.call i__law_draw (.cons (.var 0) (.cons (.lit (.int 3)) .nil))) .nil)))))
    (.cons (.ite (.cmp .eq (.var 10) (.lit (.int 0))) (.cons (.asg (.idx (.var 4) (.var 5)) (.bi true .list (.cons (.idx (.var 4) (.var 11)) .nil)))
      .nil) .nil)
    (.cons (.ite (.cmp .eq (.var 10) (.lit (.int 1))) (.cons (.forr (.var 7) (.itv (.var 4)) (.cons (.asg (.idx (.var 7) (.var 6)) (.idx (.var 7) (.var 12)))
        .nil))
      .nil) .nil)
    (.cons (.ite (.cmp .eq (.var 10) (.lit (.int 2))) (.cons (.asg (.idx (.var 4) (.var 5)) (.rep true (.cons (.idx (.idx (.var 4) (.var 5)) (.var 6)) .nil) (.var 2)))
      .nil) .nil)
    (.cons (.ite (.cmp .eq (.var 10) (.lit (.int 3))) (.cons (.asg (.idx (.var 4) (.var 5)) (.comp true (.bi false .max (.cons (.neg (.lit (.int 1000))) (.cons (.bop false .sub (.var 8) (.var 13)) .nil))) (.var 8) (.itv (.idx (.var 4) (.var 11))) .nil [8]))
      .nil) .nil)
    (.cons (.ite (.cmp .eq (.var 10) (.lit (.int 4))) (.cons (.asg (.idx (.var 4) (.var 5)) (.comp true (.bop false .fdiv (.bop false .add (.idx (.idx (.var 4) (.var 5)) (.var 14)) (.idx (.idx (.var 4) (.var 11)) (.var 14))) (.lit (.int 2))) (.var 14) (.rng1 (.var 2)) .nil [14]))
      .nil) .nil)
    .nil))))))))
  (.cons (.ret (.frz (.var 4)))
  .nil))))))
def d__law_table : Df := ⟨3, 15, b__law_table⟩
def n__law_frozen : List Str := [("lines" : PySem.Str), ("line" : PySem.Str)]
def b__law_frozen : IS := (.cons (.ret (.bi false .tuple (.cons (.comp false (.bi false .tuple (.cons (.var 1) .nil)) (.var 1) (.itv (.var 0)) .nil [1]) .nil)))
  .nil)
def d__law_frozen : Df := ⟨1, 2, b__law_frozen⟩
def n__law_turned : List Str := [("lines" : PySem.Str), ("column" : PySem.Str), ("line" : PySem.Str)]
def b__law_turned : IS := (.cons (.ret (.comp false (.comp false (.idx (.var 2) (.var 1)) (.var 2) (.itv (.var 0)) .nil [2]) (.var 1) (.rng1 (.bi false .len (.cons (.idx (.var 0) (.lit (.int 0))) .nil))) .nil [1]))
  .nil)
def d__law_turned : Df := ⟨1, 3, b__law_turned⟩
def n__law_sums : List Str := [("lines" : PySem.Str), ("numbers" : PySem.Str), ("found" : PySem.Str), ("column" : PySem.Str), ("row" : PySem.Str)]
def b__law_sums : IS := (.cons (.asg (.var 2) (.lst true .nil))
  (.cons (.forr (.var 3) (.rng1 (.bi false .len (.cons (.idx (.var 0) (.lit (.int 0))) .nil))) (.cons (.expr (.me .append (.var 2) (.cons (.bi false .sum (.cons (.comp false (.bop false .mul (.idx (.var 1) (.var 4)) (.idx (.idx (.var 0) (.var 4)) (.var 3))) (.var 4) (.rng1 (.bi false .len (.cons (.var 0) .nil))) .nil [4]) .nil)) .nil)))
    .nil))
  (.cons (.ret (.frz (.var 2)))
  .nil)))
def d__law_sums : Df := ⟨2, 5, b__law_sums⟩
def n__law_same : List Str := [("found" : PySem.Str), ("due" : PySem.Str), ("at" : PySem.Str)]
def b__law_same : IS := (.cons (.ite (.or (.cons (.isi (.var 1) .list) (.cons (.isi (.var 1) .tuple) .nil))) (.cons (.ite (.or (.cons (.cmp .ne (.isi (.var 0) .list) (.isi (.var 1) .list)) (.cons (.cmp .ne (.isi (.var 0) .tuple) (.isi (.var 1) .tuple)) .nil))) (.cons (.ret (.lit (.bool false)))
      .nil) .nil)
    (.cons (.ret (.and (.cons (.cmp .eq (.bi false .len (.cons (.var 0) .nil)) (.bi false .len (.cons (.var 1) .nil))) (.cons (.bi false .all (.cons (.comp false (.call i__law_same (.cons (.idx (.var 0) (.var 2)) (.cons (.idx (.var 1) (.var 2)) .nil))) (.var 2) (.rng1 (.bi false .len (.cons (.var 1) .nil))) .nil [2]) .nil)) .nil))))
    .nil)) .nil)
  (.cons (.ite (.isi (.var 1) .bool) (.cons (.ret (.and (.cons (.isi (.var 0) .bool) (.cons (.cmp .eq (.var 0) (.var 1)) .nil))))
    .nil) .nil)
  (.cons (.ite (.isi (.var 1) .int) (.cons (.ret (.and (.cons (.isi (.var 0) .int) (.cons (.not (.isi (.var 0) .bool)) (.cons (.cmp .eq (.var 0) (.var 1)) .nil)))))
    .nil) .nil)
  (.cons (.ret (.and (.cons (.cmp .is (.var 0) (.lit .none)) (.cons (.cmp .is (.var 1) (.lit .none)) .nil))))
  .nil))))
def d__law_same : Df := ⟨2, 3, b__law_same⟩
def n__law_odd : List Str := [("deck" : PySem.Str), ("part" : PySem.Str), ("fixed" : PySem.Str), ("twice" : PySem.Str), ("number" : PySem.Str), ("ways" : PySem.Str)]
def b__law_odd : IS := (.cons (.asg (.var 2) (.lst false (.cons (.lit .none) (.cons (.lit (.bool true)) (.cons (.lit (.bool false)) (.cons (.lit (.str ("1" : PySem.Str))) (.cons (.lit (.str ("" : PySem.Str))) (.cons (.lst false .nil) (.cons (.dic .nil .nil) (.cons (.tup .nil) (.cons (.lst false (.cons (.lit (.int 0)) .nil)) (.cons (.lit (.int 1001)) (.cons (.neg (.lit (.int 1001))) (.cons (.bop false .pow (.lit (.int 10)) (.lit (.int 30))) (.cons (.tup (.cons (.lit (.int 1)) (.cons (.lit (.int 2)) .nil))) (.cons (.lit (.int 0)) (.cons (.lit (.int 1)) (.cons (.dic (.cons (.lit (.str ("0" : PySem.Str))) .nil) (.cons (.lit (.int 1)) .nil)) .nil))))))))))))))))))
  (.cons (.ite (.cmp .eq (.call i__law_draw (.cons (.var 0) (.cons (.lit (.int 3)) .nil))) (.lit (.int 0))) (.cons (.ret (.idx (.var 2) (.call i__law_draw (.cons (.var 0) (.cons (.bi false .len (.cons (.var 2) .nil)) .nil)))))
    .nil) .nil)
  (.cons (.ite (.isi (.var 1) .tuple) (.cons (.asg (.var 3) (.bi false .tuple (.cons (.comp false (.ite (.isi (.var 4) .int) (.bop false .mul (.lit (.int 2)) (.var 4)) (.var 4)) (.var 4) (.itv (.var 1)) .nil [4]) .nil)))
    (.cons (.asg (.var 5) (.lst false (.cons (.bi false .list (.cons (.var 1) .nil)) (.cons (.sli false (.var 1) .nil (.cons (.neg (.lit (.int 1))) .nil)) (.cons (.bop false .add (.var 1) (.sli false (.var 1) (.cons (.neg (.lit (.int 1))) .nil) .nil)) (.cons (.rev false (.var 1)) (.cons (.tup (.cons (.var 1) .nil)) (.cons (.bop false .mul (.var 1) (.lit (.int 6))) (.cons (.lst false (.cons (.var 1) .nil)) (.cons (.var 3) (.cons (.var 3) .nil)))))))))))
    (.cons (.ret (.idx (.var 5) (.call i__law_draw (.cons (.var 0) (.cons (.bi false .len (.cons (.var 5) .nil)) .nil)))))
    .nil))) .nil)
  (.cons (.ite (.isi (.var 1) .int) (.cons (.asg (.var 5) (.lst false (.cons (.bop false .add (.var 1) (.lit (.int 1))) (.cons (.bop false .sub (.var 1) (.lit (.int 1))) (.cons (.neg (.var 1)) (.cons (.bop false .mul (.lit (.int 2)) (.var 1)) (.cons (.tup (.cons (.var 1) .nil)) (.cons (.lst false (.cons (.var 1) .nil)) (.cons (.bi false .str (.cons (.bop false .mod (.bi false .int (.cons (.var 1) .nil)) (.lit (.int 1000))) .nil)) (.cons (.cmp .eq (.var 1) (.lit (.int 1))) (.cons (.bop false .add (.var 1) (.lit (.int 3000))) .nil)))))))))))
    (.cons (.ret (.idx (.var 5) (.call i__law_draw (.cons (.var 0) (.cons (.bi false .len (.cons (.var 5) .nil)) .nil)))))
    .nil)) .nil)
  (.cons (.ret (.idx (.var 2) (.call i__law_draw (.cons (.var 0) (.cons (.bi false .len (.cons (.var 2) .nil)) .nil)))))
  .nil)))))
def d__law_odd : Df := ⟨2, 6, b__law_odd⟩
def n__law_bent : List Str := [("deck" : PySem.Str), ("value" : PySem.Str), ("at" : PySem.Str)]
def b__law_bent : IS := (.cons (.ite (.and (.cons (.isi (.var 1) .tuple) (.cons (.cmp .gt (.bi false .len (.cons (.var 1) .nil)) (.lit (.int 0))) (.cons (.cmp .gt (.call i__law_draw (.cons (.var 0) (.cons (.lit (.int 4)) .nil))) (.lit (.int 0))) .nil)))) (.cons (.asg (.var 2) (.call i__law_draw (.cons (.var 0) (.cons (.bi false .len (.cons (.var 1) .nil)) .nil))))
    (.cons (.ret (.bop false .add (.bop false .add (.sli false (.var 1) .nil (.cons (.var 2) .nil)) (.tup (.cons (.call i__law_bent (.cons (.var 0) (.cons (.idx (.var 1) (.var 2)) .nil))) .nil))) (.sli false (.var 1) (.cons (.bop false .add (.var 2) (.lit (.int 1))) .nil) .nil)))
    .nil)) .nil)
  (.cons (.ret (.call i__law_odd (.cons (.var 0) (.cons (.var 1) .nil))))
  .nil))
def d__law_bent : Df := ⟨2, 3, b__law_bent⟩
def n__law_integer : List Str := [("value" : PySem.Str)]
def b__law_integer : IS := (.cons (.ret (.and (.cons (.isi (.var 0) .int) (.cons (.not (.isi (.var 0) .bool)) .nil))))
  .nil)
def d__law_integer : Df := ⟨1, 1, b__law_integer⟩
def n__law_is_table : List Str := [("value" : PySem.Str), ("line" : PySem.Str), ("number" : PySem.Str)]
def b__law_is_table : IS := (.cons (.ite (.or (.cons (.not (.isi (.var 0) .tuple)) (.cons (.not (.chain .le .le (.lit (.int 1)) (.bi false .len (.cons (.var 0) .nil)) (.lit (.int 5)))) .nil))) (.cons (.ret (.lit (.bool false)))
    .nil) .nil)
  (.cons (.forr (.var 1) (.itv (.var 0)) (.cons (.ite (.or (.cons (.not (.isi (.var 1) .tuple)) (.cons (.not (.chain .le .le (.lit (.int 1)) (.bi false .len (.cons (.var 1) .nil)) (.lit (.int 5)))) (.cons (.cmp .ne (.bi false .len (.cons (.var 1) .nil)) (.bi false .len (.cons (.idx (.var 0) (.lit (.int 0))) .nil))) .nil)))) (.cons (.ret (.lit (.bool false)))
      .nil) .nil)
    (.cons (.ite (.cmp .ne (.comp false (.var 2) (.var 2) (.itv (.var 1)) (.cons (.or (.cons (.not (.call i__law_integer (.cons (.var 2) .nil))) (.cons (.not (.chain .le .le (.neg (.lit (.int 1000))) (.var 2) (.lit (.int 1000)))) .nil))) .nil) [2]) (.lst false .nil)) (.cons (.ret (.lit (.bool false)))
      .nil) .nil)
    .nil)))
  (.cons (.ret (.lit (.bool true)))
  .nil)))
def d__law_is_table : Df := ⟨1, 3, b__law_is_table⟩
def n__law_judged : List Str := [("value" : PySem.Str), ("named" : PySem.Str), ("before" : PySem.Str), ("found" : PySem.Str)]
def b__law_judged : IS := (.cons (.asg (.var 2) (.bi false .repr (.cons (.var 0) .nil)))
  (.cons (.asg (.var 3) (.ite (.cmp .eq (.var 1) (.lit (.int 1))) (.callk i_is_table .nil (.cons (.var 0) .nil) [("value" : PySem.Str)] [0]) (.call i_is_table (.cons (.var 0) .nil))))
  (.cons (.ret (.and (.cons (.isi (.var 3) .bool) (.cons (.cmp .eq (.var 3) (.call i__law_is_table (.cons (.var 0) .nil))) (.cons (.cmp .eq (.bi false .repr (.cons (.var 0) .nil)) (.var 2)) .nil)))))
  .nil)))
def d__law_judged : Df := ⟨2, 4, b__law_judged⟩
def n__law_got_right : List Str := [("lines" : PySem.Str), ("table" : PySem.Str), ("side" : PySem.Str), ("weights" : PySem.Str), ("named" : PySem.Str), ("mix" : PySem.Str), ("due" : PySem.Str), ("found" : PySem.Str)]
def b__law_got_right : IS := (.cons (.asg (.var 5) (.call i__law_mix (.cons (.var 3) .nil)))
  (.cons (.ite (.cmp .eq (.var 2) (.lit (.int 0))) (.cons (.asg (.var 6) (.call i__law_ratio (.cons (.bi false .min (.cons (.call i__law_sums (.cons (.var 0) (.cons (.var 3) .nil))) .nil)) (.cons (.bi false .sum (.cons (.var 3) .nil)) .nil))))
    (.cons (.asg (.var 7) (.ite (.cmp .eq (.var 4) (.lit (.int 1))) (.callk i_at_least .nil (.cons (.var 5) (.cons (.var 1) .nil)) [("one" : PySem.Str), ("table" : PySem.Str)] [1, 0]) (.call i_at_least (.cons (.var 1) (.cons (.var 5) .nil)))))
    .nil)) (.cons (.asg (.var 6) (.call i__law_ratio (.cons (.bi false .max (.cons (.call i__law_sums (.cons (.call i__law_turned (.cons (.var 0) .nil)) (.cons (.var 3) .nil))) .nil)) (.cons (.bi false .sum (.cons (.var 3) .nil)) .nil))))
    (.cons (.asg (.var 7) (.ite (.cmp .eq (.var 4) (.lit (.int 1))) (.callk i_at_most .nil (.cons (.var 5) (.cons (.var 1) .nil)) [("other" : PySem.Str), ("table" : PySem.Str)] [1, 0]) (.call i_at_most (.cons (.var 1) (.cons (.var 5) .nil)))))
    .nil)))
  (.cons (.ret (.and (.cons (.call i__law_same (.cons (.var 7) (.cons (.var 6) .nil))) (.cons (.cmp .eq (.var 5) (.call i__law_mix (.cons (.var 3) .nil))) .nil))))
  .nil)))
def d__law_got_right : Df := ⟨5, 8, b__law_got_right⟩
def n__law_values : List Str := [("deck" : PySem.Str), ("table" : PySem.Str), ("found" : PySem.Str), ("line" : PySem.Str), ("turn" : PySem.Str), ("part" : PySem.Str)]
def b__law_values : IS := (.cons (.asg (.var 2) (.lst false (.cons (.var 1) (.cons (.bop false .add (.var 1) (.sli false (.var 1) .nil (.cons (.lit (.int 1)) .nil))) (.cons (.bi false .tuple (.cons (.comp false (.bop false .add (.var 3) (.sli false (.var 3) .nil (.cons (.lit (.int 1)) .nil))) (.var 3) (.itv (.var 1)) .nil [3]) .nil)) (.cons (.bop false .mul (.var 1) (.lit (.int 6))) (.cons (.bi false .list (.cons (.var 1) .nil)) .nil)))))))
  (.cons (.asg (.var 2) (.bop false .add (.var 2) (.lst false (.cons (.bi false .tuple (.cons (.comp false (.bop false .mul (.var 3) (.lit (.int 6))) (.var 3) (.itv (.var 1)) .nil [3]) .nil)) (.cons (.bi false .tuple (.cons (.comp false (.bi false .list (.cons (.var 3) .nil)) (.var 3) (.itv (.var 1)) .nil [3]) .nil)) (.cons (.sli false (.var 1) .nil (.cons (.lit (.int 1)) .nil)) .nil))))))
  (.cons (.asg (.var 2) (.bop false .add (.var 2) (.lst false (.cons (.tup (.cons (.var 1) (.cons (.var 1) .nil))) (.cons (.bop false .add (.sli false (.var 1) .nil (.cons (.neg (.lit (.int 1))) .nil)) (.tup (.cons (.bop false .add (.idx (.var 1) (.neg (.lit (.int 1)))) (.idx (.var 1) (.lit (.int 0)))) .nil))) (.cons (.bop false .add (.sli false (.var 1) (.cons (.lit (.int 1)) .nil) .nil) (.tup (.cons (.sli false (.idx (.var 1) (.lit (.int 0))) (.cons (.lit (.int 1)) .nil) .nil) .nil))) (.cons (.rev false (.var 1)) .nil)))))))
  (.cons (.asg (.var 2) (.bop false .add (.var 2) (.comp false (.call i__law_bent (.cons (.var 0) (.cons (.var 1) .nil))) (.var 4) (.rng1 (.lit (.int 5))) .nil [4])))
  (.cons (.ret (.bop false .add (.var 2) (.comp false (.call i__law_odd (.cons (.var 0) (.cons (.var 5) .nil))) (.var 5) (.itv (.lst false (.cons (.var 1) (.cons (.idx (.var 1) (.lit (.int 0))) (.cons (.lit (.int 7)) .nil))))) .nil [5])))
  .nil)))))
def d__law_values : Df := ⟨2, 6, b__law_values⟩
def n__law_number_right : List Str := [("script" : PySem.Str), ("k" : PySem.Str), ("deck" : PySem.Str), ("rows" : PySem.Str), ("columns" : PySem.Str), ("named" : PySem.Str), ("lines" : PySem.Str), ("table" : PySem.Str), ("due" : PySem.Str), ("line" : PySem.Str), ("number" : PySem.Str), ("asked" : PySem.Str), ("side" : PySem.Str), ("values" : PySem.Str), ("turn" : PySem.Str), ("value" : PySem.Str), ("weights" : PySem.Str), ("found" : PySem.Str)]
def b__law_number_right : IS := (.cons (.asg (.var 2) (.call i__law_deck (.cons (.var 0) (.cons (.var 1) .nil))))
  (.cons (.asg (.tup (.cons (.var 3) (.cons (.var 4) (.cons (.var 5) .nil)))) (.tup (.cons (.bop false .add (.lit (.int 1)) (.call i__law_draw (.cons (.var 2) (.cons (.lit (.int 5)) .nil)))) (.cons (.bop false .add (.lit (.int 1)) (.call i__law_draw (.cons (.var 2) (.cons (.lit (.int 5)) .nil)))) (.cons (.call i__law_draw (.cons (.var 2) (.cons (.lit (.int 2)) .nil))) .nil)))))
  (.cons (.asg (.var 6) (.call i__law_table (.cons (.var 2) (.cons (.var 3) (.cons (.var 4) .nil)))))
  (.cons (.asg (.var 7) (.call i__law_frozen (.cons (.var 6) .nil)))
  (.cons (.asg (.var 8) (.tup (.cons (.call i__law_frozen (.cons (.var 6) .nil)) (.cons (.bi false .tuple (.cons (.comp false (.bi false .tuple (.cons (.comp false (.neg (.var 10)) (.var 10) (.itv (.var 9)) .nil [10]) .nil)) (.var 9) (.itv (.var 6)) .nil [9]) .nil)) .nil))))
  (.cons (.asg (.var 11) (.comp false (.tup (.cons (.var 12) (.cons (.call i__law_weights (.cons (.var 2) (.cons (.idx (.lst false (.cons (.var 3) (.cons (.var 4) .nil))) (.var 12)) .nil))) .nil))) (.var 12) (.itv (.lst false (.cons (.lit (.int 0)) (.cons (.lit (.int 1)) (.cons (.lit (.int 0)) (.cons (.lit (.int 1)) (.cons (.lit (.int 1)) (.cons (.lit (.int 0)) .nil)))))))) .nil [12]))
  (.cons (.asg (.var 13) (.call i__law_values (.cons (.var 2) (.cons (.var 7) .nil))))
  (.cons (.forr (.var 14) (.rng1 (.lit (.int 2))) (.cons (.forr (.var 15) (.itv (.var 13)) (.cons (.ite (.not (.call i__law_judged (.cons (.var 15) (.cons (.var 5) .nil)))) (.cons (.ret (.lit (.bool false)))
        .nil) .nil)
      .nil))
    (.cons (.forr (.tup (.cons (.var 12) (.cons (.var 16) .nil))) (.itv (.var 11)) (.cons (.ite (.not (.call i__law_got_right (.cons (.var 6) (.cons (.var 7) (.cons (.var 12) (.cons (.var 16) (.cons (.var 5) .nil))))))) (.cons (.ret (.lit (.bool false)))
        .nil) .nil)
      (.cons (.asg (.var 5) (.bop false .sub (.lit (.int 1)) (.var 5)))
      .nil)))
    (.cons (.asg (.var 17) (.ite (.cmp .eq (.var 5) (.lit (.int 1))) (.callk i_against .nil (.cons (.var 7) .nil) [("table" : PySem.Str)] [0]) (.call i_against (.cons (.var 7) .nil))))
    (.cons (.ite (.not (.call i__law_same (.cons (.var 17) (.cons (.var 8) .nil)))) (.cons (.ret (.lit (.bool false)))
      .nil) .nil)
    (.cons (.par (.var 13) (.var 11) (.rev false (.var 13)) (.rev false (.var 11)))
    .nil))))))
  (.cons (.ret (.cmp .eq (.var 7) (.call i__law_frozen (.cons (.var 6) .nil))))
  .nil)))))))))
def d__law_number_right : Df := ⟨2, 18, b__law_number_right⟩
def n_law : List Str := [("script" : PySem.Str), ("k" : PySem.Str)]
def b_law : IS := (.cons (.forr (.var 1) (.rng1 (.bi false .max (.cons (.lit (.int 1)) (.cons (.bi false .min (.cons (.lit (.int 3)) (.cons (.bi false .len (.cons (.var 0) .nil)) .nil))) .nil)))) (.cons (.ite (.not (.call i__law_number_right (.cons (.var 0) (.cons (.var 1) .nil)))) (.cons (.ret (.lit (.bool false)))
      .nil) .nil)
    .nil))
  (.cons (.ret (.lit (.bool true)))
  .nil))
def d_law : Df := ⟨1, 2, b_law⟩
def tab : List Df := [d_is_integer, d_anew, d_is_within, d_is_fraction, d_comes_to_one, d_are_chances, d_is_a_row, d_is_a_table, d_many_of, d_is_a_mix, d_need_mix, d_reduced, d_got, d_shares, d_sums_against, d_need_table, d_enemies, d_least_got, d_most_got, d_is_table, d_against, d_at_least, d_at_most, d__law_deck, d__law_draw, d__law_gcd, d__law_ratio, d__law_mix, d__law_weights, d__law_table, d__law_frozen, d__law_turned, d__law_sums, d__law_same, d__law_odd, d__law_bent, d__law_integer, d__law_is_table, d__law_judged, d__law_got_right, d__law_values, d__law_number_right, d_law]
end Law

set_option maxHeartbeats 1000000
namespace Law
open PySem SM
section
variable {fu k : Nat} {s : Sto}
def isInt : PyData → Bool
  | .int _ => true
  | _ => false
theorem is_integer_ok (x : PyData) : callI tab fu (k + 1) i_is_integer [.d x] s = .ok (.d (.bool (isInt x))) s := by
  cases x <;> exact leave_pure _ _
def isIn (lo hi : Int) : PyData → Bool
  | .int i => decide (lo ≤ i) && decide (i ≤ hi)
  | _ => false
theorem is_within_ok (x : PyData) (lo hi : Int) : callI tab fu (k + 2) i_is_within [.d x, .d (.int lo), .d (.int hi)] s = .ok (.d (.bool (isIn lo hi x))) s := by
  show leave s (exS (callI tab fu (k + 1)) fu b_is_within [some (.d x), some (.d (.int lo)), some (.d (.int hi))] s) = _
  have h : exS (callI tab fu (k + 1)) fu b_is_within [some (.d x), some (.d (.int lo)), some (.d (.int hi))] s = .rt (.d (.bool (isIn lo hi x))) s := by
    simp [b_is_within, evT_eq, is_integer_ok]
    cases x <;> simp [isInt, isIn, cmpV, ltI]
    rename_i i
    by_cases h : lo ≤ i <;> simp [h]
  rw [h, leave_pure]
def isRow (w : Nat) : PyData → Bool
  | .tuple xs => decide (xs.length = w) && xs.all (isIn (-1000) 1000)
  | _ => false
theorem is_a_row_ok (x : PyData) (w : Nat) (hw : w ≤ 16777216) : callI tab fu (k + 3) i_is_a_row [.d x, .d (.int w)] s = .ok (.d (.bool (isRow w x))) s := by
  show leave s (exS (callI tab fu (k + 2)) fu b_is_a_row [some (.d x), some (.d (.int w)), none] s) = _
  have h : exS (callI tab fu (k + 2)) fu b_is_a_row [some (.d x), some (.d (.int w)), none] s = .rt (.d (.bool (isRow w x))) s := by
    cases x <;> try (simp [b_is_a_row, evT_eq, isT, isRow]; done)
    rename_i xs
    by_cases hl : xs.length = w
    · have c : ev (callI tab fu (k + 2)) (.comp false (.call 2 (.cons (.var 2) (.cons (.neg (.glob ("MOST_NUMBER" : Str) (.int 1000))) (.cons (.glob ("MOST_NUMBER" : Str) (.int 1000)) .nil)))) (.var 2) (.itv (.var 0)) .nil [2]) [some (.d (.tuple xs)), some (.d (.int w)), none] s = .ok (.d (.list (xs.map fun x => .bool (isIn (-1000) 1000 x)))) s := by
        refine comp_map _ rfl (by omega) fun x _ => ⟨_, rfl, ?_⟩
        simp [wipe, is_within_ok]
      simp [b_is_a_row, evT_eq, isT, isRow, biV, lenV, itemsV, itemsD, cmpV, dataOf, eqD_int, hl, c, allV_map]
    · have hl' : ¬ ((xs.length : Int) = (w : Int)) := by omega
      simp [b_is_a_row, evT_eq, isT, isRow, biV, lenV, itemsV, itemsD, cmpV, dataOf, eqD_int, hl, hl']
  rw [h, leave_pure]
def isTab : PyData → Bool
  | .tuple (.tuple r :: rs) => decide (rs.length + 1 ≤ 5) && ((decide (1 ≤ r.length) && decide (r.length ≤ 5)) && (.tuple r :: rs).all (isRow r.length))
  | _ => false
theorem is_a_table_ok (x : PyData) : callI tab fu (k + 4) i_is_a_table [.d x] s = .ok (.d (.bool (isTab x))) s := by
  show leave s (exS (callI tab fu (k + 3)) fu b_is_a_table [some (.d x), none] s) = _
  have h : exS (callI tab fu (k + 3)) fu b_is_a_table [some (.d x), none] s = .rt (.d (.bool (isTab x))) s := by
    cases x <;> try (simp [b_is_a_table, evT_eq, isT, isTab]; done)
    rename_i xs
    cases xs with
    | nil => simp [b_is_a_table, evT_eq, isT, isTab, biV, lenV, itemsV, itemsD, cmpV, ltI]
    | cons y rs =>
      by_cases hl : rs.length + 1 ≤ 5
      · have h1 : (1:Int) ≤ (rs.length : Int) + 1 := by omega
        have h2 : (rs.length : Int) + 1 ≤ 5 := by omega
        cases y <;> try (simp [b_is_a_table, evT_eq, isT, isTab, biV, lenV, itemsV, itemsD, cmpV, ltI, hl, h1, h2, idx0]; done)
        rename_i r
        by_cases h3 : 1 ≤ r.length
        · have h4 : (1:Int) ≤ r.length := by omega
          by_cases h5 : r.length ≤ 5
          · have h6 : (r.length : Int) ≤ 5 := by omega
            have c : ev (callI tab fu (k + 3)) (.comp false (.call 6 (.cons (.var 1) (.cons (.bi false .len (.cons (.idx (.var 0) (.lit (.int 0))) .nil)) .nil))) (.var 1) (.itv (.var 0)) .nil [1]) [some (.d (.tuple (.tuple r :: rs))), none] s = .ok (.d (.list ((PyData.tuple r :: rs).map fun x => .bool (isRow r.length x)))) s := by
              refine comp_map _ rfl (by simp; omega) fun x _ => ⟨_, rfl, ?_⟩
              simp [wipe, idx0, biV, lenV, itemsV, itemsD, is_a_row_ok, show r.length ≤ 16777216 by omega]
            have av := allV_map (s := s) (isRow r.length) (PyData.tuple r :: rs)
            simp only [List.map_cons] at av
            simp [b_is_a_table, evT_eq, isT, isTab, biV, lenV, itemsV, itemsD, cmpV, ltI, hl, h1, h2, idx0, h3, h4, h5, h6, c, av]
          · have h6 : ¬ (r.length : Int) ≤ 5 := by omega
            simp [b_is_a_table, evT_eq, isT, isTab, biV, lenV, itemsV, itemsD, cmpV, ltI, hl, h1, h2, idx0, h3, h4, h5, h6]
        · have h4 : ¬ (1:Int) ≤ r.length := by omega
          simp [b_is_a_table, evT_eq, isT, isTab, biV, lenV, itemsV, itemsD, cmpV, ltI, hl, h1, h2, idx0, h3, h4]
      · have h1 : (1:Int) ≤ (rs.length : Int) + 1 := by omega
        have h2 : ¬ (rs.length : Int) + 1 ≤ 5 := by omega
        cases y <;> simp [b_is_a_table, evT_eq, isT, isTab, biV, lenV, itemsV, itemsD, cmpV, ltI, hl, h1, h2, idx0]
  rw [h, leave_pure]
def colN : PyData → Nat
  | .tuple (.tuple r :: _) => r.length
  | _ => 0
def rowN : PyData → Nat
  | .tuple rs => rs.length
  | _ => 0
theorem rowN_tup (rs : List PyData) : rowN (.tuple rs) = rs.length := rfl
theorem colN_tup (r rs : List PyData) : colN (.tuple (.tuple r :: rs)) = r.length := rfl
theorem isTab_inv {x : PyData} (h : isTab x = true) : ∃ r rs, x = .tuple (.tuple r :: rs) ∧ rs.length + 1 ≤ 5 ∧ 1 ≤ r.length ∧ r.length ≤ 5 ∧ ∀ y ∈ (PyData.tuple r :: rs), isRow r.length y = true := by
  unfold isTab at h
  split at h
  · rename_i r rs
    simp only [Bool.and_eq_true, decide_eq_true_eq, List.all_eq_true] at h
    exact ⟨r, rs, rfl, h.1, h.2.1.1, h.2.1.2, h.2.2⟩
  · cases h
end
section
variable {fu k : Nat} {s : Sto}
/-! ### fractions -/
def isFrac : PyData → Bool
  | .tuple [.int i, .int j] => decide (1 ≤ j) && decide (Int.gcd i j = 1)
  | _ => false
theorem is_fraction_ok (x : PyData) : callI tab fu (k + 2) i_is_fraction [.d x] s = .ok (.d (.bool (isFrac x))) s := by
  show leave s (exS (callI tab fu (k + 1)) fu b_is_fraction [some (.d x)] s) = _
  have h : exS (callI tab fu (k + 1)) fu b_is_fraction [some (.d x)] s = .rt (.d (.bool (isFrac x))) s := by
    cases x <;> try (simp [b_is_fraction, evT_eq, isT, isFrac]; done)
    rename_i xs
    cases xs with
    | nil => simp [b_is_fraction, evT_eq, isT, isFrac, biV, lenV, itemsV, itemsD, cmpV, dataOf, eqD_int]
    | cons a xs =>
    cases xs with
    | nil => simp [b_is_fraction, evT_eq, isT, isFrac, biV, lenV, itemsV, itemsD, cmpV, dataOf, eqD_int]
    | cons b xs =>
    cases xs with
    | cons c xs =>
      have h1 : ¬ ((xs.length : Int) + 1 + 1 + 1 = 2) := by omega
      simp [b_is_fraction, evT_eq, isT, isFrac, biV, lenV, itemsV, itemsD, cmpV, dataOf, eqD_int, h1]
    | nil =>
      have ia : ∀ y : PyData, callI tab fu (k + 1) 0 [.d y] s = .ok (.d (.bool (isInt y))) s := fun y => is_integer_ok y
      cases a <;> try (simp [b_is_fraction, evT_eq, isT, isFrac, biV, lenV, itemsV, itemsD, cmpV, dataOf, eqD_int, idx0, ia, isInt]; done)
      rename_i i
      cases b <;> try (simp [b_is_fraction, evT_eq, isT, isFrac, biV, lenV, itemsV, itemsD, cmpV, dataOf, eqD_int, idx0, idx1, ia, isInt]; done)
      rename_i j
      by_cases hj : 1 ≤ j
      · by_cases hg : Int.gcd i j = 1
        · simp [b_is_fraction, evT_eq, isT, isFrac, biV, lenV, itemsV, itemsD, cmpV, dataOf, eqD_int, idx0, idx1, ia, isInt, ltI, hj, gcdV, hg]
        · have hg' : ¬ (Int.gcd i j : Int) = 1 := by omega
          simp [b_is_fraction, evT_eq, isT, isFrac, biV, lenV, itemsV, itemsD, cmpV, dataOf, eqD_int, idx0, idx1, ia, isInt, ltI, hj, gcdV, hg, hg']
      · simp [b_is_fraction, evT_eq, isT, isFrac, biV, lenV, itemsV, itemsD, cmpV, dataOf, eqD_int, idx0, idx1, ia, isInt, ltI, hj]
  rw [h, leave_pure]
end
section
variable {fu k : Nat} {s : Sto}
def addF : Int × Int → List (Int × Int) → Int × Int
  | q, [] => q
  | (a, b), (i, j) :: r => addF (a * j + i * b, b * j) r
def co_b : IS := (.cons (.par (.var 1) (.var 2) (.bop false .add (.bop false .mul (.var 1) (.var 4)) (.bop false .mul (.var 3) (.var 2))) (.bop false .mul (.var 2) (.var 4))) .nil)
def co_t : IE := (.tup (.cons (.var 3) (.cons (.var 4) .nil)))
theorem log2_lt {x n : Nat} (h : x < 2 ^ n) (hn : 0 < n) : x.log2 < n := by
  by_cases h0 : x = 0
  · subst h0; simpa using hn
  · exact (Nat.log2_lt h0).mpr h
theorem mul_ok {x y : Int} {n : Nat} (hx : x.natAbs < 2 ^ n) (hy : y.natAbs < 2 ^ 2000) (hn : n < 900000) (h0 : 0 < n) : mulOk x y ∧ mulOk y x := by
  have h1 := log2_lt hx h0
  have h2 := log2_lt hy (by omega)
  exact ⟨.inr (.inr (by omega)), .inr (.inr (by omega))⟩
theorem co_loop {C : Cal} (v : Option Vl) : ∀ (fr : List (Int × Int)) (a b : Int) (n : Nat) (x y : Option Vl), (∀ p ∈ fr, p.1.natAbs < 2 ^ 2000 ∧ p.2.natAbs < 2 ^ 2000) → a.natAbs < 2 ^ n → b.natAbs < 2 ^ n → 0 < n → n + 2001 * fr.length < 900000 →
    ∃ x' y', goL (turnS C fu co_t co_b) (fr.map frD) [v, some (.d (.int a)), some (.d (.int b)), x, y] s = .nx [v, some (.d (.int (addF (a, b) fr).1)), some (.d (.int (addF (a, b) fr).2)), x', y'] s
  | [], a, b, n, x, y, _, _, _, _, _ => ⟨x, y, rfl⟩
  | (i, j) :: fr, a, b, n, x, y, hf, ha, hb, h0, hn => by
    obtain ⟨hi, hj⟩ := hf (i, j) List.mem_cons_self
    have hi : i.natAbs < 2 ^ 2000 := hi
    have hj : j.natAbs < 2 ^ 2000 := hj
    rw [List.length_cons] at hn
    have m1 := (mul_ok ha hj (by omega) h0).1
    have m2 := (mul_ok hb hi (by omega) h0).2
    have m3 := (mul_ok hb hj (by omega) h0).1
    have pw : (2 : Nat) ^ (n + 2001) = 2 ^ n * 2 ^ 2000 + 2 ^ n * 2 ^ 2000 := by rw [Nat.pow_add, Nat.pow_succ 2 2000]; omega
    have b1 : (a * j).natAbs < 2 ^ n * 2 ^ 2000 := by rw [Int.natAbs_mul]; exact Nat.mul_lt_mul_of_lt_of_lt ha hj
    have b2 : (i * b).natAbs < 2 ^ n * 2 ^ 2000 := by rw [Int.natAbs_mul, Nat.mul_comm]; exact Nat.mul_lt_mul_of_lt_of_lt hb hi
    have b3 : (b * j).natAbs < 2 ^ n * 2 ^ 2000 := by rw [Int.natAbs_mul]; exact Nat.mul_lt_mul_of_lt_of_lt hb hj
    have turn : turnS C fu co_t co_b (.d (frD (i, j))) [v, some (.d (.int a)), some (.d (.int b)), x, y] s = .nx [v, some (.d (.int (a * j + i * b))), some (.d (.int (b * j))), some (.d (.int i)), some (.d (.int j))] s := by
      simp [turnS, co_t, co_b, frD, setTgV, setTg, setTg.setTgs, binV_int, binI, m1, m2, m3]
    obtain ⟨x', y', ih⟩ := co_loop v fr (a * j + i * b) (b * j) (n + 2001) (some (.d (.int i))) (some (.d (.int j))) (fun p hp => hf p (List.mem_cons_of_mem _ hp)) (by rw [pw]; omega) (by rw [pw]; omega) (by omega) (by omega)
    refine ⟨x', y', ?_⟩
    show (match turnS C fu co_t co_b (.d (frD (i, j))) [v, some (.d (.int a)), some (.d (.int b)), x, y] s with
      | .nx e s => goL (turnS C fu co_t co_b) (fr.map frD) e s
      | .ct e s => goL (turnS C fu co_t co_b) (fr.map frD) e s
      | .bk e s => .nx e s
      | .rt v s => .rt v s
      | .ex c v e s => .ex c v e s
      | .no => .no) = _
    rw [turn]
    exact ih
def toOne (fr : List (Int × Int)) : Bool := decide ((addF (0, 1) fr).1 = (addF (0, 1) fr).2)
theorem comes_to_one_ok (fr : List (Int × Int)) (hf : ∀ p ∈ fr, p.1.natAbs < 2 ^ 2000 ∧ p.2.natAbs < 2 ^ 2000) (hl : fr.length ≤ 100) : callI tab fu (k + 1) i_comes_to_one [.d (.tuple (fr.map frD))] s = .ok (.d (.bool (toOne fr))) s := by
  show leave s (exS (callI tab fu k) fu b_comes_to_one [some (.d (.tuple (fr.map frD))), none, none, none, none] s) = _
  obtain ⟨x', y', loop⟩ := co_loop (fu := fu) (s := s) (C := callI tab fu k) (some (.d (.tuple (fr.map frD)))) fr 0 1 1 none none hf (by decide) (by decide) (by omega) (by omega)
  have it : itr (callI tab fu k) (.itv (.var 0)) [some (.d (.tuple (fr.map frD))), some (.d (.int 0)), some (.d (.int 1)), none, none] s = .ok (.vals (fr.map frD)) s := rfl
  have loopE := exS_for_vals (fu := fu) (tg := co_t) (body := co_b) it
  rw [loop] at loopE
  unfold co_t co_b at loopE
  have h : exS (callI tab fu k) fu b_comes_to_one [some (.d (.tuple (fr.map frD))), none, none, none, none] s = .rt (.d (.bool (toOne fr))) s := by
    simp [b_comes_to_one, allD, setTgV, setTg, setTg.setTgs, loopE, cmp_eq_int, toOne]
  rw [h, leave_pure]
def unD : PyData → Int × Int
  | .tuple [.int i, .int j] => (i, j)
  | _ => (0, 0)
theorem unD_eq {x : PyData} (h : isFrac x = true) : frD (unD x) = x := by
  unfold isFrac at h
  split at h
  · rfl
  · cases h
theorem unD_map : ∀ {xs : List PyData}, xs.all isFrac = true → (xs.map unD).map frD = xs
  | [], _ => rfl
  | x :: xs, h => by
    simp only [List.all_cons, Bool.and_eq_true] at h
    rw [List.map_cons, List.map_cons, unD_eq h.1, unD_map h.2]
def isMixN (n : Nat) : PyData → Bool
  | .tuple xs => decide (xs.length = n) && (xs.all isFrac && ((xs.all fun x => decide (0 ≤ (unD x).1)) && toOne (xs.map unD)))
  | _ => false
def FrBd (x : PyData) : Prop := ∀ xs, x = .tuple xs → ∀ y ∈ xs, (unD y).1.natAbs < 2 ^ 2000 ∧ (unD y).2.natAbs < 2 ^ 2000
theorem are_chances_ok (x : PyData) (n : Nat) (hn : n ≤ 100) (hb : FrBd x) : callI tab fu (k + 3) i_are_chances [.d x, .d (.int n)] s = .ok (.d (.bool (isMixN n x))) s := by
  show leave s (exS (callI tab fu (k + 2)) fu b_are_chances [some (.d x), some (.d (.int n)), none] s) = _
  have h : exS (callI tab fu (k + 2)) fu b_are_chances [some (.d x), some (.d (.int n)), none] s = .rt (.d (.bool (isMixN n x))) s := by
    cases x <;> try (simp [b_are_chances, evT_eq, isT, isMixN]; done)
    rename_i xs
    by_cases hl : xs.length = n
    case neg =>
      have hl' : ¬ (xs.length : Int) = n := by omega
      simp [b_are_chances, evT_eq, isT, isMixN, biV, lenV, itemsV, itemsD, cmp_ne_int, hl, hl']
    case pos =>
      have c : ev (callI tab fu (k + 2)) (.comp false (.call 3 (.cons (.var 2) .nil)) (.var 2) (.itv (.var 0)) .nil [2]) [some (.d (.tuple xs)), some (.d (.int n)), none] s = .ok (.d (.list (xs.map fun x => .bool (isFrac x)))) s := by
        refine comp_map _ rfl (by omega) fun x _ => ⟨_, rfl, ?_⟩
        simp [wipe, is_fraction_ok]
      cases ha : xs.all isFrac with
      | false =>
        have av := allV_map (s := s) isFrac xs
        rw [ha] at av
        simp [b_are_chances, evT_eq, isT, isMixN, biV, lenV, itemsV, itemsD, cmp_ne_int, hl, c, av, ha]
      | true =>
        have av := allV_map (s := s) isFrac xs
        rw [ha] at av
        have c2 : ev (callI tab fu (k + 2)) (.comp false (.cmp .ge (.idx (.var 2) (.lit (.int 0))) (.lit (.int 0))) (.var 2) (.itv (.var 0)) .nil [2]) [some (.d (.tuple xs)), some (.d (.int n)), none] s = .ok (.d (.list (xs.map fun x => .bool (decide (0 ≤ (unD x).1))))) s := by
          refine comp_map _ rfl (by omega) fun x hx => ⟨_, rfl, ?_⟩
          have e := unD_eq (List.all_eq_true.mp ha x hx)
          generalize hu : unD x = p at e
          obtain ⟨i, j⟩ := p
          subst e
          simp [wipe, frD, idx0, cmpV, ltI]
        have av2 := allV_map (s := s) (fun x => decide (0 ≤ (unD x).1)) xs
        have ct := comes_to_one_ok (fu := fu) (k := k + 1) (s := s) (xs.map unD) (fun p hp => by
          obtain ⟨y, hy, rfl⟩ := List.mem_map.mp hp
          exact hb xs rfl y hy) (by rw [List.length_map]; omega)
        rw [unD_map ha] at ct
        have ct : callI tab fu (k + 2) 4 [.d (.tuple xs)] s = .ok (.d (.bool (toOne (xs.map unD)))) s := ct
        cases hg : xs.all (fun x => decide (0 ≤ (unD x).1)) with
        | false =>
          rw [hg] at av2
          simp [b_are_chances, evT_eq, isT, isMixN, biV, lenV, itemsV, itemsD, cmp_ne_int, hl, c, av, ha, c2, av2, hg]
        | true =>
          rw [hg] at av2
          simp [b_are_chances, evT_eq, isT, isMixN, biV, lenV, itemsV, itemsD, cmp_ne_int, hl, c, av, ha, c2, av2, hg, ct]
  rw [h, leave_pure]
def manyN (g : PyData) (sd : Int) : Nat := match g with
  | .tuple (a :: _) => if sd = 0 then rowN a else colN a
  | _ => 0
theorem many_of_ok (a b : PyData) (ha : isTab a = true) (sd : Int) : callI tab fu (k + 1) i_many_of [.d (.tuple [a, b]), .d (.int sd)] s = .ok (.d (.int (manyN (.tuple [a, b]) sd))) s := by
  obtain ⟨r, rs, rfl, _, _, _, _⟩ := isTab_inv ha
  show leave s (exS (callI tab fu k) fu b_many_of [some (.d (.tuple [.tuple (.tuple r :: rs), b])), some (.d (.int sd))] s) = _
  have h : exS (callI tab fu k) fu b_many_of [some (.d (.tuple [.tuple (.tuple r :: rs), b])), some (.d (.int sd))] s = .rt (.d (.int (manyN (.tuple [.tuple (.tuple r :: rs), b]) sd))) s := by
    by_cases q : sd = 0
    · simp [b_many_of, evT_eq, biV, lenV, itemsV, itemsD, cmp_eq_int, idx0, manyN, rowN_tup, colN_tup, q]
    · simp [b_many_of, evT_eq, biV, lenV, itemsV, itemsD, cmp_eq_int, idx0, manyN, rowN_tup, colN_tup, q]
  rw [h, leave_pure]
theorem is_a_mix_ok (a b : PyData) (ha : isTab a = true) (sd : Int) (x : PyData) (hb : FrBd x) : callI tab fu (k + 4) i_is_a_mix [.d (.tuple [a, b]), .d (.int sd), .d x] s = .ok (.d (.bool (isMixN (manyN (.tuple [a, b]) sd) x))) s := by
  show leave s (exS (callI tab fu (k + 3)) fu b_is_a_mix [some (.d (.tuple [a, b])), some (.d (.int sd)), some (.d x)] s) = _
  have m := many_of_ok (fu := fu) (k := k + 2) (s := s) a b ha sd
  have hm : manyN (.tuple [a, b]) sd ≤ 100 := by
    obtain ⟨r, rs, rfl, _, _, _, _⟩ := isTab_inv ha
    simp only [manyN, rowN_tup, colN_tup, List.length_cons]
    split <;> omega
  have c := are_chances_ok (fu := fu) (k := k) (s := s) x _ hm hb
  have h : exS (callI tab fu (k + 3)) fu b_is_a_mix [some (.d (.tuple [a, b])), some (.d (.int sd)), some (.d x)] s = .rt (.d (.bool (isMixN (manyN (.tuple [a, b]) sd) x))) s := by
    simp [b_is_a_mix, m, c]
  rw [h, leave_pure]
end
section
variable {fu K n : Nat} {s t u : Sto}
theorem ints_of {P : Int → Prop} : ∀ {xs : List PyData}, (∀ x ∈ xs, ∃ i : Int, x = .int i ∧ P i) → ∃ is : List Int, xs = is.map .int ∧ ∀ i ∈ is, P i
  | [], _ => ⟨[], rfl, fun _ h => by cases h⟩
  | x :: xs, h => by
    obtain ⟨i, rfl, p⟩ := h x List.mem_cons_self
    obtain ⟨is, rfl, q⟩ := ints_of (xs := xs) fun y hy => h y (List.mem_cons_of_mem _ hy)
    refine ⟨i :: is, rfl, fun j hj => ?_⟩
    rcases List.mem_cons.mp hj with rfl | hj
    · exact p
    · exact q j hj
theorem sum_nn : ∀ {is : List Int}, (∀ i ∈ is, 0 ≤ i ∧ i < 2 ^ 1480) → 0 ≤ is.sum
  | [], _ => by simp
  | i :: is, h => by
    have h1 := h i List.mem_cons_self
    have h2 := sum_nn (is := is) fun j hj => h j (List.mem_cons_of_mem _ hj)
    simp only [List.sum_cons]
    omega
theorem sum_pos {is : List Int} (h : ∀ i ∈ is, 0 ≤ i ∧ i < 2 ^ 1480) {i : Int} (hi : i ∈ is) (h1 : 1 ≤ i) : 0 < is.sum := by
  induction is with
  | nil => cases hi
  | cons a is ih =>
    have ha := h a List.mem_cons_self
    have h2 := sum_nn (is := is) fun j hj => h j (List.mem_cons_of_mem _ hj)
    simp only [List.sum_cons]
    rcases List.mem_cons.mp hi with rfl | hi
    · omega
    · have := ih (fun j hj => h j (List.mem_cons_of_mem _ hj)) hi
      omega
end
section
variable {fu K n : Nat} {s t u : Sto}
/-! ### games, typed -/
theorem isIn_inv {lo hi : Int} {x : PyData} (h : isIn lo hi x = true) : ∃ i : Int, x = .int i ∧ lo ≤ i ∧ i ≤ hi := by
  cases x <;> try (simp [isIn] at h; done)
  rename_i i
  simp [isIn] at h
  exact ⟨i, rfl, h⟩
theorem row_typed {w : Nat} {x : PyData} (h : isRow w x = true) : ∃ r : List Int, x = rowD r ∧ rwOk w r := by
  cases x <;> try (simp [isRow] at h; done)
  rename_i xs
  simp only [isRow, Bool.and_eq_true, decide_eq_true_eq, List.all_eq_true] at h
  obtain ⟨is, rfl, hi⟩ := ints_of (P := inB) (xs := xs) fun x hx => isIn_inv (h.2 x hx)
  exact ⟨is, rfl, by simpa using h.1, hi⟩
theorem tab_typed {x : PyData} (h : isTab x = true) : ∃ A : List (List Int), x = tabD A ∧ 1 ≤ A.length ∧ A.length ≤ 5 ∧ 1 ≤ colN x ∧ colN x ≤ 5 ∧ (∀ r ∈ A, rwOk (colN x) r) ∧ rowN x = A.length := by
  obtain ⟨r, rs, rfl, h1, h2, h3, h4⟩ := isTab_inv h
  have key : ∀ ys : List PyData, (∀ y ∈ ys, isRow r.length y = true) → ∃ A : List (List Int), ys = A.map rowD ∧ ∀ q ∈ A, rwOk r.length q := by
    intro ys
    induction ys with
    | nil => intro _; exact ⟨[], rfl, fun _ h => by cases h⟩
    | cons y ys ih =>
      intro hy
      obtain ⟨q, e, hq⟩ := row_typed (hy y List.mem_cons_self)
      obtain ⟨A, eA, hA⟩ := ih fun z hz => hy z (List.mem_cons_of_mem _ hz)
      refine ⟨q :: A, by rw [e, eA]; rfl, fun z hz => ?_⟩
      rcases List.mem_cons.mp hz with rfl | hz
      · exact hq
      · exact hA z hz
  obtain ⟨A, e, hA⟩ := key _ h4
  have hl : rs.length + 1 = A.length := by have := congrArg List.length e; simpa using this
  exact ⟨A, by rw [e]; rfl, by omega, by omega, h2, h3, hA, by rw [rowN_tup]; simpa using hl⟩
end
section
variable {fu K n : Nat} {s t u : Sto}
section
variable {A B : List (List Int)} {R C : Nat}
theorem many_ok {sd : Nat} (hK : 1 ≤ K) (g : Gv A B R C) (h2 : sd < 2) : callI tab fu K i_many_of [.d (gD A B), .d (.int sd)] s = .ok (.d (.int (mn R C sd))) s := by
  obtain ⟨K, rfl⟩ : ∃ k, K = k + 1 := ⟨K - 1, by omega⟩
  have h0 : (0 : Nat) < A.length := by have := g.ra; have := g.r1; omega
  have r0 : L2.atI (A.map rowD) 0 = some (rowD (A.getD 0 [])) := at_row h0
  have l0 := (g.ca _ (getD_mem (d := []) h0)).1
  refine Ok_one (Ok_call (F := d_many_of) rfl rfl ?_)
  have h2 : sd = 0 ∨ sd = 1 := by omega
  rcases h2 with rfl | rfl
  · simp [d_many_of, b_many_of, evT_eq, g.ra]
    exact Lv_len rfl ⟨rfl, rfl⟩
  · simp [-List.getD_eq_getElem?_getD, d_many_of, b_many_of, evT_eq, r0, l0]
    exact Lv_len rfl ⟨rfl, rfl⟩
theorem got_ok {sd own oth : Nat} (hK : 1 ≤ K) (g : Gv A B R C) (h2 : sd < 2) (ho : own < mn R C sd) (hq : oth < mn R C (1 - sd)) : callI tab fu K i_got [.d (gD A B), .d (.int sd), .d (.int own), .d (.int oth)] s = .ok (.d (.int (pay A B sd own oth))) s := by
  obtain ⟨K, rfl⟩ : ∃ k, K = k + 1 := ⟨K - 1, by omega⟩
  refine Ok_one (Ok_call (F := d_got) rfl rfl ?_)
  have h2 : sd = 0 ∨ sd = 1 := by omega
  rcases h2 with rfl | rfl
  · have h1 : own < A.length := by rw [g.ra]; exact ho
    have r1 := at_row h1
    have r2 := at_int (r := A.getD own []) (i := oth) (by rw [(g.ca _ (getD_mem h1)).1]; exact hq)
    simp [-List.getD_eq_getElem?_getD, d_got, b_got, evT_eq, r1, r2]
    exact Lv_len rfl ⟨rfl, rfl⟩
  · have h1 : oth < B.length := by rw [g.rb]; exact hq
    have r1 := at_row h1
    have r2 := at_int (r := B.getD oth []) (i := own) (by rw [(g.cb _ (getD_mem h1)).1]; exact ho)
    simp [-List.getD_eq_getElem?_getD, d_got, b_got, evT_eq, r1, r2]
    exact Lv_len rfl ⟨rfl, rfl⟩
end
end
section
variable {fu K n : Nat} {s t u : Sto}
variable {A B : List (List Int)} {R C : Nat} {ws us : List Int} {c d : Nat}
def sms (A B : List (List Int)) (R C sd : Nat) (ws : List Int) : List Int := (List.range (mn R C sd)).map fun o => dot (pay A B sd) o ws
theorem pay_abs {sd own oth : Nat} (g : Gv A B R C) (h2 : sd < 2) (ho : own < mn R C sd) (hq : oth < mn R C (1 - sd)) : (pay A B sd own oth).natAbs ≤ 1000 := by
  have h2 : sd = 0 ∨ sd = 1 := by omega
  rcases h2 with rfl | rfl
  · exact gt_abs (gt_in g.ca (by rw [g.ra]; exact ho) hq)
  · exact gt_abs (gt_in g.cb (by rw [g.rb]; exact hq) ho)
theorem mn_le {sd : Nat} (g : Gv A B R C) : mn R C sd ≤ 5 ∧ 1 ≤ mn R C sd := by
  have := g.r1; have := g.r5; have := g.c1; have := g.c5
  unfold mn
  split <;> omega
theorem sums_ok {sd : Nat} {ws : List Int} (hK : 2 ≤ K) (g : Gv A B R C) (h2 : sd < 2) (hl : ws.length = mn R C (1 - sd)) :
    callI tab fu K i_sums_against [.d (gD A B), .d (.int sd), .d (.list (ws.map .int))] s = .ok (.d (.list ((sms A B R C sd ws).map .int))) s := by
  obtain ⟨K, rfl⟩ : ∃ k, K = k + 1 := ⟨K - 1, by omega⟩
  refine Ok_one (Ok_call (F := d_sums_against) rfl rfl ?_)
  have mm := mn_le g (sd := sd)
  have m2 := mn_le g (sd := 1 - sd)
  have hm := many_ok (fu := fu) (K := K) (s := s) (by omega) g h2
  simp only [d_sums_against, b_sums_against]
  refine Sw_cut (fun e v => e = [some (.d (gD A B)), some (.d (.int sd)), some (.d (.list (ws.map .int))), some (.r s.length), none, none, none] ∧ v = s ++ [some (.lst [])]) (by simp [mkL_true]) fun e v ⟨he, hv⟩ => ?_
  subst he hv
  refine Sw_cut (fun e v => (∃ z1, e = [some (.d (gD A B)), some (.d (.int sd)), some (.d (.list (ws.map .int))), some (.r s.length), z1, none, none]) ∧ v = s ++ [some (.lst ((sms A B R C sd ws).map vI))]) ?_ fun e v ⟨⟨z1, he⟩, hv⟩ => ?_
  · have hm := many_ok (fu := fu) (K := K) (s := s ++ [some (.lst [])]) (by omega) g h2
    simp [hm, rng_nat _ (show mn R C sd ≤ 1000000 by omega)]
    refine Sw_goR _ (fun j e v => (∃ z1, e = [some (.d (gD A B)), some (.d (.int sd)), some (.d (.list (ws.map .int))), some (.r s.length), z1, none, none]) ∧ v = s ++ [some (.lst (((List.range j).map fun o => dot (pay A B sd) o ws).map vI))]) (fun j hj e v ⟨⟨z1, he⟩, hv⟩ => ?_) (fun e v h => h) ⟨⟨_, rfl⟩, rfl⟩
    subst he hv
    rw [turnS_var]
    have en : (ws.map PyData.int).zipIdx.map (fun p => PyData.tuple [.int p.2, p.1]) = (List.range ws.length).map fun k : Nat => PyData.tuple [.int k, .int (ws.getD k 0)] := by
      rw [zipIdx_range (PyData.int 0), List.length_map]
      refine List.map_congr_left fun k hk => ?_
      have hk : k < ws.length := by simpa using hk
      simp [List.getD_eq_getElem?_getD, hk]
    have cmp : ∀ q : Sto, ev (callI tab fu K) (.comp false (.bop false .mul (.var 6) (.call i_got (.cons (.var 0) (.cons (.var 1) (.cons (.var 4) (.cons (.var 5) .nil)))))) (.tup (.cons (.var 5) (.cons (.var 6) .nil))) (.enum (.var 2)) .nil [5, 6])
        [some (.d (gD A B)), some (.d (.int sd)), some (.d (.list (ws.map .int))), some (.r s.length), some (.d (.int j)), none, none] q = .ok (.d (.list (((List.range ws.length).map fun k => ws.getD k 0 * pay A B sd j k).map .int))) q := fun q => by
      rw [List.map_map]
      refine comp_on (fun k : Nat => PyData.tuple [.int k, .int (ws.getD k 0)]) _ (by rw [itr_enum]; simp [en]) (by simp; omega) fun k hk => ⟨_, rfl, ?_⟩
      have hk : k < ws.length := by simpa using hk
      have gk := got_ok (fu := fu) (K := K) (s := q) (own := j) (oth := k) (by omega) g h2 hj (by omega)
      have hp := pay_abs g h2 hj (show k < mn R C (1 - sd) by omega)
      simp [-List.getD_eq_getElem?_getD, wipe, gk, mulOk_r (i := ws.getD k 0) (show (pay A B sd j k).natAbs < 2 ^ 64 by omega)]
    have cm := cmp (s ++ [some (.lst (((List.range j).map fun o => dot (pay A B sd) o ws).map vI))])
    simp [-List.getD_eq_getElem?_getD, -List.map_map] at cm ⊢
    rw [cm]
    simp [-List.getD_eq_getElem?_getD, -List.map_map]
    rw [app_new (by simp; omega)]
    simp [List.range_succ]
    rfl
  · subst he hv
    rw [vI_map]
    simp [-List.map_map, frz_new]
    exact Lv_app ⟨rfl, rfl⟩
end
section
variable {fu K n : Nat} {s t u : Sto}
variable {A B : List (List Int)} {R C : Nat} {ws us : List Int} {c d : Nat}
theorem w_lcm {m : Bool} {i j : Int} (hi : i.natAbs.log2 < 6000) (hj : j.natAbs.log2 < 6000) : biV m .lcm [.d (.int i), .d (.int j)] s = some (.d (.int (Int.lcm i j)), s) := by
  show (if i.natAbs.log2 < 6000 ∧ j.natAbs.log2 < 6000 then some (Vl.d (.int (Int.lcm i j)), s) else none) = _
  rw [if_pos ⟨hi, hj⟩]
end
section
variable {fu K n : Nat} {s t u : Sto}
variable {A B : List (List Int)} {R C : Nat} {ws us : List Int} {c d : Nat}
/-! ### mixes -/
theorem addF_frs {S : Int} (hS : 0 < S) : ∀ (is : List Int) (a b σ : Int), a * S = b * σ → (addF (a, b) (is.map fun w => frO w S)).1 * S = (addF (a, b) (is.map fun w => frO w S)).2 * (σ + is.sum)
  | [], a, b, σ, h => by simpa [addF] using h
  | w :: is, a, b, σ, h => by
    have cr := frO_cross (w := w) hS
    rw [List.map_cons, List.sum_cons, ← Int.add_assoc]
    show (addF (a * (frO w S).2 + (frO w S).1 * b, b * (frO w S).2) (is.map fun w => frO w S)).1 * S = _
    refine addF_frs hS is _ _ (σ + w) ?_
    generalize (frO w S).1 = i at *
    generalize (frO w S).2 = j at *
    rw [Int.add_mul, Int.mul_add]
    congr 1
    · calc a * j * S = a * S * j := by ac_rfl
        _ = b * j * σ := by rw [h]; ac_rfl
    · calc i * b * S = i * S * b := by ac_rfl
        _ = b * j * w := by rw [cr]; ac_rfl
theorem addF_pos : ∀ (ps : List (Int × Int)) (a b : Int), 0 < b → (∀ p ∈ ps, 1 ≤ p.2) → 0 < (addF (a, b) ps).2
  | [], _, _, h, _ => h
  | (i, j) :: r, a, b, h, hp => addF_pos r _ _ (Int.mul_pos h (by have := hp (i, j) List.mem_cons_self; simp at this; omega)) fun q hq => hp q (List.mem_cons_of_mem _ hq)
theorem toOne_frs (h : Wt ws c) : toOne (frs ws) = true := by
  have h1 := addF_frs h.pos ws 0 1 0 (by simp)
  rw [Int.zero_add] at h1
  exact decide_eq_true (Int.eq_of_mul_eq_mul_right (a := ws.sum) (by have := h.pos; omega) h1)
theorem unD_frD (p : Int × Int) : unD (frD p) = p := rfl
theorem mixD_len : mixD ws = .tuple ((frs ws).map frD) := rfl
theorem frs_lt (h : Wt ws c) {p : Int × Int} (hp : p ∈ frs ws) : p.1.natAbs < 2 ^ 1480 ∧ p.2.natAbs < 2 ^ 1483 ∧ 0 ≤ p.1 ∧ 1 ≤ p.2 := by
  obtain ⟨w, hw, rfl⟩ := h.frs_mem hp
  have h1 := frO_abs (w := w) h.pos
  have h2 := frO_le (w := w) h.pos
  have h3 := frO_pos (w := w) h.pos
  have h4 := frO_nn h.pos (h.rg w hw).1
  have h5 := h.lt
  have h6 := (h.rg w hw).2
  have h7 := (h.rg w hw).1
  have e : ((2 ^ 1480 : Nat) : Int) = 2 ^ 1480 := by norm_cast
  exact ⟨by omega, by omega, h4, h3⟩
theorem isMix_of (h : Wt ws c) : isMixN c (mixD ws) = true := by
  show (decide (((frs ws).map frD).length = c) && (((frs ws).map frD).all isFrac && ((((frs ws).map frD).all fun x => decide (0 ≤ (unD x).1)) && toOne (((frs ws).map frD).map unD)))) = true
  have e : ((frs ws).map frD).map unD = frs ws := by rw [List.map_map]; simp [Function.comp_def, unD_frD]
  rw [e, toOne_frs h]
  simp only [Bool.and_eq_true, decide_eq_true_eq, List.all_eq_true, Bool.and_true]
  refine ⟨by simp [frs, h.len], fun x hx => ?_, fun x hx => ?_⟩
  · obtain ⟨p, hp, rfl⟩ := List.mem_map.mp hx
    obtain ⟨w, hw, rfl⟩ := h.frs_mem hp
    show (decide (1 ≤ (frO w ws.sum).2) && decide (Int.gcd (frO w ws.sum).1 (frO w ws.sum).2 = 1)) = true
    rw [decide_eq_true (frO_pos h.pos), decide_eq_true (frO_gcd h.pos)]
    rfl
  · obtain ⟨p, hp, rfl⟩ := List.mem_map.mp hx
    exact (frs_lt h hp).2.2.1
theorem frBd_of (h : Wt ws c) : FrBd (mixD ws) := by
  intro xs e y hy
  have e : (frs ws).map frD = xs := by injection e
  subst e
  obtain ⟨p, hp, rfl⟩ := List.mem_map.mp hy
  have h1 := frs_lt h hp
  have p1 : (2 : Nat) ^ 1480 ≤ 2 ^ 2000 := Nat.pow_le_pow_right (by decide) (by decide)
  have p2 : (2 : Nat) ^ 1483 ≤ 2 ^ 2000 := Nat.pow_le_pow_right (by decide) (by decide)
  exact ⟨Nat.lt_of_lt_of_le h1.1 p1, Nat.lt_of_lt_of_le h1.2.1 p2⟩
end
section
variable {fu K n : Nat} {s t u : Sto}
variable {A B : List (List Int)} {R C : Nat} {ws us : List Int} {c d : Nat}
theorem is_mix_ok {sd : Nat} (hK : 4 ≤ K) (g : Gv A B R C) (h2 : sd < 2) (h : Wt ws (mn R C sd)) : callI tab fu K i_is_a_mix [.d (gD A B), .d (.int sd), .d (mixD ws)] s = .ok (.d (.bool true)) s := by
  obtain ⟨K, rfl⟩ : ∃ k, K = k + 1 := ⟨K - 1, by omega⟩
  obtain ⟨K, rfl⟩ : ∃ k, K = k + 3 := ⟨K - 3, by omega⟩
  have hm := many_ok (fu := fu) (K := K + 3) (s := s) (by omega) g h2
  have mm := mn_le g (sd := sd)
  have c := are_chances_ok (fu := fu) (k := K) (s := s) (mixD ws) (mn R C sd) (by omega) (frBd_of h)
  rw [isMix_of h] at c
  refine Ok_one (Ok_call (F := d_is_a_mix) rfl rfl ?_)
  simp [d_is_a_mix, b_is_a_mix, hm, c]
  exact Lv_len rfl ⟨rfl, rfl⟩
theorem need_mix_ok {sd : Nat} (hK : 5 ≤ K) (g : Gv A B R C) (h2 : sd < 2) (h : Wt ws (mn R C sd)) : callI tab fu K i_need_mix [.d (gD A B), .d (.int sd), .d (mixD ws)] s = .ok (.d .none) s := by
  obtain ⟨K, rfl⟩ : ∃ k, K = k + 1 := ⟨K - 1, by omega⟩
  have hm := is_mix_ok (fu := fu) (K := K) (s := s) (by omega) g h2 h
  refine Ok_one (Ok_call (F := d_need_mix) rfl rfl ?_)
  simp [d_need_mix, b_need_mix, evT_eq, hm]
  exact Lv_len rfl ⟨rfl, rfl⟩
end
section
variable {fu K n : Nat} {s t u : Sto}
variable {A B : List (List Int)} {R C : Nat} {ws us : List Int} {c d : Nat}
/-! ### shares -/
theorem shares_ok' (hK : 1 ≤ K) (h : Wt ws c) : callI tab fu K i_shares [.d (mixD ws)] s = .ok (.d (.tuple [.list ((nsO ws).map .int), .int (lc ws)])) s := by
  obtain ⟨K, rfl⟩ : ∃ k, K = k + 1 := ⟨K - 1, by omega⟩
  have hlt := h.lt
  have hlen : (frs ws).length ≤ 5 := by have := h.len; have := h.c5; simp [frs]; omega
  refine Ok_one (Ok_call (F := d_shares) rfl rfl ?_)
  simp only [d_shares, b_shares]
  refine Sw_cut (fun e v => e = [some (.d (mixD ws)), some (.d (.int 1)), none] ∧ v = s) (by simp) fun e v ⟨he, hv⟩ => ?_
  subst he hv
  refine Sw_cut (fun e u => (∃ z, e = [some (.d (mixD ws)), some (.d (.int (lc ws))), z]) ∧ u = v) ?_ fun e u ⟨⟨z, he⟩, hu⟩ => ?_
  · have it : itr (callI tab fu K) (.itv (.var 0)) [some (.d (mixD ws)), some (.d (.int 1)), none] v = .ok (.vals ((frs ws).map frD)) v := itv_t rfl
    rw [exS_for', it, bindF_ok, goI_vals]
    refine Sw_goM frD (fun r e u => (∃ (L : Int) (z : Option Vl), e = [some (.d (mixD ws)), some (.d (.int L)), z] ∧ lcmF L r = lc ws ∧ 0 < L ∧ L ∣ ws.sum ∧ ∀ p ∈ r, p ∈ frs ws) ∧ u = v) (fun p r e u ⟨⟨L, z, he, hL, L0, Ld, hr⟩, hu⟩ => ?_) (fun e u ⟨⟨L, z, he, hL, _⟩, hu⟩ => ?_) ⟨⟨1, none, rfl, rfl, by decide, ⟨_, (Int.one_mul _).symm⟩, fun _ q => q⟩, rfl⟩
    · subst he hu
      rw [turnS_var]
      have hp := hr p List.mem_cons_self
      have b := frs_lt h hp
      have dv := (h.frs_pos p hp).2
      have L1 := Int.le_of_dvd h.pos Ld
      have l1 : L.natAbs.log2 < 6000 := log_lt (k := 1483) (by omega) (by omega) (by omega)
      have l2 : p.2.natAbs.log2 < 6000 := log_lt (k := 1483) b.2.1 (by omega) (by omega)
      simp [frD, w_lcm l1 l2]
      refine ⟨hL, ?_, Int.coe_lcm_dvd Ld dv, fun a b hq => hr _ (List.mem_cons_of_mem _ hq)⟩
      have b4 := b.2.2.2
      have a1 : L ≠ 0 := by clear hlt L1 b4 l1 l2; omega
      have a2 : p.2 ≠ 0 := by clear hlt L1 l1 l2; omega
      exact ⟨a1, a2⟩
    · subst he hu
      have hL : L = lc ws := hL
      subst hL
      exact ⟨⟨_, rfl⟩, rfl⟩
  · subst he hu
    have lp := h.lc_pos
    have ll := h.lc_lt
    have cmp : ev (callI tab fu K) (.comp false (.bop false .mul (.idx (.var 2) (.lit (.int 0))) (.bop false .fdiv (.var 1) (.idx (.var 2) (.lit (.int 1))))) (.var 2) (.itv (.var 0)) .nil [2]) [some (.d (mixD ws)), some (.d (.int (lc ws))), z] u = .ok (.d (.list ((nsO ws).map .int))) u := by
      unfold nsO
      rw [List.map_map]
      refine comp_on frD _ (itv_t rfl) (by omega) fun p hp => ⟨_, rfl, ?_⟩
      have b := frs_lt h hp
      have l2 : p.2.natAbs.log2 < 9000 := log_lt (k := 1483) b.2.1 (by omega) (by omega)
      have p0 : 0 < p.2 := by have := b.2.2.2; omega
      have q1 : (lc ws / p.2).natAbs < 2 ^ 1483 := Nat.lt_of_le_of_lt (Int.natAbs_ediv_le_natAbs ..) ll
      have mo : mulOk p.1 (lc ws / p.2) := mulOk_of b.1 q1 (by omega)
      simp [wipe, frD, p0, l2, mo]
    simp [-List.map_map, cmp]
    exact Lv_len rfl ⟨rfl, rfl⟩
end
section
variable {fu K n : Nat} {s t u : Sto}
variable {A B : List (List Int)} {R C : Nat} {ws us : List Int} {c d : Nat}
theorem reduced_ok {a b : Int} (hK : 1 ≤ K) (hb : 0 < b) (hl : b.natAbs < 2 ^ 8000) : callI tab fu K i_reduced [.d (.int a), .d (.int b)] s = .ok (.d (frD (frO a b))) s := by
  obtain ⟨K, rfl⟩ : ∃ k, K = k + 1 := ⟨K - 1, by omega⟩
  have g1 := gcd_pos (w := a) hb
  have gb : (Int.gcd a b : Int) ≤ b := Int.le_of_dvd hb (Int.gcd_dvd_right ..)
  have g0 : (0 : Int) < (Int.gcd a b : Nat) := by omega
  have gl : (Int.gcd a b : Int).natAbs.log2 < 9000 := log_lt (k := 8000) (by omega) (by omega) (by omega)
  refine Ok_one (Ok_call (F := d_reduced) rfl rfl ?_)
  have nb : ¬ b < 0 := by omega
  have g0' : 0 < Int.gcd a b := by omega
  have gl' : (Int.gcd a b).log2 < 9000 := by simpa using gl
  simp [d_reduced, b_reduced, evT_eq, nb, g0', gl']
  exact Lv_len rfl ⟨rfl, rfl⟩
end
section
variable {fu K n : Nat} {s t u : Sto}
variable {A B : List (List Int)} {R C : Nat} {ws us : List Int} {c d : Nat}
theorem ints_lay : ∀ l : List Int, PyData.canLayAll0 (l.map PyData.int) = true
  | [] => rfl
  | a :: l => by
    rw [List.map_cons]
    show (PyData.canLay0 (.int a) && PyData.canLayAll0 (l.map PyData.int)) = true
    rw [ints_lay l]
    rfl
theorem ints_depth : ∀ l : List Int, PyData.depthAll (l.map PyData.int) = 0
  | [] => rfl
  | a :: l => by
    rw [List.map_cons]
    show max (PyData.depth (.int a)) (PyData.depthAll (l.map PyData.int)) = 0
    rw [ints_depth l]
    rfl
theorem ints_shaped (l : List Int) : SeqAt.shaped (.list (l.map PyData.int)) = true := by
  have h1 := ints_lay l
  have h2 := ints_depth l
  have h3 : PyData.depth (.list (l.map PyData.int)) ≤ 64 := by
    show PyData.depthAll (l.map PyData.int) + 1 ≤ 64
    omega
  show (PyData.canLayAll0 (l.map PyData.int) && decide (PyData.depth (.list (l.map PyData.int)) ≤ 64)) = true
  rw [h1, decide_eq_true h3]
  rfl
theorem in_ints (k : Int) (l : List Int) : cmpV .inn (.d (.int k)) (.d (.tuple (l.map .int))) s = some (decide (k ∈ l)) := by
  have h : dataV (.d (.tuple (l.map .int))) s = some (l.map .int) := allD_map _
  show (dataV (.d (.tuple (l.map .int))) s).bind _ = _
  rw [h, Option.bind_some]
  unfold inD
  rw [if_pos ⟨rfl, ints_shaped l⟩]
  congr 1
  rw [List.any_map]
  induction l with
  | nil => rfl
  | cons a l ih =>
    rw [List.any_cons, ih (allD_map _)]
    show ((a == k) || decide (k ∈ l)) = _
    by_cases e : a = k
    · subst e; simp
    · have e' : ¬ k = a := fun z => e z.symm
      simp [e, e']
theorem w_all {α : Type} {m : Bool} (f : α → Bool) (l : List α) : biV m .all [.d (.list (l.map fun x => PyData.bool (f x)))] s = some (Vl.d (.bool (l.all f)), s) := allV_map f l
theorem goL_nil {t : Vl → Sl → Sto → Fl} {e : Sl} : goL t [] e s = .nx e s := rfl
end
end Law

set_option maxHeartbeats 1000000
namespace Law
open PySem SM
section
variable {fu K n : Nat} {s t u : Sto} {T : List (List Int)} {R C : Nat} {ws us : List Int} {c d : Nat}
theorem is_table0 (x : PyData) (hK : 4 ≤ K) : callI tab fu K i_is_a_table [.d x] s = .ok (.d (.bool (isTab x))) s := by
  obtain ⟨K, rfl⟩ : ∃ k, K = k + 4 := ⟨K - 4, by omega⟩
  exact is_a_table_ok x
theorem is_table_ok (x : PyData) (hK : 5 ≤ K) : callI tab fu K i_is_table [.d x] s = .ok (.d (.bool (isTab x))) s := by
  obtain ⟨K, rfl⟩ : ∃ k, K = k + 1 := ⟨K - 1, by omega⟩
  have h := is_table0 (fu := fu) (s := s) x (show 4 ≤ K by omega)
  refine Ok_one (Ok_call (F := d_is_table) rfl rfl ?_)
  simp [d_is_table, b_is_table, h]
  exact Lv_len rfl ⟨rfl, rfl⟩
theorem isTab_gv (g : Gv T T R C) : isTab (tabD T) = true := by
  have hl := g.ra
  have r1 := g.r1
  have r5 := g.r5
  have c1 := g.c1
  have c5 := g.c5
  have hr := g.ca
  cases T with
  | nil => simp at hl; omega
  | cons r T =>
    have h0 := hr r List.mem_cons_self
    have h00 := h0.1
    show isTab (.tuple (.tuple (r.map .int) :: T.map rowD)) = true
    simp only [isTab, Bool.and_eq_true, decide_eq_true_eq, List.all_eq_true]
    refine ⟨by simp at hl ⊢; omega, ⟨by simp; omega, by simp; omega⟩, fun y hy => ?_⟩
    have hy : y ∈ (r :: T).map rowD := hy
    obtain ⟨q, hq, rfl⟩ := List.mem_map.mp hy
    have hq := hr q hq
    show isRow _ (.tuple (q.map .int)) = true
    simp only [isRow, Bool.and_eq_true, decide_eq_true_eq, List.all_eq_true]
    refine ⟨by simp; rw [hq.1, h00], fun z hz => ?_⟩
    obtain ⟨i, hi, rfl⟩ := List.mem_map.mp hz
    have := hq.2 i hi
    simp [isIn, this.1, this.2]
theorem need_table_ok (g : Gv T T R C) (hK : 5 ≤ K) : callI tab fu K i_need_table [.d (tabD T)] s = .ok (.d .none) s := by
  obtain ⟨K, rfl⟩ : ∃ k, K = k + 1 := ⟨K - 1, by omega⟩
  have h := is_table0 (fu := fu) (s := s) (tabD T) (show 4 ≤ K by omega)
  rw [isTab_gv g] at h
  refine Ok_one (Ok_call (F := d_need_table) rfl rfl ?_)
  simp [d_need_table, b_need_table, evT_eq, h]
  exact Lv_len rfl ⟨rfl, rfl⟩
def ngT (T : List (List Int)) : List (List Int) := T.map fun r => r.map fun x => -x
theorem enemies_ok (g : Gv T T R C) (hK : 1 ≤ K) : callI tab fu K i_enemies [.d (tabD T)] s = .ok (.d (gD T (ngT T))) s := by
  obtain ⟨K, rfl⟩ : ∃ k, K = k + 1 := ⟨K - 1, by omega⟩
  have r5 := g.r5
  have c5 := g.c5
  have ra := g.ra
  have inner : ∀ r : List Int, r.length ≤ 5 → ev (callI tab fu K) (.comp false (.neg (.var 2)) (.var 2) (.itv (.var 1)) .nil [2]) [some (.d (tabD T)), some (.d (rowD r)), none] s = .ok (.d (.list ((r.map fun x => -x).map .int))) s := fun r hr => by
    rw [List.map_map]
    refine comp_on PyData.int _ (by rw [itr_itv]; simp) (by omega) fun x hx => ⟨_, rfl, ?_⟩
    simp [wipe]
  have outer : ev (callI tab fu K) (.comp false (.bi false .tuple (.cons (.comp false (.neg (.var 2)) (.var 2) (.itv (.var 1)) .nil [2]) .nil)) (.var 1) (.itv (.var 0)) .nil [1]) [some (.d (tabD T)), none, none] s = .ok (.d (.list ((ngT T).map rowD))) s := by
    unfold ngT
    rw [List.map_map]
    refine comp_on rowD _ (by rw [itr_itv]; simp) (by omega) fun r hr => ⟨_, rfl, ?_⟩
    have := inner r (by rw [(g.ca r hr).1]; exact c5)
    simp only [wipe, List.foldl, List.set_cons_succ, List.set_cons_zero]
    simp only [ev_bi, evs_cons, evs_nil, this, ok_bind, w_tup_l, ofP_some]
    rfl
  refine Ok_one (Ok_call (F := d_enemies) rfl rfl ?_)
  simp [-List.map_map, d_enemies, b_enemies, outer]
  exact Lv_len rfl ⟨rfl, rfl⟩
theorem against_ok (g : Gv T T R C) (hK : 6 ≤ K) : callI tab fu K i_against [.d (tabD T)] s = .ok (.d (gD T (ngT T))) s := by
  obtain ⟨K, rfl⟩ : ∃ k, K = k + 1 := ⟨K - 1, by omega⟩
  have h1 := need_table_ok (fu := fu) (K := K) (s := s) g (by omega)
  have h2 := enemies_ok (fu := fu) (K := K) (s := s) g (by omega)
  refine Ok_one (Ok_call (F := d_against) rfl rfl ?_)
  simp [d_against, b_against, h1, h2]
  exact Lv_len rfl ⟨rfl, rfl⟩
/-- what a mix of rows gets at least -/
def leF (T : List (List Int)) (C : Nat) (ws : List Int) : Int := mnO (fun o => dot (pay T T 1) o ws) C
def moF (T : List (List Int)) (R : Nat) (ws : List Int) : Int := mxO (fun o => dot (pay T T 0) o ws) R
theorem least_ok (g : Gv T T R C) (hK : 3 ≤ K) (h : Wt ws R) : callI tab fu K i_least_got [.d (tabD T), .d (mixD ws)] s = .ok (.d (frD (frO (leF T C ws) ws.sum))) s := by
  obtain ⟨K, rfl⟩ : ∃ k, K = k + 1 := ⟨K - 1, by omega⟩
  have sh := shares_ok' (fu := fu) (K := K) (s := s) (by omega) h
  have su : callI tab fu K i_sums_against [.d (gD T T), .d (.int 1), .d (.list ((nsO ws).map .int))] s = .ok (.d (.list ((sms T T R C 1 (nsO ws)).map .int))) s := sums_ok (sd := 1) (ws := nsO ws) (by omega) g (by omega) (by rw [ns_len, h.len]; rfl)
  have lp := h.lc_pos
  have ll := h.lc_lt
  have c1 := g.c1
  have p2 : (2 : Nat) ^ 1483 ≤ 2 ^ 8000 := Nat.pow_le_pow_right (by decide) (by decide)
  have r := reduced_ok (fu := fu) (K := K) (s := s) (a := mnO (fun o => dot (pay T T 1) o (nsO ws)) C) (by omega) lp (Nat.lt_of_lt_of_le ll p2)
  have mi : minL (sms T T R C 1 (nsO ws)) = some (mnO (fun o => dot (pay T T 1) o (nsO ws)) C) := (mnO_of (f := fun o => dot (pay T T 1) o (nsO ws)) c1).1
  have e : frO (leF T C ws) ws.sum = frO (mnO (fun o => dot (pay T T 1) o (nsO ws)) C) (lc ws) := by
    have e1 : (fun o => dot (pay T T 1) o ws) = fun o => dot (pay T T 1) o (nsO ws) * cO ws := funext fun o => h.dot_ns _ o
    unfold leF
    rw [e1, mnO_scale c1 h.c_pos, ← h.lc_mul]
    exact frO_scale lp h.c_pos
  rw [e]
  refine Ok_one (Ok_call (F := d_least_got) rfl rfl ?_)
  have su : callI tab fu K i_sums_against [.d (.tuple [tabD T, tabD T]), .d (.int 1), .d (.list ((nsO ws).map .int))] s = .ok (.d (.list ((sms T T R C 1 (nsO ws)).map .int))) s := su
  simp [d_least_got, b_least_got, evT_eq, sh, setTgV, setTg, setTg.setTgs, su, mi, r]
  exact Lv_len rfl ⟨rfl, rfl⟩
theorem most_ok (g : Gv T T R C) (hK : 3 ≤ K) (h : Wt ws C) : callI tab fu K i_most_got [.d (tabD T), .d (mixD ws)] s = .ok (.d (frD (frO (moF T R ws) ws.sum))) s := by
  obtain ⟨K, rfl⟩ : ∃ k, K = k + 1 := ⟨K - 1, by omega⟩
  have sh := shares_ok' (fu := fu) (K := K) (s := s) (by omega) h
  have lp := h.lc_pos
  have ll := h.lc_lt
  have r1 := g.r1
  have p2 : (2 : Nat) ^ 1483 ≤ 2 ^ 8000 := Nat.pow_le_pow_right (by decide) (by decide)
  have r := reduced_ok (fu := fu) (K := K) (s := s) (a := mxO (fun o => dot (pay T T 0) o (nsO ws)) R) (by omega) lp (Nat.lt_of_lt_of_le ll p2)
  have ma : maxL (sms T T R C 0 (nsO ws)) = some (mxO (fun o => dot (pay T T 0) o (nsO ws)) R) := (mxO_of (f := fun o => dot (pay T T 0) o (nsO ws)) r1).1
  have e : frO (moF T R ws) ws.sum = frO (mxO (fun o => dot (pay T T 0) o (nsO ws)) R) (lc ws) := by
    have e1 : (fun o => dot (pay T T 0) o ws) = fun o => dot (pay T T 0) o (nsO ws) * cO ws := funext fun o => h.dot_ns _ o
    unfold moF
    rw [e1, mxO_scale r1 h.c_pos, ← h.lc_mul]
    exact frO_scale lp h.c_pos
  rw [e]
  refine Ok_one (Ok_call (F := d_most_got) rfl rfl ?_)
  have su : callI tab fu K i_sums_against [.d (.tuple [tabD T, tabD T]), .d (.int 0), .d (.list ((nsO ws).map .int))] s = .ok (.d (.list ((sms T T R C 0 (nsO ws)).map .int))) s := sums_ok (sd := 0) (ws := nsO ws) (by omega) g (by omega) (by rw [ns_len, h.len]; rfl)
  simp [d_most_got, b_most_got, evT_eq, sh, setTgV, setTg, setTg.setTgs, su, ma, r]
  exact Lv_len rfl ⟨rfl, rfl⟩
theorem at_least_ok (g : Gv T T R C) (hK : 6 ≤ K) (h : Wt ws R) : callI tab fu K i_at_least [.d (tabD T), .d (mixD ws)] s = .ok (.d (frD (frO (leF T C ws) ws.sum))) s := by
  obtain ⟨K, rfl⟩ : ∃ k, K = k + 1 := ⟨K - 1, by omega⟩
  have h1 := need_table_ok (fu := fu) (K := K) (s := s) g (by omega)
  have h2 : callI tab fu K i_need_mix [.d (.tuple [tabD T, tabD T]), .d (.int 0), .d (mixD ws)] s = .ok (.d .none) s := need_mix_ok (sd := 0) (by omega) g (by omega) h
  have h3 := least_ok (fu := fu) (K := K) (s := s) g (by omega) h
  refine Ok_one (Ok_call (F := d_at_least) rfl rfl ?_)
  simp [d_at_least, b_at_least, h1, h2, h3]
  exact Lv_len rfl ⟨rfl, rfl⟩
theorem at_most_ok (g : Gv T T R C) (hK : 6 ≤ K) (h : Wt ws C) : callI tab fu K i_at_most [.d (tabD T), .d (mixD ws)] s = .ok (.d (frD (frO (moF T R ws) ws.sum))) s := by
  obtain ⟨K, rfl⟩ : ∃ k, K = k + 1 := ⟨K - 1, by omega⟩
  have h1 := need_table_ok (fu := fu) (K := K) (s := s) g (by omega)
  have h2 : callI tab fu K i_need_mix [.d (.tuple [tabD T, tabD T]), .d (.int 1), .d (mixD ws)] s = .ok (.d .none) s := need_mix_ok (sd := 1) (by omega) g (by omega) h
  have h3 := most_ok (fu := fu) (K := K) (s := s) g (by omega) h
  refine Ok_one (Ok_call (F := d_at_most) rfl rfl ?_)
  simp [d_at_most, b_at_most, h1, h2, h3]
  exact Lv_len rfl ⟨rfl, rfl⟩
end
end Law

set_option maxHeartbeats 1000000
namespace Law
open PySem SM
section
variable {fu K n : Nat} {s t u : Sto} {T : List (List Int)} {R C : Nat} {ws us : List Int} {c d : Nat}
theorem gcd_step' {p q : Int} : Int.gcd q (p % q) = Int.gcd p q := by
  rw [Int.emod_def, Int.gcd_sub_mul_left_right, Int.gcd_comm]
def GcJ (a b : Int) (s : Sto) (m : Nat) (e : Sl) (v : Sto) : Prop := (∃ p q : Int, e = [some (.d (.int p)), some (.d (.int q))] ∧ Int.gcd p q = Int.gcd a b ∧ 0 ≤ q ∧ q.toNat = m) ∧ v = s
theorem lgcd_ok {a b : Int} (hK : 1 ≤ K) (hb : 0 ≤ b) (hf : b.toNat < fu) : callI tab fu K i__law_gcd [.d (.int a), .d (.int b)] s = .ok (.d (.int (Int.gcd a b))) s := by
  obtain ⟨K, rfl⟩ : ∃ k, K = k + 1 := ⟨K - 1, by omega⟩
  refine Ok_one (Ok_call (F := d__law_gcd) rfl rfl ?_)
  simp only [d__law_gcd, b__law_gcd]
  refine Sw_cut (fun e v => (∃ p : Int, e = [some (.d (.int p)), some (.d (.int 0))] ∧ (p.natAbs : Int) = Int.gcd a b) ∧ v = s) ?_ fun e v ⟨⟨p, he, hp⟩, hv⟩ => ?_
  · rw [exS_whil]
    refine Sw_whL (GcJ a b s) (fun m e v ⟨⟨p, q, he, hg, hq, hm⟩, hv⟩ => ?_) fu b.toNat hf ⟨⟨a, b, rfl, rfl, hb, rfl⟩, rfl⟩
    subst he hv
    by_cases h0 : q = 0
    · subst h0
      simp [evT_eq]
      rw [← hg]
      simp
    · have hpos : 0 < q := by omega
      simp [evT_eq, h0, hpos]
      have h1 := Int.emod_lt_of_pos p hpos
      have h2 := Int.emod_nonneg p h0
      exact ⟨(p % q).toNat, by omega, ⟨q, p % q, rfl, by rw [gcd_step', hg], h2, rfl⟩, rfl⟩
  · subst he hv
    simp [hp]
    exact Lv_len rfl ⟨rfl, rfl⟩
theorem lratio_ok {a b : Int} (hK : 2 ≤ K) (hb : 1 ≤ b) (hf : b.toNat < fu) (hl : b.natAbs < 2 ^ 8000) : callI tab fu K i__law_ratio [.d (.int a), .d (.int b)] s = .ok (.d (frD (frO a b))) s := by
  obtain ⟨K, rfl⟩ : ∃ k, K = k + 1 := ⟨K - 1, by omega⟩
  have hg := lgcd_ok (fu := fu) (K := K) (s := s) (a := a) (b := b) (by omega) (by omega) hf
  have g1 := gcd_pos (w := a) (show 0 < b by omega)
  have gb : (Int.gcd a b : Int) ≤ b := Int.le_of_dvd (by omega) (Int.gcd_dvd_right ..)
  have gl : (Int.gcd a b : Int).natAbs.log2 < 9000 := log_lt (k := 8000) (by omega) (by omega) (by omega)
  have g0' : 0 < Int.gcd a b := by omega
  have gl' : (Int.gcd a b).log2 < 9000 := by simpa using gl
  refine Ok_one (Ok_call (F := d__law_ratio) rfl rfl ?_)
  simp [d__law_ratio, b__law_ratio, hg, g0', gl']
  exact Lv_len rfl ⟨rfl, rfl⟩
theorem lmix_ok (hf : 2 ^ 2000 ≤ fu) (hK : 3 ≤ K) (h : Wt ws c) : callI tab fu K i__law_mix [.d (.list (ws.map .int))] s = .ok (.d (mixD ws)) s := by
  obtain ⟨K, rfl⟩ : ∃ k, K = k + 1 := ⟨K - 1, by omega⟩
  have p0 : (2 : Nat) ^ 1483 ≤ 2 ^ 2000 := Nat.pow_le_pow_right (by decide) (by decide)
  have p1 : (2 : Nat) ^ 1483 ≤ 2 ^ 8000 := Nat.pow_le_pow_right (by decide) (by decide)
  have hS := h.lt
  have hp := h.pos
  have hS1 : ws.sum.toNat < fu := by
    generalize (2 : Nat) ^ 1483 = A at *
    generalize (2 : Nat) ^ 2000 = B at *
    omega
  have le : ∀ i, callI tab fu K i__law_ratio [.d (.int i), .d (.int ws.sum)] s = .ok (.d (frD (frO i ws.sum))) s := fun i => lratio_ok (by omega) (by omega) hS1 (Nat.lt_of_lt_of_le hS p1)
  have cmp : ev (callI tab fu K) (.comp false (.call i__law_ratio (.cons (.var 1) (.cons (.bi false .sum (.cons (.var 0) .nil)) .nil))) (.var 1) (.itv (.var 0)) .nil [1]) [some (.d (.list (ws.map .int))), none] s = .ok (.d (.list ((frs ws).map frD))) s := by
    unfold frs
    rw [List.map_map]
    refine comp_on PyData.int _ (itv_l rfl) (by have := h.len; have := h.c5; omega) fun k hk => ⟨_, rfl, ?_⟩
    simp [wipe, le]
  refine Ok_one (Ok_call (F := d__law_mix) rfl rfl ?_)
  simp [-List.map_map, d__law_mix, b__law_mix, cmp]
  exact Lv_len rfl ⟨rfl, rfl⟩
theorem at_ls {i : Nat} (h : i < T.length) : L2.atI (T.map lsD) (i : Int) = some (lsD (T.getD i [])) := by rw [atI_nat (by simpa using h), SM.getD_lt h]; simp
theorem lfrozen_ok (hK : 1 ≤ K) (hl : T.length ≤ 5) : callI tab fu K i__law_frozen [.d (.list (T.map lsD))] s = .ok (.d (tabD T)) s := by
  obtain ⟨K, rfl⟩ : ∃ k, K = k + 1 := ⟨K - 1, by omega⟩
  have cmp : ev (callI tab fu K) (.comp false (.bi false .tuple (.cons (.var 1) .nil)) (.var 1) (.itv (.var 0)) .nil [1]) [some (.d (.list (T.map lsD))), none] s = .ok (.d (.list (T.map rowD))) s := by
    refine comp_on lsD _ (itv_l rfl) (by omega) fun r hr => ⟨_, rfl, ?_⟩
    simp [wipe, lsD]
    rfl
  refine Ok_one (Ok_call (F := d__law_frozen) rfl rfl ?_)
  simp [-List.map_map, d__law_frozen, b__law_frozen, cmp]
  exact Lv_len rfl ⟨rfl, rfl⟩
theorem lturned_ok (hK : 1 ≤ K) (hl : T.length = R) (hr : ∀ r ∈ T, r.length = C) (r1 : 1 ≤ R) (r5 : R ≤ 5) (c5 : C ≤ 5) : callI tab fu K i__law_turned [.d (.list (T.map lsD))] s = .ok (.d (.list ((trp T C).map lsD))) s := by
  obtain ⟨K, rfl⟩ : ∃ k, K = k + 1 := ⟨K - 1, by omega⟩
  have a0 : L2.atI (T.map lsD) 0 = some (lsD (T.getD 0 [])) := at_ls (i := 0) (by omega)
  have l0 := hr _ (SM.getD_mem (d := []) (show 0 < T.length by omega))
  have lenl : biV false .len [.d (lsD (T.getD 0 []))] s = some (.d (.int C), s) := by unfold lsD; rw [w_len_l]; simp only [List.length_map, l0]
  have inner : ∀ j : Nat, j < C → ev (callI tab fu K) (.comp false (.idx (.var 2) (.var 1)) (.var 2) (.itv (.var 0)) .nil [2]) [some (.d (.list (T.map lsD))), some (.d (.int j)), none] s = .ok (.d (lsD (T.map fun r => r.getD j 0))) s := fun j hj => by
    unfold lsD
    rw [List.map_map]
    refine comp_on (fun r => PyData.list (r.map .int)) _ (itv_l rfl) (by omega) fun r hr' => ⟨_, rfl, ?_⟩
    have := at_int (r := r) (i := j) (by rw [hr r hr']; exact hj)
    simp [-List.getD_eq_getElem?_getD, wipe, this]
  have outer : ev (callI tab fu K) (.comp false (.comp false (.idx (.var 2) (.var 1)) (.var 2) (.itv (.var 0)) .nil [2]) (.var 1) (.rng1 (.bi false .len (.cons (.idx (.var 0) (.lit (.int 0))) .nil))) .nil [1]) [some (.d (.list (T.map lsD))), none, none] s = .ok (.d (.list ((trp T C).map lsD))) s := by
    unfold trp
    rw [List.map_map]
    refine comp_on (fun k : Nat => PyData.int k) _ ?_ (by simp; omega) fun k hk => ⟨_, rfl, ?_⟩
    · have := rng1_ok (C := callI tab fu K) (a := .bi false .len (.cons (.idx (.var 0) (.lit (.int 0))) .nil)) (e := [some (.d (.list (T.map lsD))), none, none]) (s := s) (t := s) (k := C) (by simp [-List.getD_eq_getElem?_getD, a0, lenl]) (by omega) (by omega)
      simpa using this
    · exact inner k (by simpa using hk)
  refine Ok_one (Ok_call (F := d__law_turned) rfl rfl ?_)
  simp [-List.map_map, d__law_turned, b__law_turned, outer]
  exact Lv_len rfl ⟨rfl, rfl⟩
end
end Law

set_option maxHeartbeats 1000000
namespace Law
open PySem SM
section
variable {fu K n : Nat} {s t u : Sto} {T : List (List Int)} {R C : Nat} {ws us : List Int} {c d : Nat}
def colS (T : List (List Int)) (C : Nat) (ws : List Int) : List Int := (List.range C).map fun o => dot (pay T T 1) o ws
def LsJ (s : Sto) (T : List (List Int)) (ws : List Int) (j : Nat) (e : Sl) (v : Sto) : Prop := (∃ z3, e = [some (.d (.list (T.map lsD))), some (.d (.list (ws.map .int))), some (.r s.length), z3, none]) ∧ v = s ++ [some (.lst (((List.range j).map fun o => dot (pay T T 1) o ws).map vI))]
theorem lsums_ok (hK : 1 ≤ K) (hl : T.length = R) (hr : ∀ r ∈ T, rwOk C r) (r1 : 1 ≤ R) (r5 : R ≤ 5) (c5 : C ≤ 5) (hw : ws.length = R) : callI tab fu K i__law_sums [.d (.list (T.map lsD)), .d (.list (ws.map .int))] s = .ok (.d (.list ((colS T C ws).map .int))) s := by
  obtain ⟨K, rfl⟩ : ∃ k, K = k + 1 := ⟨K - 1, by omega⟩
  have a0 : L2.atI (T.map lsD) 0 = some (lsD (T.getD 0 [])) := at_ls (i := 0) (by omega)
  have l0 := (hr _ (SM.getD_mem (d := []) (show 0 < T.length by omega))).1
  have lenl : ∀ q : Sto, biV false .len [.d (lsD (T.getD 0 []))] q = some (.d (.int C), q) := fun q => by unfold lsD; rw [w_len_l]; simp only [List.length_map, l0]
  refine Ok_one (Ok_call (F := d__law_sums) rfl rfl ?_)
  simp only [d__law_sums, b__law_sums]
  refine Sw_cut (LsJ s T ws 0) ?_ fun e v h => ?_
  · simp [mkL_true]
    exact ⟨⟨_, rfl⟩, rfl⟩
  refine Sw_cut (LsJ s T ws C) ?_ fun e v ⟨⟨z3, he⟩, hv⟩ => ?_
  · obtain ⟨⟨z3, he⟩, hv⟩ := id h
    subst he hv
    simp [-List.getD_eq_getElem?_getD, a0, lenl, rng_nat C (by omega)]
    refine Sw_goR C (LsJ s T ws) (fun j hj e v ⟨⟨z3, he⟩, hv⟩ => ?_) (fun e v h => h) ⟨⟨_, rfl⟩, rfl⟩
    subst he hv
    rw [turnS_var]
    have cmp : ∀ q : Sto, ev (callI tab fu K) (.comp false (.bop false .mul (.idx (.var 1) (.var 4)) (.idx (.idx (.var 0) (.var 4)) (.var 3))) (.var 4) (.rng1 (.bi false .len (.cons (.var 0) .nil))) .nil [4]) [some (.d (.list (T.map lsD))), some (.d (.list (ws.map .int))), some (.r s.length), some (.d (.int j)), none] q = .ok (.d (.list (((List.range ws.length).map fun k => ws.getD k 0 * pay T T 1 j k).map .int))) q := fun q => by
      rw [List.map_map]
      refine comp_on (fun k : Nat => PyData.int k) _ ?_ (by simp; omega) fun k hk => ⟨_, rfl, ?_⟩
      · have := rng1_ok (C := callI tab fu K) (a := .bi false .len (.cons (.var 0) .nil)) (e := [some (.d (.list (T.map lsD))), some (.d (.list (ws.map .int))), some (.r s.length), some (.d (.int j)), none]) (s := q) (t := q) (k := ws.length) (by simp [hl, hw]) (by omega) (by omega)
        simpa using this
      · have hk : k < ws.length := by simpa using hk
        have hk' : k < T.length := by omega
        have a1 := at_int (r := ws) (i := k) hk
        have a2 := at_ls (T := T) (i := k) hk'
        have r2 := hr _ (SM.getD_mem (d := []) hk')
        have a3 := at_int (r := T.getD k []) (i := j) (by rw [r2.1]; exact hj)
        have b := gt_abs (gt_in hr hk' hj)
        have mo : mulOk (ws.getD k 0) (gt T k j) := mulOk_r (by omega)
        unfold gt at mo
        simp [-List.getD_eq_getElem?_getD, wipe, a1, a2, lsD, a3, mo]
        rfl
    have cm := cmp (s ++ [some (.lst (((List.range j).map fun o => dot (pay T T 1) o ws).map vI))])
    simp [-List.getD_eq_getElem?_getD, -List.map_map] at cm ⊢
    rw [cm]
    simp [-List.getD_eq_getElem?_getD, -List.map_map]
    rw [app_new (by simp; omega)]
    refine ⟨⟨_, rfl⟩, ?_⟩
    rw [List.range_succ, List.map_append, List.map_append]
    rfl
  · subst he hv
    rw [vI_map]
    have fz := frz_new (s := s) (xs := ((List.range C).map fun o => dot (pay T T 1) o ws).map .int)
    simp [-List.map_map, fz]
    exact Lv_app ⟨rfl, rfl⟩
/-! ### the same -/
inductive SmD : Nat → PyData → Prop
  | int (n : Nat) (i : Int) : SmD n (.int i)
  | tup (n : Nat) (xs : List PyData) : xs.length ≤ 100 → (∀ x ∈ xs, SmD n x) → SmD (n + 1) (.tuple xs)
theorem same_ok : ∀ {m : Nat} {x : PyData}, SmD m x → ∀ {K : Nat} {s : Sto}, m + 1 ≤ K → callI tab fu K i__law_same [.d x, .d x] s = .ok (.d (.bool true)) s := by
  intro m x h
  induction h with
  | int m i =>
    intro K s hK
    obtain ⟨K, rfl⟩ : ∃ k, K = k + 1 := ⟨K - 1, by omega⟩
    refine Ok_one (Ok_call (F := d__law_same) rfl rfl ?_)
    simp [d__law_same, b__law_same, evT_eq]
    exact Lv_len rfl ⟨rfl, rfl⟩
  | tup m xs hl hx ih =>
    intro K s hK
    obtain ⟨K, rfl⟩ : ∃ k, K = k + 1 := ⟨K - 1, by omega⟩
    have cmp : ev (callI tab fu K) (.comp false (.call i__law_same (.cons (.idx (.var 0) (.var 2)) (.cons (.idx (.var 1) (.var 2)) .nil))) (.var 2) (.rng1 (.bi false .len (.cons (.var 1) .nil))) .nil [2]) [some (.d (.tuple xs)), some (.d (.tuple xs)), none] s = .ok (.d (.list ((List.range xs.length).map fun _ => PyData.bool true))) s := by
      refine comp_on (fun k : Nat => PyData.int k) _ ?_ (by simp; omega) fun k hk => ⟨_, rfl, ?_⟩
      · have := rng1_ok (C := callI tab fu K) (a := .bi false .len (.cons (.var 1) .nil)) (e := [some (.d (.tuple xs)), some (.d (.tuple xs)), none]) (s := s) (t := s) (k := xs.length) (by simp) (by omega) (by omega)
        simpa using this
      · have hk : k < xs.length := by simpa using hk
        have a := atI_nat (vs := xs) (i := k) hk
        have r := ih xs[k] (List.getElem_mem hk) (K := K) (s := s) (by omega)
        simp [wipe, a, r]
    have al := w_all (s := s) (m := false) (fun _ : Nat => true) (List.range xs.length)
    rw [show ((List.range xs.length).all fun _ : Nat => true) = true by simp] at al
    refine Ok_one (Ok_call (F := d__law_same) rfl rfl ?_)
    simp [d__law_same, b__law_same, evT_eq, c_neb', cmp]
    simp [al]
    exact Lv_len rfl ⟨rfl, rfl⟩
theorem fr_sm (p : Int × Int) : SmD 1 (frD p) := .tup 0 _ (by simp) fun x hx => by
  simp at hx
  rcases hx with rfl | rfl <;> exact .int 0 _
theorem row_sm {r : List Int} (h : r.length ≤ 100) : SmD 1 (rowD r) := .tup 0 _ (by simpa using h) fun x hx => by
  obtain ⟨i, _, rfl⟩ := List.mem_map.mp hx
  exact .int 0 i
theorem tab_sm {T : List (List Int)} (h : T.length ≤ 100) (hr : ∀ r ∈ T, r.length ≤ 100) : SmD 2 (tabD T) := .tup 1 _ (by simpa using h) fun x hx => by
  obtain ⟨r, hr', rfl⟩ := List.mem_map.mp hx
  exact row_sm (hr r hr')
theorem game_sm {T T' : List (List Int)} (h : T.length ≤ 100) (hr : ∀ r ∈ T, r.length ≤ 100) (h' : T'.length ≤ 100) (hr' : ∀ r ∈ T', r.length ≤ 100) : SmD 3 (gD T T') := .tup 2 _ (by simp) fun x hx => by
  simp at hx
  rcases hx with rfl | rfl
  · exact tab_sm h hr
  · exact tab_sm h' hr'
end
end Law

set_option maxHeartbeats 1000000
namespace Law
open PySem SM
section
variable {fu K n : Nat} {s t u : Sto} {T : List (List Int)} {R C : Nat} {ws us : List Int} {c d : Nat}
theorem lint_ok (x : PyData) (hK : 1 ≤ K) : callI tab fu K i__law_integer [.d x] s = .ok (.d (.bool (isInt x))) s := by
  obtain ⟨K, rfl⟩ : ∃ k, K = k + 1 := ⟨K - 1, by omega⟩
  cases x <;> exact leave_pure _ _
/-- the law's own look at a table -/
def isLRow (w : Nat) : PyData → Bool
  | .tuple r => ((decide (1 ≤ r.length) && decide (r.length ≤ 5)) && decide (r.length = w)) && r.all (isIn (-1000) 1000)
  | _ => false
def isLTab : PyData → Bool
  | .tuple (y :: rs) => decide (rs.length + 1 ≤ 5) && (y :: rs).all (isLRow (rowN y))
  | _ => false
theorem isLTab_eq (x : PyData) : isLTab x = isTab x := by
  cases x <;> try rfl
  rename_i xs
  cases xs with
  | nil => rfl
  | cons y rs =>
    cases y <;> try (simp [isLTab, isTab, isLRow]; done)
    rename_i r
    have e : ∀ z, (decide (1 ≤ r.length) && decide (r.length ≤ 5)) = true → isLRow r.length z = isRow r.length z := fun z h => by
      cases z <;> try rfl
      rename_i q
      simp only [Bool.and_eq_true, decide_eq_true_eq] at h
      simp only [isLRow, isRow]
      by_cases g : q.length = r.length
      · rw [g, decide_eq_true h.1, decide_eq_true h.2]; simp
      · simp [g]
    simp only [isLTab, isTab, rowN_tup]
    by_cases h : (decide (1 ≤ r.length) && decide (r.length ≤ 5)) = true
    · rw [h, Bool.true_and]
      congr 1
      rw [show isLRow r.length = isRow r.length from funext fun z => e z h]
    · have h' := Bool.eq_false_iff.mpr h
      rw [h', Bool.false_and]
      have : (PyData.tuple r :: rs).all (isLRow r.length) = false := by
        rw [List.all_cons]
        simp only [isLRow, h', Bool.false_and]
      rw [this]
def li_b : IS := (.cons (.ite (.or (.cons (.not (.isi (.var 1) .tuple)) (.cons (.not (.chain .le .le (.lit (.int 1)) (.bi false .len (.cons (.var 1) .nil)) (.lit (.int 5)))) (.cons (.cmp .ne (.bi false .len (.cons (.var 1) .nil)) (.bi false .len (.cons (.idx (.var 0) (.lit (.int 0))) .nil))) .nil)))) (.cons (.ret (.lit (.bool false)))
      .nil) .nil)
    (.cons (.ite (.cmp .ne (.comp false (.var 2) (.var 2) (.itv (.var 1)) (.cons (.or (.cons (.not (.call i__law_integer (.cons (.var 2) .nil))) (.cons (.not (.chain .le .le (.neg (.lit (.int 1000))) (.var 2) (.lit (.int 1000)))) .nil))) .nil) [2]) (.lst false .nil)) (.cons (.ret (.lit (.bool false)))
      .nil) .nil)
    .nil))
theorem li_turn (hK : 1 ≤ K) (r0 rs : List PyData) (z1 : Option Vl) (x : PyData) (P : Pt) (hlen : ∀ xs, x = .tuple xs → xs.length ≤ 100000)
    (hn : isLRow r0.length x = true → P.n [some (.d (.tuple (.tuple r0 :: rs))), some (.d x), none] s) (hr : isLRow r0.length x = false → P.r (.d (.bool false)) s) :
    Sw (exS (callI tab fu K) fu li_b [some (.d (.tuple (.tuple r0 :: rs))), some (.d x), none] s) P := by
  cases x <;> try (simp [li_b, evT_eq]; exact hr rfl)
  rename_i r
  have hl := hlen r rfl
  by_cases h1 : 1 ≤ r.length
  case neg =>
    have h1' : ¬ (1 : Int) ≤ r.length := by omega
    simp [li_b, evT_eq, h1']
    exact hr (by simp [isLRow, h1])
  have h1' : (1 : Int) ≤ r.length := by omega
  by_cases h2 : r.length ≤ 5
  case neg =>
    have h2' : ¬ (r.length : Int) ≤ 5 := by omega
    simp [li_b, evT_eq, h1', h2']
    exact hr (by simp [isLRow, h2])
  have h2' : (r.length : Int) ≤ 5 := by omega
  by_cases h3 : r.length = r0.length
  case neg =>
    have h3' : ¬ (r.length : Int) = r0.length := by omega
    simp [li_b, evT_eq, h1', h2', h3']
    exact hr (by simp [isLRow, h3])
  have h3' : (r.length : Int) = r0.length := by omega
  have e : isLRow r0.length (.tuple r) = r.all (isIn (-1000) 1000) := by simp only [isLRow, decide_eq_true h1, decide_eq_true h2, decide_eq_true h3, Bool.true_and]
  have f := comp_filter (C := callI tab fu K) (s := s) (elt := .var 2) (tg := .var 2) (it := .itv (.var 1)) (c := .or (.cons (.not (.call i__law_integer (.cons (.var 2) .nil))) (.cons (.not (.chain .le .le (.neg (.lit (.int 1000))) (.var 2) (.lit (.int 1000)))) .nil))) (own := [2]) (e := [some (.d (.tuple (.tuple r0 :: rs))), some (.d (.tuple r)), none]) (ds := r)
    id (fun x => !isIn (-1000) 1000 x) (itv_t rfl) (by omega) fun x hx => ⟨_, rfl, by
      have q := lint_ok (fu := fu) (K := K) (s := s) x hK
      cases x <;> simp [wipe, evT_eq, q, isInt, isIn]
      rename_i i
      by_cases g1 : -1000 ≤ i <;> by_cases g2 : i ≤ 1000 <;> simp [g1, g2], fun _ => by simp [wipe]⟩
  rw [List.map_id] at f
  have ie : (r.filter fun x => !isIn (-1000) 1000 x).isEmpty = r.all (isIn (-1000) 1000) := by
    clear e f hr hn hlen hl h1 h1' h2 h2' h3 h3'
    induction r with
    | nil => rfl
    | cons a r ih =>
      cases q : isIn (-1000) 1000 a <;> simp [q]
      simpa using ih
  have g1 : (1 : Int) ≤ r0.length := by omega
  have g2 : (r0.length : Int) ≤ 5 := by omega
  cases q : r.all (isIn (-1000) 1000) with
  | true =>
    simp [li_b, evT_eq, h3', g1, g2, f, c_ne_nil, ie, q]
    exact hn (by rw [e, q])
  | false =>
    simp [li_b, evT_eq, h3', g1, g2, f, c_ne_nil, ie, q]
    exact hr (by rw [e, q])
end
end Law

set_option maxHeartbeats 1000000
namespace Law
open PySem SM
section
variable {fu K n : Nat} {s t u : Sto} {T : List (List Int)} {R C : Nat} {ws us : List Int} {c d : Nat}
/-- every tuple within is short -/
def Sht (x : PyData) : Prop := ∀ xs, x = .tuple xs → xs.length ≤ 100000 ∧ ∀ y ∈ xs, ∀ ys, y = .tuple ys → ys.length ≤ 100000
theorem lis_table_ok (x : PyData) (hK : 2 ≤ K) (hs : Sht x) : callI tab fu K i__law_is_table [.d x] s = .ok (.d (.bool (isTab x))) s := by
  rw [← isLTab_eq]
  obtain ⟨K, rfl⟩ : ∃ k, K = k + 1 := ⟨K - 1, by omega⟩
  have fin : ∀ b : Bool, isLTab x = b → Lv s (.d (.bool b)) s fun v t => v = .d (.bool (isLTab x)) ∧ t = s := fun b hb => Lv_len rfl ⟨by rw [hb], rfl⟩
  refine Ok_one (Ok_call (F := d__law_is_table) rfl rfl ?_)
  simp only [d__law_is_table, b__law_is_table]
  cases x <;> try (simp [evT_eq]; exact fin false rfl)
  rename_i xs
  obtain ⟨hl, hy⟩ := hs xs rfl
  cases xs with
  | nil => simp [evT_eq]; exact fin false rfl
  | cons y rs =>
    by_cases h5 : rs.length + 1 ≤ 5
    case neg =>
      have h1 : (1:Int) ≤ (rs.length : Int) + 1 := by omega
      have h2 : ¬ (rs.length : Int) + 1 ≤ 5 := by omega
      simp [evT_eq, h1, h2]
      exact fin false (by simp [isLTab, h5])
    have h1 : (1:Int) ≤ (rs.length : Int) + 1 := by omega
    have h2 : (rs.length : Int) + 1 ≤ 5 := by omega
    have e0 : isLTab (.tuple (y :: rs)) = (y :: rs).all (isLRow (rowN y)) := by simp only [isLTab, decide_eq_true h5, Bool.true_and]
    refine Sw_cut (fun e v => e = [some (.d (.tuple (y :: rs))), none, none] ∧ v = s) (by simp [evT_eq, h1, h2]) fun e v ⟨he, hv⟩ => ?_
    subst he hv
    refine Sw_cut (fun e u => u = v ∧ isLTab (.tuple (y :: rs)) = true) ?_ fun e u ⟨hu, hb⟩ => ?_
    · by_cases ht : ∃ r0, y = .tuple r0
      · obtain ⟨r0, rfl⟩ := ht
        have it : itr (callI tab fu K) (.itv (.var 0)) [some (.d (.tuple (.tuple r0 :: rs))), none, none] v = .ok (.vals (.tuple r0 :: rs)) v := itv_t rfl
        rw [exS_for', it, bindF_ok, goI_vals]
        refine Sw_goN (fun j e u => u = v ∧ (∃ z1, e = [some (.d (.tuple (.tuple r0 :: rs))), z1, none]) ∧ ∀ i (h : i < (PyData.tuple r0 :: rs).length), i < j → isLRow r0.length (PyData.tuple r0 :: rs)[i] = true) (fun j hj e u ⟨hu, ⟨z1, he⟩, hr⟩ => ?_) (fun e u ⟨hu, _, hr⟩ => ?last) ⟨rfl, ⟨_, rfl⟩, fun i _ h => by omega⟩
        case last =>
          refine ⟨hu, ?_⟩
          rw [e0, List.all_eq_true]
          intro z hz
          obtain ⟨i, hi, rfl⟩ := List.mem_iff_getElem.mp hz
          exact hr i hi hi
        subst he hu
        rw [turnS_var]
        refine li_turn (by omega) r0 rs z1 _ _ (hy _ (List.getElem_mem hj)) (fun h => ?_) (fun h => ?_)
        · refine ⟨rfl, ⟨_, rfl⟩, fun i hi hij => ?_⟩
          by_cases e : i < j
          · exact hr i hi e
          · have e : i = j := by omega
            subst e
            exact h
        · refine fin false ?_
          rw [e0]
          refine Bool.eq_false_iff.mpr fun q => ?_
          have := List.all_eq_true.mp q _ (List.getElem_mem hj)
          have e9 : rowN (.tuple r0) = r0.length := rfl
          rw [e9, h] at this
          cases this
      · have f : isLTab (.tuple (y :: rs)) = false := by
          rw [e0]
          cases y <;> first | (simp [isLRow]; done) | exact absurd ⟨_, rfl⟩ ht
        have it : itr (callI tab fu K) (.itv (.var 0)) [some (.d (.tuple (y :: rs))), none, none] v = .ok (.vals (y :: rs)) v := itv_t rfl
        rw [exS_for', it, bindF_ok, goI_vals, Sw_step, turnS_var]
        cases y <;> first | exact absurd ⟨_, rfl⟩ ht | (simp [evT_eq]; exact fin false f)
    · subst hu
      simp
      exact fin true hb
theorem judged_ok (x : PyData) {nm : Int} (hK : 6 ≤ K) (hs : Sht x) (hr : Rp 8000 100 x) : callI tab fu K i__law_judged [.d x, .d (.int nm)] s = .ok (.d (.bool true)) s := by
  obtain ⟨K, rfl⟩ : ∃ k, K = k + 1 := ⟨K - 1, by omega⟩
  have h1 := is_table_ok (fu := fu) (K := K) (s := s) x (by omega)
  have h2 := lis_table_ok (fu := fu) (K := K) (s := s) x (by omega) hs
  have rp : ∀ m, biV m .repr [.d x] s = some (.d (.str x.shown), s) := fun m => by rw [w_repr, if_pos hr.shows]
  refine Ok_one (Ok_call (F := d__law_judged) rfl rfl ?_)
  by_cases hn : nm = 1
  · simp [-w_repr, d__law_judged, b__law_judged, evT_eq, rp, hn, callkR, permL, h1, h2]
    exact Lv_len rfl ⟨rfl, rfl⟩
  · simp [-w_repr, d__law_judged, b__law_judged, evT_eq, rp, hn, h1, h2]
    exact Lv_len rfl ⟨rfl, rfl⟩
end
end Law

set_option maxHeartbeats 1000000
namespace Law
open PySem SM
section
variable {fu K n : Nat} {s t u : Sto} {T : List (List Int)} {R C : Nat} {ws us : List Int} {c d : Nat}
theorem sm_lay {m : Nat} {x : PyData} (h : SmD m x) : x.canLay0 = true ∧ x.depth ≤ m ∧ PyData.eqv x x = true := by
  induction h with
  | int m i => exact ⟨rfl, Nat.zero_le _, beq_self_eq_true i⟩
  | tup m xs hl hx ih =>
    have a : ∀ ys : List PyData, (∀ y ∈ ys, y.canLay0 = true ∧ y.depth ≤ m ∧ PyData.eqv y y = true) → PyData.canLayAll0 ys = true ∧ PyData.depthAll ys ≤ m ∧ PyData.eqvAll ys ys = true := by
      intro ys
      induction ys with
      | nil => intro _; exact ⟨rfl, Nat.zero_le _, rfl⟩
      | cons y ys ih2 =>
        intro hy
        obtain ⟨a1, a2, a3⟩ := hy y List.mem_cons_self
        obtain ⟨b1, b2, b3⟩ := ih2 fun z hz => hy z (List.mem_cons_of_mem _ hz)
        refine ⟨?_, ?_, ?_⟩
        · show (y.canLay0 && PyData.canLayAll0 ys) = true
          rw [a1, b1]; rfl
        · show max y.depth (PyData.depthAll ys) ≤ m
          omega
        · show (PyData.eqv y y && PyData.eqvAll ys ys) = true
          rw [a3, b3]; rfl
    obtain ⟨h1, h2, h3⟩ := a xs ih
    exact ⟨h1, Nat.succ_le_succ h2, h3⟩
theorem c_eq_sm {m : Nat} {xs : List PyData} (h : SmD m (.tuple xs)) (hm : m ≤ 60) : cmpV .eq (.d (.tuple xs)) (.d (.tuple xs)) s = some true := by
  obtain ⟨h1, h2, h3⟩ := sm_lay h
  have sh : SeqAt.shaped (.tuple xs) = true := by
    show (PyData.canLay0 (.tuple xs) && decide (PyData.depth (.tuple xs) ≤ 64)) = true
    rw [h1, decide_eq_true (by omega)]
    rfl
  show (if SeqAt.shaped (.tuple xs) = true ∧ SeqAt.shaped (.tuple xs) = true then some (PyData.eqv (.tuple xs) (.tuple xs)) else none) = _
  rw [if_pos ⟨sh, sh⟩, h3]
theorem mix_sm (h : Wt ws c) : SmD 2 (mixD ws) := .tup 1 _ (by simp [frs]; have := h.len; have := h.c5; omega) fun x hx => by
  obtain ⟨p, _, rfl⟩ := List.mem_map.mp hx
  exact fr_sm p
theorem trp_len : (trp T C).length = C := by simp [trp]
theorem trp_ok (hl : T.length = R) (hr : ∀ r ∈ T, rwOk C r) : ∀ r ∈ trp T C, rwOk R r := fun r hx => by
  obtain ⟨j, hj, rfl⟩ := List.mem_map.mp hx
  have hj : j < C := by simpa using hj
  refine ⟨by simpa using hl, fun x hx => ?_⟩
  obtain ⟨q, hq, rfl⟩ := List.mem_map.mp hx
  exact (hr q hq).2 _ (SM.getD_mem (by rw [(hr q hq).1]; exact hj))
theorem trp_dot {o : Nat} (hl : T.length = R) (hw : ws.length = C) (ho : o < R) : dot (pay (trp T C) (trp T C) 1) o ws = dot (pay T T 0) o ws := by
  unfold dot
  refine sumR_congr fun k hk => ?_
  show ws.getD k 0 * gt (trp T C) k o = ws.getD k 0 * gt T o k
  rw [trp_gt (by omega) (by omega)]
theorem colS_trp (hl : T.length = R) (hw : ws.length = C) : colS (trp T C) R ws = (List.range R).map fun o => dot (pay T T 0) o ws := by
  unfold colS
  refine List.map_congr_left fun o ho => trp_dot hl hw (by simpa using ho)
theorem got_right_ok {sd : Nat} {nm : Int} (hf : 2 ^ 2000 ≤ fu) (hK : 9 ≤ K) (g : Gv T T R C) (h2 : sd < 2) (h : Wt ws (mn R C sd)) :
    callI tab fu K i__law_got_right [.d (.list (T.map lsD)), .d (tabD T), .d (.int sd), .d (.list (ws.map .int)), .d (.int nm)] s = .ok (.d (.bool true)) s := by
  obtain ⟨K, rfl⟩ : ∃ k, K = k + 1 := ⟨K - 1, by omega⟩
  have mi := lmix_ok (fu := fu) (K := K) (s := s) hf (by omega) h
  have p0 : (2 : Nat) ^ 1483 ≤ 2 ^ 2000 := Nat.pow_le_pow_right (by decide) (by decide)
  have p1 : (2 : Nat) ^ 1483 ≤ 2 ^ 8000 := Nat.pow_le_pow_right (by decide) (by decide)
  have hS := h.lt
  have hp := h.pos
  have hS1 : ws.sum.toNat < fu := by
    generalize (2 : Nat) ^ 1483 = A at *
    generalize (2 : Nat) ^ 2000 = B at *
    omega
  have ra : ∀ a, callI tab fu K i__law_ratio [.d (.int a), .d (.int ws.sum)] s = .ok (.d (frD (frO a ws.sum))) s := fun a => lratio_ok (by omega) (by omega) hS1 (Nat.lt_of_lt_of_le hS p1)
  have sm : ∀ p : Int × Int, callI tab fu K i__law_same [.d (frD p), .d (frD p)] s = .ok (.d (.bool true)) s := fun p => same_ok (fr_sm p) (by omega)
  have ce : cmpV .eq (.d (mixD ws)) (.d (mixD ws)) s = some true := c_eq_sm (mix_sm h) (by decide)
  have r1 := g.r1
  have r5 := g.r5
  have c1 := g.c1
  have c5 := g.c5
  have hl := g.ra
  have hr := g.ca
  have h2 : sd = 0 ∨ sd = 1 := by omega
  refine Ok_one (Ok_call (F := d__law_got_right) rfl rfl ?_)
  simp only [d__law_got_right, b__law_got_right]
  rcases h2 with rfl | rfl
  · have ls := lsums_ok (fu := fu) (K := K) (s := s) (ws := ws) (by omega) hl hr r1 r5 c5 h.len
    have mn' : minL (colS T C ws) = some (leF T C ws) := (mnO_of (f := fun o => dot (pay T T 1) o ws) c1).1
    have al := at_least_ok (fu := fu) (K := K) (s := s) g (by omega) h
    by_cases hn : nm = 1
    · simp [evT_eq, mi, ls, mn', ra, hn, callkR, permL, al, sm, ce]
      exact Lv_len rfl ⟨rfl, rfl⟩
    · simp [evT_eq, mi, ls, mn', ra, hn, al, sm, ce]
      exact Lv_len rfl ⟨rfl, rfl⟩
  · have tu := lturned_ok (fu := fu) (K := K) (s := s) (by omega) hl (fun r hx => (hr r hx).1) r1 r5 c5
    have ls := lsums_ok (fu := fu) (K := K) (s := s) (T := trp T C) (R := C) (C := R) (ws := ws) (by omega) trp_len (trp_ok hl hr) c1 c5 r5 h.len
    rw [colS_trp (C := C) hl (show ws.length = C from h.len)] at ls
    have mx' : maxL ((List.range R).map fun o => dot (pay T T 0) o ws) = some (moF T R ws) := (mxO_of (f := fun o => dot (pay T T 0) o ws) r1).1
    have al := at_most_ok (fu := fu) (K := K) (s := s) g (by omega) h
    by_cases hn : nm = 1
    · simp [-List.map_map, evT_eq, mi, tu, ls, mx', ra, hn, callkR, permL, al, sm, ce]
      exact Lv_len rfl ⟨rfl, rfl⟩
    · simp [-List.map_map, evT_eq, mi, tu, ls, mx', ra, hn, al, sm, ce]
      exact Lv_len rfl ⟨rfl, rfl⟩
end
end Law

set_option maxHeartbeats 1000000
namespace Law
open PySem SM
section
variable {fu K n : Nat} {s t u : Sto}
/-- the deck: what is left, the mixed number, the count -/
def Dk (n : Nat) (b : Int) (s : Sto) : Prop := ∃ a0 a1 c : Int, listAt n s = some [.d (.int a0), .d (.int a1), .d (.int c)] ∧ 0 ≤ c ∧ c ≤ b
def inR (m : Int) (v : Vl) : Prop := ∃ i : Int, v = .d (.int i) ∧ 0 ≤ i ∧ i < m
theorem inR_mod (a : Int) {m : Int} (h : 1 ≤ m) : inR m (.d (.int (a % m))) := ⟨_, rfl, Int.emod_nonneg _ (by omega), Int.emod_lt_of_pos _ (by omega)⟩
theorem q10_28 : binI .pow 10 28 = some 10000000000000000000000000000 := by decide +kernel
theorem q10_30 : binI .pow 10 30 = some 1000000000000000000000000000000 := by decide +kernel
theorem q10_31 : binI .pow 10 31 = some 10000000000000000000000000000000 := by decide +kernel
theorem q10_20 : binI .pow 10 20 = some 100000000000000000000 := by decide +kernel
def DrQ (n : Nat) (b m : Int) (s : Sto) (v : Vl) (t : Sto) : Prop := Fr n s t ∧ Dk n b t ∧ inR m v
theorem draw_body {b m : Int} {d : Int} (hs : Dk n b s) (hb : 0 ≤ b) (hb2 : b < 2 ^ 60) (hd : 1 ≤ d) (hm : 1 ≤ m) (hl : m.natAbs < 2 ^ 8000)
    (rec : 100000000000000000000 < m → ∀ s, Dk n (b + 1) s → Ok (callI tab fu K i__law_draw [.r n, .d (.int (m / 100000000000000000000 + 1))] s) (DrQ n (b + d) (m / 100000000000000000000 + 1) s) nX) :
    Ok (callI tab fu (K + 1) i__law_draw [.r n, .d (.int m)] s) (DrQ n (b + d) m s) nX := by
  obtain ⟨a0, a1, c, hs, c0, cb⟩ := hs
  have hn := listAt_lt hs
  have m0 : 0 < m := by omega
  have hl9 : m.natAbs.log2 < 9000 := log_lt hl (by omega) (by omega)
  refine Ok_call (F := d__law_draw) rfl rfl ?_
  simp only [d__law_draw, b__law_draw]
  refine Sw_cut (fun e t => e = [some (.r n), some (.d (.int m)), none, none] ∧ t = s) ?_ fun e t ⟨he, ht⟩ => ?_
  · by_cases hr : 0 < a0
    · simp [evT_eq, hs, hr, m0, hl9, listAt_put, hn]
      exact Lv_len putL_length ⟨.put, ⟨_, _, _, listAt_put hn, c0, by omega⟩, inR_mod _ hm⟩
    · simp [evT_eq, hs, hr]
  subst he ht
  refine Sw_cut (fun e v => e = [some (.r n), some (.d (.int m)), none, none] ∧ v = putL n [.d (.int a0), .d (.int a1), .d (.int (c + 1))] t) (by simp [evT_eq, hs]) fun e v ⟨he, hv⟩ => ?_
  subst he
  have ft : Fr n t v := by rw [hv]; exact .put
  have hv' : listAt n v = some [.d (.int a0), .d (.int a1), .d (.int (c + 1))] := by rw [hv]; exact listAt_put hn
  clear hv
  have cs : (c + 1).natAbs < 2 ^ 64 := by omega
  refine Sw_cut (fun e w => w = v ∧ ∃ x : Int, 0 ≤ x ∧ x < 10000000000000000000000000331 ∧ e = [some (.r n), some (.d (.int m)), none, some (.d (.int x))]) ?_ fun e w ⟨hw, x, x0, x1, he⟩ => ?_
  · have k1 : mulOk 1299709 (c + 1) := mulOk_l (by decide)
    have k2 : mulOk (1299709 * (c + 1)) (c + 1) := mulOk_r cs
    have k3 : mulOk 15485863 (c + 1) := mulOk_l (by decide)
    simp [hv', k1, k2, k3, bin_pow q10_28]
    omega
  subst he hw
  refine Sw_cut (fun e v => v = w ∧ ∃ x : Int, 0 ≤ x ∧ x < 1000000000000000000000000000057 ∧ e = [some (.r n), some (.d (.int m)), none, some (.d (.int x))]) ?_ fun e v ⟨hv, x, x0, x1, he⟩ => ?_
  · have xb : x.natAbs < 2 ^ 100 := by omega
    have k1 : mulOk x x := mulOk_of xb xb (by omega)
    have xx : (x * x).natAbs < 2 ^ 200 := by
      rw [Int.natAbs_mul]
      have e : (2 : Nat) ^ 200 = 2 ^ 100 * 2 ^ 100 := by rw [← Nat.pow_add]
      rw [e]
      exact Nat.mul_lt_mul_of_lt_of_lt xb xb
    have k2 : mulOk (x * x) x := mulOk_of xx xb (by omega)
    have k3 : mulOk 11 (c + 1) := mulOk_l (by decide)
    simp [hv', k1, k2, k3, bin_pow q10_30]
    omega
  subst he hv
  refine Sw_cut (fun e w => w = v ∧ ∃ x : Int, 0 ≤ x ∧ x < 10000000000000000000000000000033 ∧ e = [some (.r n), some (.d (.int m)), none, some (.d (.int x))]) ?_ fun e w ⟨hw, x, x0, x1, he⟩ => ?_
  · have xb : x.natAbs < 2 ^ 110 := by omega
    have xb' : (x + 104729).natAbs < 2 ^ 110 := by omega
    have k1 : mulOk x (x + 104729) := mulOk_of xb xb' (by omega)
    simp [k1, bin_pow q10_31]
    omega
  subst he hw
  have dk : Dk n (b + 1) w := ⟨_, _, _, hv', by omega, by omega⟩
  have dk' : Dk n (b + d) w := ⟨_, _, _, hv', by omega, by omega⟩
  by_cases hg : 100000000000000000000 < m
  · simp [evT_eq, bin_pow q10_20, hg]
    refine (rec hg _ dk).imp fun v t ⟨f, dt, i, e, i0, i1⟩ => ?_
    subst e
    have ib : i.natAbs < 2 ^ 8001 := by
      have e : (2 : Nat) ^ 8001 = 2 ^ 8000 * 2 := Nat.pow_succ ..
      rw [e]
      omega
    have k1 : mulOk 100000000000000000000 i := mulOk_of (k := 67) (by decide) ib (by omega)
    simp [k1, m0]
    exact Lv_len (f.1.trans ft.1) ⟨ft.trans f, dt, inR_mod _ hm⟩
  · simp [evT_eq, bin_pow q10_20, hg, m0]
    exact Lv_len ft.1 ⟨ft, dk', inR_mod _ hm⟩
end
end Law

set_option maxHeartbeats 1000000
namespace Law
open PySem SM
section
variable {fu K n : Nat} {s t u : Sto}
theorem Dk.mono {b b' : Int} (h : Dk n b s) (hb : b ≤ b') : Dk n b' s := by
  obtain ⟨a0, a1, c, h1, h2, h3⟩ := h
  exact ⟨a0, a1, c, h1, h2, by omega⟩
theorem draw_ok : ∀ (d : Nat) {K : Nat} {b m : Int} {s : Sto}, d + 1 ≤ K → Dk n b s → 0 ≤ b → b + d < 2 ^ 60 → 1 ≤ m → m ≤ 100000000000000000000 * 50000000000000000000 ^ d → m.natAbs < 2 ^ 8000 → Ok (callI tab fu K i__law_draw [.r n, .d (.int m)] s) (DrQ n (b + ((d : Int) + 1)) m s) nX
  | 0, K, b, m, s, hK, hs, h0, hb, hm, hd, hl => by
    obtain ⟨K, rfl⟩ : ∃ k, K = k + 1 := ⟨K - 1, by omega⟩
    exact draw_body hs h0 (by omega) (by omega) hm hl fun h => by omega
  | d + 1, K, b, m, s, hK, hs, h0, hb, hm, hd, hl => by
    obtain ⟨K, rfl⟩ : ∃ k, K = k + 1 := ⟨K - 1, by omega⟩
    refine draw_body hs h0 (by omega) (by omega) hm hl fun h s hs => ?_
    have e : (100000000000000000000 : Int) * 50000000000000000000 ^ (d + 1) = 50000000000000000000 * (100000000000000000000 * 50000000000000000000 ^ d) := by rw [Int.pow_succ]; generalize (50000000000000000000 : Int) ^ d = X; omega
    rw [e] at hd
    have y1 : (1 : Int) ≤ 50000000000000000000 ^ d := Int.pow_pos (by decide)
    have r := draw_ok d (K := K) (b := b + 1) (m := m / 100000000000000000000 + 1) (s := s) (by omega) hs (by omega) (by omega) (by omega) (by generalize (50000000000000000000 : Int) ^ d = X at *; omega) (by generalize (2 : Nat) ^ 8000 = X at *; omega)
    have e2 : b + 1 + ((d : Int) + 1) = b + (((d + 1 : Nat) : Int) + 1) := by omega
    rw [e2] at r
    exact r
/-- draws of numbers below 10 ** 20 -/
theorem draw0 {b m : Int} (hK : 1 ≤ K) (hs : Dk n b s) (h0 : 0 ≤ b) (hb : b < 2 ^ 59) (h1 : 1 ≤ m) (h2 : m ≤ 100000000000000000000) : Ok (callI tab fu K i__law_draw [.r n, .d (.int m)] s) (DrQ n (b + 1) m s) nX := by
  have e : (2 : Nat) ^ 67 ≤ 2 ^ 8000 := Nat.pow_le_pow_right (by decide) (by decide)
  have := draw_ok 0 (K := K) (fu := fu) (m := m) hK hs h0 (by omega) h1 (by simpa using h2) (Nat.lt_of_lt_of_le (by omega) e)
  simpa using this
def bigE : Int := 10 ^ 295
theorem drawB {b m : Int} (hK : 15 ≤ K) (hs : Dk n b s) (h0 : 0 ≤ b) (hb : b < 2 ^ 59) (h1 : 1 ≤ m) (h2 : m ≤ bigE) : Ok (callI tab fu K i__law_draw [.r n, .d (.int m)] s) (DrQ n (b + 15) m s) nX := by
  have b1 : bigE ≤ 100000000000000000000 * 50000000000000000000 ^ 14 := by decide +kernel
  have b2 : bigE.natAbs < 2 ^ 1000 := by decide +kernel
  have e : (2 : Nat) ^ 1000 ≤ 2 ^ 8000 := Nat.pow_le_pow_right (by decide) (by decide)
  exact draw_ok 14 (K := K) (fu := fu) (m := m) hK hs h0 (by omega) h1 (by omega) (Nat.lt_of_lt_of_le (Nat.lt_of_le_of_lt (by omega) b2) e)
/-- as s but for the deck, and for what was made behind it; the deck's count is at most b -/
structure Xd (n : Nat) (b : Int) (s v : Sto) : Prop where
  len : s.length ≤ v.length
  src : Dk n b v
  lt : n < s.length
  at_ : ∀ j, j < s.length → j ≠ n → v[j]? = s[j]?
section
variable {b b' : Int} {v w : Sto}
theorem Dk.lt (h : Dk n b s) : n < s.length := by obtain ⟨_, _, _, h, _⟩ := h; exact listAt_lt h
theorem Xd.refl (h : Dk n b s) : Xd n b s s := ⟨Nat.le_refl _, h, h.lt, fun _ _ _ => rfl⟩
theorem Xd.fr (x : Xd n b s v) (f : Fr n v w) (d : Dk n b' w) : Xd n b' s w := ⟨by rw [f.1]; exact x.len, d, x.lt, fun j h1 h2 => (f.2 j h2).trans (x.at_ j h1 h2)⟩
theorem Xd.more (x : Xd n b s v) (h : b ≤ b') : Xd n b' s v := ⟨x.len, x.src.mono h, x.lt, x.at_⟩
theorem Xd.app (x : Xd n b s v) : Xd n b s (v ++ w) := by
  have hl := x.len
  have hn := x.lt
  obtain ⟨a0, a1, c, h, h1, h2⟩ := x.src
  refine ⟨by simp; omega, ⟨a0, a1, c, by rw [listAt_old (by omega)]; exact h, h1, h2⟩, hn, fun j h1 h2 => ?_⟩
  rw [List.getElem?_append_left (by omega)]
  exact x.at_ j h1 h2
theorem Xd.put (x : Xd n b s v) {p : Nat} {ws : List Vl} (hp : s.length ≤ p) : Xd n b s (putL p ws v) := by
  have hn := x.lt
  obtain ⟨a0, a1, c, h, h1, h2⟩ := x.src
  refine ⟨by simpa using x.len, ⟨a0, a1, c, by rw [listAt_put_ne (by omega)]; exact h, h1, h2⟩, hn, fun j h1 h2 => ?_⟩
  unfold putL
  rw [List.getElem?_set_ne (by omega)]
  exact x.at_ j h1 h2
theorem Xd.kill (x : Xd n b s v) {p : Nat} (hp : s.length ≤ p) : Xd n b s (List.set v p none) := by
  have hn := x.lt
  obtain ⟨a0, a1, c, h, h1, h2⟩ := x.src
  refine ⟨by simpa using x.len, ⟨a0, a1, c, ?_, h1, h2⟩, hn, fun j h1 h2 => ?_⟩
  · unfold listAt at h ⊢
    rw [List.getElem?_set_ne (by omega)]
    exact h
  · rw [List.getElem?_set_ne (by omega)]
    exact x.at_ j h1 h2
theorem Xd.take (x : Xd n b s v) : Fr n s (v.take s.length) ∧ Dk n b (v.take s.length) := by
  have hl := x.len
  have hn := x.lt
  obtain ⟨a0, a1, c, h, h1, h2⟩ := x.src
  refine ⟨⟨by simp; omega, fun j h2 => ?_⟩, ⟨a0, a1, c, ?_, h1, h2⟩⟩
  · by_cases hj : j < s.length
    · rw [List.getElem?_take_of_lt hj]
      exact x.at_ j hj h2
    · rw [List.getElem?_eq_none (by simp; omega), List.getElem?_eq_none (by omega)]
  · unfold listAt at h ⊢
    rw [List.getElem?_take_of_lt hn]
    exact h
theorem Xd.lv (x : Xd n b s v) {d : PyData} {Q : Vl → Sto → Prop} (q : Q (.d d) (v.take s.length)) : Lv s (.d d) v Q := by
  have c : Cut s (.d d) v := ⟨trivial, fun i hi => by
    by_cases hin : i = n
    · subst hin
      refine .inr fun o ho => ?_
      obtain ⟨a0, a1, c, h, _⟩ := x.src
      unfold listAt at h
      rw [ho] at h
      cases o with
      | none => trivial
      | some o =>
        cases o with
        | lst vs =>
          cases h
          intro w hw
          simp at hw
          rcases hw with rfl | rfl | rfl <;> trivial
    · exact .inl (x.at_ i hi hin)⟩
  intro s' _ h
  rw [h c]
  exact q
end
end
end Law

set_option maxHeartbeats 1000000
namespace Law
open PySem SM
section
variable {fu K n : Nat} {s t u : Sto}
theorem q10_25 : binI .pow 10 25 = some 10000000000000000000000000 := by decide +kernel
theorem q10_59 : binI .pow 10 59 = some 100000000000000000000000000000000000000000000000000000000000 := by decide +kernel
theorem q59_5 : binI .pow 100000000000000000000000000000000000000000000000000000000000 5 = some bigE := by decide +kernel
theorem q10_49 : binI .pow 10 49 = some 10000000000000000000000000000000000000000000000000 := by decide +kernel
def far0 : Int := 10 ^ 147
theorem q49_3 : binI .pow 10000000000000000000000000000000000000000000000000 3 = some far0 := by decide +kernel
theorem sum_of_mem {is : List Int} {c : Nat} (hl : is.length = c) (c5 : c ≤ 5) (h : ∀ i ∈ is, 0 ≤ i ∧ i < 2 ^ 1480) {i : Int} (hi : i ∈ is) (h1 : 1 ≤ i) : Wt is c := ⟨hl, c5, h, sum_pos h hi h1⟩
theorem far_lt {y : Int} (h0 : 0 ≤ y) (h1 : y < 100000000000000000000) : let f := far0 + y
    (1 ≤ f ∧ 2 * f + 1 < 2 ^ 1480 ∧ 0 ≤ (f - 1) * (f + 1) ∧ (f - 1) * (f + 1) < 2 ^ 1480 ∧ 0 ≤ f * (2 * f * f + 2 * f - 1) ∧ f * (2 * f * f + 2 * f - 1) < 2 ^ 1480 ∧ f.natAbs < 2 ^ 490 ∧ (2 * f * f + 2 * f - 1).natAbs < 2 ^ 990) := by
  intro f
  have hf0 : far0 ≤ f := by show far0 ≤ far0 + y; omega
  have hf1 : f < far0 + 100000000000000000000 := by show far0 + y < far0 + 100000000000000000000; omega
  have e1 : far0 + 100000000000000000000 < 2 ^ 489 := by decide +kernel
  have e0 : (1 : Int) < far0 := by decide +kernel
  have f1 : 1 ≤ f := by omega
  have f2 : f < 2 ^ 489 := by omega
  have ff : f * f ≤ 2 ^ 489 * 2 ^ 489 := Int.mul_le_mul (by omega) (by omega) (by omega) (by decide +kernel)
  have ff1 : 1 * 1 ≤ f * f := Int.mul_le_mul f1 f1 (by decide) (by omega)
  have g1 : (f - 1) * (f + 1) = f * f - 1 := by rw [Int.sub_mul, Int.mul_add]; omega
  have g2 : 2 * f * f = 2 * (f * f) := Int.mul_assoc ..
  have p1 : (2 ^ 489 * 2 ^ 489 : Int) = 2 ^ 978 := by decide +kernel
  have p2 : (2 : Int) ^ 978 < 2 ^ 1480 := by decide +kernel
  have p3 : (2 : Int) ^ 489 * 2 + 1 < 2 ^ 1480 := by decide +kernel
  have p4 : 2 * (2 : Int) ^ 978 + 2 * 2 ^ 489 ≤ 2 ^ 980 := by decide +kernel
  have p5 : (2 : Int) ^ 489 * 2 ^ 980 < 2 ^ 1480 := by decide +kernel
  have h3 : 2 * f * f + 2 * f - 1 ≤ 2 ^ 980 := by rw [g2]; omega
  have h4 : 0 ≤ 2 * f * f + 2 * f - 1 := by rw [g2]; omega
  have h5 : f * (2 * f * f + 2 * f - 1) ≤ 2 ^ 489 * 2 ^ 980 := Int.mul_le_mul (by omega) h3 h4 (by decide +kernel)
  have h6 : 0 ≤ f * (2 * f * f + 2 * f - 1) := Int.mul_nonneg (by omega) h4
  have q1 : ((2 ^ 489 : Nat) : Int) = 2 ^ 489 := by norm_cast
  have q2 : ((2 ^ 980 : Nat) : Int) = 2 ^ 980 := by norm_cast
  have r1 : (2 : Nat) ^ 489 < 2 ^ 490 := Nat.pow_lt_pow_right (by decide) (by decide)
  have r2 : (2 : Nat) ^ 980 < 2 ^ 990 := Nat.pow_lt_pow_right (by decide) (by decide)
  refine ⟨f1, by omega, by rw [g1]; omega, by rw [g1]; omega, h6, by omega, ?_, ?_⟩
  · refine Nat.lt_trans ?_ r1
    omega
  · refine Nat.lt_of_le_of_lt ?_ r2
    omega
end
end Law

set_option maxHeartbeats 1000000
namespace Law
open PySem SM
section
variable {fu K n : Nat} {s t u : Sto}
theorem big1' : (1 : Int) < 2 ^ 1480 := by decide +kernel
def WgQ (n : Nat) (b : Int) (m : Nat) (s : Sto) (v : Vl) (t : Sto) : Prop := Fr n s t ∧ Dk n b t ∧ ∃ ws, v = .d (.list (ws.map .int)) ∧ Wt ws m
def WgJ (n m : Nat) (b r : Int) (s : Sto) (e : Sl) (v : Sto) : Prop := Xd n b s v ∧ 0 ≤ r ∧ r ≤ bigE ∧ e = [some (.r n), some (.d (.int m)), some (.d (.int r)), none, none, none, none, none]
def WgL (n m : Nat) (b r : Int) (s : Sto) (e : Sl) (v : Sto) : Prop := ∃ (p : Nat) (is : List Int), Xd n b s v ∧ s.length ≤ p ∧ listAt p v = some (is.map vI) ∧ is.length = m ∧ (∀ i ∈ is, 0 ≤ i ∧ i < 2 ^ 1480) ∧ e = [some (.r n), some (.d (.int m)), some (.d (.int r)), none, none, some (.r p), none, none]
def WgP (n m : Nat) (b r : Int) (s : Sto) (e : Sl) (v : Sto) : Prop := ∃ (p : Nat) (is : List Int) (z7 : Option Vl), Xd n b s v ∧ s.length ≤ p ∧ listAt p v = some (is.map vI) ∧ Wt is m ∧ e = [some (.r n), some (.d (.int m)), some (.d (.int r)), none, none, some (.r p), none, z7]
/-- the weights of the second way -/
theorem weights_b {m : Nat} {b r : Int} {v : Sto} (hK : 15 ≤ K) (m1 : 1 ≤ m) (m5 : m ≤ 5) (h0 : 0 ≤ b) (hb : b < 2 ^ 58) (x : Xd n b s v) (r0 : 0 ≤ r) (rb : r ≤ bigE) :
    Sw (exS (callI tab fu K) fu (.cons (.asg (.var 5) (.comp true (.call i__law_draw (.cons (.var 0) (.cons (.bi false .max (.cons (.lit (.int 1)) (.cons (.var 2) .nil))) .nil))) (.var 6) (.rng1 (.var 1)) .nil [6]))
  (.cons (.asg (.var 7) (.call i__law_draw (.cons (.var 0) (.cons (.var 1) .nil))))
  (.cons (.ite (.cmp .eq (.bi false .sum (.cons (.var 5) .nil)) (.lit (.int 0))) (.cons (.asg (.idx (.var 5) (.var 7)) (.lit (.int 1)))
    .nil) .nil)
  (.cons (.ret (.frz (.var 5)))
  .nil)))) [some (.r n), some (.d (.int m)), some (.d (.int r)), none, none, none, none, none] v) ⟨fun _ t => Lv s (.d .none) t (WgQ n (b + 90) m s), fun v t => Lv s v t (WgQ n (b + 90) m s), fun _ _ => False, fun _ _ => False, fun c v _ s => nX c v s⟩ := by
  refine Sw_cut (WgL n m (b + 75) r s) ?_ fun e v ⟨p, is, x, hp, hv, hl, hi, he⟩ => ?_
  · simp
    refine Ok_comp_at (m := true) (fun j t => Xd n (b + 15 * (j : Int)) s t) (fun _ x => ∃ i : Int, x = .int i ∧ (0 ≤ i ∧ i < 2 ^ 1480)) (rng1_ok (k := m) (t := v) (by simp) (by omega) (by omega)) (by simp; omega) (by simpa using x) (fun j hj t xt => ⟨_, rfl, ?_⟩) fun xs t hl hr xt => ?_
    · have hj : j < m := by simpa using hj
      simp [wipe]
      have be : bigE < 2 ^ 1480 := by decide +kernel
      have b1 : (1 : Int) ≤ bigE := by decide +kernel
      refine (drawB (K := K) (m := max 1 r) hK xt.src (by omega) (by omega) (by omega) (by omega)).imp fun a q ⟨f, d, i, e, i0, i1⟩ => ?_
      refine ⟨xt.fr f (d.mono (by omega)), _, e, i, rfl, i0, ?_⟩
      generalize (2 : Int) ^ 1480 = P at *
      omega
    · rw [if_pos rfl]
      obtain ⟨is, rfl, hi⟩ := ints_of (P := fun i => 0 ≤ i ∧ i < 2 ^ 1480) (xs := xs) fun y hy => by
        obtain ⟨j, hj, rfl⟩ := List.mem_iff_getElem.mp hy
        exact hr j hj
      rw [← vI_map]
      simp only [List.length_map, List.length_range, Int.toNat_natCast] at hl xt
      exact ⟨t.length, is, (xt.more (by omega)).app, xt.len, listAt_new, by simpa using hl, hi, rfl⟩
  subst he
  have pn : p ≠ n := by have := x.lt; omega
  refine Sw_cut (fun e w => ∃ i : Int, 0 ≤ i ∧ i < (m : Int) ∧ Xd n (b + 76) s w ∧ listAt p w = some (is.map vI) ∧ e = [some (.r n), some (.d (.int m)), some (.d (.int r)), none, none, some (.r p), none, some (.d (.int i))]) ?_ fun e w ⟨i, i0, i1, x, hv, he⟩ => ?_
  · simp
    refine (draw0 (K := K) (m := m) (by omega) x.src (by omega) (by omega) (by omega) (by omega)).imp fun a t ⟨f, d, i, e, i0, i1⟩ => ?_
    subst e
    have ht : listAt p t = some (is.map vI) := by
      unfold listAt at hv ⊢
      rw [f.2 p pn]
      exact hv
    exact ⟨i, i0, i1, x.fr f (d.mono (by omega)), ht, rfl⟩
  subst he
  refine Sw_cut (WgP n m (b + 76) r s) ?_ fun e w ⟨p, is, z7, x, hp, hv, hw, he⟩ => ?_
  · by_cases h0 : is.sum = 0
    · have hix : L2.ixN is.length i = some i.toNat := by
        have := ixN_nat (k := is.length) (i := i.toNat) (by omega)
        rwa [Int.toNat_of_nonneg i0] at this
      simp [evT_eq, w_sum_r hv, h0, hv, hix]
      have one : (1 : Int) < 2 ^ 1480 := big1'
      have hall : ∀ j ∈ is.set i.toNat 1, 0 ≤ j ∧ j < 2 ^ 1480 := fun j hj => by
        rcases List.mem_or_eq_of_mem_set hj with h | h
        · exact hi j h
        · subst h; exact ⟨by decide, one⟩
      exact ⟨p, is.set i.toNat 1, _, x.put hp, hp, by rw [listAt_put (listAt_lt hv), List.map_set]; rfl, sum_of_mem (by rw [List.length_set]; exact hl) m5 hall (List.mem_set (by omega) 1) (by decide), rfl⟩
    · simp [evT_eq, w_sum_r hv, h0]
      have := sum_nn hi
      exact ⟨p, is, _, x, hp, hv, ⟨hl, m5, hi, by omega⟩, rfl⟩
  subst he
  have fz := frz_r (xs := is.map .int) (by rw [hv, vI_map])
  simp [fz]
  have k := x.kill hp
  exact k.lv ⟨k.take.1, k.take.2.mono (by omega), is, rfl, hw⟩
end
end Law

set_option maxHeartbeats 1000000
namespace Law
open PySem SM
section
variable {fu K n : Nat} {s t u : Sto}
theorem sli_r {p : Nat} {vs : List PyData} {lo hi : Option Int} (h : listAt p s = some (vs.map Vl.d)) (hl : vs.length ≤ 16777216) : sliV false (.r p) lo hi s = some (.d (.list (cutL vs lo hi)), s) := by
  have e : cutL (vs.map Vl.d) lo hi = (cutL vs lo hi).map Vl.d := by unfold cutL; simp
  show (listAt p s).bind (fun l => mkL false (cutL l lo hi) s) = _
  rw [h, Option.bind_some, e, mkL_data, if_pos]
  exact Nat.le_trans (cut_sub vs lo hi).length_le hl
theorem turn_wt {is : List Int} {m : Nat} (h : Wt is m) (k : Nat) : Wt (is.drop k ++ is.take k) m := by
  have p : (is.drop k ++ is.take k).Perm is := (List.perm_append_comm).trans (by rw [List.take_append_drop])
  exact ⟨by rw [p.length_eq]; exact h.len, h.c5, fun w hw => h.rg w (p.mem_iff.mp hw), by
    have e : is.sum = (is.take k ++ is.drop k).sum := by rw [List.take_append_drop]
    have h0 := h.pos
    rw [List.sum_append] at e ⊢
    omega⟩
theorem weights_a {m : Nat} {b r : Int} {v : Sto} {X : XP} (hK : 15 ≤ K) (m3 : 3 ≤ m) (m5 : m ≤ 5) (h0 : 0 ≤ b) (hb : b < 2 ^ 58) (x : Xd n b s v) :
    Sw (exS (callI tab fu K) fu (.cons (.par (.var 3) (.var 4) (.bop false .add (.bop false .pow (.bop false .pow (.lit (.int 10)) (.lit (.int 49))) (.lit (.int 3))) (.call i__law_draw (.cons (.var 0) (.cons (.bop false .pow (.lit (.int 10)) (.lit (.int 20))) .nil)))) (.call i__law_draw (.cons (.var 0) (.cons (.var 1) .nil))))
    (.cons (.asg (.var 5) (.bop true .add (.lst false (.cons (.bop false .add (.bop false .mul (.lit (.int 2)) (.var 3)) (.lit (.int 1))) (.cons (.bop false .mul (.bop false .sub (.var 3) (.lit (.int 1))) (.bop false .add (.var 3) (.lit (.int 1)))) (.cons (.bop false .mul (.var 3) (.bop false .sub (.bop false .add (.bop false .mul (.bop false .mul (.lit (.int 2)) (.var 3)) (.var 3)) (.bop false .mul (.lit (.int 2)) (.var 3))) (.lit (.int 1)))) .nil)))) (.rep false (.cons (.lit (.int 0)) .nil) (.bop false .sub (.var 1) (.lit (.int 3))))))
    (.cons (.ret (.bop false .add (.sli false (.var 5) (.cons (.var 4) .nil) .nil) (.sli false (.var 5) .nil (.cons (.var 4) .nil))))
    .nil))) [some (.r n), some (.d (.int m)), some (.d (.int r)), none, none, none, none, none] v) ⟨fun _ t => False, fun v t => Lv s v t (WgQ n (b + 90) m s), fun _ _ => False, fun _ _ => False, fun c v e s => X c v s⟩ := by
  refine Sw_cut (fun e w => ∃ y k : Int, 0 ≤ y ∧ y < 100000000000000000000 ∧ 0 ≤ k ∧ k < (m : Int) ∧ Xd n (b + 2) s w ∧ e = [some (.r n), some (.d (.int m)), some (.d (.int r)), some (.d (.int (far0 + y))), some (.d (.int k)), none, none, none]) ?_ fun e w ⟨y, k, y0, y1, k0, k1, x, he⟩ => ?_
  · simp [bin_pow q10_49, bin_pow q49_3, bin_pow q10_20]
    refine (draw0 (K := K) (m := 100000000000000000000) (by omega) x.src (by omega) (by omega) (by omega) (by omega)).imp fun a t ⟨f, d, i, e, i0, i1⟩ => ?_
    subst e
    simp
    refine (draw0 (K := K) (m := m) (by omega) d (by omega) (by omega) (by omega) (by omega)).imp fun a t2 ⟨f2, d2, j, e, j0, j1⟩ => ?_
    subst e
    exact ⟨i, i0, i1, j, j0, j1, x.fr (f.trans f2) (d2.mono (by omega)), rfl, rfl⟩
  subst he
  have F := far_lt y0 y1
  generalize far0 + y = f at F
  obtain ⟨f1, f2, f3, f4, f5, f6, f7, f8⟩ := F
  have fb : (f - 1).natAbs < 2 ^ 490 ∧ (f + 1).natAbs < 2 ^ 491 ∧ (2 * f).natAbs < 2 ^ 491 := by
    have e : (2 : Nat) ^ 491 = 2 ^ 490 * 2 := Nat.pow_succ ..
    generalize (2 : Nat) ^ 490 = P at *
    omega
  have k1' : mulOk 2 f := mulOk_l (by decide)
  have k2' : mulOk (f - 1) (f + 1) := mulOk_of fb.1 fb.2.1 (by omega)
  have k3' : mulOk (2 * f) f := mulOk_of fb.2.2 f7 (by omega)
  have k4' : mulOk f (2 * f * f + 2 * f - 1) := mulOk_of f7 f8 (by omega)
  generalize hL : [2 * f + 1, (f - 1) * (f + 1), f * (2 * f * f + 2 * f - 1)] ++ List.replicate (m - 3) (0 : Int) = L
  have wL : Wt L m := by
    have hall : ∀ i ∈ L, 0 ≤ i ∧ i < 2 ^ 1480 := fun i hi => by
      rw [← hL] at hi
      rcases List.mem_append.mp hi with h | h
      · simp only [List.mem_cons, List.not_mem_nil, or_false] at h
        rcases h with rfl | rfl | rfl
        · exact ⟨by omega, f2⟩
        · exact ⟨f3, f4⟩
        · exact ⟨f5, f6⟩
      · have := (List.mem_replicate.mp h).2
        subst this
        exact ⟨Int.le_refl _, by decide +kernel⟩
    exact sum_of_mem (by rw [← hL]; simp; omega) m5 hall (i := 2 * f + 1) (by rw [← hL]; simp) (by omega)
  refine Sw_cut (fun e q => q = w ++ [some (.lst (L.map vI))] ∧ e = [some (.r n), some (.d (.int m)), some (.d (.int r)), some (.d (.int f)), some (.d (.int k)), some (.r w.length), none, none]) ?_ fun e q ⟨hq, he⟩ => ?_
  · have m3' : (0 : Int) ≤ (m : Int) - 3 ∧ (m : Int) - 3 ≤ 1000 := by omega
    have mt : ((m : Int) - 3).toNat = m - 3 := by omega
    simp [k1', k2', k3', k4', m3', mt, mkL_true, show m - 3 ≤ 16777216 by omega]
    rw [if_pos (show (3 : Int) ≤ (m : Int) by omega), if_pos (show m ≤ 16777216 by omega)]
    simp
    rw [← hL]
    simp [vI]
  subst he hq
  have hv : listAt w.length (w ++ [some (.lst (L.map vI))]) = some ((L.map PyData.int).map Vl.d) := by rw [← vI_map]; exact listAt_new
  have l5 := wL.len
  have s1 := sli_r (lo := some k) (hi := none) hv (by simp; omega)
  have s2 := sli_r (lo := none) (hi := some k) hv (by simp; omega)
  rw [cut_from _ k0] at s1
  rw [cut_to _ k0] at s2
  simp [-List.map_map, s1, s2, show L.length - k.toNat + min k.toNat L.length ≤ 16777216 by omega]
  rw [← List.map_drop, ← List.map_take, ← List.map_append]
  have xa := x.app (w := [some (.lst (L.map vI))])
  exact xa.lv ⟨xa.take.1, xa.take.2.mono (by omega), _, rfl, turn_wt wL k.toNat⟩
end
end Law

set_option maxHeartbeats 1000000
namespace Law
open PySem SM
section
variable {fu K n : Nat} {s t u : Sto}
theorem weights_ok {m : Nat} {b : Int} (hK : 16 ≤ K) (m1 : 1 ≤ m) (m5 : m ≤ 5) (h0 : 0 ≤ b) (hb : b < 2 ^ 57) (hs : Dk n b s) : Ok (callI tab fu K i__law_weights [.r n, .d (.int m)] s) (WgQ n (b + 1 + 90) m s) nX := by
  obtain ⟨K, rfl⟩ : ∃ k, K = k + 1 := ⟨K - 1, by omega⟩
  refine Ok_call (F := d__law_weights) rfl rfl ?_
  simp only [d__law_weights, b__law_weights]
  refine Sw_cut (fun e v => ∃ r : Int, 0 ≤ r ∧ r ≤ bigE ∧ Xd n (b + 1) s v ∧ e = [some (.r n), some (.d (.int m)), some (.d (.int r)), none, none, none, none, none]) ?_ fun e v ⟨r, r0, rb, x, he⟩ => ?_
  · simp [bin_pow q10_25, bin_pow q10_59, bin_pow q59_5]
    refine (draw0 (K := K) (by omega) hs h0 (by omega) (by decide) (by decide)).imp fun a t ⟨f, d, i, e, i0, i1⟩ => ?_
    subst e
    have x := (Xd.refl hs).fr f d
    have big1 : (13 : Int) ≤ bigE := by decide +kernel
    have big2 : (10000000000000000000000000 : Int) ≤ bigE := by decide +kernel
    have hi : i = 0 ∨ i = 1 ∨ i = 2 ∨ i = 3 ∨ i = 4 ∨ i = 5 ∨ i = 6 ∨ i = 7 := by omega
    rcases hi with rfl | rfl | rfl | rfl | rfl | rfl | rfl | rfl
    all_goals
      simp
      refine ⟨_, ?_, ?_, x, rfl⟩ <;> omega
  subst he
  by_cases hg : r = 0 ∧ 2 < m
  · obtain ⟨rfl, hm⟩ := hg
    refine Sw_cut (fun _ _ => False) ?_ fun _ _ h => h.elim
    have w := weights_a (fu := fu) (K := K) (r := 0) (X := nX) (by omega) (show 3 ≤ m by omega) m5 (by omega) (by omega) x
    rw [exS_ite]
    have c : evT (callI tab fu K) (.and (.cons (.cmp .eq (.var 2) (.lit (.int 0))) (.cons (.cmp .gt (.var 1) (.lit (.int 2))) .nil))) [some (.r n), some (.d (.int m)), some (.d (.int 0)), none, none, none, none, none] v = .ok true v := by
      have : (2 : Int) < (m : Int) := by omega
      simp [evT_eq, this]
    rw [c, bindF_ok, iteK_eq, if_pos rfl]
    exact w
  · refine Sw_cut (fun e w => w = v ∧ e = [some (.r n), some (.d (.int m)), some (.d (.int r)), none, none, none, none, none]) ?_ fun e w ⟨hw, he⟩ => ?_
    · by_cases h1 : r = 0
      · have h2 : ¬ (2 : Int) < (m : Int) := fun z => hg ⟨h1, by omega⟩
        simp [evT_eq, h1, h2]
      · simp [evT_eq, h1]
    · subst he hw
      exact weights_b (by omega) m1 m5 (by omega) (by omega) x r0 rb
end
end Law

set_option maxHeartbeats 1000000
namespace Law
open PySem SM
section
variable {fu K n : Nat} {s t u : Sto}
theorem q10_21 : binI .pow 10 21 = some 1000000000000000000000 := by decide +kernel
theorem q10_18 : binI .pow 10 18 = some 1000000000000000000 := by decide +kernel
def DcJ (s : Sto) (ns : List Int) (k : Nat) (e : Sl) (v : Sto) : Prop := v = s ∧ ∃ (c x : Int) (z : Option Vl), e = [some (.d (.list (ns.map .int))), some (.d (.int k)), some (.d (.int c)), some (.d (.int x)), z]
theorem deck_ok {ns : List Int} {k : Nat} (hK : 1 ≤ K) (hn : ns.length ≤ 1000) (hk : k < 1000) : Ok (callI tab fu K i__law_deck [.d (.list (ns.map .int)), .d (.int k)] s) (fun v t => v = .r s.length ∧ ∃ a0 a1 : Int, t = s ++ [some (.lst [.d (.int a0), .d (.int a1), .d (.int 0)])]) nX := by
  obtain ⟨K, rfl⟩ : ∃ k, K = k + 1 := ⟨K - 1, by omega⟩
  refine Ok_call (F := d__law_deck) rfl rfl ?_
  simp only [d__law_deck, b__law_deck]
  have k1 : mulOk 61 (k : Int) := mulOk_l (by decide)
  have k2 : mulOk 97 (k : Int) := mulOk_l (by decide)
  have k3 : ∀ x : Int, mulOk x 8209 := fun x => mulOk_r (by decide)
  have k4 : ∀ x : Int, mulOk x 13 := fun x => mulOk_r (by decide)
  have k5 : ∀ x : Int, mulOk x 10007 := fun x => mulOk_r (by decide)
  have k6 : ∀ x : Int, mulOk 7 x := fun x => mulOk_l (by decide)
  refine Sw_cut (fun e v => v = s ∧ ∃ c : Int, e = [some (.d (.list (ns.map .int))), some (.d (.int k)), some (.d (.int c)), none, none]) (by simp [k1]) fun e v ⟨hv, c, he⟩ => ?_
  subst he hv
  refine Sw_cut (fun e w => w = v ∧ ∃ c : Int, e = [some (.d (.list (ns.map .int))), some (.d (.int k)), some (.d (.int c)), none, none]) ?_ fun e w ⟨hw, c, he⟩ => ?_
  · by_cases h : k < ns.length
    · have a := at_int (r := ns) (i := k) h
      have h' : (k : Int) < ns.length := by omega
      simp [-List.getD_eq_getElem?_getD, evT_eq, h, a]
    · simp [evT_eq, h]
  subst he hw
  refine Sw_cut (DcJ w ns k) ?_ fun e v h => ?_
  · simp [k6]
    exact ⟨rfl, _, _, _, rfl⟩
  refine Sw_cut (DcJ w ns k) ?_ fun e v h => ?_
  · obtain ⟨hv, c, x, z, he⟩ := id h
    subst he hv
    simp
    refine Sw_goM PyData.int (fun _ e q => DcJ v ns k e q) (fun y r e q h => ?_) (fun e q h => h) ⟨rfl, _, _, _, rfl⟩
    obtain ⟨hq, c, x, z, he⟩ := h
    subst he hq
    rw [turnS_var]
    simp [k3, bin_pow q10_21, bin_pow q10_28]
    exact ⟨rfl, _, _, _, rfl⟩
  obtain ⟨hv, c, x, z, he⟩ := h
  subst he hv
  refine Sw_cut (DcJ v ns k) ?_ fun e w h => ?_
  · by_cases hc : c < 0
    · simp [k4, k5, k2, bin_pow q10_28, hc]
      exact ⟨rfl, _, _, _, rfl⟩
    · simp [k4, k5, k2, bin_pow q10_28, hc]
      exact ⟨rfl, _, _, _, rfl⟩
  obtain ⟨hv, c, x, z, he⟩ := h
  subst he hv
  simp [bin_pow q10_18, mkL_true]
  exact Lv_new (Nat.le_refl _) ⟨rfl, _, _, rfl⟩
end
end Law

set_option maxHeartbeats 1000000
namespace Law
open PySem SM
section
variable {fu K n : Nat} {s t u : Sto}
theorem len_bulk : ∀ xs : List PyData, xs.length ≤ PyData.bulkAll xs
  | [] => Nat.zero_le _
  | x :: xs => by
    have := len_bulk xs
    simp only [List.length_cons, PyData.bulkAll]
    omega
theorem sht_of {x : PyData} (h : Rp 8000 100 x) : Sht x := by
  rintro xs rfl
  have h1 : PyData.bulkAll xs ≤ 8000 := h.bk
  have h2 := len_bulk xs
  refine ⟨by omega, ?_⟩
  rintro y hy ys rfl
  have h3 := bulk_mem hy
  have h4 : PyData.bulk (.tuple ys) = PyData.bulkAll ys := rfl
  have h5 := len_bulk ys
  omega
theorem judged_rp {x : PyData} {nm : Int} (hK : 6 ≤ K) (hr : Rp 8000 100 x) : callI tab fu K i__law_judged [.d x, .d (.int nm)] s = .ok (.d (.bool true)) s := judged_ok x hK (sht_of hr) hr
def fixedE : List PyData := [.none, .bool true, .bool false, .str "1", .str "", .list [], .dict [], .tuple [], .list [.int 0], .int 1001, .int (-1001), .int 1000000000000000000000000000000, .tuple [.int 1, .int 2], .int 0, .int 1, .dict [(.str "0", .int 1)]]
theorem fixedE_ok : ∀ x ∈ fixedE, Rp 10 5 x := by
  have : fixedE.all (rpB 10 5) = true := by decide +kernel
  exact fun x hx => rpB_rp (List.all_eq_true.mp this x hx)
end
end Law

set_option maxHeartbeats 1000000
namespace Law
open PySem SM
section
variable {fu K n p : Nat} {s t u v w : Sto} {b b' : Int} {P Q : List Int → Prop} {rs : List Nat} {f : Nat → List Int} {row : List Int} {R C : Nat}
theorem Xd.eq (x : Xd n b s v) (hl : w.length = v.length) (e : ∀ j, j < s.length → w[j]? = v[j]?) : Xd n b s w := by
  have hn := x.lt
  obtain ⟨a0, a1, c, h, h1, h2⟩ := x.src
  refine ⟨by rw [hl]; exact x.len, ⟨a0, a1, c, ?_, h1, h2⟩, hn, fun j h1 h2 => (e j h1).trans (x.at_ j h1 h2)⟩
  rw [listAt_same (e n hn)]
  exact h
structure Tx (n : Nat) (b : Int) (s : Sto) (P : List Int → Prop) (p : Nat) (rs : List Nat) (f : Nat → List Int) (v : Sto) : Prop where
  x : Xd n b s v
  t : Tb P p rs f v
  pp : s.length ≤ p
  rr : ∀ r ∈ rs, s.length ≤ r
theorem Tx.fr (h : Tx n b s P p rs f v) (x : Fr n v w) (d : Dk n b' w) : Tx n b' s P p rs f w := by
  have hn := h.x.lt
  exact ⟨h.x.fr x d, h.t.fr x (by have := h.pp; omega) (fun z => by have := h.rr n z; omega), h.pp, h.rr⟩
theorem Tx.more (h : Tx n b s P p rs f v) (hb : b ≤ b') : Tx n b' s P p rs f v := ⟨h.x.more hb, h.t, h.pp, h.rr⟩
theorem Tx.app (h : Tx n b s P p rs f v) : Tx n b s P p rs f (v ++ w) := ⟨h.x.app, h.t.app, h.pp, h.rr⟩
theorem Tx.add (h : Tx n b s P p rs f v) (hp : P row) : Tx n b s P p (rs ++ [v.length]) (upd f v.length row) (putL p (rs.map Vl.r ++ [.r v.length]) (v ++ [some (.lst (row.map vI))])) :=
  ⟨h.x.app.put h.pp, h.t.add hp, h.pp, fun r hr => by
    rcases List.mem_append.mp hr with hr | hr
    · exact h.rr r hr
    · simp at hr; subst hr; exact h.x.len⟩
theorem Tx.set (h : Tx n b s P p rs f v) (hp : P row) {i : Nat} : Tx n b s P p (rs.set i v.length) (upd f v.length row) (putL p ((rs.map Vl.r).set i (.r v.length)) (v ++ [some (.lst (row.map vI))])) :=
  ⟨h.x.app.put h.pp, h.t.set hp, h.pp, fun r hr => by
    rcases List.mem_or_eq_of_mem_set hr with hr | rfl
    · exact h.rr r hr
    · exact h.x.len⟩
theorem Tx.put (h : Tx n b s P p rs f v) {r : Nat} (hr : r ∈ rs) (hp : P row) : Tx n b s P p rs (upd f r row) (putL r (row.map vI) v) :=
  ⟨h.x.put (h.rr r hr), h.t.put hr hp, h.pp, h.rr⟩
theorem Tx.mono (h : Tx n b s P p rs f v) (hi : ∀ r, P r → Q r) : Tx n b s Q p rs f v := ⟨h.x, h.t.mono hi, h.pp, h.rr⟩
theorem at_vI {r : List Int} {i : Nat} (h : i < r.length) : L2.atI (r.map vI) (i : Int) = some (vI (r.getD i 0)) := by rw [atI_nat (by simpa using h), SM.getD_lt h]; simp
theorem w_list_rm {vs : List Vl} {q : Nat} (h : listAt q s = some vs) (hl : vs.length ≤ 16777216) : biV true .list [.r q] s = some (.r s.length, s ++ [some (.lst vs)]) := by
  show (itemsV (.r q) s).bind (fun l => mkL true l s) = _
  show (listAt q s).bind (fun l => mkL true l s) = _
  rw [h, Option.bind_some, mkL_true, if_pos hl]
theorem ite_row {Ca : Cal} {val : IE} {e : Sl} {PT : Pt} {c way : Int} {i : Nat} (hx : Tx n b s P p rs f v) (he10 : e[10]? = some (some (.d (.int way)))) (he4 : e[4]? = some (some (.r p))) (he5 : e[5]? = some (some (.d (.int i)))) (hi : i < rs.length)
    (hv : ev Ca val e v = .ok (.r v.length) (v ++ [some (.lst (row.map vI))])) (hp : P row) (hn : ∀ rs' f' t, Tx n b s P p rs' f' t → rs'.length = rs.length → PT.n e t) :
    Sw (exS Ca fu (.ite (.cmp .eq (.var 10) (.lit (.int c))) (.cons (.asg (.idx (.var 4) (.var 5)) val) .nil) .nil) e v) PT := by
  have hd := (hx.app (w := [some (.lst (row.map vI))])).t.hd
  have ix : L2.ixN (rs.map Vl.r).length (i : Int) = some i := ixN_nat (by simpa using hi)
  by_cases hc : way = c
  · simp only [exS_ite, evT_eq, ev_cmp, ev_var, ev_lit, he10, varR_some, ok_bind, c_eq, Option.map_some, ofO_some, isTrue_bool, bindF_ok, iteK_eq, hc, decide_true, if_true, exS_cons, exS_nil, exS_asgi, hv, he4, he5, setV_r, hd, Option.bind_some, ix, setF_some, thenF_nx]
    exact hn _ _ _ (hx.set hp) (by simp)
  · simp only [exS_ite, evT_eq, ev_cmp, ev_var, ev_lit, he10, varR_some, ok_bind, c_eq, Option.map_some, ofO_some, isTrue_bool, bindF_ok, iteK_eq, hc, decide_false, exS_nil, Bool.false_eq_true, if_false]
    exact hn _ _ _ hx rfl
def rwz (C : Nat) (h : Int) (r : List Int) : Prop := r.length = C ∧ ∀ x ∈ r, ∃ d, 0 ≤ d ∧ d < h ∧ x = d - h / 2
theorem rwz_ok {h : Int} (h1 : h ≤ 2001) : ∀ r, rwz C h r → rwOk C r := fun r hr => ⟨hr.1, fun x hx => by
  obtain ⟨d, d0, d1, rfl⟩ := hr.2 x hx
  show -1000 ≤ _ ∧ _ ≤ (1000 : Int)
  omega⟩
def q4 (i : Int) : Int := if i = -2 then -1000 else if i = -1 then 1000 else if i = 0 then 0 else 999
def q4D : PyData → PyData
  | .int i => .int (q4 i)
  | x => x
end
end Law

set_option maxHeartbeats 1000000
namespace Law
open PySem SM
section
variable {fu K n p : Nat} {s t u v w : Sto} {b b' : Int} {P Q : List Int → Prop} {rs : List Nat} {f : Nat → List Int} {row : List Int} {R C : Nat} {h : Int}
/-- the rows drawn -/
def TaJ (n R C : Nat) (h b : Int) (s : Sto) (j : Nat) (e : Sl) (v : Sto) : Prop := ∃ (p : Nat) (rs : List Nat) (f : Nat → List Int) (z5 z6 : Option Vl), Tx n (b + 1 + 5 * (j : Int)) s (rwz C h) p rs f v ∧ rs.length = j ∧ e = [some (.r n), some (.d (.int R)), some (.d (.int C)), some (.d (.int h)), some (.r p), z5, z6, none, none, none, none, none, none, none, none]
theorem table_a (hK : 1 ≤ K) (h2 : 2 ≤ h) (h3 : h ≤ 2001) (r5 : R ≤ 5) (c5 : C ≤ 5) (h0 : 0 ≤ b) (hb : b < 2 ^ 57) (x : Xd n (b + 1) s v) {Pr : Vl → Sto → Prop} {Pb Pc : Sl → Sto → Prop} {X : Nat → Vl → Sl → Sto → Prop} :
    Sw (exS (callI tab fu K) fu (.cons (.asg (.var 4) (.lst true .nil))
  (.cons (.forr (.var 5) (.rng1 (.var 1)) (.cons (.expr (.me .append (.var 4) (.cons (.comp true (.bop false .sub (.call i__law_draw (.cons (.var 0) (.cons (.var 3) .nil))) (.bop false .fdiv (.var 3) (.lit (.int 2)))) (.var 6) (.rng1 (.var 2)) .nil [6]) .nil)))
    .nil)) .nil)) [some (.r n), some (.d (.int R)), some (.d (.int C)), some (.d (.int h)), none, none, none, none, none, none, none, none, none, none, none] v) ⟨TaJ n R C h b s R, Pr, Pb, Pc, X⟩ := by
  refine Sw_cut (TaJ n R C h b s 0) ?_ fun e v hJ => ?_
  · simp [mkL_true]
    exact ⟨_, [], fun _ => [], _, _, ⟨(x.more (by omega)).app, Rw.nil.tb, x.len, fun _ z => by cases z⟩, rfl, rfl⟩
  obtain ⟨p, rs, f, z5, z6, hx, hl, he⟩ := id hJ
  refine Sw_cut (TaJ n R C h b s R) ?_ fun e v hJ => by simpa using hJ
  subst he
  simp [show R ≤ 1000000 by omega]
  refine Sw_goR R (TaJ n R C h b s) (fun j hj e v hJ => ?_) (fun e v hJ => hJ) hJ
  obtain ⟨p, rs, f, z5, z6, hx, hl, he⟩ := id hJ
  subst he
  rw [turnS_var]
  simp [meR_r hx.t.hd]
  refine Ok_comp_at (m := true) (fun k t => Tx n (b + 1 + 5 * (j : Int) + k) s (rwz C h) p rs f t) (fun _ y => ∃ i : Int, y = .int i ∧ ∃ d, 0 ≤ d ∧ d < h ∧ i = d - h / 2) (rng1_ok (k := C) (t := v) (by simp) (by omega) (by omega)) (by simp; omega) (by simpa using hx) (fun k hk t xt => ⟨_, rfl, ?_⟩) fun xs t hxl hr xt => ?_
  · have hk : k < C := by simpa using hk
    simp [wipe]
    refine (draw0 (K := K) (m := h) hK xt.x.src (by omega) (by omega) (by omega) (by omega)).imp fun a q ⟨f, d, i, e, i0, i1⟩ => ?_
    subst e
    simp
    exact ⟨xt.fr f (d.mono (by omega)), i0, i1⟩
  · rw [if_pos rfl]
    obtain ⟨is, rfl, hi⟩ := ints_of (P := fun i => ∃ d, 0 ≤ d ∧ d < h ∧ i = d - h / 2) (xs := xs) fun y hy => by
      obtain ⟨k, hk, rfl⟩ := List.mem_iff_getElem.mp hy
      exact hr k hk
    rw [← vI_map]
    simp only [List.length_map, List.length_range, Int.toNat_natCast] at hxl xt
    have ap := app_r (v := .r t.length) (xt.app (w := [some (.lst (is.map vI))])).t.hd (by simp; omega)
    simp [ap]
    refine ⟨p, _, _, _, _, ((xt.add (row := is) ⟨hxl, hi⟩).more (by omega)), by simp [hl], rfl⟩
/-- the changes -/
def TbJ (n R C : Nat) (h b : Int) (s : Sto) (e : Sl) (v : Sto) : Prop := ∃ (p : Nat) (rs : List Nat) (f : Nat → List Int) (z5 z6 z7 z8 z9 z10 z11 z12 z13 z14 : Option Vl), Tx n b s (rwOk C) p rs f v ∧ rs.length = R ∧ e = [some (.r n), some (.d (.int R)), some (.d (.int C)), some (.d (.int h)), some (.r p), z5, z6, z7, z8, z9, z10, z11, z12, z13, z14]
theorem table_b {Ca : Cal} (h3 : h ≤ 2001) (r5 : R ≤ 5) (c5 : C ≤ 5) {e : Sl} (hJ : TaJ n R C h b s R e v) {Pr : Vl → Sto → Prop} {Pb Pc : Sl → Sto → Prop} {X : Nat → Vl → Sl → Sto → Prop} :
    Sw (exS Ca fu (.ite (.cmp .eq (.var 3) (.lit (.int 4))) (.cons (.asg (.var 4) (.comp true (.comp true (.idx (.lst false (.cons (.neg (.lit (.int 1000))) (.cons (.lit (.int 1000)) (.cons (.lit (.int 0)) (.cons (.lit (.int 999)) .nil))))) (.bop false .add (.var 8) (.lit (.int 2)))) (.var 8) (.itv (.var 7)) .nil [8]) (.var 7) (.itv (.var 4)) .nil [7]))
    .nil) .nil) e v) ⟨TbJ n R C h (b + 26) s, Pr, Pb, Pc, X⟩ := by
  obtain ⟨p, rs, f, z5, z6, hx, hl, he⟩ := hJ
  subst he
  by_cases h4 : h = 4
  · subst h4
    simp [evT_eq]
    refine Ok_comp_ref (vs := rs.map Vl.r) (fun i acc w => ∃ rs' f', acc = rs'.map Vl.r ∧ rs'.length = i ∧ Rw (rwOk C) rs' f' w ∧ (∀ r ∈ rs', s.length ≤ r) ∧ Tx n (b + 1 + 5 * (R : Int)) s (rwz C 4) p rs f w) (itr_r (by simp) hx.t.hd) (fun i acc w ⟨_, _, _, _, _, _, h⟩ => h.t.hd) (by simp; omega) ⟨[], f, rfl, rfl, .nil, (fun _ z => nomatch z), hx⟩ (fun i hi acc w ⟨rs', f', ha, hl', hr, hs, hw⟩ => ⟨_, rfl, ?_⟩) (fun xs u ⟨rs', f', ha, hl', _⟩ => by subst ha; simpa using hl') fun xs u ⟨rs', f', ha, hl', hr, hs, hw⟩ => ?_
    · have hi' : i < rs.length := by simpa using hi
      have hm : rs[i] ∈ rs := List.getElem_mem _
      have q := hw.t.rw_.at_ _ hm
      have ok := hw.t.rw_.ok _ hm
      have e1 : (rs.map Vl.r)[i] = .r rs[i] := by simp
      rw [e1]
      have cmp := comp_ref (C := Ca) (s := w) (m := true) (elt := .idx (.lst false (.cons (.neg (.lit (.int 1000))) (.cons (.lit (.int 1000)) (.cons (.lit (.int 0)) (.cons (.lit (.int 999)) .nil))))) (.bop false .add (.var 8) (.lit (.int 2)))) (tg := .var 8) (it := .itv (.var 7)) (own := [8])
        (e := [some (.r n), some (.d (.int R)), some (.d (.int C)), some (.d (.int 4)), some (.r p), z5, z6, some (.r rs[i]), none, none, none, none, none, none, none]) (p := rs[i]) (xs := (f rs[i]).map .int) q4D (itr_r (by simp) q) (by rw [← vI_map]; exact q) (fun y hy => ⟨_, rfl, by
          obtain ⟨z, hz, rfl⟩ := List.mem_map.mp hy
          obtain ⟨d, d0, d1, rfl⟩ := ok.2 z hz
          have hd : d = 0 ∨ d = 1 ∨ d = 2 ∨ d = 3 := by omega
          rcases hd with rfl | rfl | rfl | rfl <;> simp [wipe] <;> rfl⟩)
      have e2 : ((f rs[i]).map PyData.int).map q4D = ((f rs[i]).map q4).map .int := by simp [q4D]
      rw [e2, mkL_true, if_pos (by have := ok.1; simp; omega), ← vI_map] at cmp
      refine Ok.eq cmp ⟨rs' ++ [w.length], upd f' w.length ((f rs[i]).map q4), by simp [ha], by simp [hl'], hr.add ⟨by simpa using ok.1, fun y hy => ?_⟩, fun r hr' => ?_, hw.app⟩
      · obtain ⟨z, hz, rfl⟩ := List.mem_map.mp hy
        unfold q4 inB
        split
        · omega
        · split
          · omega
          · split <;> omega
      · rcases List.mem_append.mp hr' with h | h
        · exact hs r h
        · simp at h; subst h; exact hw.x.len
    · subst ha
      exact ⟨u.length, rs', f', _, _, _, _, _, _, _, _, _, _, ⟨(hw.x.more (by omega)).app, hr.tb, hw.x.len, hs⟩, by simpa [hl] using hl', rfl⟩
  · simp [evT_eq, h4]
    exact ⟨p, rs, f, _, _, _, _, _, _, _, _, _, _, (hx.mono (rwz_ok h3)).more (by omega), hl, rfl⟩
end
end Law

set_option maxHeartbeats 1000000
namespace Law
open PySem SM
section
variable {fu K n p : Nat} {s t u v w : Sto} {b b' : Int} {P Q : List Int → Prop} {rs : List Nat} {f : Nat → List Int} {row : List Int} {R C : Nat} {h : Int}
/-- one change, its numbers drawn -/
def TcJ (n R C : Nat) (h b : Int) (s : Sto) (y : Int) (i k j l : Nat) (d : Int) (e : Sl) (v : Sto) : Prop := ∃ (p : Nat) (rs : List Nat) (f : Nat → List Int) (z7 z8 z9 z14 : Option Vl), Tx n b s (rwOk C) p rs f v ∧ rs.length = R ∧ e = [some (.r n), some (.d (.int R)), some (.d (.int C)), some (.d (.int h)), some (.r p), some (.d (.int i)), some (.d (.int j)), z7, z8, z9, some (.d (.int y)), some (.d (.int k)), some (.d (.int l)), some (.d (.int d)), z14]
theorem tb_row (hx : Tx n b s P p rs f v) {i : Nat} (hi : i < rs.length) : idxV (.r p) (.d (.int (i : Int))) v = some (.r rs[i], v) := by
  rw [idxV_r, hx.t.hd, Option.bind_some, hx.t.atR hi]
  rfl
theorem tb_num (hx : Tx n b s P p rs f v) {r : Nat} (hr : r ∈ rs) {i : Nat} (hi : i < (f r).length) : idxV (.r r) (.d (.int (i : Int))) v = some (vI ((f r).getD i 0), v) := by
  rw [idxV_r, hx.t.rw_.at_ r hr, Option.bind_some, at_vI hi]
  rfl
def lesD (d : Int) : PyData → PyData
  | .int x => .int (max (-1000) (x - d))
  | x => x
theorem table_c {Ca : Cal} (r5 : R ≤ 5) (c1 : 1 ≤ C) (c5 : C ≤ 5) {y d : Int} {i k j l : Nat} {e : Sl} (hi : i < R) (hk : k < R) (hj : j < C) (hl : l < C) (d0 : 0 ≤ d) (d3 : d < 3) (hJ : TcJ n R C h b s y i k j l d e v) {Pr : Vl → Sto → Prop} {Pb Pc : Sl → Sto → Prop} {X : Nat → Vl → Sl → Sto → Prop} :
    Sw (exS Ca fu (.cons (.ite (.cmp .eq (.var 10) (.lit (.int 0))) (.cons (.asg (.idx (.var 4) (.var 5)) (.bi true .list (.cons (.idx (.var 4) (.var 11)) .nil)))
      .nil) .nil)
    (.cons (.ite (.cmp .eq (.var 10) (.lit (.int 1))) (.cons (.forr (.var 7) (.itv (.var 4)) (.cons (.asg (.idx (.var 7) (.var 6)) (.idx (.var 7) (.var 12)))
        .nil))
      .nil) .nil)
    (.cons (.ite (.cmp .eq (.var 10) (.lit (.int 2))) (.cons (.asg (.idx (.var 4) (.var 5)) (.rep true (.cons (.idx (.idx (.var 4) (.var 5)) (.var 6)) .nil) (.var 2)))
      .nil) .nil)
    (.cons (.ite (.cmp .eq (.var 10) (.lit (.int 3))) (.cons (.asg (.idx (.var 4) (.var 5)) (.comp true (.bi false .max (.cons (.neg (.lit (.int 1000))) (.cons (.bop false .sub (.var 8) (.var 13)) .nil))) (.var 8) (.itv (.idx (.var 4) (.var 11))) .nil [8]))
      .nil) .nil)
    (.cons (.ite (.cmp .eq (.var 10) (.lit (.int 4))) (.cons (.asg (.idx (.var 4) (.var 5)) (.comp true (.bop false .fdiv (.bop false .add (.idx (.idx (.var 4) (.var 5)) (.var 14)) (.idx (.idx (.var 4) (.var 11)) (.var 14))) (.lit (.int 2))) (.var 14) (.rng1 (.var 2)) .nil [14]))
      .nil) .nil)
    .nil))))) e v) ⟨TcJ n R C h b s y i k j l d, Pr, Pb, Pc, X⟩ := by
  refine Sw_cut (TcJ n R C h b s y i k j l d) ?_ fun e v hJ => ?_
  · obtain ⟨p, rs, f, z7, z8, z9, z14, hx, rl, he⟩ := hJ
    have hm : rs[k] ∈ rs := List.getElem_mem _
    have q := hx.t.rw_.at_ _ hm
    have ok := hx.t.rw_.ok _ hm
    have w := w_list_rm q (by have := ok.1; simp; omega)
    have g := tb_row hx (i := k) (by omega)
    subst he
    refine ite_row (row := f rs[k]) hx rfl rfl rfl (by omega) (by simp [-idxV_r, g, w]) ok fun rs' f' t hx' hl' => ⟨p, rs', f', _, _, _, _, hx', by omega, rfl⟩
  refine Sw_cut (TcJ n R C h b s y i k j l d) ?_ fun e v hJ => ?_
  · obtain ⟨p, rs, f, z7, z8, z9, z14, hx, rl, he⟩ := hJ
    subst he
    by_cases hy : y = 1
    · simp only [exS_ite, evT_eq, ev_cmp, ev_var, ev_lit, List.getElem?_cons_succ, List.getElem?_cons_zero, varR_some, ok_bind, c_eq, Option.map_some, ofO_some, isTrue_bool, bindF_ok, iteK_eq, hy, decide_true, if_true]
      refine Sw_cut (fun e w => ∃ f' z7, Tx n b s (rwOk C) p rs f' w ∧ e = [some (.r n), some (.d (.int R)), some (.d (.int C)), some (.d (.int h)), some (.r p), some (.d (.int i)), some (.d (.int j)), z7, z8, z9, some (.d (.int y)), some (.d (.int k)), some (.d (.int l)), some (.d (.int d)), z14]) ?_ fun e w ⟨f', z7, hw, he⟩ => by
        subst he
        rw [← hy, exS_nil]
        exact ⟨p, rs, f', _, _, _, _, hw, rl, rfl⟩
      refine Sw_for_ref (vs := rs.map Vl.r) (fun _ e w => ∃ f' z7, Tx n b s (rwOk C) p rs f' w ∧ e = [some (.r n), some (.d (.int R)), some (.d (.int C)), some (.d (.int h)), some (.r p), some (.d (.int i)), some (.d (.int j)), z7, z8, z9, some (.d (.int y)), some (.d (.int k)), some (.d (.int l)), some (.d (.int d)), z14])
        (itr_r (by simp) hx.t.hd) (fun _ _ _ ⟨_, _, h, _⟩ => h.t.hd) ⟨f, z7, hx, by rw [hy]⟩ (fun jj hjj e w ⟨f', z7, hw, he⟩ => ?_) (fun e w h => h)
      have hjj' : jj < rs.length := by simpa using hjj
      have hm : rs[jj] ∈ rs := List.getElem_mem _
      have ok := hw.t.rw_.ok _ hm
      have g := tb_num hw hm (i := l) (by have := ok.1; omega)
      have q := hw.t.rw_.at_ _ hm
      have ix : L2.ixN (f' rs[jj]).length (j : Int) = some j := ixN_nat (by have := ok.1; omega)
      have e1 : (rs.map Vl.r)[jj] = .r rs[jj] := by simp
      subst he
      rw [e1, turnS_var]
      simp [-List.getD_eq_getElem?_getD, -idxV_r, g, q, ix]
      have hp : rwOk C ((f' rs[jj]).set j ((f' rs[jj]).getD l 0)) := ⟨by rw [List.length_set]; exact ok.1, fun z hz => by
        rcases List.mem_or_eq_of_mem_set hz with h1 | rfl
        · exact ok.2 z h1
        · exact ok.2 _ (SM.getD_mem (by have := ok.1; omega))⟩
      have hx' := hw.put hm hp
      rw [List.map_set] at hx'
      exact ⟨_, hx'⟩
    · simp [evT_eq, hy]
      exact ⟨p, rs, f, _, _, _, _, hx, rl, rfl⟩
  refine Sw_cut (TcJ n R C h b s y i k j l d) ?_ fun e v hJ => ?_
  · obtain ⟨p, rs, f, z7, z8, z9, z14, hx, rl, he⟩ := hJ
    have hm : rs[i] ∈ rs := List.getElem_mem _
    have ok := hx.t.rw_.ok _ hm
    have g := tb_row hx (i := i) (by omega)
    have g2 := tb_num hx hm (i := j) (by have := ok.1; omega)
    subst he
    refine ite_row (row := List.replicate C ((f rs[i]).getD j 0)) hx rfl rfl rfl (by omega) ?_ ⟨by simp, fun z hz => ?_⟩ fun rs' f' t hx' hl' => ⟨p, rs', f', _, _, _, _, hx', by omega, rfl⟩
    · have c1000 : (0 : Int) ≤ (C : Int) ∧ (C : Int) ≤ 1000 := by omega
      simp [-List.getD_eq_getElem?_getD, -idxV_r, g, g2, c1000, mkL_true, show C ≤ 16777216 by omega, show C ≤ 1000 by omega]
    · have := (List.mem_replicate.mp hz).2
      subst this
      exact ok.2 _ (SM.getD_mem (by have := ok.1; omega))
  refine Sw_cut (TcJ n R C h b s y i k j l d) ?_ fun e v hJ => ?_
  · obtain ⟨p, rs, f, z7, z8, z9, z14, hx, rl, he⟩ := hJ
    have hm : rs[k] ∈ rs := List.getElem_mem _
    have q := hx.t.rw_.at_ _ hm
    have ok := hx.t.rw_.ok _ hm
    have g := tb_row hx (i := k) (by omega)
    subst he
    refine ite_row (row := (f rs[k]).map fun x => max (-1000) (x - d)) hx rfl rfl rfl (by omega) ?_ ⟨by simpa using ok.1, fun z hz => ?_⟩ fun rs' f' t hx' hl' => ⟨p, rs', f', _, _, _, _, hx', by omega, rfl⟩
    · have cmp := comp_ref (C := Ca) (s := v) (m := true) (elt := .bi false .max (.cons (.neg (.lit (.int 1000))) (.cons (.bop false .sub (.var 8) (.var 13)) .nil))) (tg := .var 8) (it := .itv (.idx (.var 4) (.var 11))) (own := [8])
        (e := [some (.r n), some (.d (.int R)), some (.d (.int C)), some (.d (.int h)), some (.r p), some (.d (.int i)), some (.d (.int j)), z7, z8, z9, some (.d (.int y)), some (.d (.int k)), some (.d (.int l)), some (.d (.int d)), z14]) (p := rs[k]) (xs := (f rs[k]).map .int) (lesD d) (itr_r (by simp [-idxV_r, g]) q) (by rw [← vI_map]; exact q) (fun y hy => ⟨_, rfl, by
          obtain ⟨z, hz, rfl⟩ := List.mem_map.mp hy
          simp [wipe, lesD]⟩)
      rw [cmp]
      have e2 : ((f rs[k]).map PyData.int).map (lesD d) = ((f rs[k]).map fun x => max (-1000) (x - d)).map .int := by simp [lesD]
      rw [e2, mkL_true, if_pos (by have := ok.1; simp; omega), ← vI_map]
      rfl
    · obtain ⟨z, hz3, rfl⟩ := List.mem_map.mp hz
      have := ok.2 z hz3
      unfold inB at this ⊢
      omega
  refine Sw_cut (TcJ n R C h b s y i k j l d) ?_ fun e v hJ => by simpa using hJ
  · obtain ⟨p, rs, f, z7, z8, z9, z14, hx, rl, he⟩ := hJ
    have hm : rs[i] ∈ rs := List.getElem_mem _
    have hm2 : rs[k] ∈ rs := List.getElem_mem _
    have ok := hx.t.rw_.ok _ hm
    have ok2 := hx.t.rw_.ok _ hm2
    have g := tb_row hx (i := i) (by omega)
    have g2 := tb_row hx (i := k) (by omega)
    subst he
    refine ite_row (row := (List.range C).map fun a => ((f rs[i]).getD a 0 + (f rs[k]).getD a 0) / 2) hx rfl rfl rfl (by omega) ?_ ⟨by simp, fun z hz => ?_⟩ fun rs' f' t hx' hl' => ⟨p, rs', f', _, _, _, _, hx', by omega, rfl⟩
    · refine Ok_one (Ok_comp_at (m := true) (fun _ t => t = v) (fun a x => x = .int (((f rs[i]).getD a 0 + (f rs[k]).getD a 0) / 2)) (rng1_ok (k := C) (t := v) (by simp) (by omega) (by omega)) (by simp; omega) rfl (fun a ha t ht => ⟨_, rfl, ?_⟩) fun xs t hxl hr ht => ?_)
      · have ha : a < C := by simpa using ha
        subst ht
        have g3 := tb_num hx hm (i := a) (by have := ok.1; omega)
        have g4 := tb_num hx hm2 (i := a) (by have := ok2.1; omega)
        simp [-List.getD_eq_getElem?_getD, -idxV_r, wipe, g, g2, g3, g4, vI]
      · subst ht
        rw [if_pos rfl]
        have e3 : xs = ((List.range C).map fun a => ((f rs[i]).getD a 0 + (f rs[k]).getD a 0) / 2).map .int := by
          apply List.ext_getElem
          · simpa using hxl
          · intro a h1 h2
            rw [hr a h1]
            simp
        rw [e3, ← vI_map]
        exact ⟨rfl, rfl⟩
    · obtain ⟨a, ha, rfl⟩ := List.mem_map.mp hz
      have ha : a < C := by simpa using ha
      have h1 := ok.2 _ (SM.getD_mem (i := a) (d := 0) (by have := ok.1; omega))
      have h2 := ok2.2 _ (SM.getD_mem (i := a) (d := 0) (by have := ok2.1; omega))
      unfold inB at h1 h2 ⊢
      omega
end
end Law

set_option maxHeartbeats 1000000
namespace Law
open PySem SM
section
variable {fu K n p : Nat} {s t u v w : Sto} {b b' : Int} {P Q : List Int → Prop} {rs : List Nat} {f : Nat → List Int} {row : List Int} {R C : Nat} {h : Int}
def TdJ (n R C : Nat) (h b q : Int) (s : Sto) (p : Nat) (rs : List Nat) (f : Nat → List Int) (z7 z8 z14 : Option Vl) (e : Sl) (w : Sto) : Prop := ∃ (y : Int) (i k : Nat) (z6 z12 z13 : Option Vl), i < R ∧ k < R ∧ Tx n b s (rwOk C) p rs f w ∧ e = [some (.r n), some (.d (.int R)), some (.d (.int C)), some (.d (.int h)), some (.r p), some (.d (.int i)), z6, z7, z8, some (.d (.int q)), some (.d (.int y)), some (.d (.int k)), z12, z13, z14]
def TeJ (n R C : Nat) (h b : Int) (s : Sto) (y : Int) (i k : Nat) (e : Sl) (w : Sto) : Prop := ∃ (j l : Nat) (d : Int), j < C ∧ l < C ∧ 0 ≤ d ∧ d < 3 ∧ TcJ n R C h b s y i k j l d e w
def TbQ (n : Nat) (b : Int) (R C : Nat) (s : Sto) (v : Vl) (t : Sto) : Prop := Fr n s t ∧ Dk n b t ∧ ∃ T : List (List Int), v = .d (.list (T.map lsD)) ∧ T.length = R ∧ ∀ r ∈ T, rwOk C r
theorem table_ok (hK : 2 ≤ K) (r1 : 1 ≤ R) (r5 : R ≤ 5) (c1 : 1 ≤ C) (c5 : C ≤ 5) (h0 : 0 ≤ b) (hb : b < 2 ^ 56) (hs : Dk n b s) : Ok (callI tab fu K i__law_table [.r n, .d (.int R), .d (.int C)] s) (TbQ n (b + 45) R C s) nX := by
  obtain ⟨K, rfl⟩ : ∃ k, K = k + 1 := ⟨K - 1, by omega⟩
  refine Ok_call (F := d__law_table) rfl rfl ?_
  simp only [d__law_table, b__law_table]
  refine Sw_cut (fun e v => ∃ h : Int, 2 ≤ h ∧ h ≤ 2001 ∧ Xd n (b + 1) s v ∧ e = [some (.r n), some (.d (.int R)), some (.d (.int C)), some (.d (.int h)), none, none, none, none, none, none, none, none, none, none, none]) ?_ fun e v ⟨h, h2, h3, x, he⟩ => ?_
  · simp
    refine (draw0 (K := K) (by omega) hs h0 (by omega) (by decide) (by decide)).imp fun a t ⟨f, d, i, e, i0, i1⟩ => ?_
    subst e
    have x := (Xd.refl hs).fr f d
    have hi : i = 0 ∨ i = 1 ∨ i = 2 ∨ i = 3 ∨ i = 4 ∨ i = 5 ∨ i = 6 ∨ i = 7 := by omega
    rcases hi with rfl | rfl | rfl | rfl | rfl | rfl | rfl | rfl
    all_goals
      simp
      refine ⟨_, ?_, ?_, x, rfl⟩ <;> omega
  subst he
  have ta := table_a (fu := fu) (K := K) (by omega) h2 h3 r5 c5 h0 (by omega) x (R := R) (C := C) (Pr := fun v t => Lv s v t (TbQ n (b + 45) R C s)) (Pb := fun _ _ => False) (Pc := fun _ _ => False) (X := fun c v _ s => nX c v s)
  refine Sw_two ta fun e v hJ => ?_
  refine Sw_cut (TbJ n R C h (b + 26) s) (table_b h3 r5 c5 hJ) fun e v hJ => ?_
  refine Sw_cut (TbJ n R C h (b + 45) s) ?_ fun e v hJ => ?_
  · obtain ⟨p, rs, f, z5, z6, z7, z8, z9, z10, z11, z12, z13, z14, hx, hl, he⟩ := hJ
    subst he
    simp
    refine (draw0 (K := K) (by omega) hx.x.src (by omega) (by omega) (by decide) (by decide)).imp fun a t ⟨fr, dk, i, e, i0, i1⟩ => ?_
    subst e
    simp [rng_int i0 (by omega)]
    refine Sw_goR i.toNat (fun q e v => TbJ n R C h (b + 27 + 6 * (q : Int)) s e v) (fun q hq e v hJ => ?_) (fun e v hJ => ?fin) ⟨p, rs, f, _, _, _, _, _, _, _, _, _, _, (hx.fr fr dk).more (by omega), hl, rfl⟩
    case fin =>
      obtain ⟨p, rs, f, z5, z6, z7, z8, z9, z10, z11, z12, z13, z14, hx, hl, he⟩ := hJ
      exact ⟨p, rs, f, z5, z6, z7, z8, z9, z10, z11, z12, z13, z14, hx.more (by omega), hl, he⟩
    obtain ⟨p, rs, f, z5, z6, z7, z8, z9, z10, z11, z12, z13, z14, hx, hl, he⟩ := hJ
    subst he
    rw [turnS_var]
    simp only [List.set_cons_succ, List.set_cons_zero]
    refine Sw_cut (TdJ n R C h (b + 27 + 6 * (q : Int) + 3) q s p rs f z7 z8 z14) ?_ fun e w ⟨y, i, k, z6, z12, z13, hi, hk, hx, he⟩ => ?_
    · simp
      refine (draw0 (K := K) (by omega) hx.x.src (by omega) (by omega) (by decide) (by decide)).imp fun a t ⟨f1, d1, y, e, y0, y1⟩ => ?_
      subst e
      simp
      refine (draw0 (K := K) (m := R) (by omega) d1 (by omega) (by omega) (by omega) (by omega)).imp fun a t ⟨f2, d2, i, e, i0, i1⟩ => ?_
      subst e
      simp
      refine (draw0 (K := K) (m := R) (by omega) d2 (by omega) (by omega) (by omega) (by omega)).imp fun a t ⟨f3, d3, k, e, k0, k1⟩ => ?_
      subst e
      simp [setTgV, setTg, setTg.setTgs]
      exact ⟨y, i.toNat, k.toNat, z6, z12, z13, by omega, by omega, hx.fr ((f1.trans f2).trans f3) (d3.mono (by omega)), by rw [Int.toNat_of_nonneg i0, Int.toNat_of_nonneg k0]⟩
    subst he
    refine Sw_cut (TeJ n R C h (b + 27 + 6 * (q : Int) + 6) s y i k) ?_ fun e w ⟨j, l, d, hj, hl2, d0, d3, hJ⟩ => ?_
    · simp
      refine (draw0 (K := K) (m := C) (by omega) hx.x.src (by omega) (by omega) (by omega) (by omega)).imp fun a t ⟨f1, d1, j, e, j0, j1⟩ => ?_
      subst e
      simp
      refine (draw0 (K := K) (m := C) (by omega) d1 (by omega) (by omega) (by omega) (by omega)).imp fun a t ⟨f2, d2, l, e, l0, l1⟩ => ?_
      subst e
      simp
      refine (draw0 (K := K) (m := 3) (by omega) d2 (by omega) (by omega) (by omega) (by omega)).imp fun a t ⟨f3, d3, d, e, d0, dd⟩ => ?_
      subst e
      simp [setTgV, setTg, setTg.setTgs]
      exact ⟨j.toNat, l.toNat, d, by omega, by omega, d0, dd, p, rs, f, _, _, _, _, hx.fr ((f1.trans f2).trans f3) (d3.mono (by omega)), hl, by rw [Int.toNat_of_nonneg j0, Int.toNat_of_nonneg l0]⟩
    refine (table_c r5 c1 c5 hi hk hj hl2 d0 d3 hJ (Pr := fun v t => Lv s v t (TbQ n (b + 45) R C s)) (Pb := TbJ n R C h (b + 45) s) (Pc := fun e v => TbJ n R C h (b + 27 + 6 * ((q + 1 : Nat) : Int)) s e v) (X := fun c v _ s => nX c v s)).mono (fun e v ⟨p, rs, f, z7, z8, z9, z14, hx, hl, he⟩ => ⟨p, rs, f, _, _, _, _, _, _, _, _, _, _, hx.more (by omega), hl, he⟩) (fun _ _ h => h) (fun _ _ h => h) (fun _ _ h => h) fun _ _ _ _ h => h
  obtain ⟨p, rs, f, z5, z6, z7, z8, z9, z10, z11, z12, z13, z14, hx, hl, he⟩ := hJ
  subst he
  obtain ⟨t, e, l, a⟩ := hx.t.frz
  simp [e]
  have k : Xd n (b + 45) s t := hx.x.eq l fun j hj => a j (by have := hx.pp; omega) fun z => by have := hx.rr j z; omega
  refine k.lv ⟨k.take.1, k.take.2, rs.map f, ?_, by simpa using hl, fun r hr => ?_⟩
  · simp [lsD]
  · obtain ⟨q, hq, rfl⟩ := List.mem_map.mp hr
    exact hx.t.rw_.ok q hq
end
end Law

set_option maxHeartbeats 1000000
namespace Law
open PySem SM
section
variable {fu K n : Nat} {s t u : Sto} {b : Int}
theorem cps_ok (x : String) : ((Str.ofString x).cps.toList.all fun c => decide (c < 16 ^ 8)) = true := by
  rw [Str.ofString_eq_toList]
  simp only [List.all_map, List.all_eq_true, Function.comp, decide_eq_true_eq]
  intro c _
  have h : c.toNat < 4294967296 := c.val.toNat_lt
  exact h
theorem tup_list {b N D : Nat} {xs : List PyData} (h : Pl b N D (.tuple xs)) (hb : b ≤ 1900) : Rp N D (.list xs) := by
  have h1 := plB_ok hb h.pl
  exact ⟨h1.1, h.bk, h.dp, .inl h1.2.1⟩
theorem list_one {b N D : Nat} {x : PyData} (h : Pl b N D x) (hb : b ≤ 1900) : Rp (N + 1) (D + 1) (.list [x]) := by
  have h1 := plB_ok hb h.pl
  refine ⟨by simp [okB, okBs, h1.1], ?_, ?_, .inl ?_⟩
  · have := h.bk
    show PyData.bulkAll [x] ≤ N + 1
    simp only [PyData.bulkAll]
    omega
  · have := h.dp
    show PyData.depthAll [x] + 1 ≤ D + 1
    simp only [PyData.depthAll]
    omega
  · show PyData.hasDictAll [x] = false
    simp [PyData.hasDictAll, h1.2.1]
theorem tup_one {b N D : Nat} {x : PyData} (h : Pl b N D x) : Pl b (N + 1) (D + 1) (.tuple [x]) := by
  have := Pl.tup (L := 1) (xs := [x]) (fun y hy => by simp at hy; subst hy; exact h) (by simp)
  exact this.mono (Nat.le_refl _) (by omega) (Nat.le_refl _)
/-- twice: the ints doubled -/
def dbl : PyData → PyData
  | .int i => .int (2 * i)
  | x => x
theorem dbl_pl {b N D : Nat} {x : PyData} (h : Pl b N D x) : Pl (b + 1) N D (dbl x) := by
  obtain ⟨h1, h2, h3⟩ := h
  cases x with
  | int i =>
    refine ((Pl.int (b := b + 1) ?_).mono (Nat.le_refl _) (Nat.zero_le _) (Nat.zero_le _))
    simp only [plB, decide_eq_true_eq] at h1
    have : (2 * i).natAbs = i.natAbs * 2 := by omega
    rw [Nat.pow_succ, this]
    omega
  | tuple xs => exact ((Pl.mk h1 h2 h3).mono (Nat.le_succ _) (Nat.le_refl _) (Nat.le_refl _))
  | _ => cases h1
theorem dbls_pl {b N D : Nat} {xs : List PyData} (h : Pl b N D (.tuple xs)) : Pl (b + 1) N D (.tuple (xs.map dbl)) := by
  have hb : ∀ xs : List PyData, plBs b xs = true → PyData.bulkAll (xs.map dbl) ≤ PyData.bulkAll xs := fun xs => by
    induction xs with
    | nil => simp [PyData.bulkAll]
    | cons x xs ih =>
      intro hp
      simp only [plBs, Bool.and_eq_true] at hp
      have h1 := ih hp.2
      have h2 := (dbl_pl (Pl.mk hp.1 (Nat.le_refl _) (Nat.le_refl _))).bk
      simp only [List.map_cons, PyData.bulkAll]
      omega
  refine ⟨plBs_all.mpr fun y hy => ?_, Nat.le_trans (hb xs h.pl) h.bk, ?_⟩
  · obtain ⟨x, hx, rfl⟩ := List.mem_map.mp hy
    exact (dbl_pl (h.items x hx)).pl
  · have h2 : PyData.depthAll xs + 1 ≤ D := h.dp
    refine Nat.le_trans (Nat.succ_le_succ (depth_le (D := PyData.depthAll xs).mpr fun y hy => ?_)) h2
    obtain ⟨x, hx, rfl⟩ := List.mem_map.mp hy
    have hp := plBs_all.mp h.pl x hx
    exact (dbl_pl (Pl.mk hp (Nat.le_refl _) (depth_le.mp (Nat.le_refl _) x hx))).dp
/-- an odd value -/
def OdQ (n : Nat) (b : Int) (N D : Nat) (s : Sto) (v : Vl) (t : Sto) : Prop := Fr n s t ∧ Dk n b t ∧ ∃ y, v = .d y ∧ Rp N D y
theorem OdQ.lv {b b' : Int} {N D N' D' : Nat} {v : Vl} (h : OdQ n b N D s v t) (hb : b ≤ b') (hN : N ≤ N') (hD : D ≤ D') : Lv s v t (OdQ n b' N' D' s) := by
  obtain ⟨f, d, y, rfl, r⟩ := h
  exact Lv_len f.1 ⟨f, d.mono hb, y, rfl, r.mono hN hD⟩
theorem odd_ok {N D : Nat} {x : PyData} (hK : 2 ≤ K) (hs : Dk n b s) (h0 : 0 ≤ b) (hb : b < 2 ^ 58) (hx : Pl 1500 N D x) (hN : N ≤ 900) : Ok (callI tab fu K i__law_odd [.r n, .d x] s) (OdQ n (b + 2) (6 * N + 2000) (D + 5) s) nX := by
  obtain ⟨K, rfl⟩ : ∃ k, K = k + 1 := ⟨K - 1, by omega⟩
  refine Ok_call (F := d__law_odd) rfl rfl ?_
  simp [d__law_odd, b__law_odd, evT_eq, bin_pow q10_30]
  refine (draw0 (K := K) (m := 3) (by omega) hs h0 (by omega) (by decide) (by decide)).imp fun v t ⟨m, dk, i, e, i0, i1⟩ => ?_
  subst e
  have fixd : ∀ (j : Int), 0 ≤ j → j < 16 → ∃ y ∈ fixedE, L2.atI fixedE j = some y := fun j j0 j1 => atI_mem j0 j1
  by_cases hi : i = 0
  · simp [hi]
    refine (draw0 (K := K) (m := 16) (by omega) dk (by omega) (by omega) (by decide) (by decide)).imp fun v t ⟨m2, d2, j, e, j0, j1⟩ => ?_
    subst e
    obtain ⟨y, hy, he⟩ := fixd j j0 j1
    unfold fixedE at he
    simp [he]
    exact Lv_len (m.trans m2).1 ⟨m.trans m2, d2.mono (by omega), y, rfl, (fixedE_ok y hy).mono (by omega) (by omega)⟩
  simp [hi]
  cases x with
  | int i =>
    simp
    have hi : i.natAbs < 2 ^ 1500 := by simpa [plB] using hx.pl
    have hl : (i % 1000).natAbs.log2 < 1920 := log2_1920 (Nat.lt_of_lt_of_le (show (i % 1000).natAbs < 2 ^ 10 by omega) (Nat.pow_le_pow_right (by decide) (by decide)))
    simp [hl]
    refine (draw0 (K := K) (m := 9) (by omega) dk (by omega) (by omega) (by decide) (by decide)).imp fun v t ⟨m2, d2, j, e, j0, j1⟩ => ?_
    subst e
    simp
    refine Ok_atI j0 (by simpa using j1) fun y hy => Lv_len (m.trans m2).1 ⟨m.trans m2, d2.mono (by omega), y, rfl, ?_⟩
    have h1 : ∀ k : Int, k.natAbs ≤ i.natAbs * 2 + 3000 → Pl 1900 0 0 (.int k) := fun k hk => .int (by
      have e : (2 : Nat) ^ 1900 = 2 ^ 1500 * 2 ^ 400 := by rw [← Nat.pow_add]
      have e2 : (2 : Nat) ^ 1500 * 4000 ≤ 2 ^ 1500 * 2 ^ 400 := Nat.mul_le_mul_left _ (by decide)
      have e3 : (1 : Nat) ≤ 2 ^ 1500 := Nat.pow_pos (by decide)
      generalize (2 : Nat) ^ 1500 = A at *
      generalize (2 : Nat) ^ 1900 = B at *
      omega)
    have h2 : ∀ k : Int, k.natAbs ≤ i.natAbs * 2 + 3000 → Rp (6 * N + 2000) (D + 5) (.int k) := fun k hk => ((h1 k hk).rp (Nat.le_refl _)).mono (Nat.zero_le _) (Nat.zero_le _)
    simp only [List.mem_cons, List.not_mem_nil, or_false] at hy
    rcases hy with rfl | rfl | rfl | rfl | rfl | rfl | rfl | rfl | rfl
    · exact h2 _ (by omega)
    · exact h2 _ (by omega)
    · exact h2 _ (by omega)
    · exact h2 _ (by omega)
    · exact ((tup_one (h1 i (by omega))).rp (Nat.le_refl _)).mono (by omega) (by omega)
    · exact (list_one (h1 i (by omega)) (Nat.le_refl _)).mono (by omega) (by omega)
    · exact ⟨cps_ok _, by
        show (Str.ofString (toString (i % 1000))).length ≤ _
        rw [ofString_length]
        have := int_text_length_le (a := i % 1000) (k := 1920) (by decide) hl
        omega, Nat.zero_le _, .inl rfl⟩
    · exact ⟨rfl, Nat.zero_le _, Nat.zero_le _, .inl rfl⟩
    · exact h2 _ (by omega)
  | tuple xs =>
    have hlen : xs.length ≤ 900 := Nat.le_trans (len_bulk xs) (Nat.le_trans hx.bk hN)
    simp
    refine (Ok.eq (a := .d (.list (xs.map dbl))) (s := t) (comp_map dbl (itv_t rfl) (by omega) fun y hy => ⟨_, rfl, ?_⟩) ?_)
    · have := (hx.items y hy).pl
      cases y with
      | int i => simp [wipe, dbl, evT_eq]
      | tuple ys => simp [wipe, dbl, evT_eq]
      | _ => cases this
    have c1 : ∀ lo hi, (cutL xs lo hi).length ≤ xs.length := fun lo hi => (cut_sub xs lo hi).length_le
    have c2 := c1 (some (-1)) none
    simp [show xs.length ≤ 16777216 by omega, show xs.length ≤ 1000 by omega, show xs.length + (cutL xs (some (-1)) none).length ≤ 16777216 by omega]
    refine (draw0 (K := K) (m := 9) (by omega) dk (by omega) (by omega) (by decide) (by decide)).imp fun v t ⟨m2, d2, j, e, j0, j1⟩ => ?_
    subst e
    simp
    refine Ok_atI j0 (by simpa using j1) fun y hy => Lv_len (m.trans m2).1 ⟨m.trans m2, d2.mono (by omega), y, rfl, ?_⟩
    have hs : ∀ lo hi, Pl 1500 N D (.tuple (cutL xs lo hi)) := fun lo hi => hx.sub (cut_sub xs lo hi)
    simp only [List.mem_cons, List.not_mem_nil, or_false] at hy
    have b1 : 1500 ≤ 1900 := by decide
    rcases hy with rfl | rfl | rfl | rfl | rfl | rfl | rfl | rfl | rfl
    · exact (tup_list hx b1).mono (by omega) (by omega)
    · exact ((hs _ _).rp b1).mono (by omega) (by omega)
    · exact ((hx.app (hs _ _)).rp b1).mono (by omega) (by omega)
    · exact ((hx.perm (List.reverse_perm xs)).rp b1).mono (by omega) (by omega)
    · exact ((tup_one hx).rp b1).mono (by omega) (by omega)
    · exact ((hx.app (hx.app (hx.app (hx.app (hx.app hx))))).rp b1).mono (by omega) (by omega)
    · exact (list_one hx b1).mono (by omega) (by omega)
    · exact ((dbls_pl hx).rp (by decide)).mono (by omega) (by omega)
    · exact ((dbls_pl hx).rp (by decide)).mono (by omega) (by omega)
  | _ => cases hx.pl
end
end Law

set_option maxHeartbeats 1000000
namespace Law
open PySem SM
section
variable {fu K n : Nat} {s t u : Sto} {b : Int}
theorem bent_rp {N D N' D' : Nat} {as bs : List PyData} {x y : PyData} (hx : Pl 1500 N D (.tuple (as ++ x :: bs))) (hy : Rp N' D' y) : Rp (N - x.bulk + N') (max D (D' + 1)) (.tuple (as ++ y :: bs)) := by
  have hp := plBs_all.mp hx.pl
  have ha := plBs_ok (b := 1500) (by decide) (plBs_all.mpr fun z hz => hp z (List.mem_append_left _ hz))
  have hb := plBs_ok (b := 1500) (by decide) (plBs_all.mpr fun z hz => hp z (List.mem_append_right _ (List.mem_cons_of_mem _ hz)))
  have hbk : PyData.bulkAll (as ++ x :: bs) ≤ N := hx.bk
  have hdp : PyData.depthAll (as ++ x :: bs) + 1 ≤ D := hx.dp
  rw [bulk_app] at hbk
  rw [depth_app] at hdp
  simp only [PyData.bulkAll, PyData.depthAll] at hbk hdp
  have hyb := hy.bk
  have hyd := hy.dp
  refine ⟨okBs_all.mpr fun z hz => ?_, ?_, ?_, ?_⟩
  · rcases List.mem_append.mp hz with h | h
    · exact okBs_all.mp ha.1 z h
    · rcases List.mem_cons.mp h with rfl | h
      · exact hy.ok
      · exact okBs_all.mp hb.1 z h
  · show PyData.bulkAll _ ≤ _
    rw [bulk_app]
    simp only [PyData.bulkAll]
    omega
  · show PyData.depthAll _ + 1 ≤ _
    rw [depth_app]
    simp only [PyData.depthAll]
    omega
  · rcases hy.hd with h | h
    · refine .inl (noDicts_all.mpr fun z hz => ?_)
      rcases List.mem_append.mp hz with h' | h'
      · exact noDicts_all.mp ha.2.1 z h'
      · rcases List.mem_cons.mp h' with rfl | h'
        · exact h
        · exact noDicts_all.mp hb.2.1 z h'
    · refine .inr (noLsts_all.mpr fun z hz => ?_)
      rcases List.mem_append.mp hz with h' | h'
      · exact noLsts_all.mp ha.2.2 z h'
      · rcases List.mem_cons.mp h' with rfl | h'
        · exact h
        · exact noLsts_all.mp hb.2.2 z h'
theorem bent_ok : ∀ (D : Nat) {N K : Nat} {s : Sto} {b : Int} {x : PyData}, D + 3 ≤ K → Dk n b s → 0 ≤ b → b + 2 * D < 2 ^ 57 → Pl 1500 N D x → N ≤ 900 → Ok (callI tab fu K i__law_bent [.r n, .d x] s) (OdQ n (b + 2 * D + 3) (7 * N + 2000) (D + 5) s) nX := by
  intro D
  induction D with
  | zero =>
    intro N K s b x hK hs h0 hb hx hN
    obtain ⟨K, rfl⟩ : ∃ k, K = k + 1 := ⟨K - 1, by omega⟩
    refine Ok_call (F := d__law_bent) rfl rfl ?_
    simp [d__law_bent, b__law_bent, evT_eq]
    cases x with
    | int i =>
      simp
      exact (odd_ok (by omega) hs h0 (by omega) hx hN).imp fun v t q => q.lv (by omega) (by omega) (by omega)
    | tuple xs => exact absurd hx.dp (by show ¬ PyData.depthAll xs + 1 ≤ 0; omega)
    | _ => cases hx.pl
  | succ D ih =>
    intro N K s b x hK hs h0 hb hx hN
    obtain ⟨K, rfl⟩ : ∃ k, K = k + 1 := ⟨K - 1, by omega⟩
    refine Ok_call (F := d__law_bent) rfl rfl ?_
    simp [d__law_bent, b__law_bent, evT_eq]
    cases x with
    | int i =>
      simp
      exact (odd_ok (by omega) hs h0 (by omega) hx hN).imp fun v t q => q.lv (by omega) (by omega) (by omega)
    | tuple xs =>
      have hodd : ∀ t, Fr n s t → Dk n (b + 1) t → Ok (callI tab fu K i__law_odd [.r n, .d (.tuple xs)] t) (fun v t => Lv s v t (OdQ n (b + 2 * ((D + 1 : Nat) : Int) + 3) (7 * N + 2000) (D + 1 + 5) s)) nX := fun t m d =>
        (odd_ok (by omega) d (by omega) (by omega) hx hN).imp fun v t ⟨m2, d2, y, e, r⟩ => by
          subst e
          exact Lv_len (m.trans m2).1 ⟨m.trans m2, d2.mono (by omega), y, rfl, r.mono (by omega) (by omega)⟩
      have hlen : xs.length ≤ 900 := Nat.le_trans (len_bulk xs) (Nat.le_trans hx.bk hN)
      by_cases hz : 0 < xs.length
      · simp [hz]
        refine (draw0 (K := K) (m := 4) (by omega) hs h0 (by omega) (by decide) (by decide)).imp fun v t ⟨m, d, i, e, i0, i1⟩ => ?_
        subst e
        by_cases hi : 0 < i
        · simp [hi]
          refine (draw0 (K := K) (m := xs.length) (by omega) d (by omega) (by omega) (by omega) (by omega)).imp fun v t ⟨m2, d2, j, e, j0, j1⟩ => ?_
          subst e
          have hj : j.toNat < xs.length := by omega
          have ha : L2.atI xs j = some xs[j.toNat] := by
            have := atI_nat (vs := xs) (i := j.toNat) hj
            rwa [Int.toNat_of_nonneg j0] at this
          simp [ha]
          have hx' : xs = xs.take j.toNat ++ xs[j.toNat] :: xs.drop (j.toNat + 1) := by
            rw [List.getElem_cons_drop, List.take_append_drop]
          have hit : Pl 1500 xs[j.toNat].bulk D xs[j.toNat] := ⟨(hx.items _ (List.getElem_mem hj)).pl, Nat.le_refl _, depth_le.mp (Nat.le_of_succ_le_succ hx.dp) _ (List.getElem_mem hj)⟩
          have hib := (hx.items _ (List.getElem_mem hj)).bk
          refine (ih (by omega) d2 (by omega) (by omega) hit (by omega)).imp fun v t ⟨m3, d3, y, e, r⟩ => ?_
          subst e
          have c1 := (cut_sub xs none (some j)).length_le
          have c2 := (cut_sub xs (some (j + 1)) none).length_le
          simp [show (cutL xs none (some j)).length + 1 ≤ 16777216 by omega, show (cutL xs none (some j)).length + 1 + (cutL xs (some (j + 1)) none).length ≤ 16777216 by omega]
          have mm := (m.trans m2).trans m3
          refine Lv_len mm.1 ⟨mm, d3.mono (by omega), _, rfl, ?_⟩
          rw [cut_to xs j0, cut_from xs (by omega : 0 ≤ j + 1), show (j + 1).toNat = j.toNat + 1 by omega]
          have hx2 : Pl 1500 N (D + 1) (.tuple (xs.take j.toNat ++ xs[j.toNat] :: xs.drop (j.toNat + 1))) := by rw [← hx']; exact hx
          exact (bent_rp hx2 r).mono (by omega) (by omega)
        · simp [hi]
          exact hodd t m d
      · simp [hz]
        exact hodd s .refl (hs.mono (by omega))
    | _ => cases hx.pl
end
end Law

set_option maxHeartbeats 1000000
namespace Law
open PySem SM
section
variable {fu K n : Nat} {s t u : Sto} {b : Int} {T : List (List Int)} {R C : Nat}
theorem row_pl {r : List Int} (h : rwOk C r) (c5 : C ≤ 5) : Pl 1500 5 1 (rowD r) := by
  have := Pl.tup (b := 1500) (N := 0) (D := 0) (L := 5) (xs := r.map .int) (fun x hx => by
    obtain ⟨i, hi, rfl⟩ := List.mem_map.mp hx
    have := gt_abs (h.2 i hi)
    exact .int (Nat.lt_of_lt_of_le (show i.natAbs < 2 ^ 10 by omega) (Nat.pow_le_pow_right (by decide) (by decide)))) (by have := h.1; simp; omega)
  exact this
structure Tw (T : List (List Int)) (R C : Nat) : Prop where
  len : T.length = R
  rw_ : ∀ r ∈ T, rwOk C r
  r1 : 1 ≤ R
  r5 : R ≤ 5
  c1 : 1 ≤ C
  c5 : C ≤ 5
theorem tab_pl (h : Tw T R C) : Pl 1500 30 2 (tabD T) :=
  Pl.tup (b := 1500) (N := 5) (D := 1) (L := 5) (fun x hx => by
    obtain ⟨r, hr, rfl⟩ := List.mem_map.mp hx
    exact row_pl (h.rw_ r hr) h.c5) (by have := h.len; have := h.r5; simp; omega)
theorem lists_rp (h : Tw T R C) : Rp 30 2 (.tuple (T.map lsD)) := by
  have hr : ∀ r ∈ T, Rp 5 1 (lsD r) := fun r hr => tup_list (xs := r.map .int) (row_pl (h.rw_ r hr) h.c5) (by decide)
  refine ⟨okBs_all.mpr fun x hx => ?_, ?_, ?_, .inl (noDicts_all.mpr fun x hx => ?_)⟩
  · obtain ⟨r, h1, rfl⟩ := List.mem_map.mp hx
    exact (hr r h1).ok
  · refine Nat.le_trans (bulk_le (N := 5) (xs := T.map lsD) fun x hx => ?_) ?_
    · obtain ⟨r, h1, rfl⟩ := List.mem_map.mp hx
      exact (hr r h1).bk
    · have := h.len; have := h.r5; simp; omega
  · refine Nat.succ_le_succ (depth_le.mpr fun x hx => ?_)
    obtain ⟨r, h1, rfl⟩ := List.mem_map.mp hx
    exact (hr r h1).dp
  · obtain ⟨r, h1, rfl⟩ := List.mem_map.mp hx
    have : ∀ xs : List Int, PyData.hasDictAll (xs.map PyData.int) = false := fun xs => noDicts_all.mpr fun y hy => by
      obtain ⟨i, _, rfl⟩ := List.mem_map.mp hy
      rfl
    exact this r
def VaQ (n : Nat) (b : Int) (s : Sto) (v : Vl) (t : Sto) : Prop := Fr n s t ∧ Dk n b t ∧ ∃ L : List PyData, v = .d (.list L) ∧ L.length ≤ 30 ∧ ∀ x ∈ L, Rp 8000 100 x
def VaJ (n : Nat) (b : Int) (s : Sto) (T : List (List Int)) (m : Nat) (e : Sl) (v : Sto) : Prop := Fr n s v ∧ Dk n b v ∧ ∃ L : List PyData, e = [some (.r n), some (.d (tabD T)), some (.d (.list L)), none, none, none] ∧ L.length ≤ m ∧ ∀ x ∈ L, Rp 8000 100 x
theorem rp_of {N D : Nat} {x : PyData} (h : Pl 1500 N D x) (hN : N ≤ 8000) (hD : D ≤ 100) : Rp 8000 100 x := (h.rp (by decide)).mono hN hD
theorem values_ok (hK : 7 ≤ K) (h : Tw T R C) (h0 : 0 ≤ b) (hb : b < 2 ^ 56) (hs : Dk n b s) : Ok (callI tab fu K i__law_values [.r n, .d (tabD T)] s) (VaQ n (b + 50) s) nX := by
  obtain ⟨K, rfl⟩ : ∃ k, K = k + 1 := ⟨K - 1, by omega⟩
  have hp := tab_pl h
  have R1 := h.r1
  have R5 := h.r5
  have C5 := h.c5
  have hl := h.len
  have h0m := SM.getD_mem (d := []) (show 0 < T.length by omega)
  have hr0 := h.rw_ _ h0m
  have l0 := hr0.1
  have r0 : L2.atI (T.map rowD) 0 = some (rowD (T.getD 0 [])) := at_row (i := 0) (by omega)
  have rl : L2.atI (T.map rowD) (-1) = some (rowD (T.getD (R - 1) [])) := by
    unfold L2.atI
    have : L2.ixN (T.map rowD).length (-1) = some (R - 1) := by
      unfold L2.ixN
      rw [List.length_map, hl, if_neg (by omega), if_pos (by omega)]
      congr 1
      omega
    rw [this, Option.bind_some, SM.getD_lt (by omega)]
    simp [show R - 1 < T.length by omega]
  have hrl := h.rw_ _ (SM.getD_mem (d := []) (show R - 1 < T.length by omega))
  have pt : ∀ {N L : Nat} {g : List Int → PyData}, (∀ r ∈ T, Pl 1500 N 1 (g r)) → Pl 1500 (5 * (N + 1)) 2 (.tuple (T.map g)) := fun hg => Pl.tup (fun x hx => by
    obtain ⟨r, hr, rfl⟩ := List.mem_map.mp hx
    exact hg r hr) (by simp; omega)
  refine Ok_call (F := d__law_values) rfl rfl ?_
  simp only [d__law_values, b__law_values]
  refine Sw_cut (VaJ n b s T 5) ?_ fun e v hJ => ?_
  · have cmp : ev (callI tab fu K) (.comp false (.bop false .add (.var 3) (.sli false (.var 3) .nil (.cons (.lit (.int 1)) .nil))) (.var 3) (.itv (.var 1)) .nil [3]) [some (.r n), some (.d (tabD T)), none, none, none, none] s = .ok (.d (.list (T.map fun r => .tuple (r.map .int ++ (r.map .int).take 1)))) s := by
      refine comp_on rowD _ (itv_t rfl) (by omega) fun r hr => ⟨_, rfl, ?_⟩
      have := (h.rw_ r hr).1
      have c := cut_to (r.map PyData.int) (i := 1) (by omega)
      simp [wipe, rowD, c, show r.length + min 1 r.length ≤ 16777216 by omega]
    have c := cut_to (T.map rowD) (i := 1) (by omega)
    simp [-List.map_map, tabD] at cmp ⊢
    simp [-List.map_map, cmp, c, show T.length ≤ 16777216 by omega, show T.length ≤ 1000 by omega, show T.length + min 1 T.length ≤ 16777216 by omega]
    refine ⟨.refl, hs, _, rfl, by simp, fun x hx => ?_⟩
    simp only [List.mem_cons, List.not_mem_nil, or_false] at hx
    rcases hx with rfl | rfl | rfl | rfl | rfl
    · exact rp_of hp (by decide) (by decide)
    · exact rp_of (hp.app (hp.sub (List.take_sublist _ _))) (by decide) (by decide)
    · exact rp_of (pt (N := 10) (L := 0) fun r hr => ((row_pl (h.rw_ r hr) C5).app ((row_pl (h.rw_ r hr) C5).sub (List.take_sublist _ _)))) (by decide) (by decide)
    · exact rp_of (hp.app (hp.app (hp.app (hp.app (hp.app hp))))) (by decide) (by decide)
    · exact (tup_list hp (by decide)).mono (by decide) (by decide)
  refine Sw_cut (VaJ n b s T 8) ?_ fun e v hJ => ?_
  · obtain ⟨f, d, L, he, hL, hx⟩ := hJ
    subst he
    have cmp : ev (callI tab fu K) (.comp false (.bop false .mul (.var 3) (.lit (.int 6))) (.var 3) (.itv (.var 1)) .nil [3]) [some (.r n), some (.d (tabD T)), some (.d (.list L)), none, none, none] v = .ok (.d (.list (T.map fun r => .tuple (r.map .int ++ (r.map .int ++ (r.map .int ++ (r.map .int ++ (r.map .int ++ r.map .int)))))))) v := by
      refine comp_on rowD _ (itv_t rfl) (by omega) fun r hr => ⟨_, rfl, ?_⟩
      have := (h.rw_ r hr).1
      simp [wipe, rowD, show r.length ≤ 1000 by omega]
    have cmp2 : ev (callI tab fu K) (.comp false (.bi false .list (.cons (.var 3) .nil)) (.var 3) (.itv (.var 1)) .nil [3]) [some (.r n), some (.d (tabD T)), some (.d (.list L)), none, none, none] v = .ok (.d (.list (T.map lsD))) v := by
      refine comp_on rowD _ (itv_t rfl) (by omega) fun r hr => ⟨_, rfl, ?_⟩
      have := (h.rw_ r hr).1
      simp [wipe, rowD, lsD, show r.length ≤ 16777216 by omega]
    have c := cut_to (T.map rowD) (i := 1) (by omega)
    simp [-List.map_map, tabD] at cmp cmp2 ⊢
    simp [-List.map_map, cmp, cmp2, c, show L.length + 3 ≤ 16777216 by omega]
    refine ⟨f, d, _, rfl, by simp; omega, fun x hx' => ?_⟩
    simp only [List.mem_append, List.mem_cons, List.not_mem_nil, or_false] at hx'
    rcases hx' with hx' | rfl | rfl | rfl
    · exact hx x hx'
    · exact rp_of (pt (N := 30) (L := 0) fun r hr => have q := row_pl (h.rw_ r hr) C5; q.app (q.app (q.app (q.app (q.app q))))) (by decide) (by decide)
    · exact (lists_rp h).mono (by decide) (by decide)
    · exact rp_of (hp.sub (List.take_sublist _ _)) (by decide) (by decide)
  refine Sw_cut (VaJ n b s T 12) ?_ fun e v hJ => ?_
  · obtain ⟨f, d, L, he, hL, hx⟩ := hJ
    subst he
    have c1 := cut_from (T.map rowD) (i := 1) (by omega)
    have c2 := cut_from ((T.getD 0 []).map PyData.int) (i := 1) (by omega)
    have c3 := (cut_sub (T.map rowD) none (some (-1))).length_le
    have lm : (T.map rowD).length = T.length := by simp
    have e1 : ∀ q, idxV (.d (.tuple (T.map rowD))) (.d (.int (-1))) q = some (.d (.tuple ((T.getD (R - 1) []).map .int)), q) := fun q => by rw [idxV_t, rl]; rfl
    have e2 : ∀ q, idxV (.d (.tuple (T.map rowD))) (.d (.int 0)) q = some (.d (.tuple ((T.getD 0 []).map .int)), q) := fun q => by rw [idxV_t, r0]; rfl
    have l1 := hrl.1
    simp [-List.map_map, -List.getD_eq_getElem?_getD, -idxV_t, -List.drop_one, tabD, e1, e2, c1, c2, l0, l1, show C + C ≤ 16777216 by omega, show (cutL (T.map rowD) none (some (-1))).length + 1 ≤ 16777216 by omega, show T.length - 1 + 1 ≤ 16777216 by omega, show L.length + 4 ≤ 16777216 by omega]
    refine ⟨f, d, _, rfl, by simp; omega, fun x hx' => ?_⟩
    simp only [List.mem_append, List.mem_cons, List.not_mem_nil, or_false] at hx'
    rcases hx' with hx' | rfl | rfl | rfl | rfl
    · exact hx x hx'
    · exact rp_of (Pl.tup (L := 2) (fun x hx => by simp at hx; subst hx; exact hp) (by simp)) (by decide) (by decide)
    · exact rp_of ((hp.sub (cut_sub _ _ _)).app ((tup_one ((row_pl hrl C5).app (row_pl hr0 C5))).mono (Nat.le_refl _) (Nat.le_refl _) (by decide))) (by decide) (by decide)
    · exact rp_of ((hp.sub (List.drop_sublist _ _)).app ((tup_one ((row_pl hr0 C5).sub (List.drop_sublist _ _))).mono (Nat.le_refl _) (Nat.le_refl _) (by decide))) (by decide) (by decide)
    · exact rp_of (hp.perm (List.reverse_perm _)) (by decide) (by decide)
  refine Sw_cut (VaJ n (b + 35) s T 17) ?_ fun e v hJ => ?_
  · obtain ⟨f, d, L, he, hL, hx⟩ := hJ
    subst he
    simp
    refine Ok_comp_at (m := false) (fun k t => Fr n s t ∧ Dk n (b + 7 * (k : Int)) t) (fun _ => Rp 8000 100) (rng1_ok (k := 5) (t := v) (by simp) (by decide) (by decide)) (by simp) ⟨f, by simpa using d⟩ (fun k hk t ⟨f, d⟩ => ⟨_, rfl, ?_⟩) fun xs t hxl hr ⟨f, d⟩ => ?_
    · have hk : k < 5 := by simpa using hk
      simp [wipe]
      refine (bent_ok 2 (K := K) (by omega) d (by omega) (by omega) hp (by decide)).imp fun v t ⟨f2, d2, y, e, r⟩ => ?_
      subst e
      exact ⟨⟨f.trans f2, d2.mono (by omega)⟩, y, rfl, r.mono (by decide) (by decide)⟩
    · simp only [List.length_map, List.length_range] at hxl d
      have h5 : (5 : Int).toNat = 5 := rfl
      rw [h5] at hxl d
      simp [show L.length + xs.length ≤ 16777216 by omega]
      refine ⟨f, d.mono (by omega), _, rfl, by simp; omega, fun x hx' => ?_⟩
      rcases List.mem_append.mp hx' with h1 | h1
      · exact hx x h1
      · obtain ⟨j, hj, rfl⟩ := List.mem_iff_getElem.mp h1
        exact hr j hj
  · obtain ⟨f, d, L, he, hL, hx⟩ := hJ
    subst he
    have e2 : ∀ q, idxV (.d (tabD T)) (.d (.int 0)) q = some (.d (rowD (T.getD 0 [])), q) := fun q => by rw [idx_tab, r0]; rfl
    have pm : ∀ x ∈ [tabD T, rowD (T.getD 0 []), PyData.int 7], Pl 1500 30 2 x := fun x hx => by
      simp only [List.mem_cons, List.not_mem_nil, or_false] at hx
      rcases hx with rfl | rfl | rfl
      · exact hp
      · exact (row_pl hr0 C5).mono (Nat.le_refl _) (by decide) (by decide)
      · exact (Pl.int (Nat.lt_of_lt_of_le (show (7 : Int).natAbs < 2 ^ 10 by decide) (Nat.pow_le_pow_right (by decide) (by decide)))).mono (Nat.le_refl _) (by decide) (by decide)
    simp
    refine Ok_comp_at (m := false) (ds := [tabD T, rowD (T.getD 0 []), PyData.int 7]) (fun k t => Fr n s t ∧ Dk n (b + 35 + 2 * (k : Int)) t) (fun _ => Rp 8000 100) (itv_l (t := v) (by simp [-List.getD_eq_getElem?_getD, -idx_tab, e2])) (by simp) ⟨f, by simpa using d⟩ (fun k hk t ⟨f, d⟩ => ⟨_, rfl, ?_⟩) fun xs t hxl hr ⟨f, d⟩ => ?_
    · have px := pm _ (List.getElem_mem hk)
      have hk : k < 3 := by simpa using hk
      generalize [tabD T, rowD (T.getD 0 []), PyData.int 7][k] = x at px
      simp [wipe]
      refine (odd_ok (K := K) (by omega) d (by omega) (by omega) px (by decide)).imp fun v t ⟨f2, d2, y, e, r⟩ => ?_
      subst e
      exact ⟨⟨f.trans f2, d2.mono (by omega)⟩, y, rfl, r.mono (by decide) (by decide)⟩
    · simp only [List.length_cons, List.length_nil] at hxl d
      simp [show L.length + xs.length ≤ 16777216 by omega]
      refine Lv_len f.1 ⟨f, d.mono (by omega), _, rfl, by simp; omega, fun x hx' => ?_⟩
      rcases List.mem_append.mp hx' with h1 | h1
      · exact hx x h1
      · obtain ⟨j, hj, rfl⟩ := List.mem_iff_getElem.mp h1
        exact hr j hj
end
end Law

set_option maxHeartbeats 1000000
namespace Law
open PySem SM
section
variable {fu K n : Nat} {s t u : Sto} {b : Int} {T : List (List Int)} {R C : Nat}
theorem fr_app {o : Option Ob} (f : Fr s.length (s ++ [o]) t) : ∃ o', t = s ++ [o'] := by
  have hl : t.length = s.length + 1 := by rw [f.1]; simp
  refine ⟨t[s.length], ?_⟩
  apply List.ext_getElem?
  intro i
  by_cases hi : i < s.length
  · rw [f.2 i (by omega), List.getElem?_append_left hi, List.getElem?_append_left hi]
  · by_cases h2 : i = s.length
    · subst h2
      simp [hl]
    · rw [List.getElem?_eq_none (by omega), List.getElem?_eq_none (by simp; omega)]
def AsP (R C : Nat) (x : PyData) : Prop := ∃ (sd : Nat) (ws : List Int), sd < 2 ∧ Wt ws (mn R C sd) ∧ x = .tuple [.int sd, .list (ws.map .int)]
def NrE (ns : List Int) (k n R C : Nat) (nm : Int) (T : List (List Int)) (A L : Option Vl) (z9 z10 z12 z14 z15 z16 z17 : Option Vl) : Sl := [some (.d (.list (ns.map .int))), some (.d (.int k)), some (.r n), some (.d (.int R)), some (.d (.int C)), some (.d (.int nm)), some (.d (.list (T.map lsD))), some (.d (tabD T)), some (.d (gD T (ngT T))), z9, z10, A, z12, L, z14, z15, z16, z17]
theorem gv_of (h : Tw T R C) : Gv T T R C := ⟨h.len, h.len, h.rw_, h.rw_, h.r1, h.r5, h.c1, h.c5⟩
theorem due_ev (h : Tw T R C) {Ca : Cal} {e : Sl} (h6 : e[6]? = some (some (.d (.list (T.map lsD))))) (h18 : e.length = 18) : ev Ca (.comp false (.bi false .tuple (.cons (.comp false (.neg (.var 10)) (.var 10) (.itv (.var 9)) .nil [10]) .nil)) (.var 9) (.itv (.var 6)) .nil [9]) e s = .ok (.d (.list ((ngT T).map rowD))) s := by
  have R5 := h.r5
  have C5 := h.c5
  have hl := h.len
  unfold ngT
  rw [List.map_map]
  refine comp_on lsD _ ?_ (by omega) fun r hr => ⟨_, rfl, ?_⟩
  · refine itv_l ?_
    simp [h6]
  · have inner : ev Ca (.comp false (.neg (.var 10)) (.var 10) (.itv (.var 9)) .nil [10]) ((wipe e [9]).set 9 (some (.d (lsD r)))) s = .ok (.d (.list ((r.map fun x => -x).map .int))) s := by
      rw [List.map_map]
      refine comp_on PyData.int _ ?_ (by have := (h.rw_ r hr).1; omega) fun x hx => ⟨_, rfl, ?_⟩
      · refine itv_l ?_
        simp [wipe, h18, lsD]
      · simp [wipe, h18]
    simp [-List.map_map, inner]
    rfl
theorem same_all (h : Tw T R C) (hK : 4 ≤ K) : callI tab fu K i__law_same [.d (gD T (ngT T)), .d (gD T (ngT T))] s = .ok (.d (.bool true)) s := by
  have hr : ∀ r ∈ T, r.length ≤ 100 := fun r hr => by have := (h.rw_ r hr).1; have := h.c5; omega
  have R5 := h.r5
  have hl := h.len
  refine same_ok (game_sm (by omega) hr (by simp [ngT]; omega) fun r hr' => ?_) (by omega)
  obtain ⟨q, hq, rfl⟩ := List.mem_map.mp hr'
  simpa using hr q hq
/-- all that is asked, twice -/
theorem asked_all (hf : 2 ^ 2000 ≤ fu) (hK : 10 ≤ K) (h : Tw T R C) {ns : List Int} {k : Nat} {nm : Int} {A L : List PyData} (hA : A.length ≤ 6) (hL : L.length ≤ 30) (hAs : ∀ x ∈ A, AsP R C x) (hLs : ∀ x ∈ L, Rp 8000 100 x) {z9 z10 z12 z14 z15 z16 z17 : Option Vl} {PT : Pt}
    (hn : ∀ nm z9 z10 z12 z14 z15 z16 z17 (A L : List PyData), PT.n (NrE ns k n R C nm T (some (.d (.list A))) (some (.d (.list L))) z9 z10 z12 z14 z15 z16 z17) s) :
    Sw (exS (callI tab fu K) fu (.forr (.var 14) (.rng1 (.lit (.int 2))) (.cons (.forr (.var 15) (.itv (.var 13)) (.cons (.ite (.not (.call i__law_judged (.cons (.var 15) (.cons (.var 5) .nil)))) (.cons (.ret (.lit (.bool false)))
        .nil) .nil)
      .nil))
    (.cons (.forr (.tup (.cons (.var 12) (.cons (.var 16) .nil))) (.itv (.var 11)) (.cons (.ite (.not (.call i__law_got_right (.cons (.var 6) (.cons (.var 7) (.cons (.var 12) (.cons (.var 16) (.cons (.var 5) .nil))))))) (.cons (.ret (.lit (.bool false)))
        .nil) .nil)
      (.cons (.asg (.var 5) (.bop false .sub (.lit (.int 1)) (.var 5)))
      .nil)))
    (.cons (.asg (.var 17) (.ite (.cmp .eq (.var 5) (.lit (.int 1))) (.callk i_against .nil (.cons (.var 7) .nil) [("table" : PySem.Str)] [0]) (.call i_against (.cons (.var 7) .nil))))
    (.cons (.ite (.not (.call i__law_same (.cons (.var 17) (.cons (.var 8) .nil)))) (.cons (.ret (.lit (.bool false)))
      .nil) .nil)
    (.cons (.par (.var 13) (.var 11) (.rev false (.var 13)) (.rev false (.var 11)))
    .nil)))))) (NrE ns k n R C nm T (some (.d (.list A))) (some (.d (.list L))) z9 z10 z12 z14 z15 z16 z17) s) PT := by
  have g := gv_of h
  have ag := against_ok (fu := fu) (K := K) (s := s) g (by omega)
  have sm := same_all (fu := fu) (K := K) (s := s) h (by omega)
  rw [exS_for_vals (ds := (List.range 2).map fun j : Nat => PyData.int j) (s' := s) (by simp [show rngV 0 2 = _ from rng_nat 2 (by decide)])]
  refine Sw_goR 2 (fun _ e t => t = s ∧ ∃ nm z9 z10 z12 z14 z15 z16 z17 A L, A.length ≤ 6 ∧ L.length ≤ 30 ∧ (∀ x ∈ A, AsP R C x) ∧ (∀ x ∈ L, Rp 8000 100 x) ∧ e = NrE ns k n R C nm T (some (.d (.list A))) (some (.d (.list L))) z9 z10 z12 z14 z15 z16 z17) (fun j hj e t hJ => ?_) (fun e t ⟨ht, nm, z9, z10, z12, z14, z15, z16, z17, A, L, _, _, _, _, he⟩ => by subst ht he; exact hn ..) ⟨rfl, nm, z9, z10, z12, z14, z15, z16, z17, A, L, hA, hL, hAs, hLs, rfl⟩
  clear hA hL hAs hLs
  obtain ⟨ht, nm, z9, z10, z12, z14, z15, z16, z17, A, L, hA, hL, hAs, hLs, he⟩ := hJ
  subst ht he
  rw [turnS_var]
  refine Sw_cut (fun e w => w = t ∧ ∃ z15, e = NrE ns k n R C nm T (some (.d (.list A))) (some (.d (.list L))) z9 z10 z12 (some (.d (.int j))) z15 z16 z17) ?_ fun e w ⟨hw, z15, he⟩ => ?_
  · simp [NrE]
    refine Sw_goL (fun r e w => (∀ x ∈ r, Rp 8000 100 x) ∧ w = t ∧ ∃ z15, e = NrE ns k n R C nm T (some (.d (.list A))) (some (.d (.list L))) z9 z10 z12 (some (.d (.int j))) z15 z16 z17) (fun x r e w ⟨hr, hw, z15, he⟩ => ?_) (fun e w h => ?fin) ⟨hLs, rfl, z15, rfl⟩
    case fin =>
      obtain ⟨_, hw, z15, he⟩ := h
      exact ⟨hw, z15, he⟩
    subst he hw
    rw [turnS_var]
    have jd := judged_rp (fu := fu) (K := K) (s := w) (nm := nm) (by omega) (hr x List.mem_cons_self)
    simp [NrE, evT_eq, jd]
    exact fun y hy => hr y (List.mem_cons_of_mem _ hy)
  subst he hw
  refine Sw_cut (fun e v => v = w ∧ ∃ nm z12 z16, e = NrE ns k n R C nm T (some (.d (.list A))) (some (.d (.list L))) z9 z10 z12 (some (.d (.int j))) z15 z16 z17) ?_ fun e v ⟨hv, nm, z12, z16, he⟩ => ?_
  · simp [NrE]
    refine Sw_goL (fun r e v => (∀ x ∈ r, AsP R C x) ∧ v = w ∧ ∃ nm z12 z16, e = NrE ns k n R C nm T (some (.d (.list A))) (some (.d (.list L))) z9 z10 z12 (some (.d (.int j))) z15 z16 z17) (fun x r e v ⟨hr, hv, nm, z12, z16, he⟩ => ?_) (fun e v h => ?fin) ⟨hAs, rfl, nm, z12, z16, rfl⟩
    case fin =>
      obtain ⟨_, hv, nm, z12, z16, he⟩ := h
      exact ⟨hv, nm, z12, z16, he⟩
    obtain ⟨sd, ws, h2, hw, ex⟩ := hr x List.mem_cons_self
    subst he hv ex
    rw [turnS_of (e1 := NrE ns k n R C nm T (some (.d (.list A))) (some (.d (.list L))) z9 z10 (some (.d (.int sd))) (some (.d (.int j))) z15 (some (.d (.list (ws.map .int)))) z17) (by simp [NrE, setTgV, setTg, setTg.setTgs])]
    have gr := got_right_ok (fu := fu) (K := K) (s := v) (nm := nm) hf (by omega) g h2 hw
    simp [NrE, evT_eq, gr]
    exact fun y hy => hr y (List.mem_cons_of_mem _ hy)
  subst he hv
  by_cases hm : nm = 1
  · simp [NrE, evT_eq, hm, callkR, permL, ag, sm, show L.length ≤ 16777216 by omega, show A.length ≤ 16777216 by omega]
    exact ⟨_, _, _, _, _, _, _, _, A.reverse, by simpa using hA, L.reverse, by simpa using hL, fun x hx => hAs x (by simpa using hx), fun x hx => hLs x (by simpa using hx), rfl, rfl, rfl, rfl, rfl, rfl, rfl, rfl, rfl, rfl⟩
  · simp [NrE, evT_eq, hm, ag, sm, show L.length ≤ 16777216 by omega, show A.length ≤ 16777216 by omega]
    exact ⟨_, _, _, _, _, _, _, _, A.reverse, by simpa using hA, L.reverse, by simpa using hL, fun x hx => hAs x (by simpa using hx), fun x hx => hLs x (by simpa using hx), rfl, rfl, rfl, rfl, rfl, rfl, rfl, rfl, rfl, rfl⟩
end
end Law

set_option maxHeartbeats 1000000
namespace Law
open PySem SM
section
variable {fu K n : Nat} {s t u : Sto} {b : Int} {T : List (List Int)} {R C : Nat}
def N1 (s : Sto) (ns : List Int) (k : Nat) (e : Sl) (v : Sto) : Prop := ∃ o, Fr s.length (s ++ [o]) v ∧ Dk s.length 0 v ∧ e = [some (.d (.list (ns.map .int))), some (.d (.int k)), some (.r s.length), none, none, none, none, none, none, none, none, none, none, none, none, none, none, none]
def N2 (s : Sto) (o : Option Ob) (ns : List Int) (k : Nat) (e : Sl) (v : Sto) : Prop := ∃ (R C : Nat) (nm : Int), Fr s.length (s ++ [o]) v ∧ Dk s.length 3 v ∧ 1 ≤ R ∧ R ≤ 5 ∧ 1 ≤ C ∧ C ≤ 5 ∧ e = [some (.d (.list (ns.map .int))), some (.d (.int k)), some (.r s.length), some (.d (.int R)), some (.d (.int C)), some (.d (.int nm)), none, none, none, none, none, none, none, none, none, none, none, none]
def N3 (s : Sto) (o : Option Ob) (ns : List Int) (k R C : Nat) (nm : Int) (e : Sl) (v : Sto) : Prop := ∃ T, Fr s.length (s ++ [o]) v ∧ Dk s.length 48 v ∧ Tw T R C ∧ e = [some (.d (.list (ns.map .int))), some (.d (.int k)), some (.r s.length), some (.d (.int R)), some (.d (.int C)), some (.d (.int nm)), some (.d (.list (T.map lsD))), none, none, none, none, none, none, none, none, none, none, none]
def N4 (s : Sto) (o : Option Ob) (ns : List Int) (k R C : Nat) (nm : Int) (T : List (List Int)) (e : Sl) (w : Sto) : Prop := ∃ A, Fr s.length (s ++ [o]) w ∧ Dk s.length 594 w ∧ A.length ≤ 6 ∧ (∀ x ∈ A, AsP R C x) ∧ e = NrE ns k s.length R C nm T (some (.d (.list A))) none none none none none none none none
def N5 (s : Sto) (o : Option Ob) (ns : List Int) (k R C : Nat) (nm : Int) (T : List (List Int)) (A : List PyData) (e : Sl) (v : Sto) : Prop := ∃ L, Fr s.length (s ++ [o]) v ∧ L.length ≤ 30 ∧ (∀ x ∈ L, Rp 8000 100 x) ∧ e = NrE ns k s.length R C nm T (some (.d (.list A))) (some (.d (.list L))) none none none none none none none
theorem number_right_ok {ns : List Int} {k : Nat} (hf : 2 ^ 2000 ≤ fu) (hK : 30 ≤ K) (hn : ns.length ≤ 1000) (hk : k < 1000) : callI tab fu K i__law_number_right [.d (.list (ns.map .int)), .d (.int k)] s = .ok (.d (.bool true)) s := by
  obtain ⟨K, rfl⟩ : ∃ k, K = k + 1 := ⟨K - 1, by omega⟩
  refine Ok_one (Ok_call (F := d__law_number_right) rfl rfl ?_)
  simp only [d__law_number_right, b__law_number_right]
  refine Sw_cut (N1 s ns k) ?_ fun e v ⟨o, f, d, he⟩ => ?_
  · simp
    refine (deck_ok (K := K) (ns := ns) (k := k) (by omega) hn hk).imp fun v t ⟨hv, a0, a1, ht⟩ => ?_
    subst hv ht
    exact ⟨_, .refl, ⟨a0, a1, 0, listAt_new, by omega, by omega⟩, rfl⟩
  subst he
  refine Sw_cut (N2 s o ns k) ?_ fun e v ⟨R, C, nm, f, d, r1, r5, c1, c5, he⟩ => ?_
  · simp
    refine (draw0 (K := K) (m := 5) (by omega) d (by omega) (by omega) (by omega) (by omega)).imp fun a t ⟨f1, d1, i, e, i0, i1⟩ => ?_
    subst e
    simp
    refine (draw0 (K := K) (m := 5) (by omega) d1 (by omega) (by omega) (by omega) (by omega)).imp fun a t ⟨f2, d2, j, e, j0, j1⟩ => ?_
    subst e
    simp
    refine (draw0 (K := K) (m := 2) (by omega) d2 (by omega) (by omega) (by omega) (by omega)).imp fun a t ⟨f3, d3, l, e, l0, l1⟩ => ?_
    subst e
    simp [setTgV, setTg, setTg.setTgs]
    refine ⟨(1 + i).toNat, (1 + j).toNat, l, f.trans ((f1.trans f2).trans f3), d3.mono (by omega), by omega, by omega, by omega, by omega, ?_⟩
    rw [Int.toNat_of_nonneg (by omega), Int.toNat_of_nonneg (by omega)]
  subst he
  refine Sw_cut (N3 s o ns k R C nm) ?_ fun e v ⟨T, f, d, h, he⟩ => ?_
  · simp
    refine (table_ok (K := K) (R := R) (C := C) (by omega) r1 r5 c1 c5 (by omega) (by omega) d).imp fun a t ⟨f1, d1, T, e, hl, hr⟩ => ?_
    subst e
    exact ⟨T, f.trans f1, d1.mono (by omega), ⟨hl, hr, r1, r5, c1, c5⟩, rfl⟩
  subst he
  have fz := fun t => lfrozen_ok (fu := fu) (K := K) (s := t) (T := T) (by omega) (by have := h.len; omega)
  refine Sw_cut (fun e w => w = v ∧ e = [some (.d (.list (ns.map .int))), some (.d (.int k)), some (.r s.length), some (.d (.int R)), some (.d (.int C)), some (.d (.int nm)), some (.d (.list (T.map lsD))), some (.d (tabD T)), none, none, none, none, none, none, none, none, none, none]) (by simp [-List.map_map, fz]) fun e w ⟨hw, he⟩ => ?_
  subst he hw
  refine Sw_cut (fun e v => v = w ∧ e = NrE ns k s.length R C nm T none none none none none none none none none) ?_ fun e v ⟨hv, he⟩ => ?_
  · have du := due_ev (s := w) h (Ca := callI tab fu K) (e := [some (.d (.list (ns.map .int))), some (.d (.int k)), some (.r s.length), some (.d (.int R)), some (.d (.int C)), some (.d (.int nm)), some (.d (.list (T.map lsD))), some (.d (tabD T)), none, none, none, none, none, none, none, none, none, none]) rfl rfl
    simp [-List.map_map, fz, du]
    exact rfl
  subst he hv
  refine Sw_cut (N4 s o ns k R C nm T) ?_ fun e w ⟨A, f, d, hA, hAs, he⟩ => ?_
  · simp [NrE]
    refine Ok_comp_at (m := false) (ds := [.int 0, .int 1, .int 0, .int 1, .int 1, .int 0]) (fun k t => Fr s.length (s ++ [o]) t ∧ Dk s.length (48 + 91 * (k : Int)) t) (fun _ => AsP R C) (itv_l (t := v) (by simp)) (by simp) ⟨f, by simpa using d⟩ (fun k hk t ⟨f, d⟩ => ⟨_, rfl, ?_⟩) fun xs t hxl hr ⟨f, d⟩ => ?_
    · have px : ∃ sd : Nat, sd < 2 ∧ [PyData.int 0, .int 1, .int 0, .int 1, .int 1, .int 0][k] = .int sd := by
        have hm := List.getElem_mem hk
        generalize [PyData.int 0, .int 1, .int 0, .int 1, .int 1, .int 0][k] = x at hm
        simp at hm
        have hm : x = .int 0 ∨ x = .int 1 := by
          rcases hm with h | h | h | h | h
          all_goals first | exact .inl h | exact .inr h
        rcases hm with rfl | rfl
        · exact ⟨0, by decide, rfl⟩
        · exact ⟨1, by decide, rfl⟩
      obtain ⟨sd, h2, ex⟩ := px
      have hk : k < 6 := by simpa using hk
      rw [ex]
      have mR : 1 ≤ mn R C sd ∧ mn R C sd ≤ 5 := by unfold mn; split <;> omega
      have ai : L2.atI [PyData.int R, .int C] (sd : Int) = some (.int (mn R C sd)) := by
        have : sd = 0 ∨ sd = 1 := by omega
        rcases this with rfl | rfl
        · simp
        · simp
      simp [wipe, ai]
      refine (weights_ok (K := K) (m := mn R C sd) (by omega) mR.1 mR.2 (by omega) (by omega) d).imp fun a q ⟨f2, d2, ws, e, hw⟩ => ?_
      subst e
      simp
      exact ⟨⟨f.trans f2, d2.mono (by omega)⟩, sd, ws, h2, hw, rfl⟩
    · simp only [List.length_cons, List.length_nil] at hxl d
      refine ⟨xs, f, d.mono (by omega), by omega, fun x hx => ?_, rfl⟩
      obtain ⟨j, hj, rfl⟩ := List.mem_iff_getElem.mp hx
      exact hr j hj
  subst he
  refine Sw_cut (N5 s o ns k R C nm T A) ?_ fun e v ⟨L, f, hL, hLs, he⟩ => ?_
  · simp [NrE]
    refine (values_ok (K := K) (by omega) h (by omega) (by omega) d).imp fun a t ⟨f2, d2, L, e, hl, hr⟩ => ?_
    subst e
    exact ⟨L, f.trans f2, hl, hr, rfl⟩
  subst he
  obtain ⟨o', rfl⟩ := fr_app f
  refine Sw_cut (fun e w => w = s ++ [o'] ∧ ∃ nm z9 z10 z12 z14 z15 z16 z17 A L, e = NrE ns k s.length R C nm T (some (.d (.list A))) (some (.d (.list L))) z9 z10 z12 z14 z15 z16 z17) (asked_all hf (by omega) h hA hL hAs hLs fun nm z9 z10 z12 z14 z15 z16 z17 A L => ⟨rfl, nm, z9, z10, z12, z14, z15, z16, z17, A, L, rfl⟩) fun e w ⟨hw, nm, z9, z10, z12, z14, z15, z16, z17, A, L, he⟩ => ?_
  subst he hw
  have ce : cmpV .eq (.d (tabD T)) (.d (tabD T)) (s ++ [o']) = some true := c_eq_sm (tab_sm (by have := h.len; omega) fun r hr => by have := (h.rw_ r hr).1; omega) (by decide)
  simp [-List.map_map, NrE, fz, ce]
  exact Lv_app ⟨rfl, rfl⟩
theorem law_ok {ns : List Int} (hf : 2 ^ 2000 ≤ fu) (hK : 100 ≤ K) (hn : ns.length ≤ 63) : Ok (callI tab fu K i_law [.d (.list (ns.map .int))] []) (fun v t => v = .d (.bool true)) nX := by
  obtain ⟨K, rfl⟩ : ∃ k, K = k + 1 := ⟨K - 1, by omega⟩
  refine Ok_call (F := d_law) rfl rfl ?_
  simp only [d_law, b_law]
  refine Sw_cut (fun e t => t = [] ∧ ∃ a1, e = [some (.d (.list (ns.map .int))), a1]) ?_ fun e t ⟨ht, a1, he⟩ => ?_
  · have e3 : max 1 (min 3 (ns.length : Int)) = ((max 1 (min 3 ns.length) : Nat) : Int) := by omega
    simp [e3, show max 1 (min 3 ns.length) ≤ 1000000 by omega]
    refine Sw_goR _ (fun _ e t => t = [] ∧ ∃ a1, e = [some (.d (.list (ns.map .int))), a1]) (fun j hj e t ⟨ht, a1, he⟩ => ?_) (fun e t h => h) ⟨rfl, none, rfl⟩
    subst he ht
    rw [turnS_var]
    have nr := number_right_ok (fu := fu) (K := K) (s := []) (ns := ns) (k := j) hf (by omega) (by omega) (by omega)
    simp [evT_eq, nr]
  · subst he ht
    simp
    exact fun s' _ _ => rfl
end
end Law

set_option maxHeartbeats 0
/-! ### their checks -/
namespace Law
open PySem L2 SM
abbrev pg : Program := PySem.Challenge.pw_steadymixes_k21_tables_and_what_mixes_ge
abbrev tp (i : Nat) : Stmt := pg.main.body.getD i (.Pass ⟨0, 0, 0, 0⟩)
def sg : Sg := {
  fns := [("is_integer" : PySem.Str), ("anew" : PySem.Str), ("is_within" : PySem.Str), ("is_fraction" : PySem.Str), ("comes_to_one" : PySem.Str), ("are_chances" : PySem.Str), ("is_a_row" : PySem.Str), ("is_a_table" : PySem.Str), ("many_of" : PySem.Str), ("is_a_mix" : PySem.Str), ("need_mix" : PySem.Str), ("reduced" : PySem.Str), ("got" : PySem.Str), ("shares" : PySem.Str), ("sums_against" : PySem.Str), ("need_table" : PySem.Str), ("enemies" : PySem.Str), ("least_got" : PySem.Str), ("most_got" : PySem.Str), ("is_table" : PySem.Str), ("against" : PySem.Str), ("at_least" : PySem.Str), ("at_most" : PySem.Str), ("_law_deck" : PySem.Str), ("_law_draw" : PySem.Str), ("_law_gcd" : PySem.Str), ("_law_ratio" : PySem.Str), ("_law_mix" : PySem.Str), ("_law_weights" : PySem.Str), ("_law_table" : PySem.Str), ("_law_frozen" : PySem.Str), ("_law_turned" : PySem.Str), ("_law_sums" : PySem.Str), ("_law_same" : PySem.Str), ("_law_odd" : PySem.Str), ("_law_bent" : PySem.Str), ("_law_integer" : PySem.Str), ("_law_is_table" : PySem.Str), ("_law_judged" : PySem.Str), ("_law_got_right" : PySem.Str), ("_law_values" : PySem.Str), ("_law_number_right" : PySem.Str), ("law" : PySem.Str)],
  cns := [(("MOST_CHOICES" : PySem.Str), (.int 5)), (("MOST_NUMBER" : PySem.Str), (.int 1000))],
  bis := [("abs" : PySem.Str), ("all" : PySem.Str), ("bool" : PySem.Str), ("enumerate" : PySem.Str), ("int" : PySem.Str), ("isinstance" : PySem.Str), ("len" : PySem.Str), ("list" : PySem.Str), ("max" : PySem.Str), ("min" : PySem.Str), ("range" : PySem.Str), ("repr" : PySem.Str), ("str" : PySem.Str), ("sum" : PySem.Str), ("tuple" : PySem.Str)],
  mth := [("gcd" : PySem.Str), ("lcm" : PySem.Str)],
  kws := [(("is_table" : PySem.Str), [("value" : PySem.Str)], [0]), (("at_least" : PySem.Str), [("one" : PySem.Str), ("table" : PySem.Str)], [1, 0]), (("at_most" : PySem.Str), [("other" : PySem.Str), ("table" : PySem.Str)], [1, 0]), (("against" : PySem.Str), [("table" : PySem.Str)], [0])] }
theorem c_is_integer : chkSs sg n_is_integer (fun _ => true) (defScope (tp 8)) b_is_integer (defBody (tp 8)) = true := by decide +kernel
theorem s_is_integer : FnScope n_is_integer [("value" : PySem.Str)] (defScope (tp 8)) := ⟨rfl, rfl, rfl, by decide +kernel, rfl, by decide +kernel, by decide +kernel⟩
theorem c_anew : chkSs sg n_anew (fun _ => true) (defScope (tp 9)) b_anew (defBody (tp 9)) = true := by decide +kernel
theorem s_anew : FnScope n_anew [("value" : PySem.Str)] (defScope (tp 9)) := ⟨rfl, rfl, rfl, by decide +kernel, rfl, by decide +kernel, by decide +kernel⟩
theorem c_is_within : chkSs sg n_is_within (fun _ => true) (defScope (tp 10)) b_is_within (defBody (tp 10)) = true := by decide +kernel
theorem s_is_within : FnScope n_is_within [("value" : PySem.Str), ("least" : PySem.Str), ("most" : PySem.Str)] (defScope (tp 10)) := ⟨rfl, rfl, rfl, by decide +kernel, rfl, by decide +kernel, by decide +kernel⟩
theorem c_is_fraction : chkSs sg n_is_fraction (fun _ => true) (defScope (tp 11)) b_is_fraction (defBody (tp 11)) = true := by decide +kernel
theorem s_is_fraction : FnScope n_is_fraction [("value" : PySem.Str)] (defScope (tp 11)) := ⟨rfl, rfl, rfl, by decide +kernel, rfl, by decide +kernel, by decide +kernel⟩
theorem c_comes_to_one : chkSs sg n_comes_to_one (fun _ => true) (defScope (tp 12)) b_comes_to_one (defBody (tp 12)) = true := by decide +kernel
theorem s_comes_to_one : FnScope n_comes_to_one [("fractions" : PySem.Str)] (defScope (tp 12)) := ⟨rfl, rfl, rfl, by decide +kernel, rfl, by decide +kernel, by decide +kernel⟩
theorem c_are_chances : chkSs sg n_are_chances (fun _ => true) (defScope (tp 13)) b_are_chances (defBody (tp 13)) = true := by decide +kernel
theorem s_are_chances : FnScope n_are_chances [("value" : PySem.Str), ("many" : PySem.Str)] (defScope (tp 13)) := ⟨rfl, rfl, rfl, by decide +kernel, rfl, by decide +kernel, by decide +kernel⟩
theorem c_is_a_row : chkSs sg n_is_a_row (fun _ => true) (defScope (tp 14)) b_is_a_row (defBody (tp 14)) = true := by decide +kernel
theorem s_is_a_row : FnScope n_is_a_row [("value" : PySem.Str), ("wide" : PySem.Str)] (defScope (tp 14)) := ⟨rfl, rfl, rfl, by decide +kernel, rfl, by decide +kernel, by decide +kernel⟩
theorem c_is_a_table : chkSs sg n_is_a_table (fun _ => true) (defScope (tp 15)) b_is_a_table (defBody (tp 15)) = true := by decide +kernel
theorem s_is_a_table : FnScope n_is_a_table [("value" : PySem.Str)] (defScope (tp 15)) := ⟨rfl, rfl, rfl, by decide +kernel, rfl, by decide +kernel, by decide +kernel⟩
theorem c_many_of : chkSs sg n_many_of (fun _ => true) (defScope (tp 16)) b_many_of (defBody (tp 16)) = true := by decide +kernel
theorem s_many_of : FnScope n_many_of [("game" : PySem.Str), ("side" : PySem.Str)] (defScope (tp 16)) := ⟨rfl, rfl, rfl, by decide +kernel, rfl, by decide +kernel, by decide +kernel⟩
theorem c_is_a_mix : chkSs sg n_is_a_mix (fun _ => true) (defScope (tp 17)) b_is_a_mix (defBody (tp 17)) = true := by decide +kernel
theorem s_is_a_mix : FnScope n_is_a_mix [("game" : PySem.Str), ("side" : PySem.Str), ("value" : PySem.Str)] (defScope (tp 17)) := ⟨rfl, rfl, rfl, by decide +kernel, rfl, by decide +kernel, by decide +kernel⟩
theorem c_need_mix : chkSs sg n_need_mix (fun _ => true) (defScope (tp 18)) b_need_mix (defBody (tp 18)) = true := by decide +kernel
theorem s_need_mix : FnScope n_need_mix [("game" : PySem.Str), ("side" : PySem.Str), ("mix" : PySem.Str)] (defScope (tp 18)) := ⟨rfl, rfl, rfl, by decide +kernel, rfl, by decide +kernel, by decide +kernel⟩
theorem c_reduced : chkSs sg n_reduced (fun _ => true) (defScope (tp 20)) b_reduced (defBody (tp 20)) = true := by decide +kernel
theorem s_reduced : FnScope n_reduced [("above" : PySem.Str), ("below" : PySem.Str)] (defScope (tp 20)) := ⟨rfl, rfl, rfl, by decide +kernel, rfl, by decide +kernel, by decide +kernel⟩
theorem c_got : chkSs sg n_got (fun _ => true) (defScope (tp 22)) b_got (defBody (tp 22)) = true := by decide +kernel
theorem s_got : FnScope n_got [("game" : PySem.Str), ("side" : PySem.Str), ("own" : PySem.Str), ("others" : PySem.Str)] (defScope (tp 22)) := ⟨rfl, rfl, rfl, by decide +kernel, rfl, by decide +kernel, by decide +kernel⟩
theorem c_shares : chkSs sg n_shares (fun _ => true) (defScope (tp 23)) b_shares (defBody (tp 23)) = true := by decide +kernel
theorem s_shares : FnScope n_shares [("mix" : PySem.Str)] (defScope (tp 23)) := ⟨rfl, rfl, rfl, by decide +kernel, rfl, by decide +kernel, by decide +kernel⟩
theorem c_sums_against : chkSs sg n_sums_against (fun _ => true) (defScope (tp 24)) b_sums_against (defBody (tp 24)) = true := by decide +kernel
theorem s_sums_against : FnScope n_sums_against [("game" : PySem.Str), ("side" : PySem.Str), ("numbers" : PySem.Str)] (defScope (tp 24)) := ⟨rfl, rfl, rfl, by decide +kernel, rfl, by decide +kernel, by decide +kernel⟩
theorem c_need_table : chkSs sg n_need_table (fun _ => true) (defScope (tp 26)) b_need_table (defBody (tp 26)) = true := by decide +kernel
theorem s_need_table : FnScope n_need_table [("table" : PySem.Str)] (defScope (tp 26)) := ⟨rfl, rfl, rfl, by decide +kernel, rfl, by decide +kernel, by decide +kernel⟩
theorem c_enemies : chkSs sg n_enemies (fun _ => true) (defScope (tp 27)) b_enemies (defBody (tp 27)) = true := by decide +kernel
theorem s_enemies : FnScope n_enemies [("table" : PySem.Str)] (defScope (tp 27)) := ⟨rfl, rfl, rfl, by decide +kernel, rfl, by decide +kernel, by decide +kernel⟩
theorem c_least_got : chkSs sg n_least_got (fun _ => true) (defScope (tp 28)) b_least_got (defBody (tp 28)) = true := by decide +kernel
theorem s_least_got : FnScope n_least_got [("table" : PySem.Str), ("one" : PySem.Str)] (defScope (tp 28)) := ⟨rfl, rfl, rfl, by decide +kernel, rfl, by decide +kernel, by decide +kernel⟩
theorem c_most_got : chkSs sg n_most_got (fun _ => true) (defScope (tp 29)) b_most_got (defBody (tp 29)) = true := by decide +kernel
theorem s_most_got : FnScope n_most_got [("table" : PySem.Str), ("other" : PySem.Str)] (defScope (tp 29)) := ⟨rfl, rfl, rfl, by decide +kernel, rfl, by decide +kernel, by decide +kernel⟩
theorem c_is_table : chkSs sg n_is_table (fun _ => true) (defScope (tp 30)) b_is_table (defBody (tp 30)) = true := by decide +kernel
theorem s_is_table : FnScope n_is_table [("value" : PySem.Str)] (defScope (tp 30)) := ⟨rfl, rfl, rfl, by decide +kernel, rfl, by decide +kernel, by decide +kernel⟩
theorem c_against : chkSs sg n_against (fun _ => true) (defScope (tp 31)) b_against (defBody (tp 31)) = true := by decide +kernel
theorem s_against : FnScope n_against [("table" : PySem.Str)] (defScope (tp 31)) := ⟨rfl, rfl, rfl, by decide +kernel, rfl, by decide +kernel, by decide +kernel⟩
theorem c_at_least : chkSs sg n_at_least (fun _ => true) (defScope (tp 32)) b_at_least (defBody (tp 32)) = true := by decide +kernel
theorem s_at_least : FnScope n_at_least [("table" : PySem.Str), ("one" : PySem.Str)] (defScope (tp 32)) := ⟨rfl, rfl, rfl, by decide +kernel, rfl, by decide +kernel, by decide +kernel⟩
theorem c_at_most : chkSs sg n_at_most (fun _ => true) (defScope (tp 33)) b_at_most (defBody (tp 33)) = true := by decide +kernel
theorem s_at_most : FnScope n_at_most [("table" : PySem.Str), ("other" : PySem.Str)] (defScope (tp 33)) := ⟨rfl, rfl, rfl, by decide +kernel, rfl, by decide +kernel, by decide +kernel⟩
theorem c__law_deck : chkSs sg n__law_deck (fun _ => true) (defScope (tp 35)) b__law_deck (defBody (tp 35)) = true := by decide +kernel
theorem s__law_deck : FnScope n__law_deck [("script" : PySem.Str), ("k" : PySem.Str)] (defScope (tp 35)) := ⟨rfl, rfl, rfl, by decide +kernel, rfl, by decide +kernel, by decide +kernel⟩
theorem c__law_draw : chkSs sg n__law_draw (fun _ => true) (defScope (tp 36)) b__law_draw (defBody (tp 36)) = true := by decide +kernel
theorem s__law_draw : FnScope n__law_draw [("deck" : PySem.Str), ("many" : PySem.Str)] (defScope (tp 36)) := ⟨rfl, rfl, rfl, by decide +kernel, rfl, by decide +kernel, by decide +kernel⟩
theorem c__law_gcd : chkSs sg n__law_gcd (fun _ => true) (defScope (tp 37)) b__law_gcd (defBody (tp 37)) = true := by decide +kernel
theorem s__law_gcd : FnScope n__law_gcd [("one" : PySem.Str), ("other" : PySem.Str)] (defScope (tp 37)) := ⟨rfl, rfl, rfl, by decide +kernel, rfl, by decide +kernel, by decide +kernel⟩
theorem c__law_ratio : chkSs sg n__law_ratio (fun _ => true) (defScope (tp 38)) b__law_ratio (defBody (tp 38)) = true := by decide +kernel
theorem s__law_ratio : FnScope n__law_ratio [("above" : PySem.Str), ("below" : PySem.Str)] (defScope (tp 38)) := ⟨rfl, rfl, rfl, by decide +kernel, rfl, by decide +kernel, by decide +kernel⟩
theorem c__law_mix : chkSs sg n__law_mix (fun _ => true) (defScope (tp 39)) b__law_mix (defBody (tp 39)) = true := by decide +kernel
theorem s__law_mix : FnScope n__law_mix [("weights" : PySem.Str)] (defScope (tp 39)) := ⟨rfl, rfl, rfl, by decide +kernel, rfl, by decide +kernel, by decide +kernel⟩
theorem c__law_weights : chkSs sg n__law_weights (fun _ => true) (defScope (tp 40)) b__law_weights (defBody (tp 40)) = true := by decide +kernel
theorem s__law_weights : FnScope n__law_weights [("deck" : PySem.Str), ("many" : PySem.Str)] (defScope (tp 40)) := ⟨rfl, rfl, rfl, by decide +kernel, rfl, by decide +kernel, by decide +kernel⟩
theorem c__law_table : chkSs sg n__law_table (fun _ => true) (defScope (tp 41)) b__law_table (defBody (tp 41)) = true := by decide +kernel
theorem s__law_table : FnScope n__law_table [("deck" : PySem.Str), ("rows" : PySem.Str), ("columns" : PySem.Str)] (defScope (tp 41)) := ⟨rfl, rfl, rfl, by decide +kernel, rfl, by decide +kernel, by decide +kernel⟩
theorem c__law_frozen : chkSs sg n__law_frozen (fun _ => true) (defScope (tp 42)) b__law_frozen (defBody (tp 42)) = true := by decide +kernel
theorem s__law_frozen : FnScope n__law_frozen [("lines" : PySem.Str)] (defScope (tp 42)) := ⟨rfl, rfl, rfl, by decide +kernel, rfl, by decide +kernel, by decide +kernel⟩
theorem c__law_turned : chkSs sg n__law_turned (fun _ => true) (defScope (tp 43)) b__law_turned (defBody (tp 43)) = true := by decide +kernel
theorem s__law_turned : FnScope n__law_turned [("lines" : PySem.Str)] (defScope (tp 43)) := ⟨rfl, rfl, rfl, by decide +kernel, rfl, by decide +kernel, by decide +kernel⟩
theorem c__law_sums : chkSs sg n__law_sums (fun _ => true) (defScope (tp 44)) b__law_sums (defBody (tp 44)) = true := by decide +kernel
theorem s__law_sums : FnScope n__law_sums [("lines" : PySem.Str), ("numbers" : PySem.Str)] (defScope (tp 44)) := ⟨rfl, rfl, rfl, by decide +kernel, rfl, by decide +kernel, by decide +kernel⟩
theorem c__law_same : chkSs sg n__law_same (fun _ => true) (defScope (tp 45)) b__law_same (defBody (tp 45)) = true := by decide +kernel
theorem s__law_same : FnScope n__law_same [("found" : PySem.Str), ("due" : PySem.Str)] (defScope (tp 45)) := ⟨rfl, rfl, rfl, by decide +kernel, rfl, by decide +kernel, by decide +kernel⟩
theorem c__law_odd : chkSs sg n__law_odd (fun _ => true) (defScope (tp 46)) b__law_odd (defBody (tp 46)) = true := by decide +kernel
theorem s__law_odd : FnScope n__law_odd [("deck" : PySem.Str), ("part" : PySem.Str)] (defScope (tp 46)) := ⟨rfl, rfl, rfl, by decide +kernel, rfl, by decide +kernel, by decide +kernel⟩
theorem c__law_bent : chkSs sg n__law_bent (fun _ => true) (defScope (tp 47)) b__law_bent (defBody (tp 47)) = true := by decide +kernel
theorem s__law_bent : FnScope n__law_bent [("deck" : PySem.Str), ("value" : PySem.Str)] (defScope (tp 47)) := ⟨rfl, rfl, rfl, by decide +kernel, rfl, by decide +kernel, by decide +kernel⟩
theorem c__law_integer : chkSs sg n__law_integer (fun _ => true) (defScope (tp 48)) b__law_integer (defBody (tp 48)) = true := by decide +kernel
theorem s__law_integer : FnScope n__law_integer [("value" : PySem.Str)] (defScope (tp 48)) := ⟨rfl, rfl, rfl, by decide +kernel, rfl, by decide +kernel, by decide +kernel⟩
theorem c__law_is_table : chkSs sg n__law_is_table (fun _ => true) (defScope (tp 49)) b__law_is_table (defBody (tp 49)) = true := by decide +kernel
theorem s__law_is_table : FnScope n__law_is_table [("value" : PySem.Str)] (defScope (tp 49)) := ⟨rfl, rfl, rfl, by decide +kernel, rfl, by decide +kernel, by decide +kernel⟩
theorem c__law_judged : chkSs sg n__law_judged (fun _ => true) (defScope (tp 50)) b__law_judged (defBody (tp 50)) = true := by decide +kernel
theorem s__law_judged : FnScope n__law_judged [("value" : PySem.Str), ("named" : PySem.Str)] (defScope (tp 50)) := ⟨rfl, rfl, rfl, by decide +kernel, rfl, by decide +kernel, by decide +kernel⟩
theorem c__law_got_right : chkSs sg n__law_got_right (fun _ => true) (defScope (tp 51)) b__law_got_right (defBody (tp 51)) = true := by decide +kernel
theorem s__law_got_right : FnScope n__law_got_right [("lines" : PySem.Str), ("table" : PySem.Str), ("side" : PySem.Str), ("weights" : PySem.Str), ("named" : PySem.Str)] (defScope (tp 51)) := ⟨rfl, rfl, rfl, by decide +kernel, rfl, by decide +kernel, by decide +kernel⟩
theorem c__law_values : chkSs sg n__law_values (fun _ => true) (defScope (tp 52)) b__law_values (defBody (tp 52)) = true := by decide +kernel
theorem s__law_values : FnScope n__law_values [("deck" : PySem.Str), ("table" : PySem.Str)] (defScope (tp 52)) := ⟨rfl, rfl, rfl, by decide +kernel, rfl, by decide +kernel, by decide +kernel⟩
theorem c__law_number_right : chkSs sg n__law_number_right (fun _ => true) (defScope (tp 53)) b__law_number_right (defBody (tp 53)) = true := by decide +kernel
theorem s__law_number_right : FnScope n__law_number_right [("script" : PySem.Str), ("k" : PySem.Str)] (defScope (tp 53)) := ⟨rfl, rfl, rfl, by decide +kernel, rfl, by decide +kernel, by decide +kernel⟩
theorem c_law : chkSs sg n_law (fun _ => true) (defScope (tp 54)) b_law (defBody (tp 54)) = true := by decide +kernel
theorem s_law : FnScope n_law [("script" : PySem.Str)] (defScope (tp 54)) := ⟨rfl, rfl, rfl, by decide +kernel, rfl, by decide +kernel, by decide +kernel⟩
def fn : List He.DefD := [⟨(("is_integer" : PySem.Str), none), ("is_integer" : PySem.Str), ("is_integer" : PySem.Str), defArgs (tp 8), defBody (tp 8), defScope (tp 8), [], []⟩,
  ⟨(("anew" : PySem.Str), none), ("anew" : PySem.Str), ("anew" : PySem.Str), defArgs (tp 9), defBody (tp 9), defScope (tp 9), [], []⟩,
  ⟨(("is_within" : PySem.Str), none), ("is_within" : PySem.Str), ("is_within" : PySem.Str), defArgs (tp 10), defBody (tp 10), defScope (tp 10), [], []⟩,
  ⟨(("is_fraction" : PySem.Str), none), ("is_fraction" : PySem.Str), ("is_fraction" : PySem.Str), defArgs (tp 11), defBody (tp 11), defScope (tp 11), [], []⟩,
  ⟨(("comes_to_one" : PySem.Str), none), ("comes_to_one" : PySem.Str), ("comes_to_one" : PySem.Str), defArgs (tp 12), defBody (tp 12), defScope (tp 12), [], []⟩,
  ⟨(("are_chances" : PySem.Str), none), ("are_chances" : PySem.Str), ("are_chances" : PySem.Str), defArgs (tp 13), defBody (tp 13), defScope (tp 13), [], []⟩,
  ⟨(("is_a_row" : PySem.Str), none), ("is_a_row" : PySem.Str), ("is_a_row" : PySem.Str), defArgs (tp 14), defBody (tp 14), defScope (tp 14), [], []⟩,
  ⟨(("is_a_table" : PySem.Str), none), ("is_a_table" : PySem.Str), ("is_a_table" : PySem.Str), defArgs (tp 15), defBody (tp 15), defScope (tp 15), [], []⟩,
  ⟨(("many_of" : PySem.Str), none), ("many_of" : PySem.Str), ("many_of" : PySem.Str), defArgs (tp 16), defBody (tp 16), defScope (tp 16), [], []⟩,
  ⟨(("is_a_mix" : PySem.Str), none), ("is_a_mix" : PySem.Str), ("is_a_mix" : PySem.Str), defArgs (tp 17), defBody (tp 17), defScope (tp 17), [], []⟩,
  ⟨(("need_mix" : PySem.Str), none), ("need_mix" : PySem.Str), ("need_mix" : PySem.Str), defArgs (tp 18), defBody (tp 18), defScope (tp 18), [], []⟩,
  ⟨(("reduced" : PySem.Str), none), ("reduced" : PySem.Str), ("reduced" : PySem.Str), defArgs (tp 20), defBody (tp 20), defScope (tp 20), [], []⟩,
  ⟨(("got" : PySem.Str), none), ("got" : PySem.Str), ("got" : PySem.Str), defArgs (tp 22), defBody (tp 22), defScope (tp 22), [], []⟩,
  ⟨(("shares" : PySem.Str), none), ("shares" : PySem.Str), ("shares" : PySem.Str), defArgs (tp 23), defBody (tp 23), defScope (tp 23), [], []⟩,
  ⟨(("sums_against" : PySem.Str), none), ("sums_against" : PySem.Str), ("sums_against" : PySem.Str), defArgs (tp 24), defBody (tp 24), defScope (tp 24), [], []⟩,
  ⟨(("need_table" : PySem.Str), none), ("need_table" : PySem.Str), ("need_table" : PySem.Str), defArgs (tp 26), defBody (tp 26), defScope (tp 26), [], []⟩,
  ⟨(("enemies" : PySem.Str), none), ("enemies" : PySem.Str), ("enemies" : PySem.Str), defArgs (tp 27), defBody (tp 27), defScope (tp 27), [], []⟩,
  ⟨(("least_got" : PySem.Str), none), ("least_got" : PySem.Str), ("least_got" : PySem.Str), defArgs (tp 28), defBody (tp 28), defScope (tp 28), [], []⟩,
  ⟨(("most_got" : PySem.Str), none), ("most_got" : PySem.Str), ("most_got" : PySem.Str), defArgs (tp 29), defBody (tp 29), defScope (tp 29), [], []⟩,
  ⟨(("is_table" : PySem.Str), none), ("is_table" : PySem.Str), ("is_table" : PySem.Str), defArgs (tp 30), defBody (tp 30), defScope (tp 30), [], []⟩,
  ⟨(("against" : PySem.Str), none), ("against" : PySem.Str), ("against" : PySem.Str), defArgs (tp 31), defBody (tp 31), defScope (tp 31), [], []⟩,
  ⟨(("at_least" : PySem.Str), none), ("at_least" : PySem.Str), ("at_least" : PySem.Str), defArgs (tp 32), defBody (tp 32), defScope (tp 32), [], []⟩,
  ⟨(("at_most" : PySem.Str), none), ("at_most" : PySem.Str), ("at_most" : PySem.Str), defArgs (tp 33), defBody (tp 33), defScope (tp 33), [], []⟩,
  ⟨(("_law_deck" : PySem.Str), none), ("_law_deck" : PySem.Str), ("_law_deck" : PySem.Str), defArgs (tp 35), defBody (tp 35), defScope (tp 35), [], []⟩,
  ⟨(("_law_draw" : PySem.Str), none), ("_law_draw" : PySem.Str), ("_law_draw" : PySem.Str), defArgs (tp 36), defBody (tp 36), defScope (tp 36), [], []⟩,
  ⟨(("_law_gcd" : PySem.Str), none), ("_law_gcd" : PySem.Str), ("_law_gcd" : PySem.Str), defArgs (tp 37), defBody (tp 37), defScope (tp 37), [], []⟩,
  ⟨(("_law_ratio" : PySem.Str), none), ("_law_ratio" : PySem.Str), ("_law_ratio" : PySem.Str), defArgs (tp 38), defBody (tp 38), defScope (tp 38), [], []⟩,
  ⟨(("_law_mix" : PySem.Str), none), ("_law_mix" : PySem.Str), ("_law_mix" : PySem.Str), defArgs (tp 39), defBody (tp 39), defScope (tp 39), [], []⟩,
  ⟨(("_law_weights" : PySem.Str), none), ("_law_weights" : PySem.Str), ("_law_weights" : PySem.Str), defArgs (tp 40), defBody (tp 40), defScope (tp 40), [], []⟩,
  ⟨(("_law_table" : PySem.Str), none), ("_law_table" : PySem.Str), ("_law_table" : PySem.Str), defArgs (tp 41), defBody (tp 41), defScope (tp 41), [], []⟩,
  ⟨(("_law_frozen" : PySem.Str), none), ("_law_frozen" : PySem.Str), ("_law_frozen" : PySem.Str), defArgs (tp 42), defBody (tp 42), defScope (tp 42), [], []⟩,
  ⟨(("_law_turned" : PySem.Str), none), ("_law_turned" : PySem.Str), ("_law_turned" : PySem.Str), defArgs (tp 43), defBody (tp 43), defScope (tp 43), [], []⟩,
  ⟨(("_law_sums" : PySem.Str), none), ("_law_sums" : PySem.Str), ("_law_sums" : PySem.Str), defArgs (tp 44), defBody (tp 44), defScope (tp 44), [], []⟩,
  ⟨(("_law_same" : PySem.Str), none), ("_law_same" : PySem.Str), ("_law_same" : PySem.Str), defArgs (tp 45), defBody (tp 45), defScope (tp 45), [], []⟩,
  ⟨(("_law_odd" : PySem.Str), none), ("_law_odd" : PySem.Str), ("_law_odd" : PySem.Str), defArgs (tp 46), defBody (tp 46), defScope (tp 46), [], []⟩,
  ⟨(("_law_bent" : PySem.Str), none), ("_law_bent" : PySem.Str), ("_law_bent" : PySem.Str), defArgs (tp 47), defBody (tp 47), defScope (tp 47), [], []⟩,
  ⟨(("_law_integer" : PySem.Str), none), ("_law_integer" : PySem.Str), ("_law_integer" : PySem.Str), defArgs (tp 48), defBody (tp 48), defScope (tp 48), [], []⟩,
  ⟨(("_law_is_table" : PySem.Str), none), ("_law_is_table" : PySem.Str), ("_law_is_table" : PySem.Str), defArgs (tp 49), defBody (tp 49), defScope (tp 49), [], []⟩,
  ⟨(("_law_judged" : PySem.Str), none), ("_law_judged" : PySem.Str), ("_law_judged" : PySem.Str), defArgs (tp 50), defBody (tp 50), defScope (tp 50), [], []⟩,
  ⟨(("_law_got_right" : PySem.Str), none), ("_law_got_right" : PySem.Str), ("_law_got_right" : PySem.Str), defArgs (tp 51), defBody (tp 51), defScope (tp 51), [], []⟩,
  ⟨(("_law_values" : PySem.Str), none), ("_law_values" : PySem.Str), ("_law_values" : PySem.Str), defArgs (tp 52), defBody (tp 52), defScope (tp 52), [], []⟩,
  ⟨(("_law_number_right" : PySem.Str), none), ("_law_number_right" : PySem.Str), ("_law_number_right" : PySem.Str), defArgs (tp 53), defBody (tp 53), defScope (tp 53), [], []⟩,
  ⟨(("law" : PySem.Str), none), ("law" : PySem.Str), ("law" : PySem.Str), defArgs (tp 54), defBody (tp 54), defScope (tp 54), [], []⟩]
def fa : List He.Fa := [.glo ("is_integer" : PySem.Str), .glo ("anew" : PySem.Str), .glo ("is_within" : PySem.Str), .glo ("is_fraction" : PySem.Str), .glo ("comes_to_one" : PySem.Str), .glo ("are_chances" : PySem.Str), .glo ("is_a_row" : PySem.Str), .glo ("is_a_table" : PySem.Str), .glo ("many_of" : PySem.Str), .glo ("is_a_mix" : PySem.Str), .glo ("need_mix" : PySem.Str), .glo ("reduced" : PySem.Str), .glo ("got" : PySem.Str), .glo ("shares" : PySem.Str), .glo ("sums_against" : PySem.Str), .glo ("need_table" : PySem.Str), .glo ("enemies" : PySem.Str), .glo ("least_got" : PySem.Str), .glo ("most_got" : PySem.Str), .glo ("is_table" : PySem.Str), .glo ("against" : PySem.Str), .glo ("at_least" : PySem.Str), .glo ("at_most" : PySem.Str), .glo ("_law_deck" : PySem.Str), .glo ("_law_draw" : PySem.Str), .glo ("_law_gcd" : PySem.Str), .glo ("_law_ratio" : PySem.Str), .glo ("_law_mix" : PySem.Str), .glo ("_law_weights" : PySem.Str), .glo ("_law_table" : PySem.Str), .glo ("_law_frozen" : PySem.Str), .glo ("_law_turned" : PySem.Str), .glo ("_law_sums" : PySem.Str), .glo ("_law_same" : PySem.Str), .glo ("_law_odd" : PySem.Str), .glo ("_law_bent" : PySem.Str), .glo ("_law_integer" : PySem.Str), .glo ("_law_is_table" : PySem.Str), .glo ("_law_judged" : PySem.Str), .glo ("_law_got_right" : PySem.Str), .glo ("_law_values" : PySem.Str), .glo ("_law_number_right" : PySem.Str), .glo ("law" : PySem.Str), .free ("abs" : PySem.Str), .free ("all" : PySem.Str), .free ("bool" : PySem.Str), .free ("enumerate" : PySem.Str), .free ("int" : PySem.Str), .free ("isinstance" : PySem.Str), .free ("len" : PySem.Str), .free ("list" : PySem.Str), .free ("max" : PySem.Str), .free ("min" : PySem.Str), .free ("range" : PySem.Str), .free ("repr" : PySem.Str), .free ("str" : PySem.Str), .free ("sum" : PySem.Str), .free ("tuple" : PySem.Str), .int ("MOST_CHOICES" : PySem.Str) 5, .int ("MOST_NUMBER" : PySem.Str) 1000]
def gs : List Gx := [.imp ("gcd" : PySem.Str) "math.gcd", .imp ("lcm" : PySem.Str) "math.lcm"]
section
variable {K : PySem.W.Frag} {h : Heap} {mg : Str → Option Value}
theorem t_is_integer (X : K.In h) (ns : h.Ns mainGlobals mg) (c : He.SaysD fa fn K) : DefOk sg K mg ("is_integer" : PySem.Str) d_is_integer :=
  defOk_of (i := 0) X ns c 0 rfl rfl s_is_integer rfl rfl (fun _ _ _ _ _ _ us hl => match us, hl with | [_], _ => rfl) (fun nms perm m => (kw_none (by decide +kernel) m).elim) c_is_integer
theorem t_anew (X : K.In h) (ns : h.Ns mainGlobals mg) (c : He.SaysD fa fn K) : DefOk sg K mg ("anew" : PySem.Str) d_anew :=
  defOk_of (i := 1) X ns c 1 rfl rfl s_anew rfl rfl (fun _ _ _ _ _ _ us hl => match us, hl with | [_], _ => rfl) (fun nms perm m => (kw_none (by decide +kernel) m).elim) c_anew
theorem t_is_within (X : K.In h) (ns : h.Ns mainGlobals mg) (c : He.SaysD fa fn K) : DefOk sg K mg ("is_within" : PySem.Str) d_is_within :=
  defOk_of (i := 2) X ns c 2 rfl rfl s_is_within rfl rfl (fun _ _ _ _ _ _ us hl => match us, hl with | [_, _, _], _ => rfl) (fun nms perm m => (kw_none (by decide +kernel) m).elim) c_is_within
theorem t_is_fraction (X : K.In h) (ns : h.Ns mainGlobals mg) (c : He.SaysD fa fn K) : DefOk sg K mg ("is_fraction" : PySem.Str) d_is_fraction :=
  defOk_of (i := 3) X ns c 3 rfl rfl s_is_fraction rfl rfl (fun _ _ _ _ _ _ us hl => match us, hl with | [_], _ => rfl) (fun nms perm m => (kw_none (by decide +kernel) m).elim) c_is_fraction
theorem t_comes_to_one (X : K.In h) (ns : h.Ns mainGlobals mg) (c : He.SaysD fa fn K) : DefOk sg K mg ("comes_to_one" : PySem.Str) d_comes_to_one :=
  defOk_of (i := 4) X ns c 4 rfl rfl s_comes_to_one rfl rfl (fun _ _ _ _ _ _ us hl => match us, hl with | [_], _ => rfl) (fun nms perm m => (kw_none (by decide +kernel) m).elim) c_comes_to_one
theorem t_are_chances (X : K.In h) (ns : h.Ns mainGlobals mg) (c : He.SaysD fa fn K) : DefOk sg K mg ("are_chances" : PySem.Str) d_are_chances :=
  defOk_of (i := 5) X ns c 5 rfl rfl s_are_chances rfl rfl (fun _ _ _ _ _ _ us hl => match us, hl with | [_, _], _ => rfl) (fun nms perm m => (kw_none (by decide +kernel) m).elim) c_are_chances
theorem t_is_a_row (X : K.In h) (ns : h.Ns mainGlobals mg) (c : He.SaysD fa fn K) : DefOk sg K mg ("is_a_row" : PySem.Str) d_is_a_row :=
  defOk_of (i := 6) X ns c 6 rfl rfl s_is_a_row rfl rfl (fun _ _ _ _ _ _ us hl => match us, hl with | [_, _], _ => rfl) (fun nms perm m => (kw_none (by decide +kernel) m).elim) c_is_a_row
theorem t_is_a_table (X : K.In h) (ns : h.Ns mainGlobals mg) (c : He.SaysD fa fn K) : DefOk sg K mg ("is_a_table" : PySem.Str) d_is_a_table :=
  defOk_of (i := 7) X ns c 7 rfl rfl s_is_a_table rfl rfl (fun _ _ _ _ _ _ us hl => match us, hl with | [_], _ => rfl) (fun nms perm m => (kw_none (by decide +kernel) m).elim) c_is_a_table
theorem t_many_of (X : K.In h) (ns : h.Ns mainGlobals mg) (c : He.SaysD fa fn K) : DefOk sg K mg ("many_of" : PySem.Str) d_many_of :=
  defOk_of (i := 8) X ns c 8 rfl rfl s_many_of rfl rfl (fun _ _ _ _ _ _ us hl => match us, hl with | [_, _], _ => rfl) (fun nms perm m => (kw_none (by decide +kernel) m).elim) c_many_of
theorem t_is_a_mix (X : K.In h) (ns : h.Ns mainGlobals mg) (c : He.SaysD fa fn K) : DefOk sg K mg ("is_a_mix" : PySem.Str) d_is_a_mix :=
  defOk_of (i := 9) X ns c 9 rfl rfl s_is_a_mix rfl rfl (fun _ _ _ _ _ _ us hl => match us, hl with | [_, _, _], _ => rfl) (fun nms perm m => (kw_none (by decide +kernel) m).elim) c_is_a_mix
theorem t_need_mix (X : K.In h) (ns : h.Ns mainGlobals mg) (c : He.SaysD fa fn K) : DefOk sg K mg ("need_mix" : PySem.Str) d_need_mix :=
  defOk_of (i := 10) X ns c 10 rfl rfl s_need_mix rfl rfl (fun _ _ _ _ _ _ us hl => match us, hl with | [_, _, _], _ => rfl) (fun nms perm m => (kw_none (by decide +kernel) m).elim) c_need_mix
theorem t_reduced (X : K.In h) (ns : h.Ns mainGlobals mg) (c : He.SaysD fa fn K) : DefOk sg K mg ("reduced" : PySem.Str) d_reduced :=
  defOk_of (i := 11) X ns c 11 rfl rfl s_reduced rfl rfl (fun _ _ _ _ _ _ us hl => match us, hl with | [_, _], _ => rfl) (fun nms perm m => (kw_none (by decide +kernel) m).elim) c_reduced
theorem t_got (X : K.In h) (ns : h.Ns mainGlobals mg) (c : He.SaysD fa fn K) : DefOk sg K mg ("got" : PySem.Str) d_got :=
  defOk_of (i := 12) X ns c 12 rfl rfl s_got rfl rfl (fun _ _ _ _ _ _ us hl => match us, hl with | [_, _, _, _], _ => rfl) (fun nms perm m => (kw_none (by decide +kernel) m).elim) c_got
theorem t_shares (X : K.In h) (ns : h.Ns mainGlobals mg) (c : He.SaysD fa fn K) : DefOk sg K mg ("shares" : PySem.Str) d_shares :=
  defOk_of (i := 13) X ns c 13 rfl rfl s_shares rfl rfl (fun _ _ _ _ _ _ us hl => match us, hl with | [_], _ => rfl) (fun nms perm m => (kw_none (by decide +kernel) m).elim) c_shares
theorem t_sums_against (X : K.In h) (ns : h.Ns mainGlobals mg) (c : He.SaysD fa fn K) : DefOk sg K mg ("sums_against" : PySem.Str) d_sums_against :=
  defOk_of (i := 14) X ns c 14 rfl rfl s_sums_against rfl rfl (fun _ _ _ _ _ _ us hl => match us, hl with | [_, _, _], _ => rfl) (fun nms perm m => (kw_none (by decide +kernel) m).elim) c_sums_against
theorem t_need_table (X : K.In h) (ns : h.Ns mainGlobals mg) (c : He.SaysD fa fn K) : DefOk sg K mg ("need_table" : PySem.Str) d_need_table :=
  defOk_of (i := 15) X ns c 15 rfl rfl s_need_table rfl rfl (fun _ _ _ _ _ _ us hl => match us, hl with | [_], _ => rfl) (fun nms perm m => (kw_none (by decide +kernel) m).elim) c_need_table
theorem t_enemies (X : K.In h) (ns : h.Ns mainGlobals mg) (c : He.SaysD fa fn K) : DefOk sg K mg ("enemies" : PySem.Str) d_enemies :=
  defOk_of (i := 16) X ns c 16 rfl rfl s_enemies rfl rfl (fun _ _ _ _ _ _ us hl => match us, hl with | [_], _ => rfl) (fun nms perm m => (kw_none (by decide +kernel) m).elim) c_enemies
theorem t_least_got (X : K.In h) (ns : h.Ns mainGlobals mg) (c : He.SaysD fa fn K) : DefOk sg K mg ("least_got" : PySem.Str) d_least_got :=
  defOk_of (i := 17) X ns c 17 rfl rfl s_least_got rfl rfl (fun _ _ _ _ _ _ us hl => match us, hl with | [_, _], _ => rfl) (fun nms perm m => (kw_none (by decide +kernel) m).elim) c_least_got
theorem t_most_got (X : K.In h) (ns : h.Ns mainGlobals mg) (c : He.SaysD fa fn K) : DefOk sg K mg ("most_got" : PySem.Str) d_most_got :=
  defOk_of (i := 18) X ns c 18 rfl rfl s_most_got rfl rfl (fun _ _ _ _ _ _ us hl => match us, hl with | [_, _], _ => rfl) (fun nms perm m => (kw_none (by decide +kernel) m).elim) c_most_got
theorem t_is_table (X : K.In h) (ns : h.Ns mainGlobals mg) (c : He.SaysD fa fn K) : DefOk sg K mg ("is_table" : PySem.Str) d_is_table :=
  defOk_of (i := 19) X ns c 19 rfl rfl s_is_table rfl rfl (fun _ _ _ _ _ _ us hl => match us, hl with | [_], _ => rfl) (fun nms perm m kV doc pm an cdv ct us zs hl hp => by
    have e := kw_some (a := ([("value" : PySem.Str)], [0])) (by decide +kernel) m
    cases e
    exact match us, hl, hp with | [_], _, hp => by cases hp; rfl) c_is_table
theorem t_against (X : K.In h) (ns : h.Ns mainGlobals mg) (c : He.SaysD fa fn K) : DefOk sg K mg ("against" : PySem.Str) d_against :=
  defOk_of (i := 20) X ns c 20 rfl rfl s_against rfl rfl (fun _ _ _ _ _ _ us hl => match us, hl with | [_], _ => rfl) (fun nms perm m kV doc pm an cdv ct us zs hl hp => by
    have e := kw_some (a := ([("table" : PySem.Str)], [0])) (by decide +kernel) m
    cases e
    exact match us, hl, hp with | [_], _, hp => by cases hp; rfl) c_against
theorem t_at_least (X : K.In h) (ns : h.Ns mainGlobals mg) (c : He.SaysD fa fn K) : DefOk sg K mg ("at_least" : PySem.Str) d_at_least :=
  defOk_of (i := 21) X ns c 21 rfl rfl s_at_least rfl rfl (fun _ _ _ _ _ _ us hl => match us, hl with | [_, _], _ => rfl) (fun nms perm m kV doc pm an cdv ct us zs hl hp => by
    have e := kw_some (a := ([("one" : PySem.Str), ("table" : PySem.Str)], [1, 0])) (by decide +kernel) m
    cases e
    exact match us, hl, hp with | [_, _], _, hp => by cases hp; rfl) c_at_least
theorem t_at_most (X : K.In h) (ns : h.Ns mainGlobals mg) (c : He.SaysD fa fn K) : DefOk sg K mg ("at_most" : PySem.Str) d_at_most :=
  defOk_of (i := 22) X ns c 22 rfl rfl s_at_most rfl rfl (fun _ _ _ _ _ _ us hl => match us, hl with | [_, _], _ => rfl) (fun nms perm m kV doc pm an cdv ct us zs hl hp => by
    have e := kw_some (a := ([("other" : PySem.Str), ("table" : PySem.Str)], [1, 0])) (by decide +kernel) m
    cases e
    exact match us, hl, hp with | [_, _], _, hp => by cases hp; rfl) c_at_most
theorem t__law_deck (X : K.In h) (ns : h.Ns mainGlobals mg) (c : He.SaysD fa fn K) : DefOk sg K mg ("_law_deck" : PySem.Str) d__law_deck :=
  defOk_of (i := 23) X ns c 23 rfl rfl s__law_deck rfl rfl (fun _ _ _ _ _ _ us hl => match us, hl with | [_, _], _ => rfl) (fun nms perm m => (kw_none (by decide +kernel) m).elim) c__law_deck
theorem t__law_draw (X : K.In h) (ns : h.Ns mainGlobals mg) (c : He.SaysD fa fn K) : DefOk sg K mg ("_law_draw" : PySem.Str) d__law_draw :=
  defOk_of (i := 24) X ns c 24 rfl rfl s__law_draw rfl rfl (fun _ _ _ _ _ _ us hl => match us, hl with | [_, _], _ => rfl) (fun nms perm m => (kw_none (by decide +kernel) m).elim) c__law_draw
theorem t__law_gcd (X : K.In h) (ns : h.Ns mainGlobals mg) (c : He.SaysD fa fn K) : DefOk sg K mg ("_law_gcd" : PySem.Str) d__law_gcd :=
  defOk_of (i := 25) X ns c 25 rfl rfl s__law_gcd rfl rfl (fun _ _ _ _ _ _ us hl => match us, hl with | [_, _], _ => rfl) (fun nms perm m => (kw_none (by decide +kernel) m).elim) c__law_gcd
theorem t__law_ratio (X : K.In h) (ns : h.Ns mainGlobals mg) (c : He.SaysD fa fn K) : DefOk sg K mg ("_law_ratio" : PySem.Str) d__law_ratio :=
  defOk_of (i := 26) X ns c 26 rfl rfl s__law_ratio rfl rfl (fun _ _ _ _ _ _ us hl => match us, hl with | [_, _], _ => rfl) (fun nms perm m => (kw_none (by decide +kernel) m).elim) c__law_ratio
theorem t__law_mix (X : K.In h) (ns : h.Ns mainGlobals mg) (c : He.SaysD fa fn K) : DefOk sg K mg ("_law_mix" : PySem.Str) d__law_mix :=
  defOk_of (i := 27) X ns c 27 rfl rfl s__law_mix rfl rfl (fun _ _ _ _ _ _ us hl => match us, hl with | [_], _ => rfl) (fun nms perm m => (kw_none (by decide +kernel) m).elim) c__law_mix
theorem t__law_weights (X : K.In h) (ns : h.Ns mainGlobals mg) (c : He.SaysD fa fn K) : DefOk sg K mg ("_law_weights" : PySem.Str) d__law_weights :=
  defOk_of (i := 28) X ns c 28 rfl rfl s__law_weights rfl rfl (fun _ _ _ _ _ _ us hl => match us, hl with | [_, _], _ => rfl) (fun nms perm m => (kw_none (by decide +kernel) m).elim) c__law_weights
theorem t__law_table (X : K.In h) (ns : h.Ns mainGlobals mg) (c : He.SaysD fa fn K) : DefOk sg K mg ("_law_table" : PySem.Str) d__law_table :=
  defOk_of (i := 29) X ns c 29 rfl rfl s__law_table rfl rfl (fun _ _ _ _ _ _ us hl => match us, hl with | [_, _, _], _ => rfl) (fun nms perm m => (kw_none (by decide +kernel) m).elim) c__law_table
theorem t__law_frozen (X : K.In h) (ns : h.Ns mainGlobals mg) (c : He.SaysD fa fn K) : DefOk sg K mg ("_law_frozen" : PySem.Str) d__law_frozen :=
  defOk_of (i := 30) X ns c 30 rfl rfl s__law_frozen rfl rfl (fun _ _ _ _ _ _ us hl => match us, hl with | [_], _ => rfl) (fun nms perm m => (kw_none (by decide +kernel) m).elim) c__law_frozen
theorem t__law_turned (X : K.In h) (ns : h.Ns mainGlobals mg) (c : He.SaysD fa fn K) : DefOk sg K mg ("_law_turned" : PySem.Str) d__law_turned :=
  defOk_of (i := 31) X ns c 31 rfl rfl s__law_turned rfl rfl (fun _ _ _ _ _ _ us hl => match us, hl with | [_], _ => rfl) (fun nms perm m => (kw_none (by decide +kernel) m).elim) c__law_turned
theorem t__law_sums (X : K.In h) (ns : h.Ns mainGlobals mg) (c : He.SaysD fa fn K) : DefOk sg K mg ("_law_sums" : PySem.Str) d__law_sums :=
  defOk_of (i := 32) X ns c 32 rfl rfl s__law_sums rfl rfl (fun _ _ _ _ _ _ us hl => match us, hl with | [_, _], _ => rfl) (fun nms perm m => (kw_none (by decide +kernel) m).elim) c__law_sums
theorem t__law_same (X : K.In h) (ns : h.Ns mainGlobals mg) (c : He.SaysD fa fn K) : DefOk sg K mg ("_law_same" : PySem.Str) d__law_same :=
  defOk_of (i := 33) X ns c 33 rfl rfl s__law_same rfl rfl (fun _ _ _ _ _ _ us hl => match us, hl with | [_, _], _ => rfl) (fun nms perm m => (kw_none (by decide +kernel) m).elim) c__law_same
theorem t__law_odd (X : K.In h) (ns : h.Ns mainGlobals mg) (c : He.SaysD fa fn K) : DefOk sg K mg ("_law_odd" : PySem.Str) d__law_odd :=
  defOk_of (i := 34) X ns c 34 rfl rfl s__law_odd rfl rfl (fun _ _ _ _ _ _ us hl => match us, hl with | [_, _], _ => rfl) (fun nms perm m => (kw_none (by decide +kernel) m).elim) c__law_odd
theorem t__law_bent (X : K.In h) (ns : h.Ns mainGlobals mg) (c : He.SaysD fa fn K) : DefOk sg K mg ("_law_bent" : PySem.Str) d__law_bent :=
  defOk_of (i := 35) X ns c 35 rfl rfl s__law_bent rfl rfl (fun _ _ _ _ _ _ us hl => match us, hl with | [_, _], _ => rfl) (fun nms perm m => (kw_none (by decide +kernel) m).elim) c__law_bent
theorem t__law_integer (X : K.In h) (ns : h.Ns mainGlobals mg) (c : He.SaysD fa fn K) : DefOk sg K mg ("_law_integer" : PySem.Str) d__law_integer :=
  defOk_of (i := 36) X ns c 36 rfl rfl s__law_integer rfl rfl (fun _ _ _ _ _ _ us hl => match us, hl with | [_], _ => rfl) (fun nms perm m => (kw_none (by decide +kernel) m).elim) c__law_integer
theorem t__law_is_table (X : K.In h) (ns : h.Ns mainGlobals mg) (c : He.SaysD fa fn K) : DefOk sg K mg ("_law_is_table" : PySem.Str) d__law_is_table :=
  defOk_of (i := 37) X ns c 37 rfl rfl s__law_is_table rfl rfl (fun _ _ _ _ _ _ us hl => match us, hl with | [_], _ => rfl) (fun nms perm m => (kw_none (by decide +kernel) m).elim) c__law_is_table
theorem t__law_judged (X : K.In h) (ns : h.Ns mainGlobals mg) (c : He.SaysD fa fn K) : DefOk sg K mg ("_law_judged" : PySem.Str) d__law_judged :=
  defOk_of (i := 38) X ns c 38 rfl rfl s__law_judged rfl rfl (fun _ _ _ _ _ _ us hl => match us, hl with | [_, _], _ => rfl) (fun nms perm m => (kw_none (by decide +kernel) m).elim) c__law_judged
theorem t__law_got_right (X : K.In h) (ns : h.Ns mainGlobals mg) (c : He.SaysD fa fn K) : DefOk sg K mg ("_law_got_right" : PySem.Str) d__law_got_right :=
  defOk_of (i := 39) X ns c 39 rfl rfl s__law_got_right rfl rfl (fun _ _ _ _ _ _ us hl => match us, hl with | [_, _, _, _, _], _ => rfl) (fun nms perm m => (kw_none (by decide +kernel) m).elim) c__law_got_right
theorem t__law_values (X : K.In h) (ns : h.Ns mainGlobals mg) (c : He.SaysD fa fn K) : DefOk sg K mg ("_law_values" : PySem.Str) d__law_values :=
  defOk_of (i := 40) X ns c 40 rfl rfl s__law_values rfl rfl (fun _ _ _ _ _ _ us hl => match us, hl with | [_, _], _ => rfl) (fun nms perm m => (kw_none (by decide +kernel) m).elim) c__law_values
theorem t__law_number_right (X : K.In h) (ns : h.Ns mainGlobals mg) (c : He.SaysD fa fn K) : DefOk sg K mg ("_law_number_right" : PySem.Str) d__law_number_right :=
  defOk_of (i := 41) X ns c 41 rfl rfl s__law_number_right rfl rfl (fun _ _ _ _ _ _ us hl => match us, hl with | [_, _], _ => rfl) (fun nms perm m => (kw_none (by decide +kernel) m).elim) c__law_number_right
theorem t_law (X : K.In h) (ns : h.Ns mainGlobals mg) (c : He.SaysD fa fn K) : DefOk sg K mg ("law" : PySem.Str) d_law :=
  defOk_of (i := 42) X ns c 42 rfl rfl s_law rfl rfl (fun _ _ _ _ _ _ us hl => match us, hl with | [_], _ => rfl) (fun nms perm m => (kw_none (by decide +kernel) m).elim) c_law
theorem tabOk (X : K.In h) (ns : h.Ns mainGlobals mg) (c : He.SaysD fa fn K) (g : gs.all (Gx.ok K) = true) : TabOk sg K mg tab where
  fn := fun f x e => match f, e with
    | 0, e => (Option.some.inj e) ▸ ⟨_, rfl, t_is_integer X ns c⟩
    | 1, e => (Option.some.inj e) ▸ ⟨_, rfl, t_anew X ns c⟩
    | 2, e => (Option.some.inj e) ▸ ⟨_, rfl, t_is_within X ns c⟩
    | 3, e => (Option.some.inj e) ▸ ⟨_, rfl, t_is_fraction X ns c⟩
    | 4, e => (Option.some.inj e) ▸ ⟨_, rfl, t_comes_to_one X ns c⟩
    | 5, e => (Option.some.inj e) ▸ ⟨_, rfl, t_are_chances X ns c⟩
    | 6, e => (Option.some.inj e) ▸ ⟨_, rfl, t_is_a_row X ns c⟩
    | 7, e => (Option.some.inj e) ▸ ⟨_, rfl, t_is_a_table X ns c⟩
    | 8, e => (Option.some.inj e) ▸ ⟨_, rfl, t_many_of X ns c⟩
    | 9, e => (Option.some.inj e) ▸ ⟨_, rfl, t_is_a_mix X ns c⟩
    | 10, e => (Option.some.inj e) ▸ ⟨_, rfl, t_need_mix X ns c⟩
    | 11, e => (Option.some.inj e) ▸ ⟨_, rfl, t_reduced X ns c⟩
    | 12, e => (Option.some.inj e) ▸ ⟨_, rfl, t_got X ns c⟩
    | 13, e => (Option.some.inj e) ▸ ⟨_, rfl, t_shares X ns c⟩
    | 14, e => (Option.some.inj e) ▸ ⟨_, rfl, t_sums_against X ns c⟩
    | 15, e => (Option.some.inj e) ▸ ⟨_, rfl, t_need_table X ns c⟩
    | 16, e => (Option.some.inj e) ▸ ⟨_, rfl, t_enemies X ns c⟩
    | 17, e => (Option.some.inj e) ▸ ⟨_, rfl, t_least_got X ns c⟩
    | 18, e => (Option.some.inj e) ▸ ⟨_, rfl, t_most_got X ns c⟩
    | 19, e => (Option.some.inj e) ▸ ⟨_, rfl, t_is_table X ns c⟩
    | 20, e => (Option.some.inj e) ▸ ⟨_, rfl, t_against X ns c⟩
    | 21, e => (Option.some.inj e) ▸ ⟨_, rfl, t_at_least X ns c⟩
    | 22, e => (Option.some.inj e) ▸ ⟨_, rfl, t_at_most X ns c⟩
    | 23, e => (Option.some.inj e) ▸ ⟨_, rfl, t__law_deck X ns c⟩
    | 24, e => (Option.some.inj e) ▸ ⟨_, rfl, t__law_draw X ns c⟩
    | 25, e => (Option.some.inj e) ▸ ⟨_, rfl, t__law_gcd X ns c⟩
    | 26, e => (Option.some.inj e) ▸ ⟨_, rfl, t__law_ratio X ns c⟩
    | 27, e => (Option.some.inj e) ▸ ⟨_, rfl, t__law_mix X ns c⟩
    | 28, e => (Option.some.inj e) ▸ ⟨_, rfl, t__law_weights X ns c⟩
    | 29, e => (Option.some.inj e) ▸ ⟨_, rfl, t__law_table X ns c⟩
    | 30, e => (Option.some.inj e) ▸ ⟨_, rfl, t__law_frozen X ns c⟩
    | 31, e => (Option.some.inj e) ▸ ⟨_, rfl, t__law_turned X ns c⟩
    | 32, e => (Option.some.inj e) ▸ ⟨_, rfl, t__law_sums X ns c⟩
    | 33, e => (Option.some.inj e) ▸ ⟨_, rfl, t__law_same X ns c⟩
    | 34, e => (Option.some.inj e) ▸ ⟨_, rfl, t__law_odd X ns c⟩
    | 35, e => (Option.some.inj e) ▸ ⟨_, rfl, t__law_bent X ns c⟩
    | 36, e => (Option.some.inj e) ▸ ⟨_, rfl, t__law_integer X ns c⟩
    | 37, e => (Option.some.inj e) ▸ ⟨_, rfl, t__law_is_table X ns c⟩
    | 38, e => (Option.some.inj e) ▸ ⟨_, rfl, t__law_judged X ns c⟩
    | 39, e => (Option.some.inj e) ▸ ⟨_, rfl, t__law_got_right X ns c⟩
    | 40, e => (Option.some.inj e) ▸ ⟨_, rfl, t__law_values X ns c⟩
    | 41, e => (Option.some.inj e) ▸ ⟨_, rfl, t__law_number_right X ns c⟩
    | 42, e => (Option.some.inj e) ▸ ⟨_, rfl, t_law X ns c⟩
    | _ + 43, e => nomatch e
  cn := fun x d m => by
    have m : (x, d) ∈ ([(("MOST_CHOICES" : PySem.Str), (.int 5)), (("MOST_NUMBER" : PySem.Str), (.int 1000))] : List (Str × PyData)) := m
    simp only [List.mem_cons, Prod.mk.injEq, List.not_mem_nil, or_false] at m
    rcases m with ⟨rfl, rfl⟩ | ⟨rfl, rfl⟩
    · exact cn_int X ns c 58 rfl
    · exact cn_int X ns c 59 rfl
  bi := fun x m => by
    have m : x ∈ ([("abs" : PySem.Str), ("all" : PySem.Str), ("bool" : PySem.Str), ("enumerate" : PySem.Str), ("int" : PySem.Str), ("isinstance" : PySem.Str), ("len" : PySem.Str), ("list" : PySem.Str), ("max" : PySem.Str), ("min" : PySem.Str), ("range" : PySem.Str), ("repr" : PySem.Str), ("str" : PySem.Str), ("sum" : PySem.Str), ("tuple" : PySem.Str)] : List Str) := m
    simp only [List.mem_cons, List.not_mem_nil, or_false] at m
    rcases m with rfl | rfl | rfl | rfl | rfl | rfl | rfl | rfl | rfl | rfl | rfl | rfl | rfl | rfl | rfl
    · exact He.free_ok X ns (c.fact 43 rfl)
    · exact He.free_ok X ns (c.fact 44 rfl)
    · exact He.free_ok X ns (c.fact 45 rfl)
    · exact He.free_ok X ns (c.fact 46 rfl)
    · exact He.free_ok X ns (c.fact 47 rfl)
    · exact He.free_ok X ns (c.fact 48 rfl)
    · exact He.free_ok X ns (c.fact 49 rfl)
    · exact He.free_ok X ns (c.fact 50 rfl)
    · exact He.free_ok X ns (c.fact 51 rfl)
    · exact He.free_ok X ns (c.fact 52 rfl)
    · exact He.free_ok X ns (c.fact 53 rfl)
    · exact He.free_ok X ns (c.fact 54 rfl)
    · exact He.free_ok X ns (c.fact 55 rfl)
    · exact He.free_ok X ns (c.fact 56 rfl)
    · exact He.free_ok X ns (c.fact 57 rfl)
  gc := ⟨fun _ => imp_ok X ns g (x := ("gcd" : PySem.Str)) (b := "math.gcd") (by simp [gs]), fun _ => imp_ok X ns g (x := ("lcm" : PySem.Str)) (b := "math.lcm") (by simp [gs])⟩
end
/-! ### the head -/
abbrev rw0 : PySem.W.OpenRow := PySem.W.OpenLaw.row PySem.Challenge.rw_steadymixes_k21_tables_and_what_mixes_ge
abbrev vw : List Nat := [0, 54]
abbrev hk : PySem.W.Hook := hookG 4 fa fn gs
def ob (s : PySem.W.SharedT) : AlG := obsGG 4 fa fn gs (HandSHeadRun.getT s)
theorem ob_eq (s : PySem.W.SharedT) : ob s = hk.obs s.abs := obsGG_eq (HandSHeadRun.getT_eq s)
def loose : List Str := ([("MixError" : PySem.Str), ("InvalidMix" : PySem.Str), ("InvalidTable" : PySem.Str), ("MOST_CHOICES" : PySem.Str), ("MOST_NUMBER" : PySem.Str), ("is_integer" : PySem.Str), ("anew" : PySem.Str), ("is_within" : PySem.Str), ("is_fraction" : PySem.Str), ("comes_to_one" : PySem.Str), ("are_chances" : PySem.Str), ("is_a_row" : PySem.Str), ("is_a_table" : PySem.Str), ("many_of" : PySem.Str), ("is_a_mix" : PySem.Str), ("need_mix" : PySem.Str), ("reduced" : PySem.Str), ("got" : PySem.Str), ("shares" : PySem.Str), ("sums_against" : PySem.Str), ("need_table" : PySem.Str), ("enemies" : PySem.Str), ("least_got" : PySem.Str), ("most_got" : PySem.Str), ("is_table" : PySem.Str), ("against" : PySem.Str), ("at_least" : PySem.Str), ("at_most" : PySem.Str), ("_law_deck" : PySem.Str), ("_law_draw" : PySem.Str)] : List Str) ++ ([("_law_gcd" : PySem.Str), ("_law_ratio" : PySem.Str), ("_law_mix" : PySem.Str), ("_law_weights" : PySem.Str), ("_law_table" : PySem.Str), ("_law_frozen" : PySem.Str), ("_law_turned" : PySem.Str), ("_law_sums" : PySem.Str), ("_law_same" : PySem.Str), ("_law_odd" : PySem.Str), ("_law_bent" : PySem.Str), ("_law_integer" : PySem.Str), ("_law_is_table" : PySem.Str), ("_law_judged" : PySem.Str), ("_law_got_right" : PySem.Str), ("_law_values" : PySem.Str), ("_law_number_right" : PySem.Str)] : List Str)
theorem run (w : World) : HandSHeadRun.RunEqI rw0 (PySem.W.view rw0.prog vw) hk ob 20000 loose w := by
  unfold HandSHeadRun.RunEqI
  kernel_rfl
/-- the law, by values -/
def Sound (k fu : Nat) : Prop := ∀ ns : List Int, ns.length ≤ 63 → (∀ i ∈ ns, Builtin.Int.intBits i ≤ 1048576) → ∃ s, callI tab fu k 42 [.d (.list (ns.map PyData.int))] [] = .ok (.d (.bool true)) s
end Law
open PySem PySem.W PySem.Calls PyProof.Rows
theorem law_of (k fu : Nat) (room : L2.Room k callerA) (sound : Law.Sound k fu) : PySem.Challenge.rw_steadymixes_k21_tables_and_what_mixes_ge.Holds := by
  w_on; o_law
  refine HandSHeadRun.head_imp (r := OpenLaw.row PySem.Challenge.rw_steadymixes_k21_tables_and_what_mixes_ge) (q := view (OpenLaw.row PySem.Challenge.rw_steadymixes_k21_tables_and_what_mixes_ge).prog Law.vw) (H := Law.hk) (ob := Law.ob) (M := 20000) (loose := Law.loose) (d := HandSHeadRun.topDef (OpenLaw.row PySem.Challenge.rw_steadymixes_k21_tables_and_what_mixes_ge).prog 54) (kwd := []) Law.ob_eq Law.run
    (by kernel_rfl) (by kernel_rfl) (by kernel_rfl) (by rfl) (by first | assumption | decide +kernel) (by decide +kernel) ⟨rfl, rfl, rfl, rfl, rfl, by decide +kernel⟩ ?hw ?hc
  case hw => w_witness2
  case hc =>
    refine SM.walk_law (l := PySem.Challenge.rw_steadymixes_k21_tables_and_what_mixes_ge) (n := 63) (k := k) (fu := fu) (G := Law.sg) (T := Law.tab) (fl := 42) rfl (by decide) (by kernel_rfl) room ?_ (by kernel_rfl) rfl sound
    intro w mg h Y ns
    obtain ⟨K, X, c, g⟩ := Y
    exact ⟨K, X, Law.tabOk X ns c g⟩

open PySem PySem.W PyProof.Rows
theorem PySem.Challenge.cw_steadymixes_k21_tables_and_what_mixes_ge_holds : PySem.Challenge.rw_steadymixes_k21_tables_and_what_mixes_ge.Holds := by
  refine law_of 120 (2 ^ 2000) ⟨rfl, by decide, by decide⟩ fun ns hn _ => ?_
  obtain ⟨v, t, e, q⟩ := (Law.law_ok (fu := 2 ^ 2000) (K := 120) (ns := ns) (Nat.le_refl _) (by decide) hn).ex
  exact ⟨t, by rw [← q]; exact e⟩
