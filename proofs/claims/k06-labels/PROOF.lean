import PyProof.Rows.All
import Wide.All
import OpenK.AllK
import Wide.FinOn
import HandS.ForMost
import HandS.Style
import HandS.Gcd
import HandS.IsInst
import HandS.Wide
import HandS.TupAny
import HandS.TupMul
import HandS.Deep
import PyProof.WalkInts
import PyProof.WalksMore
import KE.DataMinMax
import HandS.SetFor
import HandS.Flt
import KE.KMathG
import HandS.Zip
import KE.GoesMore
import PyProof.EnumMake
import KE.GoesZip
import HandS.Walk
import KE.KRevSl
import HandS.TupSets
import HandS.SortInts
import HandS.ForExc
import HandS.Conv
import HandS.Defaults
import HandS.EndBits
import HandS.More
import HandS.Words
import HandS.WordsExc
import HandS.Head0
import HandS.Head1
import HandS.Head2
import HandS.HeadEnd
import HandS.HeadHook1
import HandS.HeadHook2
import PyProof.ReprBulk
import KE.KStateDown
import HandS.Head3
import PySem.Challenge.RW_steadymixes_k06_labels_and_corners_judge
set_option Elab.async false
set_option linter.all false
set_option maxRecDepth 100000
/-! SM: a small language of plain data, its runs. A value is data (Vl.d) or the place of a mutable list in the store (Vl.r). -/
namespace SM
open PySem

inductive Vl where
  | d (x : PyData)
  | r (n : Nat)
inductive Ob where
  | lst (vs : List Vl)
abbrev Sto := List (Option Ob)
abbrev Sl := List (Option Vl)

/-- a run's end: a value and the store; an error of the class c with its value; none that is told -/
inductive Rs (α : Type) where
  | ok (a : α) (s : Sto)
  | ex (c : Nat) (v : Vl) (s : Sto)
  | no
def Rs.bind {α β : Type} : Rs α → (α → Sto → Rs β) → Rs β
  | .ok a s, f => f a s
  | .ex c v s, _ => .ex c v s
  | .no, _ => .no
abbrev Po (α : Type) := Option (α × Sto)
def ofP {α : Type} : Po α → Rs α
  | some (a, s) => .ok a s
  | none => .no

/-- a statement's end -/
inductive Fl where
  | nx (e : Sl) (s : Sto)
  | rt (v : Vl) (s : Sto)
  | bk (e : Sl) (s : Sto)
  | ct (e : Sl) (s : Sto)
  | ex (c : Nat) (v : Vl) (e : Sl) (s : Sto)
  | no

inductive BOp where
  | add | sub | mul | fdiv | mod | pow | shl | shr | bor | band
  deriving DecidableEq
inductive COp where
  | eq | ne | lt | le | gt | ge | inn | nin | is | isn
  deriving DecidableEq
inductive Ty where
  | int | bool | str | list | tuple | dict | float
  deriving DecidableEq
inductive Bi where
  | len | abs | int | gcd | lcm | max | min | sum | all | any | tuple | list | sorted | repr | str
  deriving DecidableEq
inductive Me where
  | append | insert | pop | index | count | clear | reverse
  deriving DecidableEq

/-- expressions; nil and cons make lists of them; m: is the new list to be changed later? -/
inductive IE where
  | nil
  | cons (e r : IE)
  | var (i : Nat)
  | lit (d : PyData)
  | glob (x : Str) (d : PyData)
  | bop (m : Bool) (o : BOp) (a b : IE)
  | neg (a : IE)
  | not (a : IE)
  | cmp (o : COp) (a b : IE)
  | chain (o p : COp) (a b c : IE)
  | and (es : IE)
  | or (es : IE)
  | ite (c a b : IE)
  | tup (es : IE)
  | lst (m : Bool) (es : IE)
  | rep (m : Bool) (es k : IE)
  | dic (ks vs : IE)
  | idx (a i : IE)
  | sli (m : Bool) (a lo hi : IE)
  | rev (m : Bool) (a : IE)
  | bi (m : Bool) (b : Bi) (es : IE)
  | isi (a : IE) (t : Ty)
  | me (f : Me) (a : IE) (es : IE)
  | call (f : Nat) (es : IE)
  | callk (f : Nat) (es ks : IE) (names : List Str) (perm : List Nat)
  | rng1 (a : IE)
  | rng2 (a b : IE)
  | zip (a b : IE)
  | enum (a : IE)
  | itv (a : IE)
  | comp (m : Bool) (elt tg it cnd : IE) (own : List Nat)
  | comp2 (m : Bool) (elt tg it tg2 it2 cnd : IE) (own own2 : List Nat)
  | frz (a : IE)
  | lrg (m : Bool) (a : IE)

/-- statements -/
inductive IS where
  | nil
  | cons (s r : IS)
  | asg (tg e : IE)
  | par (s t a b : IE)
  | par3 (i j k : Nat) (a b c : IE)
  | ptup (ts es : IE)
  | aug (i : Nat) (o : BOp) (e : IE)
  | ite (c : IE) (a b : IS)
  | forr (tg it : IE) (body : IS)
  | whil (c : IE) (body : IS)
  | ret (e : IE)
  | expr (e : IE)
  | pass | brk | cont | never

/-! ### data -/
def allD : List Vl → Option (List PyData)
  | [] => some []
  | .d x :: r => (allD r).map (x :: ·)
  | .r _ :: _ => none
theorem allD_map : ∀ l : List PyData, allD (l.map Vl.d) = some l
  | [] => rfl
  | x :: r => by simp [allD, allD_map r]
def ints? : List PyData → Option (List Int)
  | [] => some []
  | .int i :: r => (ints? r).map (i :: ·)
  | _ :: _ => none
def bools? : List PyData → Option (List Bool)
  | [] => some []
  | .bool b :: r => (bools? r).map (b :: ·)
  | _ :: _ => none

/-- the items of a list, a tuple -/
def itemsD : PyData → Option (List PyData)
  | .list xs => some xs
  | .tuple xs => some xs
  | _ => none
def listAt (n : Nat) (s : Sto) : Option (List Vl) := match s[n]? with
  | some (some (.lst vs)) => some vs
  | _ => none
def itemsV (v : Vl) (s : Sto) : Option (List Vl) := match v with
  | .d x => (itemsD x).map (·.map Vl.d)
  | .r n => listAt n s
def dataV (v : Vl) (s : Sto) : Option (List PyData) := (itemsV v s).bind allD

/-- a new list: told as data, or put into the store -/
def mkL (m : Bool) (vs : List Vl) (s : Sto) : Po Vl :=
  if vs.length ≤ 16777216 then (if m then some (.r s.length, s ++ [some (.lst vs)]) else (allD vs).map fun ds => (.d (.list ds), s)) else none

def mulOk (i j : Int) : Prop := i.natAbs < 2 ^ 64 ∨ j.natAbs < 2 ^ 64 ∨ i.natAbs.log2 + j.natAbs.log2 < 1000000
instance (i j : Int) : Decidable (mulOk i j) := by unfold mulOk; infer_instance
def binI : BOp → Int → Int → Option Int
  | .add, i, j => some (i + j)
  | .sub, i, j => some (i - j)
  | .mul, i, j => if mulOk i j then some (i * j) else none
  | .fdiv, i, j => if 0 < j ∧ j.natAbs.log2 < 9000 then some (i / j) else if j < 0 ∧ j.natAbs.log2 < 9000 then some (i.fdiv j) else none
  | .mod, i, j => if 0 < j then some (i % j) else if j < 0 then some (i.fmod j) else none
  | .pow, i, j => if 0 ≤ j ∧ j ≤ 1000000 ∧ (i.natAbs.log2 + 1) * j.toNat ≤ 1000000 then some (i ^ j.toNat) else none
  | .shl, i, j => if 0 ≤ j ∧ j ≤ 1000000 ∧ i.natAbs < 2 ^ 64 then some (i * 2 ^ j.toNat) else none
  | .shr, i, j => if 0 ≤ j then some (i / 2 ^ j.toNat) else none
  | .bor, i, j => some (Builtin.bitOr i j)
  | .band, i, j => some (Builtin.bitAnd i j)
def listV (v : Vl) (s : Sto) : Option (List Vl) := match v with
  | .d (.list xs) => some (xs.map Vl.d)
  | .d _ => none
  | .r n => listAt n s
def binD (o : BOp) (x y : PyData) (s : Sto) : Po Vl := match x, y with
  | .int i, .int j => (binI o i j).map fun k => (.d (.int k), s)
  | .str a, .str b => if o = .add ∧ a.length + b.length ≤ 16777216 then some (.d (.str (a ++ b)), s) else none
  | .tuple a, .tuple b => if o = .add ∧ a.length + b.length ≤ 16777216 then some (.d (.tuple (a ++ b)), s) else none
  | .tuple a, .int j => if o = .mul ∧ 2 ≤ j ∧ j ≤ 1000 ∧ a.length ≤ 1000 then some (.d (.tuple (List.replicate j.toNat a).flatten), s) else none
  | _, _ => none
def binV (m : Bool) (o : BOp) (x y : Vl) (s : Sto) : Po Vl := match listV x s, listV y s, o with
  | some us, some vs, .add => mkL m (us ++ vs) s
  | _, _, _ => match x, y with
    | .d x, .d y => binD o x y s
    | _, _ => none

/-- == of data: no dicts within -/
def eqD (x y : PyData) : Option Bool := match x, y with
  | .str a, .str b => some (decide (a = b))
  | .list (_ :: _), .list [] => some false
  | x, y => if SeqAt.shaped x = true ∧ SeqAt.shaped y = true then some (PyData.eqv x y) else none
def ltI : COp → Int → Int → Option Bool
  | .lt, i, j => some (decide (i < j))
  | .le, i, j => some (decide (i ≤ j))
  | .gt, i, j => some (decide (j < i))
  | .ge, i, j => some (decide (j ≤ i))
  | _, _, _ => none
def inD (x : PyData) (l : List PyData) : Option Bool := if SeqAt.shaped x = true ∧ SeqAt.shaped (.list l) = true then some (l.any fun z => PyData.eqv z x) else none
def dataOf (v : Vl) (s : Sto) : Option PyData := match v with
  | .d x => some x
  | .r n => (listAt n s).bind fun vs => (allD vs).map PyData.list
def noneV (v : Vl) (s : Sto) : Option Bool := match v with
  | .d .none => some true
  | .d _ => some false
  | .r n => (listAt n s).map fun _ => false
def cmpV (o : COp) (x y : Vl) (s : Sto) : Option Bool := match o with
  | .eq => (dataOf x s).bind fun a => (dataOf y s).bind fun b => eqD a b
  | .ne => ((dataOf x s).bind fun a => (dataOf y s).bind fun b => eqD a b).map (!·)
  | .is => match y with
    | .d .none => noneV x s
    | _ => none
  | .isn => match y with
    | .d .none => (noneV x s).map (!·)
    | _ => none
  | .inn => (dataOf x s).bind fun a => (dataV y s).bind fun l => inD a l
  | .nin => ((dataOf x s).bind fun a => (dataV y s).bind fun l => inD a l).map (!·)
  | o => match x, y with
    | .d (.int i), .d (.int j) => ltI o i j
    | _, _ => none

def idxV (x i : Vl) (s : Sto) : Po Vl := match i with
  | .d (.int k) => (itemsV x s).bind fun vs => (L2.atI vs k).map (·, s)
  | _ => none
def cutL {α : Type} (xs : List α) (lo hi : Option Int) : List α := (xs.drop (HT.sIx xs.length 0 lo)).take (HT.sIx xs.length xs.length hi - HT.sIx xs.length 0 lo)
def sliV (m : Bool) (x : Vl) (lo hi : Option Int) (s : Sto) : Po Vl := match x with
  | .d (.tuple xs) => some (.d (.tuple (cutL xs lo hi)), s)
  | .d (.list xs) => mkL m ((cutL xs lo hi).map Vl.d) s
  | .r n => (listAt n s).bind fun vs => mkL m (cutL vs lo hi) s
  | _ => none
def revV (m : Bool) (x : Vl) (s : Sto) : Po Vl := match x with
  | .d (.list xs) => mkL m (xs.reverse.map Vl.d) s
  | .d (.tuple xs) => some (.d (.tuple xs.reverse), s)
  | .r n => (listAt n s).bind fun vs => mkL m vs.reverse s
  | _ => none

def isT : Ty → Vl → Sto → Option Bool
  | .int, .d (.int _), _ => some true
  | .int, .d (.bool _), _ => some true
  | .bool, .d (.bool _), _ => some true
  | .str, .d (.str _), _ => some true
  | .list, .d (.list _), _ => some true
  | .tuple, .d (.tuple _), _ => some true
  | .dict, .d (.dict _), _ => some true
  | _, .d _, _ => some false
  | t, .r n, s => (listAt n s).map fun _ => decide (t = .list)

def maxL : List Int → Option Int
  | [] => none
  | x :: r => match maxL r with
    | none => some x
    | some y => some (if x < y then y else x)
def minL : List Int → Option Int
  | [] => none
  | x :: r => match minL r with
    | none => some x
    | some y => some (if y < x then y else x)
def dataL (v : Vl) (s : Sto) : Option (List PyData) := (listV v s).bind allD
def lenV (vs : List Vl) (s : Sto) : Po Vl := match vs with
  | [.d (.str z)] => if z.length ≤ 16777216 then some (.d (.int z.length), s) else none
  | [v] => (itemsV v s).map fun l => (.d (.int l.length), s)
  | _ => none
def absV (vs : List Vl) (s : Sto) : Po Vl := match vs with
  | [.d (.int i)] => some (.d (.int (if i < 0 then -i else i)), s)
  | _ => none
def intV (vs : List Vl) (s : Sto) : Po Vl := match vs with
  | [.d (.int i)] => some (.d (.int i), s)
  | [.d (.bool b)] => some (.d (.int (if b then 1 else 0)), s)
  | _ => none
def gcdV (vs : List Vl) (s : Sto) : Po Vl := match vs with
  | [.d (.int i), .d (.int j)] => some (.d (.int (Int.gcd i j)), s)
  | _ => none
def lcmV (vs : List Vl) (s : Sto) : Po Vl := match vs with
  | [.d (.int i), .d (.int j)] => if i.natAbs.log2 < 6000 ∧ j.natAbs.log2 < 6000 then some (.d (.int (Int.lcm i j)), s) else none
  | _ => none
def maxV (vs : List Vl) (s : Sto) : Po Vl := match vs with
  | [.d (.int i), .d (.int j)] => some (.d (.int (if j > i then j else i)), s)
  | [v] => ((dataV v s).bind ints?).bind fun l => (maxL l).map fun k => (.d (.int k), s)
  | _ => none
def minV (vs : List Vl) (s : Sto) : Po Vl := match vs with
  | [.d (.int i), .d (.int j)] => some (.d (.int (if j < i then j else i)), s)
  | [.d (.int i), .d (.int j), .d (.int k)] => some (.d (.int (if k < (if j < i then j else i) then k else (if j < i then j else i))), s)
  | [v] => ((dataV v s).bind ints?).bind fun l => (minL l).map fun k => (.d (.int k), s)
  | _ => none
def sumV (vs : List Vl) (s : Sto) : Po Vl := match vs with
  | [v] => ((dataL v s).bind ints?).map fun l => (.d (.int l.sum), s)
  | _ => none
def allV (vs : List Vl) (s : Sto) : Po Vl := match vs with
  | [v] => ((dataL v s).bind bools?).map fun l => (.d (.bool (l.all id)), s)
  | _ => none
def anyV (vs : List Vl) (s : Sto) : Po Vl := match vs with
  | [v] => ((dataL v s).bind bools?).map fun l => (.d (.bool (l.any id)), s)
  | _ => none
def tupV (vs : List Vl) (s : Sto) : Po Vl := match vs with
  | [v] => (dataV v s).map fun l => (.d (.tuple l), s)
  | _ => none
def lisV (m : Bool) (vs : List Vl) (s : Sto) : Po Vl := match vs with
  | [v] => (itemsV v s).bind fun l => mkL m l s
  | _ => none
mutual
/-- no list within -/
def noLst : PyData → Bool
  | .list _ => false
  | .tuple xs => noLsts xs
  | .dict kvs => noLstK kvs
  | _ => true
def noLsts : List PyData → Bool
  | [] => true
  | x :: r => noLst x && noLsts r
def noLstK : List (PyData × PyData) → Bool
  | [] => true
  | (_, x) :: r => noLst x && noLstK r
end
def reprV (vs : List Vl) (s : Sto) : Po Vl := match vs with
  | [v] => (dataOf v s).bind fun x => if x.showable = true ∧ x.shown.length ≤ 16777216 ∧ x.depth ≤ 100 ∧ (x.hasDict = false ∨ noLst x = true) then some (.d (.str x.shown), s) else none
  | _ => none
def strV (vs : List Vl) (s : Sto) : Po Vl := match vs with
  | [.d (.int i)] => if i.natAbs.log2 < 1920 then some (.d (.str (toString i)), s) else none
  | _ => none
/-- a pair of ints from 0 to 63 -/
def pairB : PyData → Bool
  | .tuple [.int i, .int j] => (decide (0 ≤ i) && decide (i < 64)) && (decide (0 ≤ j) && decide (j < 64))
  | _ => false
def kD : PyData → Int
  | .tuple [.int i, .int j] => i * 64 + j
  | _ => 0
def sortP (ds : List PyData) : List PyData := ds.mergeSort fun a b => decide (kD a ≤ kD b)
def sortI (is : List Int) : List Int := is.mergeSort fun a b => decide (a ≤ b)
def sortedV (m : Bool) (vs : List Vl) (s : Sto) : Po Vl := match vs with
  | [v] => (dataL v s).bind fun ds => match ints? ds with
    | some is => mkL m ((sortI is).map fun i => Vl.d (.int i)) s
    | none => if ds.length < 64 ∧ ds.all pairB = true then mkL m ((sortP ds).map Vl.d) s else none
  | _ => none
def biV (m : Bool) (b : Bi) (vs : List Vl) (s : Sto) : Po Vl := match b with
  | .len => lenV vs s
  | .abs => absV vs s
  | .int => intV vs s
  | .gcd => gcdV vs s
  | .lcm => lcmV vs s
  | .max => maxV vs s
  | .min => minV vs s
  | .sum => sumV vs s
  | .all => allV vs s
  | .any => anyV vs s
  | .tuple => tupV vs s
  | .list => lisV m vs s
  | .repr => reprV vs s
  | .str => strV vs s
  | .sorted => sortedV m vs s

def putL (n : Nat) (vs : List Vl) (s : Sto) : Sto := s.set n (some (.lst vs))
def setV (o i v : Vl) (s : Sto) : Option Sto := match o, i with
  | .r n, .d (.int k) => (listAt n s).bind fun vs => (L2.ixN vs.length k).map fun j => putL n (vs.set j v) s
  | _, _ => none
def appendV (o : Vl) (xs : List Vl) (s : Sto) : Po Vl := match o, xs with
  | .r n, [v] => (listAt n s).bind fun vs => if vs.length < 16777216 then some (.d .none, putL n (vs ++ [v]) s) else none
  | _, _ => none
def insertV (o : Vl) (xs : List Vl) (s : Sto) : Po Vl := match o, xs with
  | .r n, [.d (.int k), v] => (listAt n s).bind fun vs => if 0 ≤ k ∧ k ≤ (vs.length : Int) ∧ vs.length < 16777216 then some (.d .none, putL n (vs.take k.toNat ++ v :: vs.drop k.toNat) s) else none
  | _, _ => none
def popV (o : Vl) (xs : List Vl) (s : Sto) : Po Vl := match o, xs with
  | .r n, [] => (listAt n s).bind fun vs => (vs[vs.length - 1]?).map fun v => (v, putL n vs.dropLast s)
  | .r n, [.d (.int k)] => (listAt n s).bind fun vs => if 0 ≤ k ∧ k < 16777216 then (vs[k.toNat]?).map fun v => (v, putL n (vs.eraseIdx k.toNat) s) else none
  | _, _ => none
def countV (o : Vl) (xs : List Vl) (s : Sto) : Po Vl := match xs with
  | [.d (.int k)] => ((dataL o s).bind ints?).map fun l => (.d (.int (l.count k : Nat)), s)
  | _ => none
def meV (f : Me) (o : Vl) (xs : List Vl) (s : Sto) : Po Vl := match f with
  | .append => appendV o xs s
  | .insert => insertV o xs s
  | .pop => popV o xs s
  | .count => countV o xs s
  | _ => none

/-- what is walked -/
inductive Itr where
  | vals (xs : List PyData)
  | ref (n : Nat)
def itrV (v : Vl) (s : Sto) : Option Itr := match v with
  | .d x => (itemsD x).map Itr.vals
  | .r n => (listAt n s).map fun _ => .ref n

/-- a list that is not changed any more: it is told as data, and lost as a place -/
def frzL : List Vl → Sto → Option (List PyData × Sto)
  | [], s => some ([], s)
  | .d x :: r, s => (frzL r s).map fun p => (x :: p.1, p.2)
  | .r k :: r, s => (listAt k s).bind fun vs => (allD vs).bind fun ds => (frzL r (s.set k none)).map fun p => (.list ds :: p.1, p.2)
def frzV (v : Vl) (s : Sto) : Po Vl := match v with
  | .d x => some (.d x, s)
  | .r n => (listAt n s).bind fun vs => (frzL vs s).bind fun p => (listAt n p.2).map fun _ => (.d (.list p.1), p.2.set n none)
theorem frzL_data : ∀ (ds : List PyData) (s : Sto), frzL (ds.map Vl.d) s = some (ds, s)
  | [], _ => rfl
  | x :: r, s => by
    show (frzL (r.map Vl.d) s).map _ = _
    rw [frzL_data r s]
    rfl
/-- list(range(j)) -/
def lrgV (m : Bool) (x : Vl) (s : Sto) : Po Vl := match x with
  | .d (.int j) => if -1000000 ≤ j ∧ j ≤ 1000000 then mkL m ((List.range j.toNat).map fun i : Nat => Vl.d (.int i)) s else none
  | _ => none

/-! ### expressions -/
def isTrue? : Vl → Option Bool
  | .d (.bool b) => some b
  | _ => none
def optI : Vl → Option Int
  | .d (.int i) => some i
  | _ => none

/-- values of a target's parts -/
def setTg : IE → PyData → Sl → Option Sl
  | .var i, x, e => some (e.set i (some (.d x)))
  | .tup es, .tuple xs, e => setTgs es xs e
  | _, _, _ => none
where setTgs : IE → List PyData → Sl → Option Sl
  | .nil, [], e => some e
  | .cons t r, x :: xs, e => (setTg t x e).bind fun e => setTgs r xs e
  | _, _, _ => none
def setTgV (t : IE) (v : Vl) (e : Sl) : Option Sl := match t, v with
  | .var i, v => some (e.set i (some v))
  | t, .d x => setTg t x e
  | _, _ => none
def wipe (e : Sl) : List Nat → Sl
  | [] => e
  | v :: vs => (wipe e vs).set v none

/-- a comprehension's turns over data -/
def cmL (turn : Vl → Sto → Rs (Option Vl)) : List PyData → Sto → Rs (List Vl)
  | [], s => .ok [] s
  | x :: xs, s => (turn (.d x) s).bind fun o s => (cmL turn xs s).bind fun r s => .ok (match o with | some v => v :: r | none => r) s
/-- .. over a list of the store, k turns at most from the place i on -/
def cmR (turn : Vl → Sto → Rs (Option Vl)) (n : Nat) : Nat → Nat → Sto → Rs (List Vl)
  | k, i, s => match listAt n s with
    | none => .no
    | some vs => match vs[i]? with
      | none => .ok [] s
      | some v => match k with
        | 0 => .no
        | k + 1 => (turn v s).bind fun o s => (cmR turn n k (i + 1) s).bind fun r s => .ok (match o with | some v => v :: r | none => r) s
def cmI (turn : Vl → Sto → Rs (Option Vl)) (it : Itr) (s : Sto) : Rs (List Vl) := match it with
  | .vals xs => cmL turn xs s
  | .ref n => cmR turn n ((listAt n s).map List.length |>.getD 0) 0 s

abbrev Cal := Nat → List Vl → Sto → Rs Vl
end SM

/-! SM: the runs of expressions, statements, defs. -/
namespace SM
open PySem

def noex {α : Type} : Rs α → Rs α
  | .ok a s => .ok a s
  | _ => .no
/-- keyword arguments into the parameters' places -/
def permL {α : Type} (vs : List α) : List Nat → Option (List α)
  | [] => some []
  | i :: r => (vs[i]?).bind fun v => (permL vs r).map (v :: ·)
def mkDic : List PyData → List PyData → Option (List (PyData × PyData))
  | [], [] => some []
  | .str k :: ks, v :: vs => (mkDic ks vs).map ((.str k, v) :: ·)
  | _, _ => none
def dicV (ks vs : List Vl) (s : Sto) : Po Vl := (allD ks).bind fun ks => (allD vs).bind fun vs => match ks, vs with
  | [], [] => some (.d (.dict []), s)
  | [.str k], [v] => some (.d (.dict [(.str k, v)]), s)
  | _, _ => none
def zipV (x y : Vl) : Option Itr := match x, y with
  | .d (.list a), .d (.list b) => some (.vals (List.zipWith (fun u v => PyData.tuple [u, v]) a b))
  | .d (.tuple a), .d (.tuple b) => some (.vals (List.zipWith (fun u v => PyData.tuple [u, v]) a b))
  | .d (.list a), .d (.tuple b) => some (.vals (List.zipWith (fun u v => PyData.tuple [u, v]) a b))
  | .d (.tuple a), .d (.list b) => some (.vals (List.zipWith (fun u v => PyData.tuple [u, v]) a b))
  | _, _ => none
def enumV (x : Vl) : Option Itr := match x with
  | .d (.list a) => some (.vals (a.zipIdx.map fun p => PyData.tuple [.int p.2, p.1]))
  | .d (.tuple a) => some (.vals (a.zipIdx.map fun p => PyData.tuple [.int p.2, p.1]))
  | _ => none
def rngV (i j : Int) : Option Itr := if (-1000000 ≤ i ∧ i ≤ 1000000) ∧ -1000000 ≤ j ∧ j ≤ 1000000 then some (.vals ((List.range (j - i).toNat).map fun k : Nat => PyData.int (i + (k : Int)))) else none
def ofO {α : Type} (o : Option α) (s : Sto) : Rs α := match o with
  | some a => .ok a s
  | none => .no

mutual
def ev (C : Cal) : IE → Sl → Sto → Rs Vl
  | .var i, e, s => match e[i]? with
    | some (some v) => .ok v s
    | _ => .no
  | .lit d, _, s => .ok (.d d) s
  | .glob _ d, _, s => .ok (.d d) s
  | .bop m o a b, e, s => (ev C a e s).bind fun x s => (ev C b e s).bind fun y s => ofP (binV m o x y s)
  | .neg a, e, s => (ev C a e s).bind fun x s => match x with
    | .d (.int i) => .ok (.d (.int (-i))) s
    | _ => .no
  | .not a, e, s => (ev C a e s).bind fun x s => match isTrue? x with
    | some b => .ok (.d (.bool (!b))) s
    | none => .no
  | .cmp o a b, e, s => (ev C a e s).bind fun x s => (ev C b e s).bind fun y s => ofO ((cmpV o x y s).map fun b => .d (.bool b)) s
  | .chain o p a b c, e, s => (ev C a e s).bind fun x s => (ev C b e s).bind fun y s => match cmpV o x y s with
    | some true => (ev C c e s).bind fun z s => ofO ((cmpV p y z s).map fun b => .d (.bool b)) s
    | some false => .ok (.d (.bool false)) s
    | none => .no
  | .and es, e, s => ands C es e s
  | .or es, e, s => ors C es e s
  | .ite c a b, e, s => (ev C c e s).bind fun x s => match isTrue? x with
    | some true => ev C a e s
    | some false => ev C b e s
    | none => .no
  | .tup es, e, s => (evs C es e s).bind fun vs s => if vs.length ≤ 16777216 then ofO ((allD vs).map fun ds => .d (.tuple ds)) s else .no
  | .lst m es, e, s => (evs C es e s).bind fun vs s => ofP (mkL m vs s)
  | .rep m es k, e, s => (evs C es e s).bind fun vs s => if vs.length ≤ 1000 then (ev C k e s).bind fun x s => match x with
      | .d (.int k) => if 0 ≤ k ∧ k ≤ 1000 then ofP (mkL m (List.replicate k.toNat vs).flatten s) else .no
      | _ => .no
    else .no
  | .dic ks vs, e, s => (evs C ks e s).bind fun a s => (noex (evs C vs e s)).bind fun b s => ofP (dicV a b s)
  | .idx a i, e, s => (ev C a e s).bind fun x s => (ev C i e s).bind fun y s => ofP (idxV x y s)
  | .sli m a lo hi, e, s => (ev C a e s).bind fun x s => (evo C lo e s).bind fun l s => (evo C hi e s).bind fun h s => ofP (sliV m x l h s)
  | .rev m a, e, s => (ev C a e s).bind fun x s => ofP (revV m x s)
  | .bi m b es, e, s => (evs C es e s).bind fun vs s => ofP (biV m b vs s)
  | .isi a t, e, s => (ev C a e s).bind fun x s => ofO ((isT t x s).map fun b => .d (.bool b)) s
  | .me f a es, e, s => (ev C a e s).bind fun o s => match listV o s with
    | none => .no
    | some _ => (evs C es e s).bind fun vs s => ofP (meV f o vs s)
  | .call f es, e, s => (evs C es e s).bind fun vs s => C f vs s
  | .callk f es ks nms perm, e, s => (evs C es e s).bind fun us s => (evs C ks e s).bind fun vs s => if vs.length = nms.length then (match permL (us ++ vs) perm with
    | some ws => C f ws s
    | none => .no) else .no
  | .comp m elt tg it cnd own, e, s => (itr C it e s).bind fun I s => (noex (cmI (fun v s => match setTgV tg v (wipe e own) with
      | none => .no
      | some e1 => (tst C cnd e1 s).bind fun b s => if b then (ev C elt e1 s).bind fun x s => .ok (some x) s else .ok none s) I s)).bind fun vs s => ofP (mkL m vs s)
  | .comp2 m elt tg it tg2 it2 cnd own own2, e, s => (itr C it e s).bind fun I s => (noex (cmI (fun v s => match setTgV tg v (wipe e own) with
      | none => .no
      | some e1 => (itr C it2 e1 s).bind fun J s => (cmI (fun w s => match setTgV tg2 w (wipe e1 own2) with
          | none => .no
          | some e2 => (tst C cnd e2 s).bind fun b s => if b then (ev C elt e2 s).bind fun x s => .ok (some x) s else .ok none s) J s).bind fun r s => ofO ((allD r).map fun ds => some (.d (.list ds))) s) I s)).bind fun rs s =>
        match allD rs with
        | some ds => ofP (mkL m ((ds.map fun d => (itemsD d).getD []).flatten.map Vl.d) s)
        | none => .no
  | .frz a, e, s => (ev C a e s).bind fun x s => ofP (frzV x s)
  | .lrg m a, e, s => (ev C a e s).bind fun x s => ofP (lrgV m x s)
  | _, _, _ => .no
def evs (C : Cal) : IE → Sl → Sto → Rs (List Vl)
  | .nil, _, s => .ok [] s
  | .cons a r, e, s => (ev C a e s).bind fun x s => (evs C r e s).bind fun xs s => .ok (x :: xs) s
  | _, _, _ => .no
def ands (C : Cal) : IE → Sl → Sto → Rs Vl
  | .cons a .nil, e, s => ev C a e s
  | .cons a r, e, s => (ev C a e s).bind fun x s => match isTrue? x with
    | some true => ands C r e s
    | some false => .ok (.d (.bool false)) s
    | none => .no
  | _, _, _ => .no
def ors (C : Cal) : IE → Sl → Sto → Rs Vl
  | .cons a .nil, e, s => ev C a e s
  | .cons a r, e, s => (ev C a e s).bind fun x s => match isTrue? x with
    | some false => ors C r e s
    | some true => .ok (.d (.bool true)) s
    | none => .no
  | _, _, _ => .no
def evo (C : Cal) : IE → Sl → Sto → Rs (Option Int)
  | .nil, _, s => .ok none s
  | .cons a _, e, s => (ev C a e s).bind fun x s => ofO ((optI x).map some) s
  | _, _, _ => .no
def tst (C : Cal) : IE → Sl → Sto → Rs Bool
  | .nil, _, s => .ok true s
  | .cons a _, e, s => (ev C a e s).bind fun x s => ofO (isTrue? x) s
  | _, _, _ => .no
def itr (C : Cal) : IE → Sl → Sto → Rs Itr
  | .rng1 a, e, s => (ev C a e s).bind fun x s => ofO ((optI x).bind (rngV 0)) s
  | .rng2 a b, e, s => (ev C a e s).bind fun x s => (ev C b e s).bind fun y s => ofO ((optI x).bind fun i => (optI y).bind (rngV i)) s
  | .zip a b, e, s => (ev C a e s).bind fun x s => (ev C b e s).bind fun y s => ofO (zipV x y) s
  | .enum a, e, s => (ev C a e s).bind fun x s => ofO (enumV x) s
  | .itv a, e, s => (ev C a e s).bind fun x s => ofO (itrV x s) s
  | _, _, _ => .no
end

/-! ### statements -/
def liftR (e : Sl) : Rs Sl → Fl
  | .ok e' s => .nx e' s
  | .ex c v s => .ex c v e s
  | .no => .no
/-- a value goes to a target -/
def asgT (C : Cal) (tg : IE) (v : Vl) (e : Sl) (s : Sto) : Rs Sl := match tg with
  | .idx a i => (ev C a e s).bind fun o s => (ev C i e s).bind fun k s => match setV o k v s with
    | some s => .ok e s
    | none => .no
  | t => ofO (setTgV t v e) s
/-- how many -/
def ieLen : IE → Nat
  | .cons _ r => ieLen r + 1
  | _ => 0
/-- values go to targets -/
def asgs (C : Cal) : IE → List Vl → Sl → Sto → Fl
  | .nil, [], e, s => .nx e s
  | .cons t r, v :: vs, e, s => match asgT C t v e s with
    | .ok e' s' => asgs C r vs e' s'
    | .ex c v s => .ex c v e s
    | .no => .no
  | _, _, _, _ => .no
def goL (turn : Vl → Sl → Sto → Fl) : List PyData → Sl → Sto → Fl
  | [], e, s => .nx e s
  | x :: xs, e, s => match turn (.d x) e s with
    | .nx e s => goL turn xs e s
    | .ct e s => goL turn xs e s
    | .bk e s => .nx e s
    | .rt v s => .rt v s
    | .ex c v e s => .ex c v e s
    | .no => .no
def goR (turn : Vl → Sl → Sto → Fl) (n : Nat) : Nat → Nat → Sl → Sto → Fl
  | k, i, e, s => match listAt n s with
    | none => .no
    | some vs => match vs[i]? with
      | none => .nx e s
      | some v => match k with
        | 0 => .no
        | k + 1 => match turn v e s with
          | .nx e s => goR turn n k (i + 1) e s
          | .ct e s => goR turn n k (i + 1) e s
          | .bk e s => .nx e s
          | .rt v s => .rt v s
          | .ex c v e s => .ex c v e s
          | .no => .no
def goI (turn : Vl → Sl → Sto → Fl) (it : Itr) (e : Sl) (s : Sto) : Fl := match it with
  | .vals xs => goL turn xs e s
  | .ref n => goR turn n ((listAt n s).map List.length |>.getD 0) 0 e s
def whL (c : Sl → Sto → Rs Vl) (b : Sl → Sto → Fl) : Nat → Sl → Sto → Fl
  | 0, _, _ => .no
  | n + 1, e, s => match c e s with
    | .ok v s => match isTrue? v with
      | some true => match b e s with
        | .nx e s => whL c b n e s
        | .ct e s => whL c b n e s
        | .bk e s => .nx e s
        | .rt v s => .rt v s
        | .ex c v e s => .ex c v e s
        | .no => .no
      | some false => .nx e s
      | none => .no
    | .ex c v s => .ex c v e s
    | .no => .no
def exS (C : Cal) (fu : Nat) : IS → Sl → Sto → Fl
  | .nil, e, s => .nx e s
  | .cons a r, e, s => match exS C fu a e s with
    | .nx e s => exS C fu r e s
    | f => f
  | .asg tg a, e, s => liftR e ((ev C a e s).bind fun v s => asgT C tg v e s)
  | .par t u a b, e, s => liftR e ((ev C a e s).bind fun v s => (ev C b e s).bind fun w s => (asgT C t v e s).bind fun e s => asgT C u w e s)
  | .par3 i j k a b c, e, s => liftR e ((ev C a e s).bind fun v s => (ev C b e s).bind fun w s => (ev C c e s).bind fun x s => .ok (((e.set i (some v)).set j (some w)).set k (some x)) s)
  | .ptup ts es, e, s => match evs C es e s with
    | .ok vs s => if vs.length = ieLen ts ∧ vs.length ≤ 16777216 then asgs C ts vs e s else .no
    | .ex c v s => .ex c v e s
    | .no => .no
  | .aug i o a, e, s => match e[i]? with
    | some (some (.d (.int x))) => liftR e ((ev C a e s).bind fun y s => match y with
      | .d (.int y) => ofO ((binI o x y).map fun z => e.set i (some (.d (.int z)))) s
      | _ => .no)
    | _ => .no
  | .ite c a b, e, s => match ev C c e s with
    | .ok v s => match isTrue? v with
      | some true => exS C fu a e s
      | some false => exS C fu b e s
      | none => .no
    | .ex c v s => .ex c v e s
    | .no => .no
  | .forr tg it body, e, s => match itr C it e s with
    | .ok I s => goI (fun v e s => match setTgV tg v e with
      | none => .no
      | some e => exS C fu body e s) I e s
    | .ex c v s => .ex c v e s
    | .no => .no
  | .whil c body, e, s => whL (ev C c) (exS C fu body) fu e s
  | .ret a, e, s => match ev C a e s with
    | .ok v s => .rt v s
    | .ex c v s => .ex c v e s
    | .no => .no
  | .expr a, e, s => match ev C a e s with
    | .ok _ s => .nx e s
    | .ex c v s => .ex c v e s
    | .no => .no
  | .pass, e, s => .nx e s
  | .brk, e, s => .bk e s
  | .cont, e, s => .ct e s
  | .never, _, _ => .no

/-! ### defs -/
structure Df where
  np : Nat
  ns : Nat
  body : IS
def ltV (n : Nat) : Vl → Prop
  | .d _ => True
  | .r k => k < n
def ltO (n : Nat) : Option Ob → Prop
  | some (.lst vs) => ∀ v ∈ vs, ltV n v
  | none => True
/-- what was made within may be forgotten -/
def Cut (s₀ : Sto) (v : Vl) (s : Sto) : Prop := ltV s₀.length v ∧ ∀ i, i < s₀.length → s[i]? = s₀[i]? ∨ ∀ o, s[i]? = some o → ltO s₀.length o
open Classical in
noncomputable def leave (s₀ : Sto) : Fl → Rs Vl
  | .rt v s => if Cut s₀ v s then .ok v (s.take s₀.length) else .ok v s
  | .nx _ s => if Cut s₀ (.d .none) s then .ok (.d .none) (s.take s₀.length) else .ok (.d .none) s
  | .ex c v _ s => .ex c v s
  | _ => .no
noncomputable def callI (P : List Df) (fu : Nat) : Nat → Cal
  | 0 => fun _ _ _ => .no
  | k + 1 => fun f vs s => match P[f]? with
    | some F => if vs.length = F.np then leave s (exS (callI P fu k) fu F.body (vs.map some ++ List.replicate (F.ns - F.np) none) s) else .no
    | none => .no
end SM

/-! SM: how plain data and the store lie in HandS's heap. -/
namespace SM
open PySem L2

/-- where the store's lists lie; what lies beside them and is still changed (a comprehension's list) -/
structure Mu where
  l : List (Option Addr)
  hid : List Addr
def inL (m : Mu) (a : Addr) : Prop := some a ∈ m.l
def inM (m : Mu) (a : Addr) : Prop := inL m a ∨ a ∈ m.hid
def KL (K : PySem.W.Frag) (a : Addr) (xs : List V) : Prop := ∃ (o : Obj) (its : Array Value) (n : Nat), K.lookup a = some o ∧ o.cls = .type "list" ∧ o.dict = none ∧ o.data = .seq its n ∧ its.size ≤ sizeLine ∧ Vals xs its.toList
def KT (K : PySem.W.Frag) (a : Addr) (xs : List V) : Prop := ∃ (o : Obj) (its : Array Value) (n : Nat), K.lookup a = some o ∧ o.cls = .type "tuple" ∧ o.data = .seq its n ∧ its.size ≤ sizeLine ∧ Vals xs its.toList
def LsA (K : PySem.W.Frag) (m : Mu) (H : Hp) (a : Addr) (xs : List V) : Prop := (¬ inM m a ∧ Rd H a (.lst xs)) ∨ KL K a xs
def TpA (K : PySem.W.Frag) (m : Mu) (H : Hp) (a : Addr) (xs : List V) : Prop := (¬ inM m a ∧ Rd H a (.tup xs)) ∨ KT K a xs
theorem LsA.sq {K : PySem.W.Frag} {m : Mu} {H : Hp} {a : Addr} {xs : List V} (h : LsA K m H a xs) : SqL K H a xs := h.elim (fun x => .inl x.2) .inr
theorem TpA.sq {K : PySem.W.Frag} {m : Mu} {H : Hp} {a : Addr} {xs : List V} (h : TpA K m H a xs) : SqT K H a xs := h.elim (fun x => .inl x.2) .inr

def keyD : PyData → Key → Prop
  | .int i, k => k = .inl i
  | .str x, k => k = .inr x
  | _, _ => False
mutual
def Rep (K : PySem.W.Frag) (m : Mu) (H : Hp) : PyData → V → Prop
  | .none, v => v = .non
  | .bool b, v => v = .bl b
  | .int i, v => v = .int i
  | .str x, v => v = .str x
  | .list xs, v => ∃ a vs, v = .ref a ∧ LsA K m H a vs ∧ Reps K m H xs vs
  | .tuple xs, v => ∃ a vs, v = .ref a ∧ TpA K m H a vs ∧ Reps K m H xs vs
  | .dict kvs, v => ∃ a ks, v = .ref a ∧ ¬ inM m a ∧ H a = some (.dK ks) ∧ RepKv K m H kvs ks
def Reps (K : PySem.W.Frag) (m : Mu) (H : Hp) : List PyData → List V → Prop
  | [], vs => vs = []
  | x :: xs, vs => ∃ v r, vs = v :: r ∧ Rep K m H x v ∧ Reps K m H xs r
def RepKv (K : PySem.W.Frag) (m : Mu) (H : Hp) : List (PyData × PyData) → List (Key × V) → Prop
  | [], vs => vs = []
  | (k, x) :: xs, vs => ∃ j v r, vs = (j, v) :: r ∧ keyD k j ∧ Rep K m H x v ∧ RepKv K m H xs r
end
def RV (K : PySem.W.Frag) (m : Mu) (H : Hp) : Vl → V → Prop
  | .d x, v => Rep K m H x v
  | .r n, v => n < m.l.length ∧ ∀ a, m.l[n]? = some (some a) → v = .ref a
def RVs (K : PySem.W.Frag) (m : Mu) (H : Hp) : List Vl → List V → Prop
  | [], vs => vs = []
  | x :: xs, vs => ∃ v r, vs = v :: r ∧ RV K m H x v ∧ RVs K m H xs r
structure RS (K : PySem.W.Frag) (m : Mu) (H : Hp) (s : Sto) : Prop where
  len : m.l.length = s.length
  at_ : ∀ (n : Nat) (vs : List Vl), s[n]? = some (some (Ob.lst vs)) → ∃ a ws, m.l[n]? = some (some a) ∧ H a = some (.lst ws) ∧ RVs K m H vs ws
  dead : ∀ n : Nat, s[n]? = some none → m.l[n]? = some none
  inj : ∀ (i j : Nat) (a : Addr), m.l[i]? = some (some a) → m.l[j]? = some (some a) → i = j
  hd : ∀ a ∈ m.hid, H a ≠ none ∧ ¬ inL m a
structure RE (K : PySem.W.Frag) (m : Mu) (H : Hp) (e : Sl) (σ : L2.St) : Prop where
  len : e.length = σ.length
  at_ : ∀ (i : Nat) (v : Vl), e[i]? = some (some v) → ∃ x, σ[i]? = some (some x) ∧ RV K m H v x
def Kp (m : Mu) (H : Hp) (m' : Mu) (H' : Hp) : Prop := ∀ a o, H a = some o → ¬ inM m a → H' a = some o ∧ ¬ inM m' a
/-- what stood stands -/
structure Wk (m : Mu) (H : Hp) (m' : Mu) (H' : Hp) : Prop where
  kp : Kp m H m' H'
  len : m.l.length ≤ m'.l.length
  pl : ∀ n : Nat, n < m.l.length → m'.l[n]? = m.l[n]? ∨ m'.l[n]? = some none
structure Ext (m : Mu) (H : Hp) (m' : Mu) (H' : Hp) : Prop where
  kl : ∀ a o, H a = some o → ¬ inL m a → H' a = some o ∧ ¬ inL m' a
  len : m.l.length ≤ m'.l.length
  pl : ∀ n : Nat, n < m.l.length → m'.l[n]? = m.l[n]? ∨ m'.l[n]? = some none
  hid : m'.hid = m.hid

variable {K : PySem.W.Frag} {m m' m'' : Mu} {H H' H'' : Hp} {s : Sto} {e : Sl} {σ : L2.St}
theorem Ext.kp (x : Ext m H m' H') : Kp m H m' H' := fun a o h n => by
  obtain ⟨h1, h2⟩ := x.kl a o h fun z => n (.inl z)
  exact ⟨h1, fun z => z.elim h2 fun z => n (.inr (by rw [← x.hid]; exact z))⟩
theorem Ext.wk (x : Ext m H m' H') : Wk m H m' H' := ⟨x.kp, x.len, x.pl⟩
theorem Kp.at (x : Kp m H m' H') {a : Addr} {o : HO} (h : H a = some o) (n : ¬ inM m a) : H' a = some o ∧ ¬ inM m' a := x a o h n
theorem Ext.keep (x : Ext m H m' H') (a : Addr) (o : HO) (h : H a = some o) (n : ¬ inM m a) : H' a = some o ∧ ¬ inM m' a := x.kp.at h n
theorem Ext.refl : Ext m H m H := ⟨fun _ _ h n => ⟨h, n⟩, Nat.le_refl _, fun _ _ => .inl rfl, rfl⟩
theorem Ext.trans (a : Ext m H m' H') (b : Ext m' H' m'' H'') : Ext m H m'' H'' where
  kl := fun x o h n => let ⟨h1, n1⟩ := a.kl x o h n; b.kl x o h1 n1
  len := Nat.le_trans a.len b.len
  pl := fun n hn => by
    rcases b.pl n (Nat.lt_of_lt_of_le hn a.len) with h | h
    · rcases a.pl n hn with h' | h'
      · exact .inl (h.trans h')
      · exact .inr (h.trans h')
    · exact .inr h
  hid := b.hid.trans a.hid
theorem Kp.rd (x : Kp m H m' H') {a : Addr} {u : HO} (h : ¬ inM m a ∧ Rd H a u) : ¬ inM m' a ∧ Rd H' a u := by
  obtain ⟨n, h | ⟨o, h⟩⟩ := h
  · exact ⟨(x.at h n).2, .inl (x.at h n).1⟩
  · exact ⟨(x.at h n).2, .inr ⟨o, (x.at h n).1⟩⟩
theorem LsA.kp (x : Kp m H m' H') {a : Addr} {vs : List V} (h : LsA K m H a vs) : LsA K m' H' a vs := h.imp x.rd id
theorem TpA.kp (x : Kp m H m' H') {a : Addr} {vs : List V} (h : TpA K m H a vs) : TpA K m' H' a vs := h.imp x.rd id
mutual
theorem Rep.kp (x : Kp m H m' H') : ∀ {d : PyData} {v : V}, Rep K m H d v → Rep K m' H' d v
  | .none, _, h => h
  | .bool _, _, h => h
  | .int _, _, h => h
  | .str _, _, h => h
  | .list _, _, ⟨a, vs, e, h1, h2⟩ => ⟨a, vs, e, h1.kp x, Reps.kp x h2⟩
  | .tuple _, _, ⟨a, vs, e, h1, h2⟩ => ⟨a, vs, e, h1.kp x, Reps.kp x h2⟩
  | .dict _, _, ⟨a, ks, e, n, h1, h2⟩ => ⟨a, ks, e, (x.at h1 n).2, (x.at h1 n).1, RepKv.kp x h2⟩
theorem Reps.kp (x : Kp m H m' H') : ∀ {ds : List PyData} {vs : List V}, Reps K m H ds vs → Reps K m' H' ds vs
  | [], _, h => h
  | _ :: _, _, ⟨v, r, e, h1, h2⟩ => ⟨v, r, e, Rep.kp x h1, Reps.kp x h2⟩
theorem RepKv.kp (x : Kp m H m' H') : ∀ {ds : List (PyData × PyData)} {vs : List (Key × V)}, RepKv K m H ds vs → RepKv K m' H' ds vs
  | [], _, h => h
  | (_, _) :: _, _, ⟨j, v, r, e, hk, h1, h2⟩ => ⟨j, v, r, e, hk, Rep.kp x h1, RepKv.kp x h2⟩
end
theorem Rep.ext (x : Ext m H m' H') {d : PyData} {v : V} (h : Rep K m H d v) : Rep K m' H' d v := h.kp x.kp
theorem Reps.ext (x : Ext m H m' H') {d : List PyData} {v : List V} (h : Reps K m H d v) : Reps K m' H' d v := h.kp x.kp
theorem LsA.ext (x : Ext m H m' H') {a : Addr} {vs : List V} (h : LsA K m H a vs) : LsA K m' H' a vs := h.kp x.kp
theorem TpA.ext (x : Ext m H m' H') {a : Addr} {vs : List V} (h : TpA K m H a vs) : TpA K m' H' a vs := h.kp x.kp
theorem RV.wk (x : Wk m H m' H') : ∀ {u : Vl} {v : V}, RV K m H u v → RV K m' H' u v
  | .d _, _, h => Rep.kp x.kp h
  | .r n, v, ⟨h1, h2⟩ => ⟨Nat.lt_of_lt_of_le h1 x.len, fun a q => by
    rcases x.pl n h1 with z | z
    · exact h2 a (z ▸ q)
    · rw [z] at q; cases q⟩
theorem RVs.wk (x : Wk m H m' H') : ∀ {us : List Vl} {vs : List V}, RVs K m H us vs → RVs K m' H' us vs
  | [], _, h => h
  | _ :: _, _, ⟨v, r, e, h1, h2⟩ => ⟨v, r, e, RV.wk x h1, RVs.wk x h2⟩
theorem RV.ext (x : Ext m H m' H') {u : Vl} {v : V} (h : RV K m H u v) : RV K m' H' u v := h.wk x.wk
theorem RVs.ext (x : Ext m H m' H') {u : List Vl} {v : List V} (h : RVs K m H u v) : RVs K m' H' u v := h.wk x.wk
theorem RE.wk (x : Wk m H m' H') (r : RE K m H e σ) : RE K m' H' e σ := ⟨r.len, fun i v h => let ⟨y, h1, h2⟩ := r.at_ i v h; ⟨y, h1, RV.wk x h2⟩⟩
theorem RE.ext (x : Ext m H m' H') (r : RE K m H e σ) : RE K m' H' e σ := ⟨r.len, fun i v h => let ⟨y, h1, h2⟩ := r.at_ i v h; ⟨y, h1, RV.ext x h2⟩⟩

/-! ### lists of values -/
theorem RVs.length : ∀ {us : List Vl} {vs : List V}, RVs K m H us vs → us.length = vs.length
  | [], _, h => by have h : _ = [] := h; subst h; rfl
  | _ :: _, _, ⟨v, r, e, _, h2⟩ => by subst e; simp [RVs.length h2]
theorem Reps.length : ∀ {us : List PyData} {vs : List V}, Reps K m H us vs → us.length = vs.length
  | [], _, h => by have h : _ = [] := h; subst h; rfl
  | _ :: _, _, ⟨v, r, e, _, h2⟩ => by subst e; simp [Reps.length h2]
theorem Reps.rvs : ∀ {us : List PyData} {vs : List V}, Reps K m H us vs → RVs K m H (us.map Vl.d) vs
  | [], _, h => h
  | _ :: _, _, ⟨v, r, e, h1, h2⟩ => ⟨v, r, e, h1, Reps.rvs h2⟩
theorem RVs.reps : ∀ {us : List Vl} {vs : List V} {ds : List PyData}, RVs K m H us vs → allD us = some ds → Reps K m H ds vs
  | [], _, _, h, q => by cases q; exact h
  | .d x :: us, _, _, ⟨v, r, e, h1, h2⟩, q => by
    cases q' : allD us with
    | none => simp [allD, q'] at q
    | some ds => simp [allD, q'] at q; subst q; exact ⟨v, r, e, h1, RVs.reps h2 q'⟩
  | .r _ :: us, _, _, _, q => by cases q
theorem RVs.get : ∀ {us : List Vl} {vs : List V} {i : Nat} {u : Vl}, RVs K m H us vs → us[i]? = some u → ∃ v, vs[i]? = some v ∧ RV K m H u v
  | [], _, _, _, _, q => by simp at q
  | x :: us, _, 0, _, ⟨v, r, e, h1, h2⟩, q => by simp at q; subst q; subst e; exact ⟨v, rfl, h1⟩
  | x :: us, _, i + 1, _, ⟨v, r, e, h1, h2⟩, q => by
    subst e
    obtain ⟨w, a, b⟩ := RVs.get (i := i) h2 (by simpa using q)
    exact ⟨w, by simpa using a, b⟩
theorem RVs.get' : ∀ {us : List Vl} {vs : List V} {i : Nat} {v : V}, RVs K m H us vs → vs[i]? = some v → ∃ u, us[i]? = some u ∧ RV K m H u v
  | [], _, _, _, h, q => by have h : _ = [] := h; subst h; simp at q
  | x :: us, _, 0, _, ⟨v, r, e, h1, h2⟩, q => by subst e; simp at q; subst q; exact ⟨x, rfl, h1⟩
  | x :: us, _, i + 1, _, ⟨v, r, e, h1, h2⟩, q => by
    subst e
    obtain ⟨w, a, b⟩ := RVs.get' (i := i) h2 (by simpa using q)
    exact ⟨w, by simpa using a, b⟩
theorem RVs.app : ∀ {us ws : List Vl} {vs xs : List V}, RVs K m H us vs → RVs K m H ws xs → RVs K m H (us ++ ws) (vs ++ xs)
  | [], _, _, _, h, g => by have h : _ = [] := h; subst h; exact g
  | _ :: _, _, _, _, ⟨v, r, e, h1, h2⟩, g => by subst e; exact ⟨v, _, rfl, h1, RVs.app h2 g⟩
theorem RVs.one {u : Vl} {v : V} (h : RV K m H u v) : RVs K m H [u] [v] := ⟨v, [], rfl, h, rfl⟩
theorem RVs.take : ∀ {us : List Vl} {vs : List V} (n : Nat), RVs K m H us vs → RVs K m H (us.take n) (vs.take n)
  | _, _, 0, _ => by simp [RVs]
  | [], _, n + 1, h => by have h : _ = [] := h; subst h; simp [RVs]
  | _ :: _, _, n + 1, ⟨v, r, e, h1, h2⟩ => by subst e; exact ⟨v, _, rfl, h1, RVs.take n h2⟩
theorem RVs.drop : ∀ {us : List Vl} {vs : List V} (n : Nat), RVs K m H us vs → RVs K m H (us.drop n) (vs.drop n)
  | _, _, 0, h => h
  | [], _, n + 1, h => by have h : _ = [] := h; subst h; simp [RVs]
  | _ :: _, _, n + 1, ⟨v, r, e, h1, h2⟩ => by subst e; exact RVs.drop n h2
theorem RVs.set : ∀ {us : List Vl} {vs : List V} {u : Vl} {v : V} (n : Nat), RVs K m H us vs → RV K m H u v → RVs K m H (us.set n u) (vs.set n v)
  | [], _, _, _, n, h, _ => by have h : _ = [] := h; subst h; simp [RVs]
  | _ :: _, _, _, _, 0, ⟨v, r, e, h1, h2⟩, g => by subst e; exact ⟨_, _, rfl, g, h2⟩
  | _ :: _, _, _, _, n + 1, ⟨v, r, e, h1, h2⟩, g => by subst e; exact ⟨_, _, rfl, h1, RVs.set n h2 g⟩
theorem RVs.rev : ∀ {us : List Vl} {vs : List V}, RVs K m H us vs → RVs K m H us.reverse vs.reverse
  | [], _, h => by have h : _ = [] := h; subst h; simp [RVs]
  | _ :: _, _, ⟨v, r, e, h1, h2⟩ => by subst e; simp only [List.reverse_cons]; exact RVs.app (RVs.rev h2) (RVs.one h1)
theorem RVs.erase : ∀ {us : List Vl} {vs : List V} (n : Nat), RVs K m H us vs → RVs K m H (us.eraseIdx n) (vs.eraseIdx n)
  | [], _, n, h => by have h : _ = [] := h; subst h; simp [RVs]
  | _ :: _, _, 0, ⟨v, r, e, h1, h2⟩ => by subst e; exact h2
  | _ :: _, _, n + 1, ⟨v, r, e, h1, h2⟩ => by subst e; exact ⟨_, _, rfl, h1, RVs.erase n h2⟩
theorem RVs.rep : ∀ (n : Nat) {us : List Vl} {vs : List V}, RVs K m H us vs → RVs K m H (List.replicate n us).flatten (List.replicate n vs).flatten
  | 0, _, _, _ => by simp [RVs]
  | n + 1, _, _, h => by simp only [List.replicate_succ, List.flatten_cons]; exact RVs.app h (RVs.rep n h)
theorem Reps.ints : ∀ {us : List PyData} {vs : List V} {ns : List Int}, Reps K m H us vs → ints? us = some ns → vs = ns.map V.int
  | [], _, _, h, q => by cases q; exact h
  | .int x :: us, _, _, ⟨v, r, e, h1, h2⟩, q => by
    cases q' : ints? us with
    | none => simp [ints?, q'] at q
    | some ds =>
      simp [ints?, q'] at q
      subst q; subst e
      have h1 : v = V.int x := h1
      rw [h1, Reps.ints h2 q']; rfl
  | .none :: us, _, _, _, q => by cases q
  | .bool _ :: us, _, _, _, q => by cases q
  | .str _ :: us, _, _, _, q => by cases q
  | .list _ :: us, _, _, _, q => by cases q
  | .tuple _ :: us, _, _, _, q => by cases q
  | .dict _ :: us, _, _, _, q => by cases q
theorem Reps.bools : ∀ {us : List PyData} {vs : List V} {ns : List Bool}, Reps K m H us vs → bools? us = some ns → vs = ns.map V.bl
  | [], _, _, h, q => by cases q; exact h
  | .bool x :: us, _, _, ⟨v, r, e, h1, h2⟩, q => by
    cases q' : bools? us with
    | none => simp [bools?, q'] at q
    | some ds =>
      simp [bools?, q'] at q
      subst q; subst e
      have h1 : v = V.bl x := h1
      rw [h1, Reps.bools h2 q']; rfl
  | .none :: us, _, _, _, q => by cases q
  | .int _ :: us, _, _, _, q => by cases q
  | .str _ :: us, _, _, _, q => by cases q
  | .list _ :: us, _, _, _, q => by cases q
  | .tuple _ :: us, _, _, _, q => by cases q
  | .dict _ :: us, _, _, _, q => by cases q
theorem RVs.ofInts : ∀ (ns : List Int), Reps K m H (ns.map PyData.int) (ns.map V.int)
  | [] => rfl
  | _ :: r => ⟨_, _, rfl, rfl, RVs.ofInts r⟩

/-! ### the store's moves -/
theorem RS.mlst (r : RS K m H s) {a : Addr} (h : inL m a) : ∃ ws, H a = some (.lst ws) := by
  obtain ⟨n, hn, e⟩ := List.getElem_of_mem h
  have e : m.l[n]? = some (some a) := by rw [List.getElem?_eq_getElem hn, e]
  have hs : n < s.length := by rw [← r.len]; exact hn
  cases q : s[n] with
  | none =>
    have z := r.dead n (by rw [List.getElem?_eq_getElem hs, q])
    rw [e] at z; cases z
  | some o =>
    cases o with
    | lst vs =>
      obtain ⟨b, ws, h1, h2, _⟩ := r.at_ n vs (by rw [List.getElem?_eq_getElem hs, q])
      rw [e] at h1; cases h1
      exact ⟨ws, h2⟩
theorem RS.freshL (r : RS K m H s) {p : Addr} (h : H p = none) : ¬ inL m p := fun z => by
  obtain ⟨ws, q⟩ := r.mlst z
  rw [h] at q; cases q
theorem RS.fresh (r : RS K m H s) {p : Addr} (h : H p = none) : ¬ inM m p := fun z => z.elim (r.freshL h) fun z => (r.hd p z).1 h
theorem Ext.same (h : ∀ a o, H a = some o → H' a = some o) : Ext m H m H' := ⟨fun a o q n => ⟨h a o q, n⟩, Nat.le_refl _, fun _ _ => .inl rfl, rfl⟩
theorem there_of {a : Addr} (h : ∀ a o, H a = some o → H' a = some o) (n : H a ≠ none) : H' a ≠ none := by
  cases q : H a with
  | none => exact absurd q n
  | some o => rw [h a o q]; exact fun z => nomatch z
theorem RS.same (r : RS K m H s) (h : ∀ a o, H a = some o → H' a = some o) : RS K m H' s :=
  ⟨r.len, fun n vs q => let ⟨a, ws, h1, h2, h3⟩ := r.at_ n vs q; ⟨a, ws, h1, h a _ h2, RVs.ext (Ext.same h) h3⟩, r.dead, r.inj, fun a ha => ⟨there_of h (r.hd a ha).1, (r.hd a ha).2⟩⟩
theorem upd_keep {p : Addr} {o : HO} (hp : H p = none) : ∀ a u, H a = some u → upd H p o a = some u := fun a u q => by
  rw [upd_ne (ne_of_none q hp)]; exact q
/-- a new object that the store does not hold -/
theorem Ext.new {p : Addr} {o : HO} (hp : H p = none) : Ext m H m (upd H p o) := Ext.same (upd_keep hp)
theorem RS.new (r : RS K m H s) {p : Addr} {o : HO} (hp : H p = none) : RS K m (upd H p o) s := r.same (upd_keep hp)
def Mu.add (m : Mu) (p : Addr) : Mu := ⟨m.l ++ [some p], m.hid⟩
def Mu.kill (m : Mu) (n : Nat) : Mu := ⟨m.l.set n none, m.hid⟩
def Mu.cut (m : Mu) (n : Nat) : Mu := ⟨m.l.take n, m.hid⟩
theorem mem_app {a p : Addr} (h : inL (m.add p) a) : inL m a ∨ a = p := by
  rcases List.mem_append.mp h with h | h
  · exact .inl h
  · exact .inr (by simpa using h)
/-- a new list of the store -/
theorem RS.alloc (r : RS K m H s) {p : Addr} {vs : List Vl} {ws : List V} (hp : H p = none) (hv : RVs K m H vs ws) :
    Ext m H (m.add p) (upd H p (.lst ws)) ∧ RS K (m.add p) (upd H p (.lst ws)) (s ++ [some (.lst vs)]) ∧ RV K (m.add p) (upd H p (.lst ws)) (.r s.length) (.ref p) := by
  have x : Ext m H (m.add p) (upd H p (.lst ws)) := by
    refine ⟨fun a o q n => ⟨upd_keep hp a o q, fun z => ?_⟩, by simp [Mu.add], fun n hn => .inl (List.getElem?_append_left hn), rfl⟩
    rcases mem_app z with z | z
    · exact n z
    · subst z; rw [hp] at q; cases q
  have lm : (m.add p).l[s.length]? = some (some p) := by rw [← r.len]; simp [Mu.add]
  refine ⟨x, ⟨by simp [Mu.add, r.len], fun n us q => ?_, fun n q => ?_, fun i j a h1 h2 => ?_, fun a ha => ⟨there_of (upd_keep hp) (r.hd a ha).1, fun z => ?_⟩⟩, ?_⟩
  · by_cases hn : n < s.length
    · rw [List.getElem?_append_left hn] at q
      obtain ⟨a, zs, h1, h2, h3⟩ := r.at_ n us q
      refine ⟨a, zs, ?_, upd_keep hp _ _ h2, RVs.ext x h3⟩
      show (m.l ++ [some p])[n]? = _
      rw [List.getElem?_append_left (by rw [r.len]; exact hn)]; exact h1
    · have hn' : n = s.length := by
        have := (List.getElem?_eq_some_iff.mp q).1
        simp at this; omega
      subst hn'
      simp at q
      subst q
      exact ⟨p, ws, lm, upd_same, RVs.ext x hv⟩
  · by_cases hn : n < s.length
    · rw [List.getElem?_append_left hn] at q
      show (m.l ++ [some p])[n]? = _
      rw [List.getElem?_append_left (by rw [r.len]; exact hn)]
      exact r.dead n q
    · have hn' : n = s.length := by
        have := (List.getElem?_eq_some_iff.mp q).1
        simp at this; omega
      subst hn'
      simp at q
  · have key : ∀ i, (m.add p).l[i]? = some (some a) → (m.l[i]? = some (some a)) ∨ (i = m.l.length ∧ a = p) := fun i h => by
      have h : (m.l ++ [some p])[i]? = some (some a) := h
      by_cases hn : i < m.l.length
      · rw [List.getElem?_append_left hn] at h; exact .inl h
      · have hn' : i = m.l.length := by
          have := (List.getElem?_eq_some_iff.mp h).1
          simp at this; omega
        subst hn'
        simp at h
        exact .inr ⟨rfl, h.symm⟩
    rcases key i h1 with g1 | ⟨g1, e1⟩ <;> rcases key j h2 with g2 | ⟨g2, e2⟩
    · exact r.inj i j a g1 g2
    · rw [e2] at g1; exact absurd (List.mem_of_getElem? g1) (r.freshL hp)
    · rw [e1] at g2; exact absurd (List.mem_of_getElem? g2) (r.freshL hp)
    · omega
  · rcases mem_app z with z | z
    · exact (r.hd a ha).2 z
    · exact (r.hd a ha).1 (z ▸ hp)
  · refine ⟨by simp [Mu.add, r.len], fun a q => ?_⟩
    rw [lm] at q; cases q; rfl
/-- a list of the store is changed -/
theorem RS.put (r : RS K m H s) {n : Nat} {a : Addr} {vs : List Vl} {ws : List V} {us : List Vl} (hn : s[n]? = some (some (.lst us))) (ha : m.l[n]? = some (some a)) (hv : RVs K m H vs ws) :
    Ext m H m (upd H a (.lst ws)) ∧ RS K m (upd H a (.lst ws)) (putL n vs s) := by
  have x : Ext m H m (upd H a (.lst ws)) := by
    refine ⟨fun b o q nb => ⟨?_, nb⟩, Nat.le_refl _, fun _ _ => .inl rfl, rfl⟩
    rw [upd_ne]; exact q
    rintro rfl; exact nb (List.mem_of_getElem? ha)
  have hl : n < s.length := (List.getElem?_eq_some_iff.mp hn).1
  refine ⟨x, ⟨by simp [putL, r.len], fun k zs q => ?_, fun k q => ?_, r.inj, fun b hb => ⟨?_, (r.hd b hb).2⟩⟩⟩
  · by_cases hk : k = n
    · subst hk
      simp [putL, hl] at q
      subst q
      exact ⟨a, ws, ha, upd_same, RVs.ext x hv⟩
    · simp only [putL] at q
      rw [List.getElem?_set_ne (Ne.symm hk)] at q
      obtain ⟨b, xs, h1, h2, h3⟩ := r.at_ k zs q
      refine ⟨b, xs, h1, ?_, RVs.ext x h3⟩
      rw [upd_ne]; exact h2
      rintro rfl; exact hk (r.inj _ _ _ h1 ha)
  · by_cases hk : k = n
    · subst hk
      simp [putL, hl] at q
    · simp only [putL] at q
      rw [List.getElem?_set_ne (Ne.symm hk)] at q
      exact r.dead k q
  · by_cases hba : b = a
    · subst hba; rw [upd_same]; exact fun z => nomatch z
    · rw [upd_ne hba]; exact (r.hd b hb).1
/-- a list of the store becomes data -/
theorem RS.freeze (r : RS K m H s) {n : Nat} {a : Addr} {vs : List Vl} {ws : List V} {ds : List PyData} (hn : s[n]? = some (some (.lst vs))) (ha : m.l[n]? = some (some a)) (hw : H a = some (.lst ws)) (hd : Reps K m H ds ws) :
    Ext m H (m.kill n) H ∧ RS K (m.kill n) H (s.set n none) ∧ Rep K (m.kill n) H (.list ds) (.ref a) := by
  have hl : n < s.length := (List.getElem?_eq_some_iff.mp hn).1
  have hm : n < m.l.length := by rw [r.len]; exact hl
  have at1 : ∀ (i : Nat) (b : Addr), (m.kill n).l[i]? = some (some b) → m.l[i]? = some (some b) ∧ i ≠ n := fun i b e => by
    have e : (m.l.set n none)[i]? = some (some b) := e
    by_cases hin : i = n
    · rw [hin, List.getElem?_set_self hm] at e; cases e
    · rw [List.getElem?_set_ne (Ne.symm hin)] at e
      exact ⟨e, hin⟩
  have sub : ∀ b, inL (m.kill n) b → inL m b ∧ b ≠ a := fun b z => by
    obtain ⟨i, hi, e⟩ := List.getElem_of_mem z
    have e : (m.kill n).l[i]? = some (some b) := by rw [List.getElem?_eq_getElem hi, e]
    obtain ⟨e, hin⟩ := at1 i b e
    refine ⟨List.mem_of_getElem? e, ?_⟩
    rintro rfl; exact hin (r.inj _ _ _ e ha)
  have x : Ext m H (m.kill n) H := by
    refine ⟨fun b o q nb => ⟨q, fun z => nb (sub b z).1⟩, by simp [Mu.kill], fun k hk => ?_, rfl⟩
    by_cases hkn : k = n
    · subst hkn; exact .inr (by simp [Mu.kill, hk])
    · exact .inl (by show (m.l.set n none)[k]? = _; rw [List.getElem?_set_ne (Ne.symm hkn)])
  refine ⟨x, ⟨by simp [Mu.kill, r.len], fun k zs q => ?_, fun k q => ?_, fun i j b h1 h2 => r.inj i j b (at1 i b h1).1 (at1 j b h2).1, fun b hb => ⟨(r.hd b hb).1, fun z => (r.hd b hb).2 (sub b z).1⟩⟩, ?_⟩
  · by_cases hk : k = n
    · subst hk; simp [hl] at q
    · rw [List.getElem?_set_ne (Ne.symm hk)] at q
      obtain ⟨b, xs, h1, h2, h3⟩ := r.at_ k zs q
      exact ⟨b, xs, by show (m.l.set n none)[k]? = _; rw [List.getElem?_set_ne (Ne.symm hk)]; exact h1, h2, RVs.ext x h3⟩
  · show (m.l.set n none)[k]? = _
    by_cases hk : k = n
    · subst hk; simp [hm]
    · rw [List.getElem?_set_ne (Ne.symm hk)] at q ⊢
      exact r.dead k q
  · have na : ¬ inM (m.kill n) a := fun z => z.elim (fun z => (sub a z).2 rfl) fun z => (r.hd a z).2 (List.mem_of_getElem? ha)
    exact ⟨a, ws, rfl, .inl ⟨na, .inl hw⟩, Reps.ext x hd⟩
/-- .. and the lists of the store in it -/
theorem RS.frzL : ∀ {vs : List Vl} {m : Mu} {s : Sto} {ws : List V} {p : List PyData × Sto}, RS K m H s → RVs K m H vs ws → frzL vs s = some p → ∃ m', Ext m H m' H ∧ RS K m' H p.2 ∧ Reps K m' H p.1 ws
  | [], m, s, ws, p, r, rv, h => by cases h; exact ⟨m, Ext.refl, r, rv⟩
  | .d x :: vs, m, s, ws, p, r, ⟨v, r', e, h1, h2⟩, h => by
    have h : (SM.frzL vs s).map (fun q => (x :: q.1, q.2)) = some p := h
    cases q : SM.frzL vs s with
    | none => rw [q] at h; cases h
    | some q' =>
      rw [q] at h
      cases h
      obtain ⟨m', e1, e2, e3⟩ := RS.frzL r h2 q
      exact ⟨m', e1, e2, v, r', e, Rep.ext e1 h1, e3⟩
  | .r k :: vs, m, s, ws, p, r, ⟨v, r', e, h1, h2⟩, h => by
    have h : (listAt k s).bind (fun us => (allD us).bind fun ds => (SM.frzL vs (s.set k none)).map fun p => (.list ds :: p.1, p.2)) = some p := h
    cases q1 : listAt k s with
    | none => rw [q1] at h; cases h
    | some us =>
      rw [q1] at h
      have h : (allD us).bind (fun ds => (SM.frzL vs (s.set k none)).map fun p => (PyData.list ds :: p.1, p.2)) = some p := h
      cases q2 : allD us with
      | none => rw [q2] at h; cases h
      | some ds =>
        rw [q2] at h
        have h : (SM.frzL vs (s.set k none)).map (fun p => (PyData.list ds :: p.1, p.2)) = some p := h
        have g : s[k]? = some (some (.lst us)) := by
          unfold listAt at q1
          split at q1
          · cases q1; assumption
          · cases q1
        obtain ⟨a, xs, g1, g2, g3⟩ := r.at_ k us g
        obtain ⟨f1, f2, f3⟩ := r.freeze g g1 g2 (RVs.reps g3 q2)
        cases q3 : SM.frzL vs (s.set k none) with
        | none => rw [q3] at h; cases h
        | some q' =>
          rw [q3] at h
          cases h
          obtain ⟨m', e1, e2, e3⟩ := RS.frzL f2 (RVs.ext f1 h2) q3
          have ev : v = .ref a := h1.2 a g1
          exact ⟨m', f1.trans e1, e2, v, r', e, by rw [ev]; exact Rep.ext e1 f3, e3⟩
/-- what was made within a call is forgotten -/
theorem mem_take {n : Nat} {a : Addr} (h : inL (m.cut n) a) : inL m a := List.mem_of_mem_take h
theorem Kp.take (n : Nat) : Kp m H (m.cut n) H := fun _ _ q z => ⟨q, fun y => z (y.imp mem_take id)⟩
theorem RV.take {n : Nat} (hn : n ≤ m.l.length) : ∀ {u : Vl} {v : V}, RV K m H u v → ltV n u → RV K (m.cut n) H u v
  | .d _, _, h, _ => Rep.kp (Kp.take n) h
  | .r k, v, ⟨h1, h2⟩, q => by
    have q : k < n := q
    refine ⟨by show k < (m.l.take n).length; rw [List.length_take]; omega, fun a z => h2 a ?_⟩
    have z : (m.l.take n)[k]? = some (some a) := z
    rw [List.getElem?_take_of_lt q] at z; exact z
theorem RVs.takeM {n : Nat} (hn : n ≤ m.l.length) : ∀ {us : List Vl} {vs : List V}, RVs K m H us vs → (∀ u ∈ us, ltV n u) → RVs K (m.cut n) H us vs
  | [], _, h, _ => h
  | x :: us, _, ⟨v, r, e, h1, h2⟩, q => ⟨v, r, e, RV.take hn h1 (q x List.mem_cons_self), RVs.takeM hn h2 fun u hu => q u (List.mem_cons_of_mem _ hu)⟩
theorem RV.lt : ∀ {u : Vl} {v : V}, RV K m H u v → ltV m.l.length u
  | .d _, _, _ => trivial
  | .r _, _, h => h.1
theorem RVs.lt : ∀ {us : List Vl} {vs : List V}, RVs K m H us vs → ∀ u ∈ us, ltV m.l.length u
  | x :: us, _, ⟨v, r, e, h1, h2⟩, u, hu => by
    rcases List.mem_cons.mp hu with rfl | hu
    · exact h1.lt
    · exact RVs.lt h2 u hu
theorem RS.cut {s₀ : Sto} (r₀ : RS K m H s₀) (x : Ext m H m' H') (r : RS K m' H' s) {v : Vl} {y : V} (rv : RV K m' H' v y) (c : Cut s₀ v s) :
    Ext m H (m'.cut s₀.length) H' ∧ RS K (m'.cut s₀.length) H' (s.take s₀.length) ∧ RV K (m'.cut s₀.length) H' v y := by
  have hl : s₀.length ≤ m'.l.length := by rw [← r₀.len]; exact x.len
  have tk : ∀ n, n < s₀.length → (m'.cut s₀.length).l[n]? = m'.l[n]? := fun n hn => List.getElem?_take_of_lt hn
  have tl : (m'.cut s₀.length).l.length = s₀.length := by show (m'.l.take _).length = _; rw [List.length_take]; omega
  have inb : ∀ {n : Nat} {o : Option Ob}, (s.take s₀.length)[n]? = some o → n < s₀.length ∧ s[n]? = some o := fun {n o} q => by
    have hn : n < s₀.length := by
      have := (List.getElem?_eq_some_iff.mp q).1
      simp at this; omega
    rw [List.getElem?_take_of_lt hn] at q
    exact ⟨hn, q⟩
  refine ⟨⟨fun a o q n => ⟨(x.kl a o q n).1, fun z => (x.kl a o q n).2 (mem_take z)⟩, by rw [tl, r₀.len]; exact Nat.le_refl _, fun n hn => ?_, x.hid⟩, ⟨?_, fun n vs q => ?_, fun n q => ?_, fun i j a h1 h2 => ?_, fun a ha => ⟨(r.hd a ha).1, fun z => (r.hd a ha).2 (mem_take z)⟩⟩, RV.take hl rv c.1⟩
  · rw [tk n (by rw [← r₀.len]; exact hn)]
    exact x.pl n hn
  · rw [tl, List.length_take, ← r.len]; omega
  · obtain ⟨hn, q⟩ := inb q
    rw [tk n hn]
    obtain ⟨a, ws, h1, h2, h3⟩ := r.at_ n vs q
    refine ⟨a, ws, h1, h2, RVs.takeM hl h3 ?_⟩
    rcases c.2 n hn with z | z
    · rw [z] at q
      obtain ⟨_, _, _, _, g⟩ := r₀.at_ n vs q
      have := g.lt
      rwa [r₀.len] at this
    · exact z _ q
  · obtain ⟨hn, q⟩ := inb q
    rw [tk n hn]
    exact r.dead n q
  · have key : ∀ i, (m'.cut s₀.length).l[i]? = some (some a) → m'.l[i]? = some (some a) := fun i h => by
      have hi : i < s₀.length := by
        have := (List.getElem?_eq_some_iff.mp h).1
        rwa [tl] at this
      rwa [tk i hi] at h
    exact r.inj i j a (key i h1) (key j h2)
/-- a list beside the store -/
def Mu.hide (m : Mu) (p : Addr) : Mu := ⟨m.l, p :: m.hid⟩
theorem Wk.hide {p : Addr} {o : HO} (hp : H p = none) : Wk m H (m.hide p) (upd H p o) := by
  refine ⟨fun a u h n => ⟨upd_keep hp a u h, fun z => ?_⟩, Nat.le_refl _, fun _ _ => .inl rfl⟩
  rcases z with z | z
  · exact n (.inl z)
  · rcases List.mem_cons.mp z with z | z
    · subst z; rw [hp] at h; cases h
    · exact n (.inr z)
theorem RS.hide (r : RS K m H s) {p : Addr} {o : HO} (hp : H p = none) : RS K (m.hide p) (upd H p o) s := by
  refine ⟨r.len, fun n vs q => ?_, r.dead, r.inj, fun a ha => ?_⟩
  · obtain ⟨a, ws, h1, h2, h3⟩ := r.at_ n vs q
    exact ⟨a, ws, h1, upd_keep hp _ _ h2, RVs.wk (Wk.hide hp) h3⟩
  · rcases List.mem_cons.mp ha with rfl | ha
    · exact ⟨(by rw [upd_same]; exact fun z => nomatch z), r.freshL hp⟩
    · exact ⟨there_of (upd_keep hp) (r.hd a ha).1, (r.hd a ha).2⟩
/-- the hidden list is changed -/
theorem Wk.hidden {p : Addr} {o : HO} (h : p ∈ m.hid) : Wk m H m (upd H p o) := by
  refine ⟨fun a u q n => ⟨?_, n⟩, Nat.le_refl _, fun _ _ => .inl rfl⟩
  rw [upd_ne]; exact q
  rintro rfl; exact n (.inr h)
theorem RS.hidden (r : RS K m H s) {p : Addr} {o : HO} (h : p ∈ m.hid) : RS K m (upd H p o) s := by
  refine ⟨r.len, fun n vs q => ?_, r.dead, r.inj, fun a ha => ⟨?_, (r.hd a ha).2⟩⟩
  · obtain ⟨a, ws, h1, h2, h3⟩ := r.at_ n vs q
    refine ⟨a, ws, h1, ?_, RVs.wk (Wk.hidden h) h3⟩
    rw [upd_ne]; exact h2
    rintro rfl; exact (r.hd _ h).2 (List.mem_of_getElem? h1)
  · by_cases hba : a = p
    · subst hba; rw [upd_same]; exact fun z => nomatch z
    · rw [upd_ne hba]; exact (r.hd a ha).1
/-- it is hidden no more -/
def Mu.show (m : Mu) (h : List Addr) : Mu := ⟨m.l, h⟩
theorem Wk.show {p : Addr} {h : List Addr} (e : m.hid = p :: h) : Wk m H (m.show h) H := by
  refine ⟨fun a u q n => ⟨q, fun z => ?_⟩, Nat.le_refl _, fun _ _ => .inl rfl⟩
  rcases z with z | z
  · exact n (.inl z)
  · exact n (.inr (by rw [e]; exact List.mem_cons_of_mem _ z))
theorem RS.show (r : RS K m H s) {p : Addr} {h : List Addr} (e : m.hid = p :: h) : RS K (m.show h) H s := by
  refine ⟨r.len, fun n vs q => ?_, r.dead, r.inj, fun a ha => r.hd a (by rw [e]; exact List.mem_cons_of_mem _ ha)⟩
  obtain ⟨a, ws, h1, h2, h3⟩ := r.at_ n vs q
  exact ⟨a, ws, h1, h2, RVs.wk (Wk.show e) h3⟩

/-! ### ends -/
def Post {α β : Type} (K : PySem.W.Frag) (cl : Nat → Value) (R : Mu → Hp → α → β → Prop) (E : XK) (Q : β → Hp → Prop) (m : Mu) (H : Hp) : Rs α → Prop
  | .ok a s => ∀ m' H' b, Ext m H m' H' → RS K m' H' s → R m' H' a b → Q b H'
  | .ex c v s => ∀ m' H' d y, Ext m H m' H' → RS K m' H' s → RV K m' H' v y → H' d = some (.xd [("value", y)]) → E (cl c) (some d) H'
  | .no => False
section
variable {α β γ δ : Type} {cl : Nat → Value} {R : Mu → Hp → α → β → Prop} {R' : Mu → Hp → γ → δ → Prop} {E : XK} {Q Q' : β → Hp → Prop} {G : δ → Hp → Prop}
theorem Post.mono : ∀ {r : Rs α}, Post K cl R E Q m H r → (∀ m' H' b, Ext m H m' H' → Q b H' → Q' b H') → Post K cl R E Q' m H r
  | .ok _ _, h, f => fun m' H' b x r q => f m' H' b x (h m' H' b x r q)
  | .ex _ _ _, h, _ => h
  | .no, h, _ => h
theorem Post.ext (x : Ext m H m' H') : ∀ {r : Rs α}, Post K cl R E Q m H r → Post K cl R E Q m' H' r
  | .ok _ _, h => fun m' H' b y r q => h m' H' b (x.trans y) r q
  | .ex _ _ _, h => fun m' H' d y z r q e => h m' H' d y (x.trans z) r q e
  | .no, h => h
/-- one run behind another -/
theorem Post.bind {f : α → Sto → Rs γ} : ∀ {r : Rs α}, Post K cl R' E G m H (r.bind f) →
    Post K cl R E (fun b H1 => ∃ m1 a s1, Ext m H m1 H1 ∧ RS K m1 H1 s1 ∧ R m1 H1 a b ∧ Post K cl R' E G m1 H1 (f a s1)) m H r
  | .ok a s, h => fun m' H' b x r q => ⟨m', a, s, x, r, q, Post.ext x h⟩
  | .ex _ _ _, h => h
  | .no, h => h
end
end SM

/-! SM: operators, by values. -/
namespace SM
open PySem L2 PySem.Spec PyProof.Rows

def PostP (K : PySem.W.Frag) (Q : VK) (m : Mu) (H : Hp) : Po Vl → Prop
  | some (v, s) => ∀ m' H' x, Ext m H m' H' → RS K m' H' s → RV K m' H' v x → Q x H'
  | none => False
theorem Post.pure {K : PySem.W.Frag} {cl : Nat → Value} {E : XK} {Q : VK} {m : Mu} {H : Hp} : ∀ {p : Po Vl}, Post K cl (RV K) E Q m H (ofP p) → PostP K Q m H p
  | some (_, _), h => h
  | none, h => h
/-- by values: the operator f does what g tells -/
def rOp (K : PySem.W.Frag) (g : Vl → Vl → Sto → Po Vl) : R2 := fun x y H Q => ∃ m s v w, RV K m H v x ∧ RV K m H w y ∧ RS K m H s ∧ PostP K Q m H (g v w s)
def rFn (K : PySem.W.Frag) (g : List Vl → Sto → Po Vl) : List V → Hp → VK → Prop := fun xs H Q => ∃ m s vs, RVs K m H vs xs ∧ RS K m H s ∧ PostP K Q m H (g vs s)

section
variable {X : Cx} {pins : List (Addr × Obj)} {σ : L2.St} {H : Hp} {st : Shared} {m : Mu} {s : Sto} {Q : VK}
theorem OpR.weak {f : Value → Value → Sem Value} {r r' : R2} (h : OpR X f r) (w : ∀ x y H Q, r' x y H Q → r x y H Q) : OpR X f r' :=
  fun pins s σ H x y v u Q I rx ry q => h pins s σ H x y v u Q I rx ry (w _ _ _ _ q)
theorem CallR.weak {f : Value} {r r' : List V → Hp → VK → Prop} (h : CallR X f r) (w : ∀ x H Q, r' x H Q → r x H Q) : CallR X f r' :=
  fun pins s σ H x y Q I rx q => h pins s σ H x y Q I rx (w _ _ _ q)
/-- the end at the very state -/
theorem PostP.here {K : PySem.W.Frag} {v : Vl} {x : V} (r : RS K m H s) (rv : RV K m H v x) (h : PostP K Q m H (some (v, s))) : Q x H := h m H x Ext.refl r rv
/-- a new list -/
theorem mkL_new {K : PySem.W.Frag} {mf : Bool} {vs : List Vl} {ws : List V} {p : Addr} (r : RS K m H s) (rv : RVs K m H vs ws) (hp : H p = none) (h : PostP K Q m H (mkL mf vs s)) : Q (.ref p) (upd H p (.lst ws)) := by
  unfold mkL at h
  split at h
  · cases mf with
    | true =>
      simp only [if_true] at h
      obtain ⟨x, rs, rr⟩ := r.alloc hp rv
      exact h _ _ _ x rs rr
    | false =>
      simp only [Bool.false_eq_true, if_false] at h
      cases q : allD vs with
      | none => rw [q] at h; exact h.elim
      | some ds =>
        rw [q] at h
        have x : Ext m H m (upd H p (.lst ws)) := Ext.new hp
        exact h _ _ _ x (r.new hp) ⟨p, ws, rfl, .inl ⟨r.fresh hp, .inl upd_same⟩, Reps.ext x (rv.reps q)⟩
  · exact h.elim
theorem mkL_len {K : PySem.W.Frag} {mf : Bool} {vs : List Vl} (h : PostP K Q m H (mkL mf vs s)) : vs.length ≤ sizeLine := by
  unfold mkL at h
  split at h
  · rename_i z; rw [sizeLine_eq]; exact z
  · exact h.elim
/-- a new tuple -/
theorem tup_new {K : PySem.W.Frag} {ds : List PyData} {ws : List V} {p : Addr} (r : RS K m H s) (rv : Reps K m H ds ws) (hp : H p = none) (h : PostP K Q m H (some (.d (.tuple ds), s))) : Q (.ref p) (upd H p (.tup ws)) := by
  have x : Ext m H m (upd H p (.tup ws)) := Ext.new hp
  exact h _ _ _ x (r.new hp) ⟨p, ws, rfl, .inl ⟨r.fresh hp, .inl upd_same⟩, Reps.ext x rv⟩
theorem listAt_some {n : Nat} {vs : List Vl} (h : listAt n s = some vs) : s[n]? = some (some (.lst vs)) := by
  unfold listAt at h
  split at h
  · rename_i q; cases h; exact q
  · cases h
/-- the place of a list -/
theorem RS.get {K : PySem.W.Frag} (r : RS K m H s) {n : Nat} {vs : List Vl} {x : V} (h : listAt n s = some vs) (rx : RV K m H (.r n) x) : ∃ a ws, x = .ref a ∧ m.l[n]? = some (some a) ∧ H a = some (.lst ws) ∧ RVs K m H vs ws := by
  obtain ⟨a, ws, h1, h2, h3⟩ := r.at_ n vs (listAt_some h)
  exact ⟨a, ws, rx.2 a h1, h1, h2, h3⟩
/-- what is a list or tuple -/
theorem itemsV_sq {K : PySem.W.Frag} (r : RS K m H s) {v : Vl} {x : V} {vs : List Vl} (h : itemsV v s = some vs) (rx : RV K m H v x) : ∃ a ws, x = .ref a ∧ (SqL K H a ws ∨ SqT K H a ws) ∧ RVs K m H vs ws := by
  cases v with
  | r n =>
    obtain ⟨a, ws, e, _, h2, h3⟩ := r.get h rx
    exact ⟨a, ws, e, .inl (SqL.of h2), h3⟩
  | d x =>
    cases x with
    | list xs =>
      cases h
      obtain ⟨a, ws, e, h1, h2⟩ := rx
      exact ⟨a, ws, e, .inl h1.sq, h2.rvs⟩
    | tuple xs =>
      cases h
      obtain ⟨a, ws, e, h1, h2⟩ := rx
      exact ⟨a, ws, e, .inr h1.sq, h2.rvs⟩
    | _ => cases h

/-! ### binary operators -/
theorem op_powX : OpR X (binaryOp .Pow) (rI (fun i j => 0 ≤ j ∧ j ≤ 1000000 ∧ (i.natAbs.log2 + 1) * j.toNat ≤ 1000000) fun i j => .int (i ^ j.toNat)) := opI fun i j _ _ _ _ _ hc q => by
  refine pow_int hc.1 ?_ q
  have b : Builtin.Int.intBits i ≤ i.natAbs.log2 + 1 := by
    unfold Builtin.Int.intBits
    split <;> omega
  have h1 : Builtin.Int.intBits i * j.toNat ≤ 1000000 := Nat.le_trans (Nat.mul_le_mul_right _ b) hc.2.2
  have h2 : ((Builtin.Int.intBits i * j.toNat : Nat) : Int) = (Builtin.Int.intBits i : Int) * j := by
    rw [Int.natCast_mul, Int.toNat_of_nonneg hc.1]
  omega
theorem op_mulY : OpR X (binaryOp .Mult) (rI mulOk fun i j => .int (i * j)) := opI fun i j _ _ _ _ _ hc q => by
  refine mul_int q ?_
  rcases hc with h | h | h
  · exact .of_left (intBits_le_64 (by omega) (by omega))
  · exact .of_right (intBits_le_64 (by omega) (by omega))
  · exact CMulW.ok h
def opOf : BOp → Operator
  | .add => .Add | .sub => .Sub | .mul => .Mult | .fdiv => .FloorDiv | .mod => .Mod | .pow => .Pow | .shl => .LShift | .shr => .RShift | .bor => .BitOr | .band => .BitAnd
theorem rI_if {Cd : Int → Int → Prop} [∀ i j, Decidable (Cd i j)] {g : Int → Int → Int} {x y : V} {H : Hp} {Q : VK} {i j k : Int} (e1 : x = .int i) (e2 : y = .int j) (e3 : (if Cd i j then some (g i j) else none) = some k) (q : Q (.int k) H) : rI Cd (fun i j => .int (g i j)) x y H Q := by
  split at e3
  · cases e3
    exact ⟨i, j, e1, e2, by assumption, q⟩
  · cases e3
def rBinI (o : BOp) : R2 := fun x y H Q => ∃ i j k, x = .int i ∧ y = .int j ∧ binI o i j = some k ∧ Q (.int k) H
instance (i j : Int) : Decidable (CDivW i j) := by unfold CDivW; infer_instance
def CDivZ (_ j : Int) : Prop := j ≠ 0 ∧ j.natAbs.log2 < 9000
theorem op_fdivZ : OpR X (binaryOp .FloorDiv) (rI CDivZ fun i j => .int (i.fdiv j)) := opI fun i j _ _ _ _ _ hc q => floordiv_int hc.1 q (.inl (PyProof.noPylong_of_log2 hc.2))
theorem bin_int : (o : BOp) → OpR X (binaryOp (opOf o)) (rBinI o)
  | .add => OpR.weak op_add fun x y H Q ⟨i, j, k, e1, e2, e3, q⟩ => ⟨i, j, e1, e2, by cases e3; exact q⟩
  | .sub => OpR.weak op_sub fun x y H Q ⟨i, j, k, e1, e2, e3, q⟩ => ⟨i, j, e1, e2, by cases e3; exact q⟩
  | .mul => OpR.weak op_mulY fun x y H Q ⟨i, j, k, e1, e2, e3, q⟩ => rI_if (Cd := mulOk) e1 e2 e3 q
  | .fdiv => OpR.weak op_fdivZ fun x y H Q ⟨i, j, k, e1, e2, e3, q⟩ => by
      simp only [binI] at e3
      split at e3
      · rename_i hz
        cases e3
        refine ⟨i, j, e1, e2, ⟨by omega, hz.2⟩, ?_⟩
        show Q (.int (i.fdiv j)) H
        rw [Int.fdiv_eq_ediv_of_nonneg i (show 0 ≤ j by omega)]
        exact q
      · split at e3
        · rename_i hz
          cases e3
          exact ⟨i, j, e1, e2, ⟨by omega, hz.2⟩, q⟩
        · cases e3
  | .mod => OpR.weak op_modN fun x y H Q ⟨i, j, k, e1, e2, e3, q⟩ => by
      simp only [binI] at e3
      split at e3
      · rename_i hz
        cases e3
        refine ⟨i, j, e1, e2, by omega, ?_⟩
        show Q (.int (i.fmod j)) H
        rw [Int.fmod_eq_emod_of_nonneg i (show 0 ≤ j by omega)]
        exact q
      · split at e3
        · rename_i hz
          cases e3
          exact ⟨i, j, e1, e2, by omega, q⟩
        · cases e3
  | .pow => OpR.weak op_powX fun x y H Q ⟨i, j, k, e1, e2, e3, q⟩ => rI_if (Cd := fun i j => 0 ≤ j ∧ j ≤ 1000000 ∧ (i.natAbs.log2 + 1) * j.toNat ≤ 1000000) e1 e2 e3 q
  | .shl => OpR.weak op_shl fun x y H Q ⟨i, j, k, e1, e2, e3, q⟩ => by
      simp only [binI] at e3
      split at e3
      · cases e3
        exact ⟨i, j, e1, e2, by assumption, q⟩
      · cases e3
  | .shr => OpR.weak op_shr fun x y H Q ⟨i, j, k, e1, e2, e3, q⟩ => rI_if (Cd := fun _ j => 0 ≤ j) e1 e2 e3 q
  | .bor => OpR.weak op_or fun x y H Q ⟨i, j, k, e1, e2, e3, q⟩ => ⟨i, j, e1, e2, by cases e3; exact q⟩
  | .band => OpR.weak op_and fun x y H Q ⟨i, j, k, e1, e2, e3, q⟩ => ⟨i, j, e1, e2, by cases e3; exact q⟩
/-- list + list, whatever they stand in -/
def rCatL (K : PySem.W.Frag) : R2 := fun x y H Q => ∃ l b xs zs, x = .ref l ∧ y = .ref b ∧ SqL K H l xs ∧ SqL K H b zs ∧ xs.length + zs.length ≤ sizeLine ∧ ∀ p, H p = none → Q (.ref p) (upd H p (.lst (xs ++ zs)))
theorem op_catL : OpR X (binaryOp .Add) (rCatL X.K) := by
  intro pins st σ H x y v u Q I rx ry h
  obtain ⟨l, b, xs, zs, rfl, rfl, hH, hB, hz, q⟩ := h
  cases rx
  cases ry
  obtain ⟨its, r, ⟨⟨cls, dd, data, sl⟩, n, ho, hc, _, hd⟩, z⟩ := I.list hH
  obtain ⟨its2, r2, ⟨⟨cls2, dd2, data2, sl2⟩, n2, ho2, hc2, _, hd2⟩, z2⟩ := I.list hB
  simp only at hc hd hc2 hd2
  subst hc hd hc2 hd2
  have ea : its.toArray ++ its2.toArray = (its ++ its2).toArray := by simp
  have l1 := r.length
  have l2 := r2.length
  refine concat_meets ⟨_, ho, rfl⟩ ⟨_, ho2, rfl⟩ noFill_list_add seq_list_add PySem.F.slot_list_add PySem.F.entry_list_add (PySem.F.args_list_add_2 _ _) (list_addW l b its.toArray its2.toArray n n2 dd dd2 sl sl2 (by rw [List.size_toArray, List.size_toArray]; omega)) ⟨ho, ho2, ?_⟩
  rw [ea]
  exact ⟨.ref _, _, I.lnew (t' := st.toks) (r.append r2) (by rw [List.length_append]; omega), rfl, q _ I.fresh⟩
/-- () * k -/
theorem tuple_mul0 (l : Addr) (n : Nat) (dd : Option Addr) (sl : Array (Option Value)) (x : Int) (u : Tok) (c0 : (decide (x < -(2 ^ 63)) || decide (x ≥ 2 ^ 63)) = false) :
    Meets (Builtin.«tuple.__mul__» ⟨[.ref l, .int x u], []⟩) (fun _ R s => s.heap.get? l = some { cls := .type "tuple", dict := dd, data := .seq #[] n, slots := sl } ∧ R (.ok (.ret (Value.ref l))) s) :=
  .of_wp fun prog w A R s h => by
    obtain ⟨hp, g, d, tk, os⟩ := s
    obtain ⟨hl, h⟩ := h
    have f1 := AutoSeq1.idx_int
    wp_walk using wpAny_loadPart' hl
    repeat (first
      | (refine wpAny_ite_false (decide_eq_false (by rw [c0]; exact Bool.false_ne_true)) ?_; wp_walk using wpAny_loadPart' hl))
    exact ⟨_, rfl, h⟩
def rRepT0 (K : PySem.W.Frag) : R2 := fun x y H Q => ∃ l k, x = .ref l ∧ y = .int k ∧ SqT K H l [] ∧ 2 ≤ k ∧ k ≤ 1000 ∧ Q (.ref l) H
theorem op_repT0 : OpR X (binaryOp .Mult) (rRepT0 X.K) := by
  intro pins st σ H x y v u Q I rx ry h
  obtain ⟨l, k, rfl, rfl, hT, h1, h2, q⟩ := h
  cases rx
  obtain ⟨t, rfl⟩ := ry
  obtain ⟨its, r, ⟨⟨cls, dd, data, sl⟩, ho, hc, n, hd⟩, hs⟩ := I.tuple hT
  simp only at hc hd
  subst hc hd
  cases r
  have c0 : (decide (k < -(2 ^ 63)) || decide (k ≥ 2 ^ 63)) = false := by
    rw [decide_eq_false (by omega), decide_eq_false (by omega)] <;> rfl
  refine wpAny_binaryOp_repeat_ref (T := "tuple") (U := "int") (by decide) ⟨_, ho, rfl⟩ (fun s' => typeIs_int s' k t) noFill_tuple_mul F.fills_int_mul F.slot_int_rmul repeat_tuple F.slot_int_index.lookup
    (call_meets F.slot_int_rmul (typeIs_int st k t) F.entry_int_rmul (F.args_int_rmul_2 _ _) (int_rmul_tuple k t l #[] n dd sl)
      ⟨ho, rfl, ⟨_, ho, rfl⟩, call_meets F.slot_tuple_mul ⟨_, ho, rfl⟩ F.entry_tuple_mul (F.args_tuple_mul_2 _ _) (tuple_mul0 l n dd sl k t c0) ⟨ho, ⟨.ref l, H, I, rfl, q⟩⟩⟩)
theorem listV_sq {K : PySem.W.Frag} (r : RS K m H s) {v : Vl} {x : V} {vs : List Vl} (h : listV v s = some vs) (rx : RV K m H v x) : ∃ a ws, x = .ref a ∧ SqL K H a ws ∧ RVs K m H vs ws := by
  cases v with
  | r n =>
    obtain ⟨a, ws, e, _, h2, h3⟩ := r.get h rx
    exact ⟨a, ws, e, SqL.of h2, h3⟩
  | d x =>
    cases x with
    | list xs =>
      cases h
      obtain ⟨a, ws, e, h1, h2⟩ := rx
      exact ⟨a, ws, e, h1.sq, h2.rvs⟩
    | _ => cases h
theorem bin_ok (mf : Bool) (o : BOp) : OpR X (binaryOp (opOf o)) (rOp X.K (binV mf o)) := by
  intro pins st σ H x y v u Q I rx ry ⟨m, s, a, b, ra, rb, rs, h⟩
  have dd : ∀ (c d : PyData), Rep X.K m H c x → Rep X.K m H d y → PostP X.K Q m H (binD o c d s) → wpAny (model X.prog X.w) X.A (binaryOp (opOf o) v u) (EP X pins σ Q) X.xe st := by
    clear h
    intro c d rc rd h
    unfold binD at h
    split at h
    · rename_i i j
      cases q : binI o i j with
      | none => rw [q] at h; exact h.elim
      | some k =>
        rw [q] at h
        exact bin_int o pins st σ H x y v u Q I rx ry ⟨i, j, k, rc, rd, q, PostP.here rs (v := .d (.int k)) rfl h⟩
    · rename_i i j
      split at h
      · rename_i hc
        obtain ⟨rfl, hz⟩ := hc
        exact op_add_str pins st σ H x y v u Q I rx ry ⟨i, j, rc, rd, by rw [sizeLine_eq]; exact hz, PostP.here rs (v := .d (.str (i ++ j))) rfl h⟩
      · exact h.elim
    · rename_i i j
      split at h
      · rename_i hc
        obtain ⟨rfl, hz⟩ := hc
        obtain ⟨p, vs, ep, h1, h2⟩ := rc
        obtain ⟨p', vs', ep', h1', h2'⟩ := rd
        have rr : Reps X.K m H (i ++ j) (vs ++ vs') := by
          have := RVs.app h2.rvs h2'.rvs
          rw [← List.map_append] at this
          exact RVs.reps this (allD_map _)
        refine op_catA pins st σ H x y v u Q I rx ry ⟨p, p', vs, vs', ep, ep', h1.sq, h1'.sq, by rw [← h2.length, ← h2'.length, sizeLine_eq]; exact hz, fun e => ?_, fun _ e => ?_, fun _ _ q hq => ?_⟩
        · have : i = [] := List.eq_nil_of_length_eq_zero (by rw [h2.length, e]; rfl)
          subst this
          exact PostP.here rs (v := .d (.tuple j)) ⟨p', vs', rfl, h1', h2'⟩ h
        · have : j = [] := List.eq_nil_of_length_eq_zero (by rw [h2'.length, e]; rfl)
          subst this
          rw [List.append_nil] at h
          exact PostP.here rs (v := .d (.tuple i)) ⟨p, vs, rfl, h1, h2⟩ h
        · exact tup_new rs rr hq h
      · exact h.elim
    · rename_i i j
      split at h
      · rename_i hc
        obtain ⟨rfl, h2', h3', h4'⟩ := hc
        obtain ⟨p, vs, ep, h1, h2⟩ := rc
        by_cases hv : vs = []
        · have e0 : i = [] := List.eq_nil_of_length_eq_zero (by rw [h2.length, hv]; rfl)
          subst e0
          have e1 : (List.replicate j.toNat ([] : List PyData)).flatten = [] := by
            rw [List.flatten_eq_nil_iff]
            intro l hl
            exact (List.mem_replicate.mp hl).2
          rw [e1] at h
          subst hv
          exact op_repT0 pins st σ H x y v u Q I rx ry ⟨p, j, ep, rd, h1.sq, h2', h3', PostP.here rs (v := .d (.tuple [])) ⟨p, [], rfl, h1, h2⟩ h⟩
        · have rr : Reps X.K m H (List.replicate j.toNat i).flatten (List.replicate j.toNat vs).flatten := by
            have := RVs.rep j.toNat h2.rvs
            have e : (List.replicate j.toNat (List.map Vl.d i)).flatten = ((List.replicate j.toNat i).flatten).map Vl.d := by
              rw [List.map_flatten, List.map_replicate]
            rw [e] at this
            exact RVs.reps this (allD_map _)
          exact op_repT pins st σ H x y v u Q I rx ry ⟨p, j, vs, ep, rd, h1.sq, hv, h2', h3', by rw [← h2.length]; exact h4', fun q hq => tup_new rs rr hq h⟩
      · exact h.elim
    · exact h.elim
  unfold binV at h
  split at h
  · rename_i us vs q1 q2
    obtain ⟨p, ws, e1, h1, g1⟩ := listV_sq rs q1 ra
    obtain ⟨p', ws', e2, h2, g2⟩ := listV_sq rs q2 rb
    have hl := mkL_len h
    refine op_catL pins st σ H x y v u Q I rx ry ⟨p, p', ws, ws', e1, e2, h1, h2, ?_, fun q hq => mkL_new rs (RVs.app g1 g2) hq h⟩
    rw [List.length_append, g1.length, g2.length] at hl
    exact hl
  · split at h
    · exact dd _ _ ra rb h
    · exact h.elim
end
end SM

/-! SM: comparisons, places, slices, by values. -/
namespace SM
open PySem L2 PySem.Spec PyProof.Rows
section
variable {X : Cx} {pins : List (Addr × Obj)} {σ : L2.St} {H : Hp} {st : Shared} {m : Mu} {s : Sto} {Q : VK}
mutual
theorem Rep.dp {K : PySem.W.Frag} : ∀ {d : PyData} {v : V}, d.canLay0 = true → Rep K m H d v → Dp K H v d
  | .none, _, _, h => by cases h; exact .non
  | .bool b, _, _, h => by cases h; exact .bl b
  | .int i, _, _, h => by cases h; exact .int i
  | .str x, _, _, h => by cases h; exact .str x
  | .list xs, _, c, ⟨a, vs, e, h1, h2⟩ => by subst e; exact .lst h1.sq (Reps.dp (by simpa [PyData.canLay0] using c) h2)
  | .tuple xs, _, c, ⟨a, vs, e, h1, h2⟩ => by subst e; exact .tup h1.sq (Reps.dp (by simpa [PyData.canLay0] using c) h2)
  | .dict _, _, c, _ => by simp [PyData.canLay0] at c
theorem Reps.dp {K : PySem.W.Frag} : ∀ {ds : List PyData} {vs : List V}, PyData.canLayAll0 ds = true → Reps K m H ds vs → DpAll K H vs ds
  | [], _, _, h => by have h : _ = [] := h; subst h; exact .nil
  | d :: ds, _, c, ⟨v, r, e, h1, h2⟩ => by
    subst e
    have c' : d.canLay0 = true ∧ PyData.canLayAll0 ds = true := by simpa [PyData.canLayAll0] using c
    exact .cons (Rep.dp c'.1 h1) (Reps.dp c'.2 h2)
end
theorem dataOf_dp {K : PySem.W.Frag} (rs : RS K m H s) {v : Vl} {x : V} {d : PyData} (rx : RV K m H v x) (h : dataOf v s = some d) (c : d.canLay0 = true) : Dp K H x d := by
  cases v with
  | d y => cases h; exact Rep.dp c rx
  | r n =>
    simp only [dataOf] at h
    cases q : listAt n s with
    | none => rw [q] at h; cases h
    | some vs =>
      rw [q] at h
      cases q2 : allD vs with
      | none => simp [q2] at h
      | some ds =>
        simp [q2] at h
        subst h
        obtain ⟨a, ws, e, _, h2, h3⟩ := rs.get q rx
        subst e
        exact .lst (SqL.of h2) (Reps.dp (by simpa [PyData.canLay0] using c) (h3.reps q2))
theorem dataV_dp {K : PySem.W.Frag} (rs : RS K m H s) {v : Vl} {x : V} {l : List PyData} (rx : RV K m H v x) (h : dataV v s = some l) (c : PyData.canLayAll0 l = true) : Dp K H x (.list l) ∨ Dp K H x (.tuple l) := by
  unfold dataV at h
  cases q : itemsV v s with
  | none => rw [q] at h; cases h
  | some vs =>
    rw [q] at h
    have h : allD vs = some l := h
    obtain ⟨a, ws, e, h1, h2⟩ := itemsV_sq rs q rx
    subst e
    rcases h1 with h1 | h1
    · exact .inl (.lst h1 (Reps.dp c (h2.reps h)))
    · exact .inr (.tup h1 (Reps.dp c (h2.reps h)))
theorem dataV_sq {K : PySem.W.Frag} (rs : RS K m H s) {v : Vl} {x : V} {l : List PyData} (rx : RV K m H v x) (h : dataV v s = some l) : ∃ a ws, x = .ref a ∧ (SqL K H a ws ∨ SqT K H a ws) ∧ Reps K m H l ws := by
  unfold dataV at h
  cases q : itemsV v s with
  | none => rw [q] at h; cases h
  | some vs =>
    rw [q] at h
    have h : allD vs = some l := h
    obtain ⟨a, ws, e, h1, h2⟩ := itemsV_sq rs q rx
    exact ⟨a, ws, e, h1, h2.reps h⟩
def copOf : COp → CmpOp
  | .eq => .Eq | .ne => .NotEq | .lt => .Lt | .le => .LtE | .gt => .Gt | .ge => .GtE | .inn => .In | .nin => .NotIn | .is => .Is | .isn => .IsNot
def rCmp (K : PySem.W.Frag) (o : COp) : R2 := fun x y H Q => ∃ m s v w b, RV K m H v x ∧ RV K m H w y ∧ RS K m H s ∧ cmpV o v w s = some b ∧ Q (.bl b) H
def rInS (K : PySem.W.Frag) (neg : Bool) : R2 := fun x y H Q => ∃ d ds, Dp K H x d ∧ (Dp K H y (.list ds) ∨ Dp K H y (.tuple ds)) ∧ SeqAt.shaped d = true ∧ SeqAt.shaped (.list ds) = true ∧ Q (.bl (if neg then !ds.any fun z => PyData.eqv z d else ds.any fun z => PyData.eqv z d)) H
theorem op_inS (hu : X.A.units + 65 < cLine) : OpR X (compareOp .In) (rInS X.K false) := by
  intro pins s σ H x y v u Q I rx ry ⟨d, ds, hd, he, sd, se, q⟩
  rcases he with he | he
  · exact op_inD hu pins s σ H x y v u Q I rx ry ⟨d, ds, hd, he, sd, se, q⟩
  · obtain ⟨as, r1⟩ := Dp.reads I d x v hd rx
    obtain ⟨bs, r2⟩ := Dp.reads I (.tuple ds) y u he ry
    exact SeqAt.in_tuple_reads r2 r1 (SeqAt.canLay_of_shaped se) (SeqAt.canLay_of_shaped sd) (room_in_shaped sd hu) ⟨.bl _, H, I, rfl, q⟩
theorem op_notInS (hu : X.A.units + 65 < cLine) : OpR X (compareOp .NotIn) (rInS X.K true) := by
  intro pins s σ H x y v u Q I rx ry ⟨d, ds, hd, he, sd, se, q⟩
  rcases he with he | he
  · exact op_notInD hu pins s σ H x y v u Q I rx ry ⟨d, ds, hd, he, sd, se, q⟩
  · obtain ⟨as, r1⟩ := Dp.reads I d x v hd rx
    obtain ⟨bs, r2⟩ := Dp.reads I (.tuple ds) y u he ry
    exact SeqAt.notIn_tuple_reads r2 r1 (SeqAt.canLay_of_shaped se) (SeqAt.canLay_of_shaped sd) (room_in_shaped sd hu) ⟨.bl _, H, I, rfl, q⟩
theorem obind {α β : Type} {o : Option α} {f : α → Option β} {b : β} (h : o.bind f = some b) : ∃ a, o = some a ∧ f a = some b := by
  cases o with
  | none => cases h
  | some a => exact ⟨a, rfl, h⟩
theorem omap {α β : Type} {o : Option α} {f : α → β} {b : β} (h : o.map f = some b) : ∃ a, o = some a ∧ f a = b := by
  cases o with
  | none => cases h
  | some a => exact ⟨a, rfl, Option.some.inj h⟩
theorem eqD_some {a b : PyData} {r : Bool} (h : eqD a b = some r) : (∃ p q : Str, a = .str p ∧ b = .str q ∧ decide (p = q) = r) ∨ (SeqAt.shaped a = true ∧ SeqAt.shaped b = true ∧ PyData.eqv a b = r) ∨ (∃ c l, a = .list (c :: l) ∧ b = .list [] ∧ r = false) := by
  unfold eqD at h
  split at h
  · exact .inl ⟨_, _, rfl, rfl, Option.some.inj h⟩
  · exact .inr (.inr ⟨_, _, rfl, rfl, (Option.some.inj h).symm⟩)
  · refine .inr (.inl ?_)
    split at h
    · rename_i q; cases h; exact ⟨q.1, q.2, rfl⟩
    · cases h
theorem dataOf_sq {K : PySem.W.Frag} (rs : RS K m H s) {v : Vl} {x : V} {l : List PyData} (rx : RV K m H v x) (h : dataOf v s = some (.list l)) : ∃ a ws, x = .ref a ∧ SqL K H a ws ∧ ws.length = l.length := by
  cases v with
  | d y =>
    cases h
    obtain ⟨a, vs, e, h1, h2⟩ := rx
    exact ⟨a, vs, e, h1.sq, h2.length.symm⟩
  | r n =>
    simp only [dataOf] at h
    cases q : listAt n s with
    | none => rw [q] at h; cases h
    | some vs =>
      rw [q] at h
      cases q2 : allD vs with
      | none => simp [q2] at h
      | some ds =>
        simp [q2] at h
        subst h
        obtain ⟨a, ws, e, _, h2, h3⟩ := rs.get q rx
        subst e
        exact ⟨a, ws, rfl, SqL.of h2, (h3.reps q2).length.symm⟩
/-- a list that is not empty, and an empty one -/
def rLen (K : PySem.W.Frag) (r : Bool) : R2 := fun x y H Q => ∃ a b xs, x = .ref a ∧ y = .ref b ∧ SqL K H a xs ∧ SqL K H b [] ∧ 0 < xs.length ∧ Q (.bl r) H
theorem op_eqL (hu : X.A.units < cLine) : OpR X (compareOp .Eq) (rLen X.K false) := by
  intro pins s σ H x y v u Q I rx ry h
  obtain ⟨a, b, xs, rfl, rfl, ha, hb, hl, q⟩ := h
  obtain ⟨its, rv, pa, _⟩ := I.list ha
  obtain ⟨its2, rv2, pb, _⟩ := I.list hb
  cases rx
  cases ry
  have e1 := rv.length
  have e2 := rv2.length
  exact SeqAt.eq_list_lengthsAt pa.isList pb.isList (by simp at e1 e2 ⊢; omega) hu ⟨.bl _, H, I, rfl, q⟩
theorem op_neL (hu : X.A.units < cLine) : OpR X (compareOp .NotEq) (rLen X.K true) := by
  intro pins s σ H x y v u Q I rx ry h
  obtain ⟨a, b, xs, rfl, rfl, ha, hb, hl, q⟩ := h
  obtain ⟨its, rv, pa, _⟩ := I.list ha
  obtain ⟨its2, rv2, pb, _⟩ := I.list hb
  cases rx
  cases ry
  have e1 := rv.length
  have e2 := rv2.length
  exact SeqAt.RcNeAt.lists_lengths pa.isList pb.isList (by simp at e1 e2 ⊢; omega) hu _ _ _ _ ⟨.bl _, H, I, rfl, q⟩
theorem dataOf_str {K : PySem.W.Frag} {v : Vl} {x : V} {p : Str} (r : RV K m H v x) (h : dataOf v s = some (.str p)) : x = .str p := by
  cases v with
  | d y => cases h; exact r
  | r n =>
    obtain ⟨vs, q, h⟩ := obind h
    obtain ⟨ds, q2, h⟩ := omap h
    cases h
theorem OpR.or {f : Value → Value → Sem Value} {r r' : R2} (h : OpR X f r) (h' : OpR X f r') : OpR X f (fun x y H Q => r x y H Q ∨ r' x y H Q) :=
  fun pins s σ H x y v u Q I rx ry q => q.elim (h pins s σ H x y v u Q I rx ry) (h' pins s σ H x y v u Q I rx ry)
theorem dec_strV {p q : Str} : decide (V.str p = V.str q) = decide (p = q) := by simp
theorem inD_some {a : PyData} {l : List PyData} {r : Bool} (h : inD a l = some r) : SeqAt.shaped a = true ∧ SeqAt.shaped (.list l) = true ∧ (l.any fun z => PyData.eqv z a) = r := by
  unfold inD at h
  split at h
  · rename_i q; cases h; exact ⟨q.1, q.2, rfl⟩
  · cases h
theorem shaped_all {l : List PyData} (h : SeqAt.shaped (.list l) = true) : PyData.canLayAll0 l = true := by
  have := SeqAt.canLay_of_shaped h
  simpa [PyData.canLay0] using this
theorem noneV_ok {K : PySem.W.Frag} (rs : RS K m H s) {v : Vl} {x : V} {b : Bool} (rx : RV K m H v x) (h : noneV v s = some b) : decide (x = .non) = b := by
  cases v with
  | r n =>
    obtain ⟨vs, q, rfl⟩ := omap h
    obtain ⟨a, ws, e, _⟩ := rs.get q rx
    subst e; rfl
  | d y =>
    cases y with
    | none => cases h; cases rx; rfl
    | bool _ => cases h; cases rx; rfl
    | int _ => cases h; cases rx; rfl
    | str _ => cases h; cases rx; rfl
    | list _ => cases h; obtain ⟨a, ws, e, _⟩ := rx; subst e; rfl
    | tuple _ => cases h; obtain ⟨a, ws, e, _⟩ := rx; subst e; rfl
    | dict _ => cases h; obtain ⟨a, ws, e, _⟩ := rx; subst e; rfl
def rOrd (o : COp) : R2 := fun x y H Q => ∃ i j b, x = .int i ∧ y = .int j ∧ ltI o i j = some b ∧ Q (.bl b) H
theorem cmp_ok (hu : X.A.units + 65 < cLine) : (o : COp) → OpR X (compareOp (copOf o)) (rCmp X.K o)
  | .eq => OpR.weak (.or op_eq (.or (op_eqD (by omega)) (op_eqL (by omega)))) fun x y H Q ⟨m, s, v, w, b, ra, rb, rs, h, q⟩ => by
    obtain ⟨d, q1, h⟩ := obind h
    obtain ⟨e, q2, h⟩ := obind h
    rcases eqD_some h with ⟨p, p', rfl, rfl, rfl⟩ | ⟨s1, s2, rfl⟩ | ⟨c, l, rfl, rfl, rfl⟩
    · cases dataOf_str ra q1
      cases dataOf_str rb q2
      exact .inl ⟨rfl, by rw [dec_strV]; exact q⟩
    · exact .inr (.inl ⟨d, e, dataOf_dp rs ra q1 (SeqAt.canLay_of_shaped s1), dataOf_dp rs rb q2 (SeqAt.canLay_of_shaped s2), s1, s2, q⟩)
    · obtain ⟨a, xs, e1, h1, h2⟩ := dataOf_sq rs ra q1
      obtain ⟨b', ys, e2, h3, h4⟩ := dataOf_sq rs rb q2
      have e3 : ys = [] := List.eq_nil_of_length_eq_zero (by simpa using h4)
      subst e3
      exact .inr (.inr ⟨a, b', xs, e1, e2, h1, h3, by simp at h2; omega, q⟩)
  | .ne => OpR.weak (.or op_ne (.or (op_neD (by omega)) (op_neL (by omega)))) fun x y H Q ⟨m, s, v, w, b, ra, rb, rs, h, q⟩ => by
    obtain ⟨b', h0, rfl⟩ := omap h
    obtain ⟨d, q1, h1⟩ := obind h0
    obtain ⟨e, q2, h2⟩ := obind h1
    rcases eqD_some h2 with ⟨p, p', rfl, rfl, rfl⟩ | ⟨s1, s2, rfl⟩ | ⟨c, l, rfl, rfl, rfl⟩
    · cases dataOf_str ra q1
      cases dataOf_str rb q2
      exact .inl ⟨rfl, by rw [dec_strV]; exact q⟩
    · exact .inr (.inl ⟨d, e, dataOf_dp rs ra q1 (SeqAt.canLay_of_shaped s1), dataOf_dp rs rb q2 (SeqAt.canLay_of_shaped s2), s1, s2, q⟩)
    · obtain ⟨a, xs, e1, h1, h2⟩ := dataOf_sq rs ra q1
      obtain ⟨b', ys, e2, h3, h4⟩ := dataOf_sq rs rb q2
      have e3 : ys = [] := List.eq_nil_of_length_eq_zero (by simpa using h4)
      subst e3
      exact .inr (.inr ⟨a, b', xs, e1, e2, h1, h3, by simp at h2; omega, q⟩)
  | .inn => OpR.weak (op_inS hu) fun x y H Q ⟨m, s, v, w, b, ra, rb, rs, h, q⟩ => by
    obtain ⟨d, q1, h⟩ := obind h
    obtain ⟨e, q2, h⟩ := obind h
    obtain ⟨s1, s2, rfl⟩ := inD_some h
    exact ⟨d, e, dataOf_dp rs ra q1 (SeqAt.canLay_of_shaped s1), dataV_dp rs rb q2 (shaped_all s2), s1, s2, q⟩
  | .nin => OpR.weak (op_notInS hu) fun x y H Q ⟨m, s, v, w, b, ra, rb, rs, h, q⟩ => by
    obtain ⟨b', h0, rfl⟩ := omap h
    obtain ⟨d, q1, h1⟩ := obind h0
    obtain ⟨e, q2, h2⟩ := obind h1
    obtain ⟨s1, s2, rfl⟩ := inD_some h2
    exact ⟨d, e, dataOf_dp rs ra q1 (SeqAt.canLay_of_shaped s1), dataV_dp rs rb q2 (shaped_all s2), s1, s2, q⟩
  | .is => OpR.weak op_isN fun x y H Q ⟨m, s, v, w, b, ra, rb, rs, h, q⟩ => by
    simp only [cmpV] at h
    split at h
    · cases rb
      exact ⟨rfl, by rw [noneV_ok rs ra h]; exact q⟩
    · cases h
  | .isn => OpR.weak op_notN fun x y H Q ⟨m, s, v, w, b, ra, rb, rs, h, q⟩ => by
    simp only [cmpV] at h
    split at h
    · obtain ⟨b', h0, rfl⟩ := omap h
      cases rb
      exact ⟨rfl, by rw [noneV_ok rs ra h0]; exact q⟩
    · cases h
  | .lt => OpR.weak op_lt fun x y H Q ⟨m, s, v, w, b, ra, rb, rs, h, q⟩ => by
    simp only [cmpV] at h
    split at h
    · cases h; exact ⟨_, _, ra, rb, q⟩
    · cases h
  | .le => OpR.weak op_le fun x y H Q ⟨m, s, v, w, b, ra, rb, rs, h, q⟩ => by
    simp only [cmpV] at h
    split at h
    · cases h; exact ⟨_, _, ra, rb, q⟩
    · cases h
  | .gt => OpR.weak op_gt fun x y H Q ⟨m, s, v, w, b, ra, rb, rs, h, q⟩ => by
    simp only [cmpV] at h
    split at h
    · cases h; exact ⟨_, _, ra, rb, q⟩
    · cases h
  | .ge => OpR.weak op_ge fun x y H Q ⟨m, s, v, w, b, ra, rb, rs, h, q⟩ => by
    simp only [cmpV] at h
    split at h
    · cases h; exact ⟨_, _, ra, rb, q⟩
    · cases h

/-! ### places and slices -/
theorem atI_len {α β : Type} {xs : List α} {ys : List β} (h : xs.length = ys.length) {k : Int} {v : α} (e : atI xs k = some v) : ∃ j : Nat, xs[j]? = some v ∧ ∀ w, ys[j]? = some w → atI ys k = some w := by
  unfold atI at e ⊢
  obtain ⟨j, q, e⟩ := obind e
  exact ⟨j, e, fun w hw => by rw [← h, q]; exact hw⟩
theorem ix_ok : IxR X (fun x y H Q => ∃ m s v w, RV X.K m H v x ∧ RV X.K m H w y ∧ RS X.K m H s ∧ PostP X.K Q m H (idxV v w s)) := by
  intro value slice pins st σ H x y v u Q I rx ry ⟨m, s, a, b, ra, rb, rs, h⟩ hs
  refine ix_seq value slice pins st σ H x y v u Q I rx ry ?_ hs
  unfold idxV at h
  split at h
  · rename_i k
    cases rb
    cases q1 : itemsV a s with
    | none => rw [q1] at h; exact h.elim
    | some vs =>
      rw [q1] at h
      have h : PostP X.K Q m H ((atI vs k).map (·, s)) := h
      cases q2 : atI vs k with
      | none => rw [q2] at h; exact h.elim
      | some z =>
        rw [q2] at h
        obtain ⟨p, ws, e, h1, h2⟩ := itemsV_sq rs q1 ra
        obtain ⟨j, g1, g2⟩ := atI_len (ys := ws) h2.length q2
        obtain ⟨z', e1, e2⟩ := h2.get g1
        have fin := PostP.here rs e2 h
        rcases h1 with h1 | h1
        · exact .inl ⟨p, ws, k, z', e, rfl, h1, g2 _ e1, fin⟩
        · exact .inr (.inl ⟨p, ws, k, z', e, rfl, h1, g2 _ e1, fin⟩)
  · exact h.elim
theorem RVs.cutL {K : PySem.W.Frag} {us : List Vl} {vs : List V} (h : RVs K m H us vs) (lo hi : Option Int) : RVs K m H (SM.cutL us lo hi) (cutV vs lo hi) := by
  unfold SM.cutL cutV
  rw [h.length]
  exact RVs.take _ (RVs.drop _ h)
theorem cutL_map {α β : Type} (f : α → β) (us : List α) (lo hi : Option Int) : SM.cutL (us.map f) lo hi = (SM.cutL us lo hi).map f := by
  unfold SM.cutL
  rw [List.length_map, ← List.map_drop, ← List.map_take]
theorem cutL_whole {α : Type} {xs : List α} {lo hi : Option Int} (h1 : HT.sIx xs.length 0 lo = 0) (h2 : HT.sIx xs.length xs.length hi = xs.length) : SM.cutL xs lo hi = xs := by
  unfold SM.cutL
  rw [h1, h2]
  simp
theorem sl_ok (mf : Bool) : SlR X (fun x lo hi H Q => ∃ m s v, RV X.K m H v x ∧ RS X.K m H s ∧ PostP X.K Q m H (sliV mf v lo hi s)) := by
  intro pins st σ H x v vl vu lo hi sl Q I rx hs pl pu ⟨m, s, a, ra, rs, h⟩
  unfold sliV at h
  split at h
  · rename_i xs
    obtain ⟨p, ws, e, h1, h2⟩ := ra
    refine sl_tupA pins st σ H x v vl vu lo hi sl Q I rx hs pl pu ⟨p, ws, e, h1.sq, fun ⟨w1, w2⟩ => ?_, fun _ q hq => ?_⟩
    · rw [← h2.length] at w1 w2
      rw [cutL_whole w1 w2] at h
      exact PostP.here rs (v := .d (.tuple xs)) ⟨p, ws, rfl, h1, h2⟩ h
    · have := RVs.cutL h2.rvs lo hi
      rw [cutL_map] at this
      exact tup_new rs (this.reps (allD_map _)) hq h
  · rename_i xs
    obtain ⟨p, ws, e, h1, h2⟩ := ra
    refine sl_list pins st σ H x v vl vu lo hi sl Q I rx hs pl pu ⟨p, ws, e, h1.sq, fun q hq => ?_⟩
    have := RVs.cutL h2.rvs lo hi
    rw [cutL_map] at this
    exact mkL_new rs this hq h
  · rename_i n
    cases q : listAt n s with
    | none => rw [q] at h; exact h.elim
    | some vs =>
      rw [q] at h
      obtain ⟨p, ws, e, _, h1, h2⟩ := rs.get q ra
      exact sl_list pins st σ H x v vl vu lo hi sl Q I rx hs pl pu ⟨p, ws, e, SqL.of h1, fun q hq => mkL_new rs (RVs.cutL h2 lo hi) hq h⟩
  · exact h.elim
end
end SM

set_option maxHeartbeats 1000000
/-! SM: max and min of a tuple of ints. -/
namespace SM
open PySem L2 PySem.Spec PyProof.Rows
section
variable {prog : Program} {w : World} {A : Around} {E : Value → Shared → Prop} {s : Shared}
theorem iter_intTup {l : Addr} {xs : Array (Int × Tok)} {Q : Value → Shared → Prop} (hl : s.heap.IsTuple l (intItems xs))
    (h : ∀ s₂ : Shared, s₂ = { s with heap := s.heap.push { cls := .type "tuple_iterator", data := .fields #[.ref l, .int 0 0] } } →
      (s₂.heap.IsTupleIter s.heap.objs.size l 0 ∧ s₂.heap.IsTuple l (intItems xs)) → (∀ b ∈ [s.heap.objs.size, l], b < s₂.heap.objs.size) → l ≠ s.heap.objs.size → Q (.ref s.heap.objs.size) s₂) :
    wpAny (model prog w) A (pyIter (.ref l)) Q E s := by
  have hlt : l < s.heap.objs.size := by obtain ⟨_, e, _⟩ := hl; exact Heap.lt_size e
  refine wpAny_pyIter_tuple hl (h _ rfl ⟨⟨_, Heap.get?_push_size _ rfl, rfl, rfl⟩, hl.push _⟩ (fun b hb => ?_) (Nat.ne_of_lt hlt))
  show b < (s.heap.push _).objs.size
  rw [Heap.size_push]
  rcases List.mem_cons.mp hb with rfl | hb
  · exact Nat.lt_succ_self _
  · rcases List.mem_cons.mp hb with rfl | hb
    · exact Nat.lt_succ_of_lt hlt
    · cases hb
theorem old_keptT {l : Addr} {h' : Heap} {o : Obj} (hk : ∀ b ob, b ∉ [s.heap.objs.size] → (s.heap.push o).get? b = some ob → h'.get? b = some ob) : ∀ b ob, s.heap.get? b = some ob → h'.get? b = some ob := fun b ob e =>
  hk b ob (fun z => by rw [List.mem_singleton.mp z] at e; exact absurd (Heap.lt_size e) (Nat.lt_irrefl _)) (Heap.get?_push_of_some _ e)
theorem max_intTup {l : Addr} {xs : Array (Int × Tok)} {Q : Value → Shared → Prop} (hh : A.handled = none) (hl : s.heap.IsTuple l (intItems xs)) (hne : 0 < xs.size)
    (h : ∀ v h' tk, (intItems xs)[argBest (fun i j => decide (numAt xs i > numAt xs j)) (xs.size - 1)]? = some v → (∀ b o, s.heap.get? b = some o → h'.get? b = some o) → Q v { s with heap := h', toks := tk }) :
    wpAny (model prog w) A (call (.builtin "max") [.ref l]) Q E s := by
  refine call_max_walk (iter_intTup hl fun s₂ e st hfp hlI => ?_)
  subst e
  refine ⟨_, _, _, _, _, _, _, rfl, Walks.tuple (A := A.in1) hh _ l hlI (intItems xs), st, hfp, by simpa [intItems] using hne, CmpOf.ints_gt (numAt xs) (fun _ _ => intItems_at), fun v h' tk hP hk => ?_⟩
  exact h v h' tk (by simpa [intItems] using hP) (old_keptT (l := l) hk)
theorem min_intTup {l : Addr} {xs : Array (Int × Tok)} {Q : Value → Shared → Prop} (hh : A.handled = none) (hl : s.heap.IsTuple l (intItems xs)) (hne : 0 < xs.size)
    (h : ∀ v h' tk, (intItems xs)[argBest (fun i j => decide (numAt xs i < numAt xs j)) (xs.size - 1)]? = some v → (∀ b o, s.heap.get? b = some o → h'.get? b = some o) → Q v { s with heap := h', toks := tk }) :
    wpAny (model prog w) A (call (.builtin "min") [.ref l]) Q E s := by
  refine call_min_walk (iter_intTup hl fun s₂ e st hfp hlI => ?_)
  subst e
  refine ⟨_, _, _, _, _, _, _, rfl, Walks.tuple (A := A.in1) hh _ l hlI (intItems xs), st, hfp, by simpa [intItems] using hne, CmpOf.ints_lt (numAt xs) (fun _ _ => intItems_at), fun v h' tk hP hk => ?_⟩
  exact h v h' tk (by simpa [intItems] using hP) (old_keptT (l := l) hk)
theorem max_tupR {l : Addr} {its : List Value} {ns : List Int} {Q : Value → Shared → Prop} (hh : A.handled = none) (hl : s.heap.IsTuple l its.toArray) (hi : IntsAre its ns) (hne : 0 < ns.length)
    (h : ∀ h' tk M t', (∀ b o, s.heap.get? b = some o → h'.get? b = some o) → M ∈ ns → (∀ a, a ∈ ns → a ≤ M) → Q (.int M t') { s with heap := h', toks := tk }) : wpAny (model prog w) A (call (.builtin "max") [.ref l]) Q E s := by
  obtain ⟨xs, e⟩ := hi.allInts.items
  have hn : numsOf (intItems xs).toList = ns := by rw [← e]; exact hi.numsOf
  rw [nums_intItems] at hn
  subst hn
  rw [e] at hl
  have hsz : 0 < xs.size := by simpa using hne
  refine max_intTup hh hl hsz fun v h' tk hv hk => ?_
  obtain ⟨t, rfl⟩ := intItems_at hv
  obtain ⟨h1, h2⟩ := argBest_gt (numAt xs) (xs.size - 1)
  refine h h' tk _ t hk ?_ fun a ha => ?_
  · rw [numAt_eq]; exact PySem.getD_mem (by rw [List.length_map, Array.length_toList]; omega)
  · obtain ⟨j, hj, rfl⟩ := mem_getD ha
    rw [List.length_map, Array.length_toList] at hj
    rw [← numAt_eq]; exact h2 j (by omega)
theorem min_tupR {l : Addr} {its : List Value} {ns : List Int} {Q : Value → Shared → Prop} (hh : A.handled = none) (hl : s.heap.IsTuple l its.toArray) (hi : IntsAre its ns) (hne : 0 < ns.length)
    (h : ∀ h' tk M t', (∀ b o, s.heap.get? b = some o → h'.get? b = some o) → M ∈ ns → (∀ a, a ∈ ns → M ≤ a) → Q (.int M t') { s with heap := h', toks := tk }) : wpAny (model prog w) A (call (.builtin "min") [.ref l]) Q E s := by
  obtain ⟨xs, e⟩ := hi.allInts.items
  have hn : numsOf (intItems xs).toList = ns := by rw [← e]; exact hi.numsOf
  rw [nums_intItems] at hn
  subst hn
  rw [e] at hl
  have hsz : 0 < xs.size := by simpa using hne
  refine min_intTup hh hl hsz fun v h' tk hv hk => ?_
  obtain ⟨t, rfl⟩ := intItems_at hv
  obtain ⟨h1, h2⟩ := argBest_lt (numAt xs) (xs.size - 1)
  refine h h' tk _ t hk ?_ fun a ha => ?_
  · rw [numAt_eq]; exact PySem.getD_mem (by rw [List.length_map, Array.length_toList]; omega)
  · obtain ⟨j, hj, rfl⟩ := mem_getD ha
    rw [List.length_map, Array.length_toList] at hj
    rw [← numAt_eq]; exact h2 j (by omega)
end
section
variable {X : Cx}
def rMaxT (K : PySem.W.Frag) : List V → Hp → VK → Prop := fun vs H Q => ∃ (a : Addr) (ns : List Int), vs = [V.ref a] ∧ SqT K H a (ns.map V.int) ∧ 0 < ns.length ∧ ∀ m, m ∈ ns → (∀ y, y ∈ ns → y ≤ m) → Q (.int m) H
def rMinT (K : PySem.W.Frag) : List V → Hp → VK → Prop := fun vs H Q => ∃ (a : Addr) (ns : List Int), vs = [V.ref a] ∧ SqT K H a (ns.map V.int) ∧ 0 < ns.length ∧ ∀ m, m ∈ ns → (∀ y, y ∈ ns → m ≤ y) → Q (.int m) H
theorem cr_maxT (hc : X.calm = true) : CallR X (.builtin "max") (rMaxT X.K) := by
  intro pins s σ H vs us Q I r h
  obtain ⟨a, ns, rfl, hs, hne, q⟩ := h
  obtain ⟨its, rv, hl, _⟩ := I.tuple hs
  rw [Vals.ref1 r]
  exact max_tupR (I.ok.hd hc) hl rv.ints hne fun h' tk m t' hk h1 h2 => ⟨.int _, H, I.kept hk, ⟨_, rfl⟩, q m h1 h2⟩
theorem cr_minT (hc : X.calm = true) : CallR X (.builtin "min") (rMinT X.K) := by
  intro pins s σ H vs us Q I r h
  obtain ⟨a, ns, rfl, hs, hne, q⟩ := h
  obtain ⟨its, rv, hl, _⟩ := I.tuple hs
  rw [Vals.ref1 r]
  exact min_tupR (I.ok.hd hc) hl rv.ints hne fun h' tk m t' hk h1 h2 => ⟨.int _, H, I.kept hk, ⟨_, rfl⟩, q m h1 h2⟩
end
end SM

/-! SM: built-in functions and methods, by values. -/
namespace SM
open PySem L2 PySem.Spec PyProof.Rows
section
variable {X : Cx} {pins : List (Addr × Obj)} {σ : L2.St} {H : Hp} {st : Shared} {m : Mu} {s : Sto} {Q : VK}
theorem RVs.inv1 {K : PySem.W.Frag} {v : Vl} {xs : List V} (h : RVs K m H [v] xs) : ∃ x, xs = [x] ∧ RV K m H v x := by
  obtain ⟨x, r, e, h1, h2⟩ := h
  have h2 : r = [] := h2
  subst h2; exact ⟨x, e, h1⟩
theorem RVs.inv2 {K : PySem.W.Frag} {v w : Vl} {xs : List V} (h : RVs K m H [v, w] xs) : ∃ x y, xs = [x, y] ∧ RV K m H v x ∧ RV K m H w y := by
  obtain ⟨x, r, e, h1, h2⟩ := h
  obtain ⟨y, rfl, h3⟩ := RVs.inv1 h2
  exact ⟨x, y, e, h1, h3⟩
theorem RVs.inv3 {K : PySem.W.Frag} {v w z : Vl} {xs : List V} (h : RVs K m H [v, w, z] xs) : ∃ x y a, xs = [x, y, a] ∧ RV K m H v x ∧ RV K m H w y ∧ RV K m H z a := by
  obtain ⟨x, r, e, h1, h2⟩ := h
  obtain ⟨y, a, rfl, h3, h4⟩ := RVs.inv2 h2
  exact ⟨x, y, a, e, h1, h3, h4⟩
theorem maxL_ok : ∀ {l : List Int} {k : Int}, maxL l = some k → k ∈ l ∧ ∀ y ∈ l, y ≤ k
  | [], _, h => by cases h
  | x :: r, k, h => by
    simp only [maxL] at h
    split at h
    · rename_i q
      cases h
      have : r = [] := by
        cases r with
        | nil => rfl
        | cons a b =>
          simp only [maxL] at q
          split at q <;> cases q
      subst this
      simp
    · rename_i y q
      obtain ⟨h1, h2⟩ := maxL_ok q
      cases h
      split
      · refine ⟨List.mem_cons_of_mem _ h1, fun z hz => ?_⟩
        rcases List.mem_cons.mp hz with rfl | hz
        · omega
        · exact h2 z hz
      · refine ⟨List.mem_cons_self, fun z hz => ?_⟩
        rcases List.mem_cons.mp hz with rfl | hz
        · omega
        · have := h2 z hz; omega
theorem minL_ok : ∀ {l : List Int} {k : Int}, minL l = some k → k ∈ l ∧ ∀ y ∈ l, k ≤ y
  | [], _, h => by cases h
  | x :: r, k, h => by
    simp only [minL] at h
    split at h
    · rename_i q
      cases h
      have : r = [] := by
        cases r with
        | nil => rfl
        | cons a b =>
          simp only [minL] at q
          split at q <;> cases q
      subst this
      simp
    · rename_i y q
      obtain ⟨h1, h2⟩ := minL_ok q
      cases h
      split
      · refine ⟨List.mem_cons_of_mem _ h1, fun z hz => ?_⟩
        rcases List.mem_cons.mp hz with rfl | hz
        · omega
        · exact h2 z hz
      · refine ⟨List.mem_cons_self, fun z hz => ?_⟩
        rcases List.mem_cons.mp hz with rfl | hz
        · omega
        · have := h2 z hz; omega
theorem dataL_sq {K : PySem.W.Frag} (rs : RS K m H s) {v : Vl} {x : V} {l : List PyData} (rx : RV K m H v x) (h : dataL v s = some l) : ∃ a ws, x = .ref a ∧ SqL K H a ws ∧ Reps K m H l ws := by
  obtain ⟨vs, q, h⟩ := obind h
  obtain ⟨a, ws, e, h1, h2⟩ := listV_sq rs q rx
  exact ⟨a, ws, e, h1, h2.reps h⟩
theorem postP_map {α : Type} {K : PySem.W.Frag} {o : Option α} {f : α → Vl × Sto} (h : PostP K Q m H (o.map f)) : ∃ a, o = some a ∧ PostP K Q m H (some (f a)) := by
  cases o with
  | none => exact h.elim
  | some a => exact ⟨a, rfl, h⟩
theorem postP_bind {α : Type} {K : PySem.W.Frag} {o : Option α} {f : α → Po Vl} (h : PostP K Q m H (o.bind f)) : ∃ a, o = some a ∧ PostP K Q m H (f a) := by
  cases o with
  | none => exact h.elim
  | some a => exact ⟨a, rfl, h⟩
theorem postP_if {c : Prop} [Decidable c] {K : PySem.W.Frag} {p : Vl × Sto} (h : PostP K Q m H (if c then some p else none)) : c ∧ PostP K Q m H (some p) := by
  split at h
  · exact ⟨by assumption, h⟩
  · exact h.elim
/-- lcm -/
theorem call_lcm : CallR X (.builtin "math.lcm") (fun vs H Q => ∃ a b : Int, vs = [.int a, .int b] ∧ a.natAbs.log2 < 6000 ∧ b.natAbs.log2 < 6000 ∧ Q (.int (Int.lcm a b)) H) := by
  intro pins st σ H vs us Q I r ⟨a, b, e, h1, h2, q⟩
  subst e
  cases r with
  | cons ra r =>
    cases r with
    | cons rb r =>
      cases r
      obtain ⟨t, rfl⟩ := ra
      obtain ⟨u, rfl⟩ := rb
      have e1 : (((Nat.lcm 1 a.natAbs).lcm b.natAbs : Nat) : Int) = (Int.lcm a b : Int) := by rw [Nat.lcm_one_left]; rfl
      have hm : ∀ n : Nat, n.log2 < 6000 → n < 2 ^ 6000 := fun n h => by
        rcases Nat.eq_zero_or_pos n with z | z
        · subst z; exact Nat.two_pow_pos _
        · exact (Nat.log2_lt (Nat.ne_of_gt z)).mp h
      have n1 := hm _ h1
      have n2 := hm _ h2
      have l1 : ∀ n : Nat, n < 2 ^ 6000 → ¬ n.log2 / 30 + 1 > 450 := fun n h => by
        have : n.log2 < 6000 := by
          rcases Nat.eq_zero_or_pos n with z | z
          · subst z; exact by decide
          · exact (Nat.log2_lt (Nat.ne_of_gt z)).mpr h
        omega
      have big : (1 : Nat) < 2 ^ 6000 := Nat.one_lt_two_pow (by decide)
      have c0 : ¬ (max 1 a.natAbs).log2 / 30 + 1 > 450 := l1 _ (Nat.max_lt.mpr ⟨big, n1⟩)
      have c1 : ¬ (max a.natAbs b.natAbs).log2 / 30 + 1 > 450 := l1 _ (Nat.max_lt.mpr ⟨n1, n2⟩)
      have c2 : ((((Nat.lcm 1 a.natAbs).lcm b.natAbs : Nat) : Int)).natAbs.log2 < bitsLine := by
        rw [Int.natAbs_natCast, Nat.lcm_one_left]
        have h3 : a.natAbs.lcm b.natAbs ≤ a.natAbs * b.natAbs := by
          unfold Nat.lcm
          exact Nat.div_le_self _ _
        have h4 : a.natAbs * b.natAbs < 2 ^ 12000 := by
          rw [show (2 : Nat) ^ 12000 = 2 ^ 6000 * 2 ^ 6000 from by rw [← Nat.pow_add]]
          exact Nat.mul_lt_mul'' n1 n2
        have h5 : a.natAbs.lcm b.natAbs < 2 ^ 12000 := Nat.lt_of_le_of_lt h3 h4
        have h6 : (a.natAbs.lcm b.natAbs).log2 < 12000 := by
          rcases Nat.eq_zero_or_pos (a.natAbs.lcm b.natAbs) with z | z
          · rw [z]; decide
          · exact (Nat.log2_lt (Nat.ne_of_gt z)).mpr h5
        have : bitsLine = 134217728 := by decide
        omega
      refine call_function_meets PySem.W.MGF.kind_lcm PySem.W.MGF.plain_lcm PySem.W.MGF.entry_lcm (PySem.W.MGF.args_lcm _ _) (PySem.W.mg_run_lcm a t b u c0 c1 c2).meets ?_
      rw [e1]
      exact ⟨.int _, H, I.tok _, ⟨_, rfl⟩, q⟩
def biName : Bi → Str
  | .len => "len" | .abs => "abs" | .int => "int" | .gcd => "gcd" | .lcm => "lcm" | .max => "max" | .min => "min" | .sum => "sum" | .all => "all" | .any => "any" | .tuple => "tuple" | .list => "list" | .sorted => "sorted" | .repr => "repr" | .str => "str"
def biVal : Bi → Value
  | .len => .builtin "len" | .abs => .builtin "abs" | .int => .type "int" | .gcd => .builtin "math.gcd" | .lcm => .builtin "math.lcm" | .max => .builtin "max" | .min => .builtin "min" | .sum => .builtin "sum" | .all => .builtin "all" | .any => .builtin "any" | .tuple => .type "tuple" | .list => .type "list" | .sorted => .builtin "sorted" | .repr => .builtin "repr" | .str => .type "str"
abbrev BiOk (X : Cx) (mf : Bool) (b : Bi) : Prop := CallR X (biVal b) (rFn X.K (biV mf b))
theorem bi_len {mf : Bool} : BiOk X mf .len := CallR.weak call_len fun xs H Q ⟨m, s, vs, rv, rs, h⟩ => by
  simp only [biV, lenV] at h
  split at h
  · rename_i z
    obtain ⟨x, rfl, r1⟩ := rv.inv1
    obtain ⟨c, h⟩ := postP_if h
    cases r1
    exact ⟨_, z.length, rfl, ⟨by rw [sizeLine_eq]; exact c, rfl⟩, PostP.here rs (v := .d (.int z.length)) rfl h⟩
  · obtain ⟨x, rfl, r1⟩ := rv.inv1
    obtain ⟨l, q, h⟩ := postP_map h
    obtain ⟨a, ws, rfl, h1, h2⟩ := itemsV_sq rs q r1
    refine ⟨_, ws.length, rfl, h1.imp (fun z => ⟨ws, z, rfl⟩) (fun z => ⟨ws, z, rfl⟩), ?_⟩
    rw [← h2.length]
    exact PostP.here rs (v := .d (.int l.length)) rfl h
  · exact h.elim
theorem bi_abs {mf : Bool} : BiOk X mf .abs := CallR.weak call_abs fun xs H Q ⟨m, s, vs, rv, rs, h⟩ => by
  simp only [biV, absV] at h
  split at h
  · rename_i i
    obtain ⟨x, rfl, r1⟩ := rv.inv1
    cases r1
    exact ⟨i, rfl, PostP.here rs (v := .d (.int _)) rfl h⟩
  · exact h.elim
theorem bi_int {mf : Bool} : BiOk X mf .int := CallR.weak call_int1 fun xs H Q ⟨m, s, vs, rv, rs, h⟩ => by
  simp only [biV, intV] at h
  split at h
  · rename_i i
    obtain ⟨x, rfl, r1⟩ := rv.inv1
    cases r1
    exact .inl ⟨i, rfl, PostP.here rs (v := .d (.int i)) rfl h⟩
  · rename_i i
    obtain ⟨x, rfl, r1⟩ := rv.inv1
    cases r1
    exact .inr ⟨i, rfl, PostP.here rs (v := .d (.int _)) rfl h⟩
  · exact h.elim
theorem bi_gcd {mf : Bool} : BiOk X mf .gcd := CallR.weak cr_gcd fun xs H Q ⟨m, s, vs, rv, rs, h⟩ => by
  simp only [biV, gcdV] at h
  split at h
  · rename_i i j
    obtain ⟨x, y, rfl, r1, r2⟩ := rv.inv2
    cases r1
    cases r2
    exact ⟨i, j, rfl, PostP.here rs (v := .d (.int (Int.gcd i j))) rfl h⟩
  · exact h.elim
theorem bi_lcm {mf : Bool} : BiOk X mf .lcm := CallR.weak call_lcm fun xs H Q ⟨m, s, vs, rv, rs, h⟩ => by
  simp only [biV, lcmV] at h
  split at h
  · rename_i i j
    obtain ⟨x, y, rfl, r1, r2⟩ := rv.inv2
    cases r1
    cases r2
    obtain ⟨c, h⟩ := postP_if h
    exact ⟨i, j, rfl, c.1, c.2, PostP.here rs (v := .d (.int (Int.lcm i j))) rfl h⟩
  · exact h.elim
def rMax1 (K : PySem.W.Frag) : List V → Hp → VK → Prop := fun xs H Q => (∃ i j, xs = [.int i, .int j] ∧ Q (.int (if j > i then j else i)) H) ∨ rMax K xs H Q
def rMin1 (K : PySem.W.Frag) : List V → Hp → VK → Prop := fun xs H Q => (∃ i j, xs = [.int i, .int j] ∧ Q (.int (if j < i then j else i)) H) ∨ rMin K xs H Q
theorem call_or {f : Value} {r r' : List V → Hp → VK → Prop} (h : CallR X f r) (h' : CallR X f r') : CallR X f (fun x H Q => r x H Q ∨ r' x H Q) := fun pins s σ H x y Q I rx q => q.elim (h pins s σ H x y Q I rx) (h' pins s σ H x y Q I rx)
theorem bi_max {mf : Bool} (hc : X.calm = true) : BiOk X mf .max := CallR.weak (call_or (call_max2 hc) (call_or (cr_max hc) (cr_maxT hc))) fun xs H Q ⟨m, s, vs, rv, rs, h⟩ => by
  simp only [biV, maxV] at h
  split at h
  · rename_i i j
    obtain ⟨x, y, rfl, r1, r2⟩ := rv.inv2
    cases r1
    cases r2
    exact .inl ⟨i, j, rfl, PostP.here rs (v := .d (.int _)) rfl h⟩
  · obtain ⟨x, rfl, r1⟩ := rv.inv1
    obtain ⟨l, q, h⟩ := postP_bind h
    obtain ⟨ds, q1, q2⟩ := obind q
    obtain ⟨k, q3, h⟩ := postP_map h
    obtain ⟨a, ws, rfl, h1, h2⟩ := dataV_sq rs r1 q1
    have e := h2.ints q2
    subst e
    obtain ⟨g1, g2⟩ := maxL_ok q3
    rcases h1 with h1 | h1
    · refine .inr (.inl ⟨a, l, rfl, h1, List.length_pos_of_mem g1, fun k' m1 m2 => ?_⟩)
      have : k' = k := Int.le_antisymm (g2 _ m1) (m2 _ g1)
      subst this
      exact PostP.here rs (v := .d (.int k')) rfl h
    · refine .inr (.inr ⟨a, l, rfl, h1, List.length_pos_of_mem g1, fun k' m1 m2 => ?_⟩)
      have : k' = k := Int.le_antisymm (g2 _ m1) (m2 _ g1)
      subst this
      exact PostP.here rs (v := .d (.int k')) rfl h
  · exact h.elim
theorem bi_min {mf : Bool} (hc : X.calm = true) : BiOk X mf .min := CallR.weak (call_or (call_min3Nu hc) (call_or (call_min2 hc) (call_or (cr_min hc) (cr_minT hc)))) fun xs H Q ⟨m, s, vs, rv, rs, h⟩ => by
  simp only [biV, minV] at h
  split at h
  · rename_i i j
    obtain ⟨x, y, rfl, r1, r2⟩ := rv.inv2
    cases r1
    cases r2
    exact .inr (.inl ⟨i, j, rfl, PostP.here rs (v := .d (.int _)) rfl h⟩)
  · rename_i i j k
    obtain ⟨x, y, z, rfl, r1, r2, r3⟩ := rv.inv3
    cases r1
    cases r2
    cases r3
    refine .inl ⟨.int i, .int j, .int k, .int (if k < (if j < i then j else i) then k else (if j < i then j else i)), rfl, ?_, PostP.here rs (v := .d (.int _)) rfl h⟩
    have e : ∀ a b : Int, nuMin2 (.int a) (.int b) = some (.int (if b < a then b else a)) := fun a b => by
      show (some (decide (b < a))).map (fun c => if c = true then V.int b else V.int a) = _
      by_cases q : b < a <;> simp [q]
    show (nuMin2 (.int i) (.int j)).bind (fun m => nuMin2 m (.int k)) = _
    rw [e, Option.bind_some, e]
  · obtain ⟨x, rfl, r1⟩ := rv.inv1
    obtain ⟨l, q, h⟩ := postP_bind h
    obtain ⟨ds, q1, q2⟩ := obind q
    obtain ⟨k, q3, h⟩ := postP_map h
    obtain ⟨a, ws, rfl, h1, h2⟩ := dataV_sq rs r1 q1
    have e := h2.ints q2
    subst e
    obtain ⟨g1, g2⟩ := minL_ok q3
    rcases h1 with h1 | h1
    · refine .inr (.inr (.inl ⟨a, l, rfl, h1, List.length_pos_of_mem g1, fun k' m1 m2 => ?_⟩))
      have : k' = k := Int.le_antisymm (m2 _ g1) (g2 _ m1)
      subst this
      exact PostP.here rs (v := .d (.int k')) rfl h
    · refine .inr (.inr (.inr ⟨a, l, rfl, h1, List.length_pos_of_mem g1, fun k' m1 m2 => ?_⟩))
      have : k' = k := Int.le_antisymm (m2 _ g1) (g2 _ m1)
      subst this
      exact PostP.here rs (v := .d (.int k')) rfl h
  · exact h.elim
theorem bi_sum {mf : Bool} (hc : X.calm = true) : BiOk X mf .sum := CallR.weak (cr_sum hc) fun xs H Q ⟨m, s, vs, rv, rs, h⟩ => by
  simp only [biV, sumV] at h
  split at h
  · obtain ⟨x, rfl, r1⟩ := rv.inv1
    obtain ⟨l, q, h⟩ := postP_map h
    obtain ⟨ds, q1, q2⟩ := obind q
    obtain ⟨a, ws, rfl, h1, h2⟩ := dataL_sq rs r1 q1
    have e := h2.ints q2
    subst e
    exact ⟨a, l, rfl, h1, PostP.here rs (v := .d (.int l.sum)) rfl h⟩
  · exact h.elim
theorem bi_all {mf : Bool} (hc : X.calm = true) : BiOk X mf .all := CallR.weak (cr_all hc) fun xs H Q ⟨m, s, vs, rv, rs, h⟩ => by
  simp only [biV, allV] at h
  split at h
  · obtain ⟨x, rfl, r1⟩ := rv.inv1
    obtain ⟨l, q, h⟩ := postP_map h
    obtain ⟨ds, q1, q2⟩ := obind q
    obtain ⟨a, ws, rfl, h1, h2⟩ := dataL_sq rs r1 q1
    have e := h2.bools q2
    subst e
    exact ⟨a, l, rfl, h1, PostP.here rs (v := .d (.bool (l.all id))) rfl h⟩
  · exact h.elim
theorem bi_any {mf : Bool} (hc : X.calm = true) : BiOk X mf .any := CallR.weak (cr_any hc) fun xs H Q ⟨m, s, vs, rv, rs, h⟩ => by
  simp only [biV, anyV] at h
  split at h
  · obtain ⟨x, rfl, r1⟩ := rv.inv1
    obtain ⟨l, q, h⟩ := postP_map h
    obtain ⟨ds, q1, q2⟩ := obind q
    obtain ⟨a, ws, rfl, h1, h2⟩ := dataL_sq rs r1 q1
    have e := h2.bools q2
    subst e
    exact ⟨a, l, rfl, h1, PostP.here rs (v := .d (.bool (l.any id))) rfl h⟩
  · exact h.elim
theorem bi_list {mf : Bool} : BiOk X mf .list := CallR.weak call_list_of fun xs H Q ⟨m, s, vs, rv, rs, h⟩ => by
  simp only [biV, lisV] at h
  split at h
  · obtain ⟨x, rfl, r1⟩ := rv.inv1
    obtain ⟨l, q, h⟩ := postP_bind h
    obtain ⟨a, ws, rfl, h1, h2⟩ := itemsV_sq rs q r1
    exact ⟨a, ws, rfl, h1, fun p hp => mkL_new rs h2 hp h⟩
  · exact h.elim
theorem bi_tuple {mf : Bool} : BiOk X mf .tuple := CallR.weak call_tuple_of fun xs H Q ⟨m, s, vs, rv, rs, h⟩ => by
  simp only [biV, tupV] at h
  split at h
  · rename_i v
    obtain ⟨x, rfl, r1⟩ := rv.inv1
    obtain ⟨l, q, h0⟩ := postP_map h
    cases v with
    | r n =>
      obtain ⟨vs, q1, q2⟩ := obind q
      obtain ⟨a, ws, rfl, _, h1, h2⟩ := rs.get (n := n) q1 r1
      exact ⟨a, ws, rfl, .inl ⟨SqL.of h1, fun p hp => tup_new rs (h2.reps q2) hp h0⟩⟩
    | d y =>
      cases y with
      | list zs =>
        obtain ⟨vs, q1, q2⟩ := obind q
        cases q1
        rw [allD_map] at q2
        cases q2
        obtain ⟨a, ws, rfl, h1, h2⟩ := r1
        exact ⟨a, ws, rfl, .inl ⟨h1.sq, fun p hp => tup_new rs h2 hp h0⟩⟩
      | tuple zs =>
        obtain ⟨vs, q1, q2⟩ := obind q
        cases q1
        rw [allD_map] at q2
        cases q2
        obtain ⟨a, ws, rfl, h1, h2⟩ := r1
        exact ⟨a, ws, rfl, .inr ⟨h1.sq, PostP.here rs (v := .d (.tuple l)) ⟨a, ws, rfl, h1, h2⟩ h0⟩⟩
      | _ => cases q
  · exact h.elim
theorem bi_str {mf : Bool} : BiOk X mf .str := CallR.weak call_str_int fun xs H Q ⟨m, s, vs, rv, rs, h⟩ => by
  simp only [biV, strV] at h
  split at h
  · rename_i i
    obtain ⟨x, rfl, r1⟩ := rv.inv1
    cases r1
    obtain ⟨c, h⟩ := postP_if h
    exact ⟨i, rfl, c, PostP.here rs (v := .d (.str (toString i))) rfl h⟩
  · exact h.elim
end
end SM

/-! SM: repr, isinstance, methods, stores. -/
namespace SM
open PySem L2 PySem.Spec PyProof.Rows
section
variable {X : Cx} {pins : List (Addr × Obj)} {σ : L2.St} {H : Hp} {st : Shared} {m : Mu} {s : Sto} {Q : VK}
mutual
theorem Rep.reads (I : Inv X pins σ H st) : ∀ {d : PyData} {v : V} {u : Value}, d.hasDict = false → Rep X.K m H d v → RelV v u → ∃ as, Reads st.heap u d as
  | .none, _, _, _, h, r => by cases h; cases r; exact ⟨_, Reads.none⟩
  | .bool b, _, _, _, h, r => by cases h; cases r; exact ⟨_, Reads.bool b⟩
  | .int i, _, _, _, h, r => by cases h; obtain ⟨t, rfl⟩ := r; exact ⟨_, Reads.int i t⟩
  | .str x, _, _, _, h, r => by cases h; obtain ⟨t, rfl⟩ := r; exact ⟨_, Reads.str x t⟩
  | .list xs, _, _, c, ⟨a, vs, e, h1, h2⟩, r => by
    subst e; cases r
    obtain ⟨its, rv, ⟨o, n, ho, hc, _, hd⟩, _⟩ := I.list h1.sq
    obtain ⟨as, hr⟩ := Reps.reads I (by simpa [PyData.hasDict] using c) h2 rv
    exact ⟨_, Reads.list ho hc hd hr⟩
  | .tuple xs, _, _, c, ⟨a, vs, e, h1, h2⟩, r => by
    subst e; cases r
    obtain ⟨its, rv, ⟨o, ho, hc, n, hd⟩, _⟩ := I.tuple h1.sq
    obtain ⟨as, hr⟩ := Reps.reads I (by simpa [PyData.hasDict] using c) h2 rv
    exact ⟨_, Reads.tuple ho hc hd hr⟩
  | .dict _, _, _, c, _, _ => by simp [PyData.hasDict] at c
theorem Reps.reads (I : Inv X pins σ H st) : ∀ {ds : List PyData} {vs : List V} {us : List Value}, PyData.hasDictAll ds = false → Reps X.K m H ds vs → Vals vs us → ∃ as, ReadsAll st.heap us ds as
  | [], _, _, _, h, r => by have h : _ = [] := h; subst h; cases r; exact ⟨_, ReadsAll.nil⟩
  | d :: ds, _, _, c, ⟨v, w, e, h1, h2⟩, r => by
    subst e
    cases r with
    | cons r1 r2 =>
      have c' : d.hasDict = false ∧ PyData.hasDictAll ds = false := by simpa [PyData.hasDictAll] using c
      obtain ⟨as, q1⟩ := Rep.reads I c'.1 h1 r1
      obtain ⟨bs, q2⟩ := Reps.reads I c'.2 h2 r2
      exact ⟨_, ReadsAll.cons q1 q2⟩
end
mutual
theorem Rep.readsD (I : Inv X pins σ H st) : ∀ {d : PyData} {v : V} {u : Value}, noLst d = true → Rep X.K m H d v → RelV v u → ∃ as, Reads st.heap u d as ∧ sysModules ∉ as
  | .none, _, _, _, h, r => by cases h; cases r; exact ⟨_, Reads.none, by simp⟩
  | .bool b, _, _, _, h, r => by cases h; cases r; exact ⟨_, Reads.bool b, by simp⟩
  | .int i, _, _, _, h, r => by cases h; obtain ⟨t, rfl⟩ := r; exact ⟨_, Reads.int i t, by simp⟩
  | .str x, _, _, _, h, r => by cases h; obtain ⟨t, rfl⟩ := r; exact ⟨_, Reads.str x t, by simp⟩
  | .list xs, _, _, c, _, _ => by simp [noLst] at c
  | .tuple xs, _, _, c, ⟨a, vs, e, h1, h2⟩, r => by
    subst e; cases r
    obtain ⟨its, rv, ⟨o, ho, hc, n, hd⟩, _⟩ := I.tuple h1.sq
    obtain ⟨as, hr, ns⟩ := Reps.readsD I (by simpa [noLst] using c) h2 rv
    exact ⟨_, Reads.tuple ho hc hd hr, ns⟩
  | .dict kvs, _, _, c, ⟨a, ks, e, _, h1, h2⟩, r => by
    subst e; cases r
    obtain ⟨_, hs, vs, kv, o, es, ep, ho, hx, hd, _, hp, _⟩ := dk_of I.hok h1
    obtain ⟨as, bs, q1, q2, q3, q4⟩ := RepKv.readsD I (by simpa [noLst] using c) h2 kv hp
    refine ⟨_, Reads.dict ho hx.1 hd q1 q2, ?_⟩
    intro z
    rcases List.mem_append.mp z with z | z
    · rcases List.mem_cons.mp z with z | z
      · rw [z] at hs; simp at hs
      · exact q3 z
    · exact q4 z
theorem Reps.readsD (I : Inv X pins σ H st) : ∀ {ds : List PyData} {vs : List V} {us : List Value}, noLsts ds = true → Reps X.K m H ds vs → Vals vs us → ∃ as, ReadsAll st.heap us ds as ∧ sysModules ∉ as
  | [], _, _, _, h, r => by have h : _ = [] := h; subst h; cases r; exact ⟨_, ReadsAll.nil, by simp⟩
  | d :: ds, _, _, c, ⟨v, w, e, h1, h2⟩, r => by
    subst e
    cases r with
    | cons r1 r2 =>
      have c' : noLst d = true ∧ noLsts ds = true := by simpa [noLsts] using c
      obtain ⟨as, q1, n1⟩ := Rep.readsD I c'.1 h1 r1
      obtain ⟨bs, q2, n2⟩ := Reps.readsD I c'.2 h2 r2
      exact ⟨_, ReadsAll.cons q1 q2, fun z => (List.mem_append.mp z).elim n1 n2⟩
theorem RepKv.readsD (I : Inv X pins σ H st) : ∀ {kvs : List (PyData × PyData)} {ks : List (Key × V)} {vs : List (Key × Value)} {es : List DictEntry}, noLstK kvs = true → RepKv X.K m H kvs ks → KV ks vs → Pairs (mixKind X.prog X.w) es vs →
    ∃ as bs, ReadsAll st.heap (es.map (·.key)) (kvs.map (·.1)) as ∧ ReadsAll st.heap (es.map (·.val)) (kvs.map (·.2)) bs ∧ sysModules ∉ as ∧ sysModules ∉ bs
  | [], _, _, _, _, h, kv, p => by
    have h : _ = [] := h
    subst h
    cases kv
    cases p
    exact ⟨_, _, ReadsAll.nil, ReadsAll.nil, by simp, by simp⟩
  | (k, x) :: kvs, _, _, _, c, ⟨j, v, r, e, hk, h1, h2⟩, kv, p => by
    subst e
    have c' : noLst x = true ∧ noLstK kvs = true := by simpa [noLstK] using c
    cases kv with
    | cons kv1 kv2 =>
    cases p with
    | @cons en _ _ _ p1 p2 p3 =>
    obtain ⟨e1, r1⟩ := kv1
    obtain ⟨as, bs, q1, q2, q3, q4⟩ := RepKv.readsD I c'.2 h2 kv2 p3
    obtain ⟨cs, q5, q6⟩ := Rep.readsD I c'.1 h1 r1
    rw [← e1] at p1
    have key : Reads st.heap en.key k [] := by
      rcases keyIs_shape p1 with ⟨i, t, z1, z2⟩ | ⟨y, t, z1, z2⟩
      · rw [z2]
        have z1 : j = .inl i := z1
        subst z1
        cases k <;> first | (cases hk; done) | skip
        cases hk
        exact Reads.int i t
      · rw [z2]
        have z1 : j = .inr y := z1
        subst z1
        cases k <;> first | (cases hk; done) | skip
        cases hk
        exact Reads.str y t
    refine ⟨_, _, ReadsAll.cons key q1, ReadsAll.cons (show Reads st.heap en.val x cs from p2 ▸ q5) q2, ?_, fun z => (List.mem_append.mp z).elim q6 q4⟩
    simpa using q3
end
theorem dataOf_rep {K : PySem.W.Frag} (rs : RS K m H s) {v : Vl} {x : V} {d : PyData} (rx : RV K m H v x) (h : dataOf v s = some d) : v = .d d ∨ ∃ ds a ws, d = .list ds ∧ x = .ref a ∧ SqL K H a ws ∧ Reps K m H ds ws := by
  cases v with
  | d y => cases h; exact .inl rfl
  | r n =>
    obtain ⟨vs, q, h⟩ := obind h
    obtain ⟨ds, q2, rfl⟩ := omap h
    obtain ⟨a, ws, e, _, h2, h3⟩ := rs.get q rx
    exact .inr ⟨ds, a, ws, rfl, e, SqL.of h2, h3.reps q2⟩
theorem bi_repr {mf : Bool} (hg : X.A.guards = some []) (hu : X.A.units + 200 < cLine) : BiOk X mf .repr := by
  intro pins st σ H xs us Q I r ⟨m, s, vs, rv, rs, h⟩
  simp only [biV, reprV] at h
  split at h
  · rename_i v
    obtain ⟨x, rfl, r1⟩ := rv.inv1
    obtain ⟨d, q, h⟩ := postP_bind h
    obtain ⟨⟨c1, c2, c3, c4⟩, h⟩ := postP_if h
    have fin : Q (.str d.shown) H := PostP.here rs (v := .d (.str d.shown)) rfl h
    cases r with
    | @cons _ u _ _ ru rn =>
      cases rn
      have rd : ∃ as, Reads st.heap u d as ∧ (d.hasDict = true → sysModules ∉ as) := by
        rcases c4 with c4 | c4
        · rcases dataOf_rep rs r1 q with rfl | ⟨ds, a, ws, rfl, rfl, h1, h2⟩
          · obtain ⟨as, z⟩ := Rep.reads I c4 r1 ru
            exact ⟨as, z, PyData.noDict_hsm c4⟩
          · cases ru
            obtain ⟨its, rv', ⟨o, n, ho, hc, _, hd⟩, _⟩ := I.list h1
            obtain ⟨as, hr⟩ := Reps.reads I (by simpa [PyData.hasDict] using c4) h2 rv'
            exact ⟨_, Reads.list ho hc hd hr, PyData.noDict_hsm c4⟩
        · rcases dataOf_rep rs r1 q with rfl | ⟨ds, a, ws, rfl, rfl, h1, h2⟩
          · obtain ⟨as, z, n⟩ := Rep.readsD I c4 r1 ru
            exact ⟨as, z, fun _ => n⟩
          · simp [noLst] at c4
      obtain ⟨as, rd, sm⟩ := rd
      cases rd with
      | none => exact P.repr_of_none ⟨.str _, H, I.tok _, ⟨_, rfl⟩, fin⟩
      | bool b => exact P.repr_of_bool ⟨.str _, H, I.tok _, ⟨_, rfl⟩, fin⟩
      | int i t => exact P.repr_of_int (by simpa [PyData.showable] using c1) ⟨.str _, H, I.tok _, ⟨_, rfl⟩, fin⟩
      | str z t => exact P.repr_of_str ⟨.str _, H, I.tok _, ⟨_, rfl⟩, fin⟩ (by rw [sizeLine_eq]; exact c2)
      | list h1 h2 h3 h4 => exact repr_of_reads' (.list h1 h2 h3 h4) c1 sm hg (by omega) (fun _ _ e => e) (fun h' u tk hk => ⟨.str _, H, I.kept hk, ⟨_, rfl⟩, fin⟩) (by rw [sizeLine_eq]; exact c2)
      | tuple h1 h2 h3 h4 => exact repr_of_reads' (.tuple h1 h2 h3 h4) c1 sm hg (by omega) (fun _ _ e => e) (fun h' u tk hk => ⟨.str _, H, I.kept hk, ⟨_, rfl⟩, fin⟩) (by rw [sizeLine_eq]; exact c2)
      | dict h1 h2 h3 h4 h5 => exact repr_of_reads' (.dict h1 h2 h3 h4 h5) c1 sm hg (by omega) (fun _ _ e => e) (fun h' u tk hk => ⟨.str _, H, I.kept hk, ⟨_, rfl⟩, fin⟩) (by rw [sizeLine_eq]; exact c2)
  · exact h.elim

/-! ### isinstance -/
def tyName : Ty → String
  | .int => "int" | .bool => "bool" | .str => "str" | .list => "list" | .tuple => "tuple" | .dict => "dict" | .float => "float"
def tyOfD : PyData → String
  | .none => "NoneType" | .bool _ => "bool" | .int _ => "int" | .str _ => "str" | .list _ => "list" | .tuple _ => "tuple" | .dict _ => "dict"
theorem rep_ty {K : PySem.W.Frag} : ∀ {d : PyData} {v : V}, Rep K m H d v → TyX K H v (.type (tyOfD d))
  | .none, _, h => by cases h; exact .base .non
  | .bool _, _, h => by cases h; exact .base (.bl _)
  | .int _, _, h => by cases h; exact .base (.int _)
  | .str _, _, h => by cases h; exact .base (.str _)
  | .list _, _, ⟨a, vs, e, h1, _⟩ => by
    subst e
    rcases h1 with ⟨_, h | ⟨o, h⟩⟩ | ⟨o, its, n, k, c, _⟩
    · exact .base (.lst h)
    · exact .base (.frz h)
    · exact .kList k c
  | .tuple _, _, ⟨a, vs, e, h1, _⟩ => by
    subst e
    rcases h1 with ⟨_, h | ⟨o, h⟩⟩ | ⟨o, its, n, k, c, _⟩
    · exact .base (.tup h)
    · exact .fTuple h
    · exact .kTuple k c
  | .dict _, _, ⟨a, vs, e, _, h1, _⟩ => by subst e; exact .base (.dK h1)
theorem kit_all (d : PyData) (t : Ty) : kitB (tyOfD d) (tyName t) = isT t (.d d) [] := by
  cases d <;> cases t <;> simp only [tyOfD, tyName, isT] <;> decide +kernel
theorem kit_lst (t : Ty) : kitB "list" (tyName t) = some (decide (t = .list)) := by
  cases t <;> decide +kernel
def rIs (K : PySem.W.Frag) (t : Ty) : List V → Hp → VK → Prop := fun xs H Q => ∃ m s v x, xs = [x, .ty (tyName t)] ∧ RV K m H v x ∧ RS K m H s ∧ ∃ b, isT t v s = some b ∧ Q (.bl b) H
theorem isT_d (t : Ty) (d : PyData) (s : Sto) : isT t (.d d) s = isT t (.d d) [] := by
  cases t <;> cases d <;> rfl
theorem is_ok (t : Ty) : CallR X (.builtin "isinstance") (rIs X.K t) := CallR.weak call_isi fun xs H Q ⟨m, s, v, x, e, rx, rs, b, h, q⟩ => by
  subst e
  cases v with
  | d y => exact ⟨x, .ty _, .type (tyOfD y), .type (tyName t), b, rfl, .ty _, rep_ty rx, kit_ty (by rw [kit_all, ← isT_d t y s]; exact h), q⟩
  | r n =>
    have h : (listAt n s).map (fun _ => decide (t = .list)) = some b := by cases t <;> exact h
    obtain ⟨vs, q1, rfl⟩ := omap h
    obtain ⟨a, ws, rfl, _, h1, _⟩ := rs.get q1 rx
    exact ⟨_, .ty _, .type "list", .type (tyName t), _, rfl, .ty _, .base (.lst h1), kit_ty (kit_lst t), q⟩
end
end SM

/-! SM: methods of lists, stores into them. -/
namespace SM
open PySem L2 PySem.Spec PyProof.Rows
section
variable {X : Cx} {pins : List (Addr × Obj)} {σ : L2.St} {H : Hp} {st : Shared} {m : Mu} {s : Sto} {Q : VK}
theorem MtR.weak {id : String} {r r' : V → List V → Hp → VK → Prop} (h : MtR X id r) (w : ∀ x xs H Q, r' x xs H Q → r x xs H Q) : MtR X id r' :=
  fun pins s σ H x xs v us Q I rx rxs q => h pins s σ H x xs v us Q I rx rxs (w _ _ _ _ q)
def rMe (K : PySem.W.Frag) (g : Vl → List Vl → Sto → Po Vl) : V → List V → Hp → VK → Prop := fun x xs H Q => ∃ m s v vs, RV K m H v x ∧ RVs K m H vs xs ∧ RS K m H s ∧ PostP K Q m H (g v vs s)
/-- a list of the store is changed, a value comes -/
theorem put_here {K : PySem.W.Frag} {n : Nat} {a : Addr} {vs us : List Vl} {ws zs : List V} {v : Vl} {x : V} (rs : RS K m H s) (h : listAt n s = some us) (ha : m.l[n]? = some (some a)) (rv : RVs K m H vs ws)
    (rx : RV K m H v x) (q : PostP K Q m H (some (v, putL n vs s))) : Q x (upd H a (.lst ws)) := by
  obtain ⟨e, r⟩ := rs.put (listAt_some h) ha rv
  exact q _ _ _ e r (RV.ext e rx)
theorem me_append : MtR X "list.append" (rMe X.K appendV) := MtR.weak mt_append fun x xs H Q ⟨m, s, v, vs, r1, r2, rs, h⟩ => by
  simp only [appendV] at h
  split at h
  · rename_i n u
    obtain ⟨y, rfl, r3⟩ := r2.inv1
    obtain ⟨us, q, h⟩ := postP_bind h
    obtain ⟨c, h⟩ := postP_if h
    obtain ⟨a, ws, rfl, ha, h1, h2⟩ := rs.get q r1
    exact ⟨a, ws, y, rfl, rfl, h1, by rw [← h2.length, sizeLine_eq]; exact c, put_here (zs := ws) rs q ha (h2.app (RVs.one r3)) (v := .d .none) rfl h⟩
  · exact h.elim
theorem me_insert : MtR X "list.insert" (rMe X.K insertV) := MtR.weak mt_insert fun x xs H Q ⟨m, s, v, vs, r1, r2, rs, h⟩ => by
  simp only [insertV] at h
  split at h
  · rename_i n k u
    obtain ⟨y, z, rfl, r3, r4⟩ := r2.inv2
    obtain ⟨us, q, h⟩ := postP_bind h
    obtain ⟨⟨c1, c2, c3⟩, h⟩ := postP_if h
    obtain ⟨a, ws, rfl, ha, h1, h2⟩ := rs.get q r1
    cases r3
    refine ⟨a, ws, k, z, rfl, rfl, h1, by rw [← h2.length, sizeLine_eq]; exact c3, c1, by omega, put_here (zs := ws) rs q ha ?_ (v := .d .none) rfl h⟩
    have := ((h2.take k.toNat).app (RVs.one r4)).app (h2.drop k.toNat)
    simpa [List.append_assoc] using this
  · exact h.elim
theorem seqIx {k : Int} {n : Nat} (h0 : 0 ≤ k) (h : k.toNat < n) : seqIndex? k n = some k.toNat := by
  unfold seqIndex?
  have h1 : ¬ k < 0 := by omega
  simp only [h1, if_false]
  have h2 : (decide (0 ≤ k) && decide (k < (n : Int))) = true := by
    rw [decide_eq_true h0, decide_eq_true (by omega)]; rfl
  rw [if_pos h2]
theorem me_pop : MtR X "list.pop" (rMe X.K popV) := by
  intro pins st σ H x xs v us Q I rx rxs ⟨m, s, o, vs, r1, r2, rs, h⟩
  simp only [popV] at h
  split at h
  · rename_i n
    have r2 : xs = [] := r2
    subst r2
    obtain ⟨ls, q, h⟩ := postP_bind h
    obtain ⟨y, q2, h⟩ := postP_map h
    obtain ⟨a, ws, rfl, ha, h1, h2⟩ := rs.get q r1
    obtain ⟨z, g1, g2⟩ := h2.get q2
    refine mt_pop pins st σ H _ _ v us Q I rx rxs ⟨a, ws, z, rfl, rfl, h1, by rw [← h2.length]; exact g1, put_here (zs := ws) rs q ha ?_ g2 h⟩
    have := h2.take (ls.length - 1)
    rw [List.dropLast_eq_take, List.dropLast_eq_take, ← h2.length]
    exact this
  · rename_i n k
    obtain ⟨y, rfl, r3⟩ := r2.inv1
    cases r3
    obtain ⟨ls, q, h⟩ := postP_bind h
    split at h
    · rename_i c
      obtain ⟨y, q2, h⟩ := postP_map h
      obtain ⟨a, ws, rfl, ha, h1, h2⟩ := rs.get q r1
      obtain ⟨z, g1, g2⟩ := h2.get q2
      have hl : k.toNat < ws.length := (List.getElem?_eq_some_iff.mp g1).1
      exact mt_popAt pins st σ H _ _ v us Q I rx rxs ⟨a, ws, k, k.toNat, z, rfl, rfl, h1, by omega, by omega, seqIx c.1 hl, g1, put_here (zs := ws) rs q ha (h2.erase k.toNat) g2 h⟩
    · exact h.elim
  · exact h.elim
theorem me_count : MtR X "list.count" (rMe X.K countV) := MtR.weak mt_lcount fun x xs H Q ⟨m, s, v, vs, r1, r2, rs, h⟩ => by
  simp only [countV] at h
  split at h
  · rename_i k
    obtain ⟨y, rfl, r3⟩ := r2.inv1
    cases r3
    obtain ⟨l, q, h⟩ := postP_map h
    obtain ⟨ds, q1, q2⟩ := obind q
    obtain ⟨a, ws, rfl, h1, h2⟩ := dataL_sq rs r1 q1
    have e := h2.ints q2
    subst e
    exact ⟨a, l, k, rfl, rfl, h1, PostP.here rs (v := .d (.int (l.count k : Nat))) rfl h⟩
  · exact h.elim
/-- what a list's method asks of its receiver -/
theorem ty_list {K : PySem.W.Frag} (rs : RS K m H s) {v : Vl} {x : V} {vs : List Vl} (h : listV v s = some vs) (rx : RV K m H v x) : tyV K "list" x H := by
  obtain ⟨a, ws, rfl, h1, _⟩ := listV_sq rs h rx
  exact .inl ⟨rfl, ws, h1⟩
/-- a store -/
def rSet (K : PySem.W.Frag) : TSet := fun o i v H Q => ∃ m s ov iv vv s', RV K m H ov o ∧ RV K m H iv i ∧ RV K m H vv v ∧ RS K m H s ∧ setV ov iv vv s = some s' ∧ ∀ m' H', Ext m H m' H' → RS K m' H' s' → Q H'
theorem set_ok : PSet X (rSet X.K) := by
  intro pins st σ H o i v ov iv u Q I ro ri rv ⟨m, s, a, b, c, s', r1, r2, r3, rs, h, q⟩
  refine set_list pins st σ H o i v ov iv u Q I ro ri rv ?_
  unfold setV at h
  split at h
  · rename_i n k
    obtain ⟨vs, q1, h⟩ := obind h
    obtain ⟨j, q2, rfl⟩ := omap h
    obtain ⟨p, ws, rfl, ha, h1, h2⟩ := rs.get q1 r1
    cases r2
    obtain ⟨e, r⟩ := rs.put (listAt_some q1) ha (h2.set j r3)
    exact ⟨p, ws, k, j, rfl, rfl, h1, by rw [← h2.length]; exact q2, q _ _ e r⟩
  · cases h
end
end SM

/-! SM: enumerate over a tuple. -/
namespace SM
open PySem L2 PySem.Spec PyProof.Rows
/-- iter of a tuple at t -/
abbrev itO (t : Addr) : Obj := { cls := .type "tuple_iterator", data := .fields #[.ref t, .int 0 0] }
/-- enumerate over the iterator at i -/
abbrev enO (i : Addr) : Obj := { cls := .type "enumerate", data := .fields #[.none, .bool false, .ref i, rawInt 0, .none, .none] }
set_option maxHeartbeats 1000000 in
theorem enT_new (t : Addr) (xs : Array Value) : Meets (Builtin.«enumerate.__new__» ⟨[.type "enumerate", .ref t], []⟩) (fun _ R s => s.heap.IsTuple t xs ∧
      R (.ok (.ret (.ref (s.heap.push (itO t)).objs.size))) { s with heap := (s.heap.push (itO t)).push (enO s.heap.objs.size) }) :=
  .of_wp fun prog w A R s z => by
    obtain ⟨hp, gs, dr, tk, os⟩ := s
    obtain ⟨ht, z⟩ := z
    have sub := sub_enumerate
    have tup : Heap.IsTuple (Shared.heap ⟨hp, gs, dr, tk, os⟩) t xs := ht
    obtain ⟨ob, got, c1, d1⟩ := ht
    wp_walk using AutoSeq1.wpAny_loadPart' got, wpAny_pyIter_tuple tup
    refine wpAny_stack_any fun st => wpAny_pure ?_
    split
    case h_2 =>
      wp_walk using AutoSeq1.wpAny_loadPart' got, wpAny_pyIter_tuple tup
      exact ⟨_, rfl, z⟩
    case h_1 =>
      rename_i u _ _ _ _ _
      generalize (u == Value.type "enumerate") = b
      cases b
      all_goals
        wp_walk using AutoSeq1.wpAny_loadPart' got, wpAny_pyIter_tuple tup
        exact ⟨_, rfl, z⟩
section
variable {prog : Program} {w : World} {A : Around} {E : Value → Shared → Prop} {s : Shared}
theorem call_enT {t : Addr} {xs : Array Value} {Q : Value → Shared → Prop} (ht : s.heap.IsTuple t xs)
    (q : ∀ k, IsEnum k (s.heap.objs.size + 1) s.heap.objs.size 0 .none → k.IsTupleIter s.heap.objs.size t 0 → k.objs.size = s.heap.objs.size + 2 → (∀ b o, s.heap.get? b = some o → k.get? b = some o) → Q (.ref (s.heap.objs.size + 1)) { s with heap := k }) :
    wpAny (model prog w) A (call (.type "enumerate") [.ref t]) Q E s := by
  refine callType_new F.called_enumerate (by decide) (F.typeCall_enumerate_1 _) (F.newCall_enumerate_1 _) (fun obj => F.args_object_init_2 obj _) F.entry_enumerate_new (enT_new t xs) ⟨ht, ?_⟩
  have sz : (s.heap.push (itO t)).objs.size = s.heap.objs.size + 1 := Heap.size_push ..
  have there := Heap.get?_push_size (s.heap.push (itO t)) (o := enO s.heap.objs.size) rfl
  rw [sz] at there
  show _ ∧ _
  rw [sz]
  have en : IsEnum ((s.heap.push (itO t)).push (enO s.heap.objs.size)) (s.heap.objs.size + 1) s.heap.objs.size 0 .none := there
  exact ⟨⟨_, en, rfl⟩, q _ en ⟨_, Heap.get?_push_of_some _ (Heap.get?_push_size _ rfl), rfl, rfl⟩ (by rw [Heap.size_push, sz]) fun b o z => Heap.get?_push_of_some _ (Heap.get?_push_of_some _ z)⟩
end
/-- the tuple at a, each item in a new pair behind its place -/
def ItEnT (K : PySem.W.Frag) (a : Addr) : It :=
  ⟨fun i H => ∃ (xs : List V) (x : V), SqT K H a xs ∧ xs[i]? = some x,
   fun i H v H' => ∃ T x, v = .ref T ∧ H T = none ∧ H' = upd H T (.tup [.int (i : Nat), x]) ∧ ∀ xs, SqT K H a xs → xs[i]? = some x,
   fun i H => ∃ xs : List V, SqT K H a xs ∧ xs.length = i⟩
theorem turnEnT {P : Program} {w : World} {K : PySem.W.Frag} {es : List Expr} {kk : Nat} {tp : Pos} {a e it : Addr} (ne : a ≠ it) (ne2 : e ≠ a) :
    Turn P w K (.Tuple es kk tp) (ItEnT K a) [e, it] e (fun i h => (∃ old, IsEnum h e it ((i : Nat) : Int) old) ∧ h.IsTupleIter it a i ∧ e ≠ it) where
  mem := by simp
  obj := fun i h st b hb => by
    obtain ⟨⟨old, he⟩, ⟨o, ho, hc, hd⟩, _⟩ := st
    rcases (show b = e ∨ b = it by simpa using hb) with rfl | rfl
    · exact ⟨_, he, fun v q => nomatch q⟩
    · exact ⟨o, ho, fun v q => by rw [hd] at q; cases q⟩
  keep := fun i h h' st k => ⟨st.1.imp fun old z => k e (by simp) _ z, st.2.1.at fun o q => k it (by simp) o q, st.2.2⟩
  item := by
    intro X hP hw hK hc i pins s σ H E I hf st hg
    subst hP hw hK
    obtain ⟨⟨old, he⟩, hit, nei⟩ := st
    obtain ⟨xs, x, sq, hx⟩ := hg
    obtain ⟨its, rv, p, _⟩ := I.tuple sq
    obtain ⟨u, hu, ru⟩ := rv.get hx
    have hh := I.ok.hd hc
    have hi : i < its.toArray.size := by
      have := (List.getElem?_eq_some_iff.mp hu).1
      simpa using this
    refine wpAny_pyNext_enum_itemD (Draws.tuple (A := X.A.in1) hh it a ne its.toArray) he ⟨hit, p⟩ hi nei (by simp [nei, ne2]) fun v h' tk hv ho st' hT hsz hk => ?_
    have ev : v = u := by
      have : its.toArray[i]? = some u := by simpa using hu
      rw [this] at hv
      exact (Option.some.inj hv).symm
    subst ev
    refine ⟨_, rfl, wpAny_letOwnedTupleGo_enum (s := { s with heap := h', toks := tk + 1 }) ho fun k he' sb => ?_⟩
    have l1 : e < s.heap.objs.size := Heap.lt_size he
    have l2 : it < s.heap.objs.size := by obtain ⟨_, z, _⟩ := hit; exact Heap.lt_size z
    have tup : k.get? s.heap.objs.size = some { cls := .type "tuple", data := .seq #[.int i tk, v] } := (sb.2 _ (Nat.ne_of_gt l1)).trans hT
    have ok : ObjOk X.prog X.w (upd H s.heap.objs.size (.tup [.int (i : Nat), x])) k s.heap.objs.size (.tup [.int (i : Nat), x]) := ⟨(by decide : 2 ≤ sizeLine), [.int i tk, v], .cons ⟨_, rfl⟩ (.cons ru .nil), _, tup, rfl, _, rfl⟩
    have J : Inv X pins σ (upd H s.heap.objs.size (.tup [.int (i : Nat), x])) { s with heap := k, toks := tk + 1 } :=
      I.turnedNew (ch := [e, it]) (fun b ob hb z => (sb.2 b (fun y => hb (by simp [y]))).trans (hk b ob (fun y => hb (by simp [y])) (fun y => hb (by simp [y])) z)) hf (Nat.le_refl _) ok
    refine ⟨.ref s.heap.objs.size, _, J, rfl, ⟨_, x, rfl, I.hok.fresh (Nat.le_refl _), rfl, fun ys hy => by rw [I.tuple_inj hy sq]; exact hx⟩, ⟨⟨v, ?_⟩, st'.1.at fun o z => (sb.2 it (Ne.symm nei)).trans z, nei⟩, fun b hb => ?_⟩
    · rw [show ((i + 1 : Nat) : Int) = (i : Int) + 1 by omega]
      exact he'
    · have lt : b < s.heap.objs.size := by
        rcases (show b = e ∨ b = it by simpa using hb) with rfl | rfl <;> assumption
      rw [upd_ne (Nat.ne_of_lt lt)]
      exact (hf b hb).1
  done := by
    intro X hP hw hK hc i pins s σ H E I hf st hg
    subst hP hw hK
    obtain ⟨⟨old, he⟩, hit, nei⟩ := st
    obtain ⟨xs, sq, hx⟩ := hg
    obtain ⟨its, rv, p, _⟩ := I.tuple sq
    have hh := I.ok.hd hc
    have hl := rv.length
    obtain ⟨f0, f1, f2, f3, f4, f5⟩ := hf it (by simp)
    subst hx
    have st : s.heap.IsTupleIter it a its.toArray.size ∧ s.heap.IsTuple a its.toArray := ⟨by rw [show its.toArray.size = xs.length by simp [hl]]; exact hit, p⟩
    exact wpAny_pyNext_enum_endD (Draws.tuple (A := X.A.in1) hh it a ne its.toArray) he st fun h' eb => ⟨rfl, I.turned (t' := s.toks) (fun b o hb z => eb b o hb z) f0 f1 f3 f4 f5⟩
  self := fun A i s Q E st h => wpAny_pyIter_enum st.1.choose_spec h
def iEnT (K : PySem.W.Frag) (ta : TA) : TI := fun σ H R => ta σ H fun vs H1 => ∃ a xs, vs = [.ref a] ∧ ((SqL K H1 a xs ∧ R (Ite K a) H1) ∨ (SqT K H1 a xs ∧ R (ItEnT K a) H1))
theorem pi_enT {X : Cx} {e : Expr} {ta : TA} {p pos tp : Pos} {es : List Expr} {kk : Nat} (hg : Gl X "enumerate") (hm : X.mg "enumerate" = none) (ha : PA X [e] ta) (hs : starEach [e] X.env = [(false, eval e X.env)] := by rfl) :
    PI X (.Tuple es kk tp) (.Call (.Name "enumerate" p) [e] [] pos) (iEnT X.K ta) := by
  refine ⟨fun pins s σ H R I h => ?_⟩
  refine Call_ (ld_blt I hg hm boot_enumerate (PyProof.Rows.callWith_type1 (thn (ha.run pos pins s σ H _ I h) fun us s1 ⟨vs, H1, I1, r1, q1⟩ => ?_) hs rfl))
  obtain ⟨a, xs, ex, q⟩ := q1
  subst ex
  obtain ⟨r, rr⟩ : ∃ u, us = [u] ∧ L2.RelV (.ref a) u := by
    cases r1 with
    | cons r rr => cases rr; exact ⟨_, rfl, r⟩
  obtain ⟨rfl, ru⟩ := rr
  cases ru
  have fresh : ∀ b, b ∈ [s1.heap.objs.size + 1, s1.heap.objs.size] → FpOk X pins H1 b := fun b hb => by
    have le : s1.heap.objs.size ≤ b := by
      rcases (show b = s1.heap.objs.size + 1 ∨ b = s1.heap.objs.size by simpa using hb) with rfl | rfl
      · exact Nat.le_succ _
      · exact Nat.le_refl _
    exact I1.fpOk le (I1.hok.fresh le)
  rcases q with ⟨hq, q⟩ | ⟨hq, q⟩
  · obtain ⟨its, rv, l, _⟩ := I1.list hq
    refine call_enumerate_list l.isList fun k en hit sz hk => wpAny_pyIter_enum en ?_
    exact ⟨s1.heap.objs.size + 1, [s1.heap.objs.size + 1, s1.heap.objs.size], _, _, H1, rfl, I1.kept (t' := s1.toks) hk, turn_enum a (s1.heap.objs.size + 1) s1.heap.objs.size, ⟨⟨.none, en⟩, hit, Nat.succ_ne_self _⟩, fresh, q⟩
  · obtain ⟨its, rv, l, _⟩ := I1.tuple hq
    have la : a < s1.heap.objs.size := by obtain ⟨o, z, _⟩ := l; exact Heap.lt_size z
    refine call_enT l fun k en hit sz hk => wpAny_pyIter_enum en ?_
    exact ⟨s1.heap.objs.size + 1, [s1.heap.objs.size + 1, s1.heap.objs.size], _, _, H1, rfl, I1.kept (t' := s1.toks) hk, turnEnT (Nat.ne_of_lt la) (Ne.symm (Nat.ne_of_lt (Nat.lt_succ_of_lt la))), ⟨⟨.none, en⟩, hit, Nat.succ_ne_self _⟩, fresh, q⟩
end SM

/-! SM: zip over lists and tuples, in any mixture. -/
namespace SM
open PySem L2 PySem.Spec PyProof.Rows
/-- the list (false) or tuple (true) at a -/
def SqK (k : Bool) (K : PySem.W.Frag) (H : Hp) (a : Addr) (xs : List V) : Prop := match k with
  | false => SqL K H a xs
  | true => SqT K H a xs
def IsK (k : Bool) (h : Heap) (a : Addr) (its : Array Value) : Prop := match k with
  | false => h.IsList a its
  | true => h.IsTuple a its
def IterK (k : Bool) (h : Heap) (it a : Addr) (i : Nat) : Prop := match k with
  | false => h.IsListIter it a i
  | true => h.IsTupleIter it a i
def objK (k : Bool) (a : Addr) : Obj := match k with
  | false => { cls := .type "list_iterator", data := .fields #[.ref a, .int 0 0] }
  | true => { cls := .type "tuple_iterator", data := .fields #[.ref a, .int 0 0] }
theorem beginsK (k : Bool) (a : Addr) (its : Array Value) : Begins (.ref a) (objK k a) fun h => IsK k h a its := by
  cases k
  · exact begins_list a its
  · exact begins_tuple a its
theorem iterK_new {k : Bool} {h : Heap} {it a : Addr} (e : h.get? it = some (objK k a)) : IterK k h it a 0 := by
  cases k
  · exact ⟨_, e, rfl, rfl⟩
  · exact ⟨_, e, rfl, rfl⟩
theorem iterK_at {k : Bool} {h h' : Heap} {it a : Addr} {i : Nat} (x : IterK k h it a i) (f : ∀ o, h.get? it = some o → h'.get? it = some o) : IterK k h' it a i := by
  cases k
  · exact Heap.IsListIter.at x f
  · exact Heap.IsTupleIter.at x f
theorem iterK_obj {k : Bool} {h : Heap} {it a : Addr} {i : Nat} (x : IterK k h it a i) : ∃ o, h.get? it = some o ∧ ∃ vs, o.data = .fields vs := by
  cases k
  · obtain ⟨o, e, _, d⟩ := x; exact ⟨o, e, _, d⟩
  · obtain ⟨o, e, _, d⟩ := x; exact ⟨o, e, _, d⟩
theorem drawsK (k : Bool) {prog : Program} {w : World} {A : Around} (hh : A.handled = none) (it a : Addr) (ne : a ≠ it) (its : Array Value) :
    Draws prog w A it [it, a] its.size (fun i v => its[i]? = some v) (fun i h => IterK k h it a i ∧ IsK k h a its) := by
  cases k
  · exact Draws.list hh it a ne its
  · exact Draws.tuple hh it a ne its
theorem inv_K {X : Cx} {pins : List (Addr × Obj)} {σ : L2.St} {H : Hp} {s : Shared} {k : Bool} {a : Addr} {xs : List V} (I : L2.Inv X pins σ H s) (q : SqK k X.K H a xs) : ∃ its : List Value, Vals xs its ∧ IsK k s.heap a its.toArray := by
  cases k
  · obtain ⟨its, rv, p, _⟩ := I.list q; exact ⟨its, rv, p.isList⟩
  · obtain ⟨its, rv, p, _⟩ := I.tuple q; exact ⟨its, rv, p⟩
theorem inv_K1 {X : Cx} {pins : List (Addr × Obj)} {σ : L2.St} {H : Hp} {s : Shared} {k : Bool} {a : Addr} {xs ys : List V} (I : L2.Inv X pins σ H s) (p : SqK k X.K H a xs) (q : SqK k X.K H a ys) : xs = ys := by
  cases k
  · exact I.list_inj p q
  · exact I.tuple_inj p q
/-- the items of both, in new pairs -/
def ItM (k l : Bool) (K : PySem.W.Frag) (a b : Addr) : It :=
  ⟨fun i H => ∃ (xs ys : List V) (x y : V), SqK k K H a xs ∧ SqK l K H b ys ∧ xs[i]? = some x ∧ ys[i]? = some y,
   fun i H v H' => ∃ T x y, v = .ref T ∧ H T = none ∧ H' = upd H T (.tup [x, y]) ∧ (∀ xs, SqK k K H a xs → xs[i]? = some x) ∧ ∀ ys, SqK l K H b ys → ys[i]? = some y,
   fun i H => ∃ xs ys : List V, SqK k K H a xs ∧ SqK l K H b ys ∧ i ≤ xs.length ∧ i ≤ ys.length ∧ (i = xs.length ∨ i = ys.length)⟩
theorem walk_M {k l : Bool} {K : PySem.W.Frag} {a b : Addr} {xs ys : List V} : Walk (ItM k l K a b) (min xs.length ys.length) (fun H => SqK k K H a xs ∧ SqK l K H b ys) (YPair (fun i => xs[i]?) (fun i => ys[i]?)) := by
  refine ⟨fun i _ hi q => ?_, fun _ q => ⟨xs, ys, q.1, q.2, by omega, by omega, by omega⟩, fun i H v H' _ q y => ?_⟩
  · have h1 : i < xs.length := by omega
    have h2 : i < ys.length := by omega
    exact ⟨xs, ys, xs[i], ys[i], q.1, q.2, by simp [h1], by simp [h2]⟩
  · obtain ⟨T, x, z, g1, g2, g3, g4, g5⟩ := y
    exact ⟨T, x, z, g1, g2, g3, g4 xs q.1, g5 ys q.2⟩
theorem turnM {P : Program} {w : World} {K : PySem.W.Frag} {es : List Expr} {kk : Nat} {tp : Pos} {k l : Bool} {a b z TI TO i1 i2 : Addr} (S : ZipSep2 z TI TO i1 i2 [i1, a] [i2, b]) (n1 : a ≠ i1) (n2 : b ≠ i2) :
    Turn P w K (.Tuple es kk tp) (ItM k l K a b) [z, TI, TO, i1, i2] z (fun i h => IsZip h z TI TO .none ∧ IsTupOf2 h TI (.ref i1) (.ref i2) ∧ (∃ x y, IsTupOf2 h TO x y) ∧ IterK k h i1 a i ∧ IterK l h i2 b i) where
  mem := by simp
  obj := fun i h st c hc => by
    obtain ⟨hz, hTI, ⟨x, y, hTO⟩, g1, g2⟩ := st
    obtain ⟨o1, e1, _, d1⟩ := iterK_obj g1
    obtain ⟨o2, e2, _, d2⟩ := iterK_obj g2
    rcases (show c = z ∨ c = TI ∨ c = TO ∨ c = i1 ∨ c = i2 by simpa using hc) with rfl | rfl | rfl | rfl | rfl
    · exact ⟨_, hz, fun v q => nomatch q⟩
    · exact ⟨_, hTI, fun v q => nomatch q⟩
    · exact ⟨_, hTO, fun v q => nomatch q⟩
    · exact ⟨o1, e1, fun v q => by rw [d1] at q; cases q⟩
    · exact ⟨o2, e2, fun v q => by rw [d2] at q; cases q⟩
  keep := fun i h h' st kp => by
    obtain ⟨hz, hTI, ⟨x, y, hTO⟩, g1, g2⟩ := st
    exact ⟨kp z (by simp) _ hz, kp TI (by simp) _ hTI, ⟨x, y, kp TO (by simp) _ hTO⟩, iterK_at g1 fun o q => kp i1 (by simp) o q, iterK_at g2 fun o q => kp i2 (by simp) o q⟩
  item := by
    intro X hP hw hK hc i pins s σ H E I hf st hg
    subst hP hw hK
    obtain ⟨hz, hTI, ⟨x0, y0, hTO⟩, g1, g2⟩ := st
    obtain ⟨xs, ys, x, y, qx, qy, hx, hy⟩ := hg
    obtain ⟨its, rv, p⟩ := inv_K I qx
    obtain ⟨its2, rv2, p2⟩ := inv_K I qy
    obtain ⟨u, hu, ru⟩ := rv.get hx
    obtain ⟨u2, hu2, ru2⟩ := rv2.get hy
    have hh := I.ok.hd hc
    have lz : z < s.heap.objs.size := Heap.lt_size hz
    have m1 : i < its.toArray.size := by simpa using (List.getElem?_eq_some_iff.mp hu).1
    have m2 : i < its2.toArray.size := by simpa using (List.getElem?_eq_some_iff.mp hu2).1
    refine wpAny_pyNext_zipD2_item S (drawsK k (A := X.A.in1) hh i1 a n1 its.toArray) (drawsK l (A := X.A.in1) hh i2 b n2 its2.toArray) hz hTI hTO ⟨g1, p⟩ ⟨g2, p2⟩ m1 m2 fun v1 v2 h' tk e1 e2 z' TO' st1 st2 hT sz hk => ?_
    have ev : v1 = u := Option.some.inj (e1.symm.trans (by simpa using hu))
    have ev2 : v2 = u2 := Option.some.inj (e2.symm.trans (by simpa using hu2))
    subst ev ev2
    refine ⟨_, rfl, wpAny_letOwnedTupleGo_zip (s := { s with heap := h', toks := tk }) z' fun h'' z'' sb => ?_⟩
    have tup : h''.get? s.heap.objs.size = some { cls := .type "tuple", data := .seq #[v1, v2] } := (sb.2 _ (Nat.ne_of_gt lz)).trans hT
    have ok : ObjOk X.prog X.w (upd H s.heap.objs.size (.tup [x, y])) h'' s.heap.objs.size (.tup [x, y]) := ⟨(by decide : 2 ≤ sizeLine), [v1, v2], .cons ru (.cons ru2 .nil), _, tup, rfl, _, rfl⟩
    have J : L2.Inv X pins σ (upd H s.heap.objs.size (.tup [x, y])) { s with heap := h'', toks := tk } :=
      I.turnedNew (ch := [z, TI, TO, i1, i2]) (fun c o hb q => (sb.2 c (fun q' => hb (by simp [q']))).trans (hk c o (fun q' => hb (by simp [q'])) (fun q' => hb (by simp [q'])) (fun q' => hb (by simp [q'])) (fun q' => hb (by simp [q'])) q)) hf (Nat.le_refl _) ok
    refine ⟨.ref s.heap.objs.size, _, J, rfl, ⟨_, x, y, rfl, I.hok.fresh (Nat.le_refl _), rfl, fun L hL => by rw [inv_K1 I hL qx]; exact hx, fun L hL => by rw [inv_K1 I hL qy]; exact hy⟩,
      ⟨z'', (sb.2 _ S.TIz).trans (hk _ _ S.TIz S.TITO S.TIi1 S.TIi2 hTI), ⟨v1, v2, (sb.2 _ S.TOz).trans TO'⟩, iterK_at st1.1 fun o q => (sb.2 _ (Ne.symm S.zi1)).trans q, iterK_at st2.1 fun o q => (sb.2 _ (Ne.symm S.zi2)).trans q⟩, fun c hcm => ?_⟩
    have lt : c < s.heap.objs.size := by
      rcases (show c = z ∨ c = TI ∨ c = TO ∨ c = i1 ∨ c = i2 by simpa using hcm) with rfl | rfl | rfl | rfl | rfl
      · exact lz
      · exact Heap.lt_size hTI
      · exact Heap.lt_size hTO
      · obtain ⟨_, e, _⟩ := iterK_obj g1; exact Heap.lt_size e
      · obtain ⟨_, e, _⟩ := iterK_obj g2; exact Heap.lt_size e
    rw [upd_ne (Nat.ne_of_lt lt)]
    exact (hf c hcm).1
  done := by
    intro X hP hw hK hc i pins s σ H E I hf st hg
    subst hP hw hK
    obtain ⟨hz, hTI, ⟨x0, y0, hTO⟩, g1, g2⟩ := st
    obtain ⟨xs, ys, qx, qy, t1, t2, t3⟩ := hg
    obtain ⟨its, rv, p⟩ := inv_K I qx
    obtain ⟨its2, rv2, p2⟩ := inv_K I qy
    have l1 := rv.length
    have l2 := rv2.length
    have hh := I.ok.hd hc
    exact wpAny_pyNext_zipD2_end S (drawsK k (A := X.A.in1) hh i1 a n1 its.toArray) (drawsK l (A := X.A.in1) hh i2 b n2 its2.toArray) hz hTI hTO ⟨g1, p⟩ ⟨g2, p2⟩ (by simp; omega) (by simp; omega) (by simp; omega) fun h' tk hk =>
      ⟨rfl, I.turnedL (t' := tk) (ch := [z, TI, TO, i1, i2]) (fun c o hb q => hk c o (fun q' => hb (by simp [q'])) (fun q' => hb (by simp [q'])) (fun q' => hb (by simp [q'])) (fun q' => hb (by simp [q'])) q) hf⟩
  self := fun A i s Q E st h => wpAny_pyIter_zip st.1 h
def iZipM (K : PySem.W.Frag) (ta : TA) : TI := fun σ H R => ta σ H fun vs H1 => ∃ a b k l xs ys, vs = [.ref a, .ref b] ∧ SqK k K H1 a xs ∧ SqK l K H1 b ys ∧ R (ItM k l K a b) H1
theorem pi_zipM {X : Cx} {e e2 : Expr} {ta : TA} {p pos tp : Pos} {es : List Expr} {kk : Nat} (hg : Gl X "zip") (hm : X.mg "zip" = none) (ha : PA X [e, e2] ta)
    (hs : starEach [e, e2] X.env = (false, eval e X.env) :: starEach [e2] X.env := by rfl) (hpl : (backTo pos (starEach [e2] X.env)).any (·.1) = false := by rfl) :
    PI X (.Tuple es kk tp) (.Call (.Name "zip" p) [e, e2] [] pos) (iZipM X.K ta) := by
  refine ⟨fun pins s σ H R I h => ?_⟩
  refine Call_ (ld_blt I hg hm PyProof.Rows.boot_zip (PyProof.Rows.callWith_type1 (thn (ha.run pos pins s σ H _ I h) fun us s1 ⟨vs, H1, I1, r1, q1⟩ => ?_) hs hpl))
  obtain ⟨a, b, k, l, xs, ys, ex, qx, qy, q⟩ := q1
  subst ex
  have r2 : us = [.ref a, .ref b] := by
    cases r1 with
    | cons r rr => cases rr with
      | cons r' rr => cases rr; cases r; cases r'; rfl
  subst r2
  obtain ⟨its, rv, p1⟩ := inv_K I1 qx
  obtain ⟨its2, rv2, p2⟩ := inv_K I1 qy
  have la : a < s1.heap.objs.size := by
    cases k
    · obtain ⟨o, z, _⟩ := p1; exact Heap.lt_size z
    · obtain ⟨o, z, _⟩ := p1; exact Heap.lt_size z
  have lb : b < s1.heap.objs.size := by
    cases l
    · obtain ⟨o, z, _⟩ := p2; exact Heap.lt_size z
    · obtain ⟨o, z, _⟩ := p2; exact Heap.lt_size z
  generalize hN : s1.heap.objs.size = N at la lb
  have fresh : ∀ c, c ∈ [N + 4, N + 2, N + 3, N, N + 1] → FpOk X pins H1 c := fun c hc => by
    have le : s1.heap.objs.size ≤ c := by
      rw [hN]
      rcases (show c = N + 4 ∨ c = N + 2 ∨ c = N + 3 ∨ c = N ∨ c = N + 1 by simpa using hc) with rfl | rfl | rfl | rfl | rfl
      all_goals first | exact Nat.le_refl _ | exact Nat.le_add_right _ _
    exact I1.fpOk le (I1.hok.fresh le)
  have nA : ∀ (i j : Nat), i ≠ j → (N + i : Nat) ≠ N + j := fun i j h z => h (Nat.add_left_cancel z)
  have aN : ∀ i : Nat, a ≠ N + i := fun i z => Nat.lt_irrefl a (Nat.lt_of_lt_of_le la (by rw [z]; exact Nat.le_add_right _ _))
  have bN : ∀ i : Nat, b ≠ N + i := fun i z => Nat.lt_irrefl b (Nat.lt_of_lt_of_le lb (by rw [z]; exact Nat.le_add_right _ _))
  have S : ZipSep2 (N + 4) (N + 2) (N + 3) N (N + 1) [N, a] [N + 1, b] := by
    refine ⟨nA 2 4 (by decide), nA 3 4 (by decide), nA 2 3 (by decide), nA 2 0 (by decide), by simp, ?_, ?_, nA 2 1 (by decide), by simp, ?_, ?_, ?_, ?_⟩
    · simp only [List.mem_cons, List.not_mem_nil, or_false, not_or]
      exact ⟨nA 4 0 (by decide), Ne.symm (aN 4)⟩
    · simp only [List.mem_cons, List.not_mem_nil, or_false, not_or]
      exact ⟨nA 3 0 (by decide), Ne.symm (aN 3)⟩
    · simp only [List.mem_cons, List.not_mem_nil, or_false, not_or]
      exact ⟨nA 4 1 (by decide), Ne.symm (bN 4)⟩
    · simp only [List.mem_cons, List.not_mem_nil, or_false, not_or]
      exact ⟨nA 3 1 (by decide), Ne.symm (bN 3)⟩
    · simp only [List.mem_cons, List.not_mem_nil, or_false, not_or]
      exact ⟨nA 0 1 (by decide), Ne.symm (bN 0)⟩
    · simp only [List.mem_cons, List.not_mem_nil, or_false, not_or]
      exact ⟨nA 1 0 (by decide), Ne.symm (aN 1)⟩
  refine zip_begins2 (beginsK k a its.toArray) (beginsK l b its2.toArray) p1 p2 fun h' hz hTI hTO o1 o2 sz hk => wpAny_pyIter_zip hz ?_
  rw [hN] at hz hTI hTO o1 o2
  rw [hN]
  exact ⟨N + 4, [N + 4, N + 2, N + 3, N, N + 1], _, _, H1, rfl, I1.kept (t' := s1.toks) hk, turnM S (aN 0) (bN 1), ⟨hz, hTI, ⟨_, _, hTO⟩, iterK_new o1, iterK_new o2⟩, fresh, q⟩
end SM

set_option maxHeartbeats 1000000
/-! SM: tuple[::-1]. -/
namespace SM
open PySem L2 PySem.Spec PyProof.Rows HT
section
variable {prog : Program} {w : World} {A : Around} {E : Value → Shared → Prop} {s : Shared}
theorem adjust_back (n : Nat) : Builtin.Slice.sliceAdjust none none (-1) (n : Int) = ((n : Int) - 1, -1) := by
  unfold Builtin.Slice.sliceAdjust
  simp
theorem places_back (n : Nat) : Builtin.Slice.slicePlaces ((n : Int) - 1) (-1) (-1) = n := by
  unfold Builtin.Slice.slicePlaces
  rw [if_neg (by decide)]
  split <;> simp <;> omega
theorem applied_back {sl : Addr} {m : Tok} {n : Nat} {Q : Int × Int × Nat → Shared → Prop} (hs : s.heap.IsSliceOf sl .none .none (.int (-1) m)) (h : Q ((n : Int) - 1, -1, n) s) :
    wpAny (model prog w) A (Builtin.Slice.sliceApplied (.ref sl) (pure (n : Int))) Q E s := by
  obtain ⟨rec, found, _, parts⟩ := id hs
  unfold Builtin.Slice.sliceApplied Builtin.Slice.sliceFields
  refine wpAny_bind (wpAny_bind (wpAny_field found parts (x := .none) rfl (wpAny_bind (wpAny_field found parts (x := .none) rfl (wpAny_bind (wpAny_field found parts (x := .int (-1) m) rfl (wpAny_pure ?_)))))))
  refine wpAny_bind (slicePart_ (.int (-1) m) ?_)
  show wpAny _ _ (if ((-1 : Int) == 0) = true then _ else _) _ _ s
  rw [if_neg (by decide)]
  refine wpAny_bind (slicePart_ .none (wpAny_bind (slicePart_ .none (wpAny_bind (wpAny_pure ?_)))))
  show wpAny _ _ (match Builtin.Slice.sliceAdjust none none (-1) (n : Int) with | (a, b) => pure (a, (-1 : Int), Builtin.Slice.slicePlaces a b (-1))) _ _ s
  rw [adjust_back]
  show wpAny _ _ (pure ((n : Int) - 1, (-1 : Int), Builtin.Slice.slicePlaces ((n : Int) - 1) (-1) (-1))) _ _ s
  rw [places_back]
  exact wpAny_pure h
theorem fm_congr {α β : Type} {f g : α → Option β} : ∀ l : List α, (∀ x ∈ l, f x = g x) → l.filterMap f = l.filterMap g
  | [], _ => rfl
  | a :: r, h => by
    rw [List.filterMap_cons, List.filterMap_cons, h a List.mem_cons_self, fm_congr r fun x hx => h x (List.mem_cons_of_mem _ hx)]
theorem pick_back (xs : Array Value) : ((List.range xs.size).filterMap fun (k : Nat) => xs[((xs.size : Int) - 1 + (k : Int) * -1).toNat]?).toArray = xs.toList.reverse.toArray := by
  congr 1
  have e : ∀ k ∈ List.range xs.size, xs[((xs.size : Int) - 1 + (k : Int) * -1).toNat]? = xs.toList.reverse[k]? := fun k hk => by
    have hk : k < xs.size := List.mem_range.mp hk
    rw [List.getElem?_reverse (by simpa using hk), ← Array.getElem?_toList]
    congr 1
    simp
    omega
  have e2 : (List.range xs.size).filterMap (fun (k : Nat) => xs[((xs.size : Int) - 1 + (k : Int) * -1).toNat]?) = (List.range xs.size).filterMap (fun k => xs.toList.reverse[k]?) := fm_congr _ e
  rw [e2]
  have hl : xs.size = xs.toList.reverse.length := by simp
  rw [hl]
  generalize xs.toList.reverse = l
  clear e e2 hl
  apply List.ext_getElem?
  intro i
  have : (List.range l.length).filterMap (fun k => l[k]?) = l := by
    induction l with
    | nil => rfl
    | cons a r ih =>
      rw [List.length_cons, List.range_succ_eq_map, List.filterMap_cons]
      simp only [List.getElem?_cons_zero, List.filterMap_map]
      congr 1
  rw [this]
theorem getItem_back {t sl : Addr} {items : Array Value} {m : Tok} {Q : Value → Shared → Prop} (ht : IsTup s.heap t items) (hs : s.heap.IsSliceOf sl .none .none (.int (-1) m)) (big : items.size ≤ sizeLine)
    (h : Q (.ref s.heap.objs.size) { s with heap := s.heap.push { cls := .type "tuple", data := .seq items.toList.reverse.toArray } }) : wpAny (model prog w) A (getItem (.ref t) (.ref sl)) Q E s := by
  have fits : sizeOk (.seq items.toList.reverse.toArray) := by
    show items.toList.reverse.toArray.size ≤ sizeLine
    simpa using big
  obtain ⟨rec, found, kindly, _⟩ := id hs
  have isSl : s.TypeIs (.ref sl) "slice" := ⟨rec, found, kindly⟩
  unfold getItem
  refine wpAny_holding ?_
  refine wpAny_bind (wpAny_sequenceKey ht.typeIs (by decide) (wpAny_bind (wpAny_callSpecial?_slot (name := Str.ofString "__getitem__") ht.typeIs PyProof.Rows.slot_tuple_getitem (wpAny_call_entry PyProof.Rows.slot_tuple_getitem ht.typeIs entry_tuple_getitem ?_ (args_tuple_getitem _ _)))))
  show wpAny _ _ (Builtin.Tuple.tupleItemsOf (.ref t) >>= _) _ _ s
  refine wpAny_bind (tupleItemsOf_ ht (wpAny_bind (wpAny_typeOf isSl ?_)))
  rw [if_pos (by decide)]
  refine wpAny_bind (applied_back hs ?_)
  show wpAny _ _ (if ((items.size : Int) - 1 == 0 && (-1 : Int) == 1 && items.size == items.size) = true then _ else _) _ _ s
  rw [if_neg (by simp), pick_back]
  first
    | exact wpAny_bind (m := Builtin.Tuple.tupleExact _) (wpAny_newObj_type (wpAny_pure ⟨_, rfl, wpAny_pure h⟩) fits)
    | exact wpAny_bind (m := Builtin.Tuple.tupleExact _) (wpAny_newObj_type (wpAny_bind (wpAny_pure (wpAny_pure ⟨_, rfl, wpAny_pure h⟩))) fits)
    | exact wpAny_bind (wpAny_bind (m := Builtin.Tuple.tupleExact _) (wpAny_newObj_type (wpAny_pure (wpAny_pure ⟨_, rfl, wpAny_pure h⟩)) fits))
end
/-- a list or a tuple, backwards -/
def tBack (K : PySem.W.Frag) (te : TE) : TE := fun σ H Q => te σ H fun x H1 => ∃ a xs, x = .ref a ∧ ((SqL K H1 a xs ∧ ∀ p, H1 p = none → Q (.ref p) (upd H1 p (.lst xs.reverse))) ∨ (SqT K H1 a xs ∧ ∀ p, H1 p = none → Q (.ref p) (upd H1 p (.tup xs.reverse))))
theorem pe_back {X : Cx} {e : Expr} {te : TE} {k : Nat} {p1 p2 p3 pos : Pos} (he : PE X e te) : PE X (.Subscript e (.Slice none none (some (.UnaryOp .USub (.Constant (.int 1) k p1) p2)) p3) pos) (tBack X.K te) := by
  refine ⟨fun pins st σ H Q I h => Subscript_ (thn (he.run pins st σ H _ I h) fun v s1 ⟨x, H1, I1, r1, a, xs, ex, q⟩ => ?_)⟩
  subst ex
  cases r1
  have part : PO X (some (.UnaryOp .USub (.Constant (.int 1) k p1) p2)) (tPart (tUn (rU fun i => .int (-i)) (L2.tC (.int 1)))) := po_some (pe_un un_neg pe_int)
  refine wpAny_Slice (thn (po_none.run pins s1 σ H1 (fun o G => o = none ∧ G = H1) I1 ⟨rfl, rfl⟩) fun vl s2 ⟨l, H2, I2, pl, el, e2⟩ => ?_)
  subst el e2
  refine thn (po_none.run pins s2 σ H2 (fun o G => o = none ∧ G = H2) I2 ⟨rfl, rfl⟩) fun vu s3 ⟨u, H3, I3, pu, eu, e3⟩ => ?_
  subst eu e3
  refine thn (part.run pins s3 σ H3 (fun o G => o = some (-1) ∧ G = H3) I3 ⟨1, rfl, -1, rfl, rfl, rfl⟩) fun vs s4 ⟨o, H4, I4, ps, eo, e4⟩ => ?_
  subst eo e4
  have I5 : Inv X pins σ H4 { s4 with heap := s4.heap.push { cls := .type "slice", data := .fields #[vl, vu, vs] } } := I4.kept (t' := s4.toks) fun b ob q => Heap.get?_push_of_some _ q
  show wpAny (model X.prog X.w) X.A (subscriptTail e (.Slice none none (some (.UnaryOp .USub (.Constant (.int 1) k p1) p2)) p3) (.ref a) (.ref s4.heap.objs.size)) (EP X pins σ Q) X.xe { s4 with heap := s4.heap.push { cls := .type "slice", data := .fields #[vl, vu, vs] } }
  rcases q with ⟨hx, q⟩ | ⟨hx, q⟩
  · obtain ⟨its, r, ht, hz⟩ := I5.list hx
    refine tail_any (ops := [.ref a, .ref s4.heap.objs.size]) ht.isList.typeIs (PySem.slot_list_getitem.lookup) ?_ (by with_unfolding_all rfl)
    refine wpAny_getItem_list_slice ht.isList (Heap.IsSliceOf.new _ vl vu vs) pl pu ps (by decide) ?_ (by rw [List.size_toArray, ← r.length]; exact hz)
    rw [PySem.W.krv_pick]
    exact ⟨.ref _, _, I5.laid (t' := s4.toks) (o := .lst xs.reverse) (fun b ob q => Heap.get?_push_of_some _ q) (Nat.le_refl _) ⟨by rw [List.length_reverse]; exact hz, _, 0, r.reverse, Heap.get?_push_size _ rfl⟩, rfl, q _ (I5.hok.fresh (Nat.le_refl _))⟩
  · obtain ⟨its, r, ht, hz⟩ := I5.tuple hx
    cases pl
    cases pu
    cases ps with
    | int _ tk =>
    refine tail_any (ops := [.ref a, .ref s4.heap.objs.size]) ht.typeIs (PyProof.Rows.slot_tuple_getitem.lookup) ?_ (by with_unfolding_all rfl)
    refine getItem_back ht (Heap.IsSliceOf.new _ _ _ _) (by rw [List.size_toArray, ← r.length]; exact hz) ?_
    exact ⟨.ref _, _, I5.laid (t' := s4.toks) (o := .tup xs.reverse) (fun b ob q => Heap.get?_push_of_some _ q) (Nat.le_refl _) ⟨by rw [List.length_reverse]; exact hz, _, r.reverse, IsTup.new _ _⟩, rfl, q _ (I5.hok.fresh (Nat.le_refl _))⟩
end SM

set_option maxHeartbeats 1000000
/-! SM: sorted. -/
namespace SM
open PySem L2
section
variable {X : Cx}
theorem CallR.or {f : Value} {r r' : List V → Hp → VK → Prop} (h : CallR X f r) (h' : CallR X f r') : CallR X f (fun x H Q => r x H Q ∨ r' x H Q) :=
  fun pins s σ H x y Q I rx q => q.elim (h pins s σ H x y Q I rx) (h' pins s σ H x y Q I rx)
theorem pairB_inv {d : PyData} (h : pairB d = true) : ∃ i j : Int, d = .tuple [.int i, .int j] ∧ 0 ≤ i ∧ i < 64 ∧ 0 ≤ j ∧ j < 64 := by
  unfold pairB at h
  split at h
  · rename_i i j
    simp only [Bool.and_eq_true, decide_eq_true_eq] at h
    exact ⟨i, j, rfl, h.1.1, h.1.2, h.2.1, h.2.2⟩
  · cases h
theorem kD_inj {a b : PyData} (ha : pairB a = true) (hb : pairB b = true) (h : kD a = kD b) : a = b := by
  obtain ⟨i, j, rfl, h1, h2, h3, h4⟩ := pairB_inv ha
  obtain ⟨k, l, rfl, g1, g2, g3, g4⟩ := pairB_inv hb
  have h : i * 64 + j = k * 64 + l := h
  have e1 : i = k := by omega
  have e2 : j = l := by omega
  rw [e1, e2]
/-- data of what was put into another sequence -/
theorem Reps.perm {K : PySem.W.Frag} {m : Mu} {H : Hp} : ∀ {ys xs : List V}, ys.Perm xs → ∀ {ds : List PyData}, Reps K m H ds xs → ∃ es, es.Perm ds ∧ Reps K m H es ys := by
  intro ys xs h
  induction h with
  | nil => exact fun {ds} r => ⟨ds, .refl _, r⟩
  | cons v _ ih =>
    intro ds r
    cases ds with
    | nil => exact nomatch (show _ = [] from r)
    | cons d ds =>
      obtain ⟨w, q, e, r1, r2⟩ := r
      cases e
      obtain ⟨es, p, z⟩ := ih r2
      exact ⟨d :: es, p.cons d, _, _, rfl, r1, z⟩
  | swap v w l =>
    intro ds r
    cases ds with
    | nil => exact nomatch (show _ = [] from r)
    | cons d ds =>
      obtain ⟨x, q, e, r1, r2⟩ := r
      cases e
      cases ds with
      | nil => exact nomatch (show _ = [] from r2)
      | cons d' ds =>
        obtain ⟨y, q', e, r3, r4⟩ := r2
        cases e
        exact ⟨d' :: d :: ds, .swap .., _, _, rfl, r3, _, _, rfl, r1, r4⟩
  | trans _ _ ih1 ih2 =>
    intro ds r
    obtain ⟨es, p, z⟩ := ih2 r
    obtain ⟨fs, p', z'⟩ := ih1 z
    exact ⟨fs, p'.trans p, z'⟩
theorem Reps.mem {K : PySem.W.Frag} {m : Mu} {H : Hp} : ∀ {ds : List PyData} {xs : List V} {x : V}, Reps K m H ds xs → x ∈ xs → ∃ d ∈ ds, Rep K m H d x
  | [], xs, x, r, h => by have r : xs = [] := r; subst r; cases h
  | d :: ds, xs, x, ⟨v, q, e, r1, r2⟩, h => by
    subst e
    rcases List.mem_cons.mp h with rfl | h
    · exact ⟨d, List.mem_cons_self, r1⟩
    · obtain ⟨d', hd, r⟩ := Reps.mem r2 h
      exact ⟨d', List.mem_cons_of_mem _ hd, r⟩
theorem pair_tup {K : PySem.W.Frag} {m : Mu} {H : Hp} {i j : Int} {x : V} (r : Rep K m H (.tuple [.int i, .int j]) x) : TupI K H x [i, j] := by
  obtain ⟨a, ws, rfl, h1, h2⟩ := r
  obtain ⟨v, q, rfl, e1, v2, q2, rfl, e2, e3⟩ := h2
  cases e1
  cases e2
  cases e3
  exact ⟨a, rfl, h1.sq⟩
theorem reps_pairwise {K : PySem.W.Frag} {m : Mu} {H : Hp} : ∀ {es : List PyData} {ys : List V}, Reps K m H es ys → (∀ d ∈ es, pairB d = true) → ys.Pairwise (fun x y => ∀ n m, TupI K H x n → TupI K H y m → TS.code 64 n ≤ TS.code 64 m) → es.Pairwise (fun a b => decide (kD a ≤ kD b) = true)
  | [], _, _, _, _ => .nil
  | d :: es, ys, ⟨v, q, e, r1, r2⟩, hp, pw => by
    subst e
    rw [List.pairwise_cons] at pw ⊢
    refine ⟨fun d' hd' => ?_, reps_pairwise r2 (fun z hz => hp z (List.mem_cons_of_mem _ hz)) pw.2⟩
    obtain ⟨i, j, rfl, _⟩ := pairB_inv (hp d List.mem_cons_self)
    obtain ⟨k, l, rfl, _⟩ := pairB_inv (hp d' (List.mem_cons_of_mem _ hd'))
    obtain ⟨y, hy, ry⟩ : ∃ y ∈ q, Rep K m H (.tuple [.int k, .int l]) y := by
      clear pw r1 hp
      induction es generalizing q with
      | nil => cases hd'
      | cons d es ih =>
        obtain ⟨w, q', rfl, s1, s2⟩ := r2
        rcases List.mem_cons.mp hd' with rfl | hd'
        · exact ⟨w, List.mem_cons_self, s1⟩
        · obtain ⟨y, hy, ry⟩ := ih q' s2 hd'
          exact ⟨y, List.mem_cons_of_mem _ hy, ry⟩
    have := pw.1 y hy [i, j] [k, l] (pair_tup r1) (pair_tup ry)
    rw [code_pair, code_pair] at this
    exact decide_eq_true this
theorem bi_sorted {mf : Bool} : BiOk X mf .sorted := CallR.weak (.or cr_sortedI (cr_sortT (d := 2) (B := 64) (by decide))) fun xs H Q ⟨m, s, vs, rv, rs, h⟩ => by
  simp only [biV, sortedV] at h
  split at h
  · obtain ⟨x, rfl, r1⟩ := rv.inv1
    obtain ⟨ds, q1, h⟩ := postP_bind h
    obtain ⟨a, ws, rfl, h1, h2⟩ := dataL_sq rs r1 q1
    split at h
    · rename_i is q2
      have e := h2.ints q2
      subst e
      refine .inl ⟨a, is, rfl, h1, fun ns' p pm pw hp => ?_⟩
      have es : ns' = sortI is := by
        refine List.Perm.eq_of_pairwise (le := fun a b => decide (a ≤ b) = true) (fun a b _ _ u v => ?_) (pw.imp fun z => decide_eq_true z) ?_ (pm.trans (List.mergeSort_perm _ _).symm)
        · have u := of_decide_eq_true u
          have v := of_decide_eq_true v
          omega
        · exact List.pairwise_mergeSort (fun a b c u v => by simp only [decide_eq_true_eq] at u v ⊢; omega) (fun a b => by simp only [Bool.or_eq_true, decide_eq_true_eq]; omega) _
      subst es
      have rr : RVs X.K m H ((sortI is).map fun i => Vl.d (.int i)) ((sortI is).map V.int) := by
        have := (RVs.ofInts (K := X.K) (m := m) (H := H) (sortI is)).rvs
        rwa [List.map_map] at this
      exact mkL_new rs rr hp h
    · split at h
      · rename_i hz
        obtain ⟨hl, hall⟩ := hz
        have hall := List.all_eq_true.mp hall
        refine .inr ⟨a, ws, rfl, h1, by rw [← h2.length]; exact hl, fun x hx => ?_, fun ys p pm pw hp => ?_⟩
        · obtain ⟨d, hd, r⟩ := Reps.mem h2 hx
          obtain ⟨i, j, rfl, b1, b2, b3, b4⟩ := pairB_inv (hall d hd)
          refine ⟨[i, j], pair_tup r, rfl, fun m hm => ?_⟩
          simp at hm
          rcases hm with rfl | rfl <;> omega
        · obtain ⟨es, pe, re⟩ := Reps.perm pm h2
          have hes : ∀ d ∈ es, pairB d = true := fun d hd => hall d (pe.subset hd)
          have e : es = sortP ds := by
            refine List.Perm.eq_of_pairwise (le := fun a b => decide (kD a ≤ kD b) = true) (fun a b ha hb u v => ?_) (reps_pairwise re hes pw) ?_ (pe.trans (List.mergeSort_perm _ _).symm)
            · have hb' : b ∈ ds := (List.mergeSort_perm _ _).subset hb
              have u := of_decide_eq_true u
              have v := of_decide_eq_true v
              exact kD_inj (hes a ha) (hall b hb') (by omega)
            · exact List.pairwise_mergeSort (fun a b c u v => by simp only [decide_eq_true_eq] at u v ⊢; omega) (fun a b => by simp only [Bool.or_eq_true, decide_eq_true_eq]; omega) _
          subst e
          exact mkL_new rs re.rvs hp h
      · exact h.elim
  · exact h.elim
end
end SM

/-! SM: what ties an IE to an expression of the text. -/
namespace SM
open PySem L2

structure Sg where
  fns : List Str
  cns : List (Str × PyData)
  bis : List Str
  mth : List Str
  kws : List (Str × List Str × List Nat)
mutual
def eqB : PyData → PyData → Bool
  | .none, .none => true
  | .bool a, .bool b => a == b
  | .int a, .int b => a == b
  | .str a, .str b => decide (a = b)
  | .tuple a, .tuple b => eqBs a b
  | _, _ => false
def eqBs : List PyData → List PyData → Bool
  | [], [] => true
  | x :: xs, y :: ys => eqB x y && eqBs xs ys
  | _, _ => false
end
mutual
theorem eqB_eq : ∀ {x y : PyData}, eqB x y = true → x = y
  | .none, y, h => by cases y <;> first | rfl | (simp [eqB] at h; done)
  | .bool a, y, h => by cases y <;> simp [eqB] at h; subst h; rfl
  | .int a, y, h => by cases y <;> simp [eqB] at h; subst h; rfl
  | .str a, y, h => by cases y <;> simp [eqB] at h; subst h; rfl
  | .tuple a, y, h => by cases y <;> simp [eqB] at h; rw [eqBs_eq h]
  | .list _, y, h => by cases y <;> simp [eqB] at h
  | .dict _, y, h => by cases y <;> simp [eqB] at h
theorem eqBs_eq : ∀ {x y : List PyData}, eqBs x y = true → x = y
  | [], y, h => by cases y <;> first | rfl | (simp [eqBs] at h; done)
  | x :: xs, y, h => by
    cases y with
    | nil => simp [eqBs] at h
    | cons y ys =>
      simp [eqBs] at h
      rw [eqB_eq h.1, eqBs_eq h.2]
end
def visB (sc : Scope) (x : Str) : Bool := match sc.names.lookup x with
  | some .local => true
  | some .cell => true
  | some .free => true
  | _ => false
def locB (sc : Scope) (x : Str) : Bool := match sc.names.lookup x with
  | some .local => true
  | some .cell => true
  | _ => false
def isLoc (sc : Scope) (x : Str) : Bool := match sc.names.lookup x with
  | some .local => true
  | _ => false
def gloB (sc : Scope) (x : Str) : Bool := match sc.names.lookup x with
  | some .globalImplicit => !(x == ("__debug__" : Str))
  | _ => false
def blkF (scope : Scope) : Str → Bool := fun x => scope.names.lookup x == some .cell
def ownP (N : List Str) (own : List Nat) : List (Str × Nat) := own.map fun i => (N.getD i "", i)
def meName : Me → Str
  | .append => "append" | .insert => "insert" | .pop => "pop" | .index => "index" | .count => "count" | .clear => "clear" | .reverse => "reverse"
/-- the slots of a target -/
def tgS : IE → List Nat
  | .var i => [i]
  | .tup es => tgS es
  | .cons a r => tgS a ++ tgS r
  | _ => []
/-- a target of names -/
def chkG (fnB : Str → Bool) (sc : Scope) (N : List Str) : IE → Expr → Bool
  | .var i, .Name x _ => decide (N[i]? = some x) && locB sc x && (fnB x || isLoc sc x)
  | .tup es, .Tuple es' _ _ => chkGs fnB sc N es es'
  | _, _ => false
where chkGs (fnB : Str → Bool) (sc : Scope) (N : List Str) : IE → List Expr → Bool
  | .nil, [] => true
  | .cons a r, e :: es => chkG fnB sc N a e && chkGs fnB sc N r es
  | _, _ => false
/-- may it stand as a test? -/
def tstF : Expr → Bool
  | .IfExp .. => false
  | _ => true
def plainIx : Expr → Bool
  | .Slice .. => false
  | _ => true
def recvB : Expr → Bool
  | .Name .. => true
  | .Subscript .. => true
  | _ => false
def meB : Me → Bool → Bool
  | .append, b => !b
  | .insert, b => !b
  | .count, b => !b
  | .pop, _ => true
  | _, _ => false
/-- zip and enumerate want a written tuple as their target -/
def zipTg : IE → Expr → Bool
  | .zip .., .Tuple .. => true
  | .enum .., .Tuple .. => true
  | .zip .., _ => false
  | .enum .., _ => false
  | _, _ => true
def isMth : Bi → Bool
  | .gcd => true
  | .lcm => true
  | _ => false
def biG (G : Sg) (b : Bi) (x : Str) : Bool := if isMth b then decide (x ∈ G.mth) else decide (x ∈ G.bis)
def isNil : IE → Bool
  | .nil => true
  | _ => false
mutual
def chk (G : Sg) (N : List Str) (sc : Scope) : IE → Expr → Bool
  | .var i, .Name x _ => decide (N[i]? = some x) && visB sc x && !(x == ("__debug__" : Str)) && !(x == ("__classdict__" : Str))
  | .lit .none, .Constant .none _ _ => true
  | .lit (.bool a), .Constant (.bool b) _ _ => a == b
  | .lit (.int a), .Constant (.int b) _ _ => a == b
  | .lit (.str a), .Constant (.str b) _ _ => decide (a = b)
  | .glob x d, .Name y _ => decide (x = y) && gloB sc x && G.cns.any fun p => decide (p.1 = x) && eqB p.2 d
  | .bop _ o a b, .BinOp a' op b' _ => decide (opOf o = op) && chk G N sc a a' && chk G N sc b b'
  | .rep _ es k, .BinOp (.List es' _) op k' _ => decide (op = .Mult) && chks G N sc es es' && chk G N sc k k'
  | .neg a, .UnaryOp op a' _ => decide (op = .USub) && chk G N sc a a'
  | .not a, .UnaryOp op a' _ => decide (op = .Not) && tstF a' && chk G N sc a a'
  | .cmp o a b, .Compare a' [op] [b'] _ => decide (copOf o = op) && !behindInMarks op b' && chk G N sc a a' && chk G N sc b b'
  | .chain o p a b c, .Compare a' [op, op'] [b', c'] _ => decide (copOf o = op) && decide (copOf p = op') && !lastMarks [op, op'] [b', c'] && chk G N sc a a' && chk G N sc b b' && chk G N sc c c'
  | .and es, .BoolOp op es' _ => decide (op = .And) && chks G N sc es es' && es'.all tstF && !es'.isEmpty
  | .or es, .BoolOp op es' _ => decide (op = .Or) && chks G N sc es es' && es'.all tstF && !es'.isEmpty
  | .ite c a b, .IfExp c' a' b' _ => tstF c' && chk G N sc c c' && chk G N sc a a' && chk G N sc b b'
  | .tup es, .Tuple es' _ _ => chks G N sc es es'
  | .lst _ es, .List es' _ => chks G N sc es es'
  | .idx a i, .Subscript a' i' _ => plainIx i' && chk G N sc a a' && chk G N sc i i'
  | .sli _ a lo hi, .Subscript a' (.Slice lo' hi' none _) _ => chk G N sc a a' && chko G N sc lo lo' && chko G N sc hi hi'
  | .rev _ a, .Subscript a' (.Slice none none (some (.UnaryOp op (.Constant (.int k) _ _) _)) _) _ => decide (op = .USub) && decide (k = 1) && chk G N sc a a'
  | .bi _ b es, .Call (.Name x _) es' [] _ => decide (biName b = x) && gloB sc x && biG G b x && chks G N sc es es' && !es'.isEmpty
  | .isi a t, .Call (.Name x _) [a', .Name y _] [] _ => decide (x = "isinstance") && gloB sc x && decide (x ∈ G.bis) && decide (y = tyName t) && gloB sc y && decide (y ∈ G.bis) && chk G N sc a a'
  | .me f a es, .Call (.Attribute o n apos) es' [] cpos => decide (meName f = n) && recvB o && (apos.endLine == cpos.line) && decide (es'.length < 28) && chk G N sc a o && chks G N sc es es' && meB f es'.isEmpty
  | .call f es, .Call (.Name x _) es' [] _ => decide (G.fns[f]? = some x) && gloB sc x && chks G N sc es es' && !es'.isEmpty
  | .comp _ elt tg it cnd own, .ListComp elt' [⟨tg', it', ifs', 0⟩] scope _ => zipTg it tg' && chki G N sc it it' && blkC N sc scope (ownP N own) && chkG (blkF scope) (relS scope sc) N tg tg' && (tgS tg).all (fun i => decide (i ∈ own)) &&
      chkc G N (relS scope sc) cnd ifs' && chk G N (relS scope sc) elt elt'
  | .dic ks vs, .Dict ks' vs' _ => chkd G N sc vs ks ks' vs'
  | .callk f es ks nms perm, .Call (.Name x _) as kws _ => isNil es && as.isEmpty && decide (G.fns[f]? = some x) && gloB sc x && chkk G N sc ks kws && decide (kws.map (·.arg) = nms.map some) && decide ((x, nms, perm) ∈ G.kws) && !kws.isEmpty
  | .frz a, e => chk G N sc a e
  | .lrg _ a, .Call (.Name x _) [.Call (.Name y _) [a'] [] _] [] _ => decide (x = "list") && gloB sc x && decide (x ∈ G.bis) && decide (y = "range") && gloB sc y && decide (y ∈ G.bis) && chk G N sc a a'
  | _, _ => false
def chkd (G : Sg) (N : List Str) (sc : Scope) : IE → IE → List (Option Expr) → List Expr → Bool
  | .nil, .nil, [], [] => true
  | .cons v .nil, .cons (.lit (.str y)) .nil, [some (.Constant (.str z) _ _)], [w] => decide (y = z) && chk G N sc v w
  | _, _, _, _ => false
def chkk (G : Sg) (N : List Str) (sc : Scope) : IE → List Keyword → Bool
  | .nil, [] => true
  | .cons a r, ⟨_, e, _⟩ :: kws => chk G N sc a e && chkk G N sc r kws
  | _, _ => false
def chks (G : Sg) (N : List Str) (sc : Scope) : IE → List Expr → Bool
  | .nil, [] => true
  | .cons a r, e :: es => chk G N sc a e && chks G N sc r es
  | _, _ => false
def chko (G : Sg) (N : List Str) (sc : Scope) : IE → Option Expr → Bool
  | .nil, none => true
  | .cons a _, some e => chk G N sc a e
  | _, _ => false
def chkc (G : Sg) (N : List Str) (sc : Scope) : IE → List Expr → Bool
  | .nil, [] => true
  | .cons a _, [e] => tstF e && chk G N sc a e
  | _, _ => false
def chki (G : Sg) (N : List Str) (sc : Scope) : IE → Expr → Bool
  | .rng1 a, .Call (.Name x _) [a'] [] _ => decide (x = "range") && gloB sc x && decide (x ∈ G.bis) && chk G N sc a a'
  | .rng2 a b, .Call (.Name x _) [a', b'] [] _ => decide (x = "range") && gloB sc x && decide (x ∈ G.bis) && chk G N sc a a' && chk G N sc b b'
  | .zip a b, .Call (.Name x _) [a', b'] [] _ => decide (x = "zip") && gloB sc x && decide (x ∈ G.bis) && chk G N sc a a' && chk G N sc b b'
  | .enum a, .Call (.Name x _) [a'] [] _ => decide (x = "enumerate") && gloB sc x && decide (x ∈ G.bis) && chk G N sc a a'
  | .itv a, e => chk G N sc a e
  | _, _ => false
end
end SM

/-! SM: where one stands; how a run's end is handed on. -/
namespace SM
open PySem L2 PySem.Spec PyProof.Rows

/-- a def's promise, where nothing is being shown (repr) -/
structure FnG (P : Program) (w : World) (K : PySem.W.Frag) (mg : Str → Option Value) (base : Heap) (k : Nat) (f : Addr) (fd : FuncData) (ps : List Str) (sp : Sp) : Prop where
  len : ∀ vs H Q E, sp vs H Q E → vs.length = ps.length
  run : ∀ (A : Around) (outer : List Env) (s : Shared) (H : Hp) (args : Args) (us : List Value) (vs : List V) (Q : VK) (E : XK), Room k A → A.guards = some [] → Env0 P w K mg base A outer s H → BindsTo s fd args (ps.zip us) → Vals vs us → sp vs H Q E →
    codeAny (model P w) A (.call (.ref f) args) (CR (L2.CX P w) outer P w H s Q E) s
def spI (K : PySem.W.Frag) (cl : Nat → Value) (C : Cal) (f np : Nat) : Sp := fun xs H Q E => xs.length = np ∧ ∃ m s vs, RVs K m H vs xs ∧ RS K m H s ∧ Post K cl (RV K) E Q m H (C f vs s)
/-- a call by keywords, in this sequence -/
def KwB (fd : FuncData) (ps nms : List Str) (perm : List Nat) : Prop := ∀ (s : Shared) (us zs : List Value), us.length = nms.length → permL us perm = some zs → BindsTo s fd ⟨[], nms.zip us⟩ (ps.zip zs)
structure Cok (G : Sg) (N : List Str) (cl : Nat → Value) (C : Cal) (k : Nat) (fnB : Str → Bool) (sc : Scope) (W : WX) (X : Cx) : Prop where
  n : X.N = N
  sc : X.env.scope = sc
  fnB : X.fn = fnB
  calm : X.calm = true
  nd : N.Nodup
  tk : Takes X W
  gd : X.A.guards = some []
  rm : Room k X.A
  fn : ∀ (f : Nat) (x : Str), G.fns[f]? = some x → ∃ (a : Addr) (fd : FuncData) (ps : List Str), X.mg x = some (.ref a) ∧ PySem.W.keepIn X.K (.ref a) = true ∧ Binds X.K fd ps [] ∧ (∀ (vs : List Vl) (s : Sto), vs.length ≠ ps.length → C f vs s = .no) ∧ (∀ (nms : List Str) (perm : List Nat), (x, nms, perm) ∈ G.kws → KwB fd ps nms perm) ∧ FnG X.prog X.w X.K X.mg X.base k a fd ps (spI X.K cl C f ps.length)
  cn : ∀ (x : Str) (d : PyData), (x, d) ∈ G.cns → ∃ u v, X.mg x = some u ∧ L2.RelV v u ∧ ∀ m H, Rep X.K m H d v
  bi : ∀ x ∈ G.bis, X.mg x = none
  gc : ((("gcd" : Str) ∈ G.mth) → X.mg "gcd" = some (.builtin "math.gcd")) ∧ ((("lcm" : Str) ∈ G.mth) → X.mg "lcm" = some (.builtin "math.lcm"))

abbrev noW : WX := fun _ _ _ _ => False
theorem noW_takes (X : Cx) : Takes X noW := fun u s' x => by
  obtain ⟨_, _, _, _, _, _, _, _, _, _, _, _, _, _, _, _, w⟩ := x
  exact w.elim
section
variable {G : Sg} {N : List Str} {cl : Nat → Value} {C : Cal} {k : Nat} {fnB : Str → Bool} {sc : Scope} {W : WX} {X : Cx}
theorem Cok.blk (c : Cok G N cl C k fnB sc W X) (s : Shared) (H : Hp) (scope : Scope) (Ca : Addr) (cls : List (Str × Addr)) (fp : List Addr) :
    Cok G N cl C k (blkF scope) (relS scope sc) noW (X.blk s H scope (compEnvC scope cls Ca X.env) fp) where
  n := c.n
  sc := by rw [← c.sc]; rfl
  fnB := rfl
  calm := c.calm
  nd := c.nd
  tk := noW_takes _
  gd := c.gd
  rm := c.rm
  fn := c.fn
  cn := c.cn
  bi := c.bi
  gc := c.gc
theorem PE.weak {e : Expr} {t t' : TE} (h : PE X e t) (w : ∀ σ H Q, t' σ H Q → t σ H Q) : PE X e t' := ⟨fun pins s σ H Q I q => h.run pins s σ H Q I (w _ _ _ q)⟩
theorem PT.weak {e : Expr} {t t' : TT} (h : PT X e t) (w : ∀ σ H Q, t' σ H Q → t σ H Q) : PT X e t' := ⟨fun pins s σ H Q I q => h.run pins s σ H Q I (w _ _ _ q)⟩
theorem PW.weak {e : Expr} {t t' : TT} (h : PW X e t) (w : ∀ σ H Q, t' σ H Q → t σ H Q) : PW X e t' := ⟨fun wh pins s σ H Q I q => h.run wh pins s σ H Q I (w _ _ _ q)⟩
theorem PA.weak {e : List Expr} {t t' : TA} (h : PA X e t) (w : ∀ σ H Q, t' σ H Q → t σ H Q) : PA X e t' := ⟨fun pos pins s σ H Q I q => h.run pos pins s σ H Q I (w _ _ _ q)⟩
theorem PI.weak {tg e : Expr} {t t' : TI} (h : PI X tg e t) (w : ∀ σ H Q, t' σ H Q → t σ H Q) : PI X tg e t' := ⟨fun pins s σ H Q I q => h.run pins s σ H Q I (w _ _ _ q)⟩
theorem PO.weak {e : Option Expr} {t t' : TO} (h : PO X e t) (w : ∀ σ H Q, t' σ H Q → t σ H Q) : PO X e t' := ⟨fun pins s σ H Q I q => h.run pins s σ H Q I (w _ _ _ q)⟩
theorem PTs.weak {e : List Expr} {t t' : TT} (h : PTs X e t) (w : ∀ σ H Q, t' σ H Q → t σ H Q) : PTs X e t' := ⟨fun pins s σ H Q I q => h.run pins s σ H Q I (w _ _ _ q)⟩
end

/-! ### readings by runs -/
def At (K : PySem.W.Frag) (σ : L2.St) (H : Hp) (P : Mu → Sl → Sto → Prop) : Prop := ∃ m e s, RE K m H e σ ∧ RS K m H s ∧ P m e s
abbrev REq {α : Type} : Mu → Hp → α → α → Prop := fun _ _ a b => a = b
def evT (C : Cal) (c : IE) (e : Sl) (s : Sto) : Rs Bool := (ev C c e s).bind fun v s => ofO (isTrue? v) s
section
variable (K : PySem.W.Frag) (cl : Nat → Value) (C : Cal) (W : WX)
def tE (ie : IE) : TE := fun σ H Q => At K σ H fun m e s => Post K cl (RV K) (WE W σ) Q m H (ev C ie e s)
def tT (ie : IE) : TT := fun σ H Q => At K σ H fun m e s => Post K cl REq (WE W σ) Q m H (evT C ie e s)
def tA (ie : IE) : TA := fun σ H Q => At K σ H fun m e s => Post K cl (RVs K) (WE W σ) Q m H (evs C ie e s)
def tO (ie : IE) : TO := fun σ H Q => At K σ H fun m e s => Post K cl REq (WE W σ) Q m H (evo C ie e s)
def tC (ie : IE) : TT := fun σ H Q => At K σ H fun m e s => Post K cl REq (WE W σ) Q m H (tst C ie e s)
end
section
variable {K : PySem.W.Frag} {cl : Nat → Value} {C : Cal} {W : WX} {m : Mu} {H : Hp} {e : Sl} {σ : L2.St} {s : Sto} {α β : Type} {R' : Mu → Hp → α → β → Prop} {Q : β → Hp → Prop}
theorem post_k {γ δ : Type} {R : Mu → Hp → γ → δ → Prop} {E : XK} {f : γ → Sto → Rs α} {r : Rs γ} {T : δ → Hp → Prop} (h : Post K cl R' E Q m H (r.bind f))
    (k : ∀ x H1 m1 v s1, Ext m H m1 H1 → RS K m1 H1 s1 → R m1 H1 v x → Post K cl R' E Q m1 H1 (f v s1) → T x H1) : Post K cl R E T m H r :=
  h.bind.mono fun m' H' b _ ⟨m1, a, s1, x, rs, rv, p⟩ => k b H' m1 a s1 x rs rv p
theorem tE_k {ie : IE} {f : Vl → Sto → Rs α} {T : VK} (re : RE K m H e σ) (rs : RS K m H s) (h : Post K cl R' (WE W σ) Q m H ((ev C ie e s).bind f))
    (k : ∀ x H1 m1 v s1, RE K m1 H1 e σ → Ext m H m1 H1 → RS K m1 H1 s1 → RV K m1 H1 v x → Post K cl R' (WE W σ) Q m1 H1 (f v s1) → T x H1) : tE K cl C W ie σ H T :=
  ⟨m, e, s, re, rs, post_k h fun x H1 m1 v s1 x1 r1 rv p => k x H1 m1 v s1 (re.ext x1) x1 r1 rv p⟩
theorem tA_k {ie : IE} {f : List Vl → Sto → Rs α} {T : List V → Hp → Prop} (re : RE K m H e σ) (rs : RS K m H s) (h : Post K cl R' (WE W σ) Q m H ((evs C ie e s).bind f))
    (k : ∀ x H1 m1 v s1, RE K m1 H1 e σ → Ext m H m1 H1 → RS K m1 H1 s1 → RVs K m1 H1 v x → Post K cl R' (WE W σ) Q m1 H1 (f v s1) → T x H1) : tA K cl C W ie σ H T :=
  ⟨m, e, s, re, rs, post_k h fun x H1 m1 v s1 x1 r1 rv p => k x H1 m1 v s1 (re.ext x1) x1 r1 rv p⟩
theorem tO_k {ie : IE} {f : Option Int → Sto → Rs α} {T : Option Int → Hp → Prop} (re : RE K m H e σ) (rs : RS K m H s) (h : Post K cl R' (WE W σ) Q m H ((evo C ie e s).bind f))
    (k : ∀ x H1 m1 s1, RE K m1 H1 e σ → Ext m H m1 H1 → RS K m1 H1 s1 → Post K cl R' (WE W σ) Q m1 H1 (f x s1) → T x H1) : tO K cl C W ie σ H T :=
  ⟨m, e, s, re, rs, post_k h fun x H1 m1 v s1 x1 r1 rv p => by cases rv; exact k _ H1 m1 s1 (re.ext x1) x1 r1 p⟩
theorem tT_k {ie : IE} {f : Bool → Sto → Rs α} {T : Bool → Hp → Prop} (re : RE K m H e σ) (rs : RS K m H s) (h : Post K cl R' (WE W σ) Q m H ((evT C ie e s).bind f))
    (k : ∀ x H1 m1 s1, RE K m1 H1 e σ → Ext m H m1 H1 → RS K m1 H1 s1 → Post K cl R' (WE W σ) Q m1 H1 (f x s1) → T x H1) : tT K cl C W ie σ H T :=
  ⟨m, e, s, re, rs, post_k h fun x H1 m1 v s1 x1 r1 rv p => by cases rv; exact k _ H1 m1 s1 (re.ext x1) x1 r1 p⟩
theorem Post.no {R : Mu → Hp → α → β → Prop} {E : XK} (h : Post K cl R E Q m H .no) {P : Prop} : P := h.elim
theorem Post.ofO {R : Mu → Hp → α → β → Prop} {E : XK} {o : Option α} (h : Post K cl R E Q m H (ofO o s)) : ∃ a, o = some a ∧ Post K cl R E Q m H (.ok a s) := by
  cases o with
  | none => exact h.elim
  | some a => exact ⟨a, rfl, h⟩
/-- a value as it stands -/
theorem Post.here {R : Mu → Hp → α → β → Prop} {E : XK} {a : α} {b : β} (rs : RS K m H s) (r : R m H a b) (h : Post K cl R E Q m H (.ok a s)) : Q b H := h m H b Ext.refl rs r
theorem Rs.bind_assoc {γ : Type} {δ : Type} (r : Rs γ) (f : γ → Sto → Rs δ) (g : δ → Sto → Rs α) : (r.bind f).bind g = r.bind fun a s => (f a s).bind g := by
  cases r <;> rfl
theorem tT_e {ie : IE} {σ : L2.St} {H : Hp} {T : Bool → Hp → Prop} (h : tT K cl C W ie σ H T) : tE K cl C W ie σ H fun x H1 => ∃ c, x = .bl c ∧ T c H1 := by
  obtain ⟨m, e, s, re, rs, h⟩ := h
  refine tE_k re rs h fun x H1 m1 v s1 _ _ r1 rv p => ?_
  obtain ⟨b, q, p⟩ := p.ofO
  unfold isTrue? at q
  split at q
  · cases q
    exact ⟨_, rv, Post.here r1 rfl p⟩
  · cases q
end
section
variable {G : Sg} {N : List Str} {sc : Scope}
theorem chk_star {v : Expr} {p : Pos} : ∀ ie, chk G N sc ie (.Starred v p) = false := by
  intro ie
  induction ie with
  | frz a ih => exact ih
  | lit d => cases d <;> rfl
  | _ => rfl
theorem chk_set {a b p} : ∀ ie, chk G N sc ie (.Set a b p) = false := by
  intro ie
  induction ie with
  | frz a ih => exact ih
  | lit d => cases d <;> rfl
  | _ => rfl
theorem star_ok {ie : IE} {e : Expr} (h : chk G N sc ie e = true) (es : List Expr) (env : Env) : starEach (e :: es) env = (false, eval e env) :: starEach es env := by
  cases e <;> first | rfl | (rw [chk_star] at h; cases h)
theorem fold_ok {ie : IE} {e : Expr} (h : chk G N sc ie e = true) (env : Env) (x : Value) : foldedSetIterable e env x = pure x := by
  cases e <;> first | rfl | (rw [chk_set] at h; cases h)
theorem stars_ok {env : Env} : ∀ {ie : IE} {es : List Expr}, chks G N sc ie es = true → starEach es env = es.map fun e => (false, eval e env) := by
  intro ie
  induction ie with
  | cons a r _ ih =>
    intro es h
    cases es with
    | nil => rfl
    | cons e es =>
      simp only [chks, Bool.and_eq_true] at h
      rw [star_ok h.1, ih h.2]; rfl
  | nil =>
    intro es h
    cases es with
    | nil => rfl
    | cons e es => cases h
  | _ => intro es h; cases h
theorem noStars_map {env : Env} {pos : Pos} : ∀ es : List Expr, (backTo pos (es.map fun e => (false, eval e env))).any (·.1) = false
  | [] => rfl
  | a :: r => by
    have ih := noStars_map (env := env) (pos := pos) r
    unfold backTo at ih ⊢
    simp only [List.map_cons, List.any_cons, ih]
    rfl
theorem noStars {env : Env} {ie : IE} {es : List Expr} {pos : Pos} (h : chks G N sc ie es = true) : (backTo pos (starEach es env)).any (·.1) = false := by
  rw [stars_ok h]
  exact noStars_map es
end
end SM

set_option maxHeartbeats 1000000
/-! SM: expressions. -/
namespace SM
open PySem L2 PySem.Spec PyProof.Rows
section
variable {G : Sg} {N : List Str} {cl : Nat → Value} {C : Cal} {k : Nat}
/-- an expression's run is the model's -/
def OkE (G : Sg) (N : List Str) (cl : Nat → Value) (C : Cal) (k : Nat) (ie : IE) : Prop := ∀ {sc : Scope} {fnB : Str → Bool} {W : WX} {X : Cx}, Cok G N cl C k fnB sc W X → ∀ {x : Expr}, chk G N sc ie x = true → PE X x (tE X.K cl C W ie)
def OkT (G : Sg) (N : List Str) (cl : Nat → Value) (C : Cal) (k : Nat) (ie : IE) : Prop := ∀ {sc : Scope} {fnB : Str → Bool} {W : WX} {X : Cx}, Cok G N cl C k fnB sc W X → ∀ {x : Expr}, chk G N sc ie x = true → tstF x = true → PT X x (tT X.K cl C W ie)
def OkA (G : Sg) (N : List Str) (cl : Nat → Value) (C : Cal) (k : Nat) (ie : IE) : Prop := ∀ {sc : Scope} {fnB : Str → Bool} {W : WX} {X : Cx}, Cok G N cl C k fnB sc W X → ∀ {x : List Expr}, chks G N sc ie x = true → PA X x (tA X.K cl C W ie)
def OkK (G : Sg) (N : List Str) (cl : Nat → Value) (C : Cal) (k : Nat) (ie : IE) : Prop := ∀ {sc : Scope} {fnB : Str → Bool} {W : WX} {X : Cx}, Cok G N cl C k fnB sc W X → ∀ {x : List Keyword}, chkk G N sc ie x = true → PK X x (tA X.K cl C W ie)
def OkO (G : Sg) (N : List Str) (cl : Nat → Value) (C : Cal) (k : Nat) (ie : IE) : Prop := ∀ {sc : Scope} {fnB : Str → Bool} {W : WX} {X : Cx}, Cok G N cl C k fnB sc W X → ∀ {x : Option Expr}, chko G N sc ie x = true → PO X x (tO X.K cl C W ie)
def OkC (G : Sg) (N : List Str) (cl : Nat → Value) (C : Cal) (k : Nat) (ie : IE) : Prop := ∀ {sc : Scope} {fnB : Str → Bool} {W : WX} {X : Cx}, Cok G N cl C k fnB sc W X → ∀ {x : List Expr}, chkc G N sc ie x = true → PTs X x (SM.tC X.K cl C W ie)
def OkAnd (G : Sg) (N : List Str) (cl : Nat → Value) (C : Cal) (k : Nat) (ie : IE) : Prop := ∀ {sc : Scope} {fnB : Str → Bool} {W : WX} {X : Cx}, Cok G N cl C k fnB sc W X → ∀ {x : List Expr} {pos : Pos}, chks G N sc ie x = true → x.all tstF = true → x ≠ [] →
  PE X (.BoolOp .And x pos) (tE X.K cl C W (.and ie)) ∧ PW X (.BoolOp .And x pos) (tT X.K cl C W (.and ie))
def OkOr (G : Sg) (N : List Str) (cl : Nat → Value) (C : Cal) (k : Nat) (ie : IE) : Prop := ∀ {sc : Scope} {fnB : Str → Bool} {W : WX} {X : Cx}, Cok G N cl C k fnB sc W X → ∀ {x : List Expr} {pos : Pos}, chks G N sc ie x = true → x.all tstF = true → x ≠ [] →
  PE X (.BoolOp .Or x pos) (tE X.K cl C W (.or ie)) ∧ PW X (.BoolOp .Or x pos) (tT X.K cl C W (.or ie))

theorem visB_ok {sc : Scope} {x : Str} (h : visB sc x = true) : Vis sc x := by
  unfold visB at h
  split at h <;> first | (cases h; done) | skip
  · exact .inl (by assumption)
  · exact .inr (.inl (by assumption))
  · exact .inr (.inr (by assumption))
theorem gloB_ok {sc : Scope} {x : Str} (h : gloB sc x = true) : sc.names.lookup x = some .globalImplicit ∧ (x == ("__debug__" : Str)) = false := by
  unfold gloB at h
  split at h
  · refine ⟨by assumption, ?_⟩
    simpa using h
  · cases h
theorem Cok.gl {sc : Scope} {fnB : Str → Bool} {W : WX} {X : Cx} (c : Cok G N cl C k fnB sc W X) {x : Str} (h : gloB sc x = true) : Gl X x := by
  show X.env.scope.names.lookup x = _
  rw [c.sc]; exact (gloB_ok h).1
/-- a value that tests: it is no and, or, not, comparison -/
def plainT : Expr → Bool
  | .UnaryOp .Not _ _ => false
  | .BoolOp .. => false
  | .IfExp .. => false
  | .Compare .. => false
  | _ => true
theorem pt_plain {W : WX} {X : Cx} {x : Expr} {ie : IE} (h : PE X x (tE X.K cl C W ie)) (p : plainT x = true) : PT X x (tT X.K cl C W ie) := by
  refine PT.weak (pt_val h fun whole => ?_) fun σ H Q q => tT_e q
  cases x <;> first | rfl | (cases p; done) | skip
  rename_i op _ _
  cases op <;> first | rfl | (cases p; done)

theorem snd_var {i : Nat} : OkE G N cl C k (.var i) := by
  intro sc fnB W X c x h
  cases x <;> first | (cases h; done) | skip
  rename_i y pos
  simp only [chk, Bool.and_eq_true, decide_eq_true_eq, Bool.not_eq_true'] at h
  obtain ⟨⟨⟨h1, h2⟩, h3⟩, h4⟩ := h
  refine PE.weak (pe_var (i := i) (by rw [c.n]; exact h1) (by rw [c.sc]; exact visB_ok h2) h3 h4) fun σ H Q ⟨m, e, s, re, rs, h⟩ => ?_
  simp only [ev] at h
  split at h
  · rename_i v q
    obtain ⟨x, q1, q2⟩ := re.at_ i v q
    exact ⟨x, q1, Post.here rs q2 h⟩
  · exact h.no
theorem snd_lit {d : PyData} : OkE G N cl C k (.lit d) := by
  intro sc fnB W X c x h
  cases x <;> first | (cases d <;> cases h; done) | skip
  rename_i a j pos
  cases d <;> cases a <;> first | (cases h; done) | skip
  · exact PE.weak pe_non fun σ H Q ⟨m, e, s, re, rs, h⟩ => Post.here rs (a := Vl.d .none) rfl h
  · have e := beq_iff_eq.mp h
    subst e
    exact PE.weak pe_bl fun σ H Q ⟨m, e, s, re, rs, h⟩ => Post.here rs (a := Vl.d (.bool _)) rfl h
  · have e := beq_iff_eq.mp h
    subst e
    exact PE.weak pe_int fun σ H Q ⟨m, e, s, re, rs, h⟩ => Post.here rs (a := Vl.d (.int _)) rfl h
  · have e := of_decide_eq_true h
    subst e
    exact PE.weak pe_str fun σ H Q ⟨m, e, s, re, rs, h⟩ => Post.here rs (a := Vl.d (.str _)) rfl h
theorem snd_glob {y : Str} {d : PyData} : OkE G N cl C k (.glob y d) := by
  intro sc fnB W X c x h
  cases x <;> first | (cases h; done) | skip
  rename_i z pos
  simp only [chk, Bool.and_eq_true, decide_eq_true_eq, List.any_eq_true] at h
  obtain ⟨⟨e, h2⟩, p, h3, e1, h4⟩ := h
  subst e
  obtain ⟨p1, p2⟩ := p
  have e1 : p1 = y := e1
  have e2 : p2 = d := eqB_eq h4
  subst e1; subst e2
  obtain ⟨u, v, q1, q2, q3⟩ := c.cn _ _ h3
  exact PE.weak (pe_glob (c.gl h2) q1 q2 (gloB_ok h2).2) fun σ H Q ⟨m, e, s, re, rs, h⟩ => Post.here rs (a := Vl.d p2) (q3 m H) h
theorem snd_bop {mf : Bool} {o : BOp} {a b : IE} (ha : OkE G N cl C k a) (hb : OkE G N cl C k b) : OkE G N cl C k (.bop mf o a b) := by
  intro sc fnB W X c x h
  cases x <;> first | (cases h; done) | skip
  simp only [chk, Bool.and_eq_true, decide_eq_true_eq] at h
  obtain ⟨⟨e, h1⟩, h2⟩ := h
  subst e
  refine PE.weak (pe_op (bin_ok mf o) (ha c h1) (hb c h2)) fun σ H Q ⟨m, e, s, re, rs, h⟩ => ?_
  exact tE_k re rs h fun x H1 m1 v s1 re1 _ rs1 rv1 h1 => tE_k re1 rs1 h1 fun y H2 m2 w s2 _ x2 rs2 rv2 h2 => ⟨m2, s2, v, w, rv1.ext x2, rv2, rs2, h2.pure⟩
theorem snd_neg {a : IE} (ha : OkE G N cl C k a) : OkE G N cl C k (.neg a) := by
  intro sc fnB W X c x h
  cases x <;> first | (cases h; done) | skip
  simp only [chk, Bool.and_eq_true, decide_eq_true_eq] at h
  obtain ⟨e, h1⟩ := h
  subst e
  refine PE.weak (pe_un un_neg (ha c h1)) fun σ H Q ⟨m, e, s, re, rs, h⟩ => ?_
  refine tE_k re rs h fun x H1 m1 v s1 re1 _ rs1 rv1 h1 => ?_
  split at h1
  · exact ⟨_, rv1, Post.here rs1 (a := Vl.d (.int _)) rfl h1⟩
  · exact h1.no
theorem snd_not {a : IE} (ha : OkE G N cl C k a) (ht : OkT G N cl C k a) : OkE G N cl C k (.not a) ∧ OkT G N cl C k (.not a) := by
  refine ⟨fun {sc fnB W X} c {x} h => ?_, fun {sc fnB W X} c {x} h _ => ?_⟩
  · cases x <;> first | (cases h; done) | skip
    simp only [chk, Bool.and_eq_true, decide_eq_true_eq] at h
    obtain ⟨⟨e, ht⟩, h1⟩ := h
    subst e
    refine PE.weak (pe_not (ha c h1)) fun σ H Q ⟨m, e, s, re, rs, h⟩ => ?_
    refine tE_k re rs h fun x H1 m1 v s1 re1 _ rs1 rv1 h1 => ?_
    unfold isTrue? at h1
    split at h1
    · rename_i b q
      split at q
      · cases q
        exact ⟨b, rv1, Post.here rs1 (a := Vl.d (.bool _)) rfl h1⟩
      · cases q
    · exact h1.no
  · cases x <;> first | (cases h; done) | skip
    simp only [chk, Bool.and_eq_true, decide_eq_true_eq] at h
    obtain ⟨⟨e, h0⟩, h1⟩ := h
    subst e
    refine PT.weak (pt_not (ht c h1 h0)) fun σ H Q ⟨m, e, s, re, rs, h⟩ => ?_
    refine tT_k (ie := a) (f := fun b s => .ok (!b) s) re rs ?_ fun x H1 m1 s1 _ _ rs1 p => Post.here rs1 rfl p
    simp only [evT, ev, Rs.bind_assoc] at h ⊢
    refine Eq.mp ?_ h
    congr 1
    congr 1
    funext v s
    unfold isTrue?
    split <;> simp_all [Rs.bind, ofO, isTrue?]
theorem snd_cmp {o : COp} {a b : IE} (ha : OkE G N cl C k a) (hb : OkE G N cl C k b) : OkE G N cl C k (.cmp o a b) ∧ OkT G N cl C k (.cmp o a b) := by
  refine ⟨fun {sc fnB W X} c {x} h => ?_, fun {sc fnB W X} c {x} h h9 => ?_⟩
  · cases x <;> first | (cases h; done) | skip
    rename_i l ops cs pos
    cases ops with
    | nil => cases h
    | cons op ops =>
    cases ops with
    | cons _ _ => cases h
    | nil =>
    cases cs with
    | nil => cases h
    | cons r cs =>
    cases cs with
    | cons _ _ => cases h
    | nil =>
    simp only [chk, Bool.and_eq_true, decide_eq_true_eq, Bool.not_eq_true'] at h
    obtain ⟨⟨⟨e, h0⟩, h1⟩, h2⟩ := h
    subst e
    refine PE.weak (pe_cmpR (cmp_ok (by have := c.rm.un; omega) o) (ha c h1) (hb c h2) h0) fun σ H Q ⟨m, e, s, re, rs, h⟩ => ?_
    refine tE_k re rs h fun x H1 m1 v s1 re1 _ rs1 rv1 h1 => tE_k re1 rs1 h1 fun y H2 m2 w s2 _ x2 rs2 rv2 h2 => ?_
    obtain ⟨a, q, p⟩ := h2.ofO
    obtain ⟨b, q1, rfl⟩ := omap q
    exact ⟨m2, s2, v, w, b, rv1.ext x2, rv2, rs2, q1, Post.here rs2 (a := Vl.d (.bool b)) rfl p⟩
  · clear h9
    cases x <;> first | (cases h; done) | skip
    rename_i l ops cs pos
    cases ops with
    | nil => cases h
    | cons op ops =>
    cases ops with
    | cons _ _ => cases h
    | nil =>
    cases cs with
    | nil => cases h
    | cons r cs =>
    cases cs with
    | cons _ _ => cases h
    | nil =>
    simp only [chk, Bool.and_eq_true, decide_eq_true_eq, Bool.not_eq_true'] at h
    obtain ⟨⟨⟨e, h0⟩, h1⟩, h2⟩ := h
    subst e
    refine PT.weak (pt_cmpR (cmp_ok (by have := c.rm.un; omega) o) (ha c h1) (hb c h2) h0) fun σ H Q ⟨m, e, s, re, rs, h⟩ => ?_
    simp only [evT, ev, Rs.bind_assoc] at h
    refine tE_k re rs h fun x H1 m1 v s1 re1 _ rs1 rv1 h1 => tE_k re1 rs1 h1 fun y H2 m2 w s2 _ x2 rs2 rv2 h2 => ?_
    cases q1 : cmpV o v w s2 with
    | none => rw [q1] at h2; exact h2.elim
    | some b =>
      rw [q1] at h2
      exact ⟨m2, s2, v, w, b, rv1.ext x2, rv2, rs2, q1, b, rfl, Post.here rs2 rfl h2⟩
theorem snd_chain {o p : COp} {a b c' : IE} (ha : OkE G N cl C k a) (hb : OkE G N cl C k b) (hc : OkE G N cl C k c') : OkE G N cl C k (.chain o p a b c') ∧ OkT G N cl C k (.chain o p a b c') := by
  have main : ∀ {sc : Scope} {fnB : Str → Bool} {W : WX} {X : Cx}, Cok G N cl C k fnB sc W X → ∀ {x : Expr}, chk G N sc (.chain o p a b c') x = true → PE X x (tE X.K cl C W (.chain o p a b c')) ∧ PT X x (tTest (tE X.K cl C W (.chain o p a b c'))) := by
    intro sc fnB W X c x h
    cases x <;> first | (cases h; done) | skip
    rename_i l ops cs pos
    cases ops with
    | nil => cases h
    | cons op ops =>
    cases ops with
    | nil => cases h
    | cons op' ops =>
    cases ops with
    | cons _ _ => cases h
    | nil =>
    cases cs with
    | nil => cases h
    | cons r cs =>
    cases cs with
    | nil => cases h
    | cons r' cs =>
    cases cs with
    | cons _ _ => cases h
    | nil =>
    simp only [chk, Bool.and_eq_true, decide_eq_true_eq, Bool.not_eq_true'] at h
    obtain ⟨⟨⟨⟨⟨e, e'⟩, h0⟩, h1⟩, h2⟩, h3⟩ := h
    subst e
    subst e'
    have hu : X.A.units + 65 < cLine := by have := c.rm.un; omega
    have w : ∀ σ H Q, tE X.K cl C W (.chain o p a b c') σ H Q → tChain (rCmp X.K o) (rCmp X.K p) (tE X.K cl C W a) (tE X.K cl C W b) (tE X.K cl C W c') σ H Q := fun σ H Q ⟨m, e, s, re, rs, h⟩ => by
      refine tE_k re rs h fun x H1 m1 v s1 re1 _ rs1 rv1 h1 => tE_k re1 rs1 h1 fun y H2 m2 w s2 re2 x2 rs2 rv2 h2 => ?_
      cases q1 : cmpV o v w s2 with
      | none => rw [q1] at h2; exact h2.elim
      | some b1 =>
        rw [q1] at h2
        refine ⟨m2, s2, v, w, b1, rv1.ext x2, rv2, rs2, q1, b1, rfl, ?_⟩
        cases b1 with
        | false =>
          rw [if_neg Bool.false_ne_true]
          exact Post.here rs2 (a := Vl.d (.bool false)) rfl h2
        | true =>
          rw [if_pos rfl]
          refine tE_k re2 rs2 h2 fun z H3 m3 u s3 re3 x3 rs3 rv3 h3 => ?_
          obtain ⟨a, q, p⟩ := h3.ofO
          obtain ⟨b, q1, rfl⟩ := omap q
          exact ⟨m3, s3, w, u, b, rv2.ext x3, rv3, rs3, q1, Post.here rs3 (a := Vl.d (.bool b)) rfl p⟩
    exact ⟨PE.weak (pe_chain (cmp_ok hu o) (cmp_ok hu p) (ha c h1) (hb c h2) (hc c h3) h0) w, PT.weak (pt_chain (cmp_ok hu o) (cmp_ok hu p) (ha c h1) (hb c h2) (hc c h3) h0) fun σ H Q h => w σ H _ h⟩
  exact ⟨fun {sc fnB W X} c {x} h => (main c h).1, fun {sc fnB W X} c {x} h _ => PT.weak (main c h).2 fun σ H Q h => tT_e h⟩
theorem snd_ite {c' a b : IE} (ht : OkT G N cl C k c') (ha : OkE G N cl C k a) (hb : OkE G N cl C k b) : OkE G N cl C k (.ite c' a b) := by
  intro sc fnB W X c x h
  cases x <;> first | (cases h; done) | skip
  simp only [chk, Bool.and_eq_true] at h
  obtain ⟨⟨⟨h0, h1⟩, h2⟩, h3⟩ := h
  refine PE.weak (pe_ifExp (ht c h1 h0) (ha c h2) (hb c h3)) fun σ H Q ⟨m, e, s, re, rs, h⟩ => ?_
  refine tT_k (R' := RV X.K) (Q := Q) (ie := c') (f := fun b' s => if b' = true then ev C a e s else ev C b e s) re rs ?_ fun x H1 m1 s1 re1 _ rs1 p => ?_
  · simp only [evT, ev, Rs.bind_assoc] at h ⊢
    refine Eq.mp ?_ h
    congr 1
    congr 1
    funext v s
    unfold isTrue?
    split <;> simp_all [Rs.bind, ofO, isTrue?]
  · cases x with
    | true => simp only [if_true] at p ⊢; exact ⟨m1, e, s1, re1, rs1, p⟩
    | false => simp only [Bool.false_eq_true, if_false] at p ⊢; exact ⟨m1, e, s1, re1, rs1, p⟩
theorem snd_nil : OkA G N cl C k .nil := by
  intro sc fnB W X c x h
  cases x <;> first | (cases h; done) | skip
  exact PA.weak pa_nil fun σ H Q ⟨m, e, s, re, rs, h⟩ => Post.here rs (a := ([] : List Vl)) rfl h
theorem snd_cons {a r : IE} (ha : OkE G N cl C k a) (hr : OkA G N cl C k r) : OkA G N cl C k (.cons a r) := by
  intro sc fnB W X c x h
  cases x <;> first | (cases h; done) | skip
  simp only [chks, Bool.and_eq_true] at h
  refine PA.weak (pa_cons (ha c h.1) (hr c h.2) (star_ok h.1 _ _)) fun σ H Q ⟨m, e, s, re, rs, h⟩ => ?_
  refine tE_k re rs h fun x H1 m1 v s1 re1 _ rs1 rv1 h1 => tA_k re1 rs1 h1 fun y H2 m2 w s2 _ x2 rs2 rv2 h2 => ?_
  exact Post.here rs2 ⟨x, y, rfl, rv1.ext x2, rv2⟩ h2
theorem snd_tup {es : IE} (hs : OkA G N cl C k es) : OkE G N cl C k (.tup es) := by
  intro sc fnB W X c x h
  cases x <;> first | (cases h; done) | skip
  simp only [chk] at h
  refine PE.weak (pe_tup (hs c h)) fun σ H Q ⟨m, e, s, re, rs, h⟩ => ?_
  refine tA_k re rs h fun x H1 m1 v s1 re1 _ rs1 rv1 h1 => ?_
  split at h1
  · rename_i hz
    obtain ⟨a, q, p⟩ := h1.ofO
    obtain ⟨ds, q1, rfl⟩ := omap q
    exact ⟨by rw [← rv1.length, sizeLine_eq]; exact hz, fun p' hp => tup_new rs1 (rv1.reps q1) hp p⟩
  · exact h1.no
theorem snd_lst {mf : Bool} {es : IE} (hs : OkA G N cl C k es) : OkE G N cl C k (.lst mf es) := by
  intro sc fnB W X c x h
  cases x <;> first | (cases h; done) | skip
  simp only [chk] at h
  refine PE.weak (pe_lst (hs c h)) fun σ H Q ⟨m, e, s, re, rs, h⟩ => ?_
  refine tA_k re rs h fun x H1 m1 v s1 re1 _ rs1 rv1 h1 => ?_
  have p := h1.pure
  exact ⟨by rw [← rv1.length]; exact mkL_len p, fun p' hp => mkL_new rs1 rv1 hp p⟩
theorem snd_rep {mf : Bool} {es k' : IE} (hs : OkA G N cl C k es) (hk : OkE G N cl C k k') : OkE G N cl C k (.rep mf es k') := by
  intro sc fnB W X c x h
  cases x <;> first | (cases h; done) | skip
  rename_i l op r pos
  cases l <;> first | (cases h; done) | skip
  simp only [chk, Bool.and_eq_true, decide_eq_true_eq] at h
  obtain ⟨⟨e, h1⟩, h2⟩ := h
  subst e
  refine PE.weak (pe_op op_rep (pe_lst (hs c h1)) (hk c h2)) fun σ H Q ⟨m, e, s, re, rs, h⟩ => ?_
  refine tA_k re rs h fun x H1 m1 v s1 re1 _ rs1 rv1 h1 => ?_
  split at h1
  · rename_i hz
    refine ⟨by rw [← rv1.length, sizeLine_eq]; omega, fun p' hp => ?_⟩
    have x1 : Ext m1 H1 m1 (upd H1 p' (.lst x)) := Ext.new hp
    refine tE_k (re1.ext x1) (rs1.new hp) (h1.ext x1) fun y H2 m2 w s2 _ x2 rs2 rv2 h2 => ?_
    split at h2
    · rename_i j
      split at h2
      · rename_i hj
        obtain ⟨g1, g2⟩ := x2.keep p' _ upd_same (rs1.fresh hp)
        refine ⟨p', j, x, rfl, rv2, g1, by omega, by omega, ?_, fun q hq => mkL_new rs2 (RVs.rep j.toNat ((rv1.ext x1).ext x2)) hq h2.pure⟩
        rw [← rv1.length, sizeLine_eq]
        have : v.length * j.toNat ≤ 1000 * 1000 := Nat.mul_le_mul hz (by omega)
        omega
      · exact h2.no
    · exact h2.no
  · exact h1.no
theorem plainIx_ok {b : Expr} (h : plainIx b = true) : PlainIx b := by
  intro o i
  cases b <;> first | rfl | (cases h; done)
theorem snd_idx {a i : IE} (ha : OkE G N cl C k a) (hi : OkE G N cl C k i) : OkE G N cl C k (.idx a i) := by
  intro sc fnB W X c x h
  cases x <;> first | (cases h; done) | skip
  simp only [chk, Bool.and_eq_true] at h
  obtain ⟨⟨h0, h1⟩, h2⟩ := h
  refine PE.weak (pe_ix ix_ok (ha c h1) (hi c h2) (plainIx_ok h0)) fun σ H Q ⟨m, e, s, re, rs, h⟩ => ?_
  exact tE_k re rs h fun x H1 m1 v s1 re1 _ rs1 rv1 h1 => tE_k re1 rs1 h1 fun y H2 m2 w s2 _ x2 rs2 rv2 h2 => ⟨m2, s2, v, w, rv1.ext x2, rv2, rs2, h2.pure⟩
theorem snd_o {a r : IE} (ha : OkE G N cl C k a) : OkO G N cl C k (.cons a r) := by
  intro sc fnB W X c x h
  cases x with
  | none => cases h
  | some x =>
  refine PO.weak (po_some (ha c (x := x) h)) fun σ H Q ⟨m, e, s, re, rs, h⟩ => ?_
  refine tE_k re rs h fun x H1 m1 v s1 re1 _ rs1 rv1 h1 => ?_
  obtain ⟨o, q, p⟩ := h1.ofO
  obtain ⟨j, q1, rfl⟩ := omap q
  unfold optI at q1
  split at q1
  · cases q1
    exact ⟨_, rv1, Post.here rs1 rfl p⟩
  · cases q1
theorem snd_onil : OkO G N cl C k .nil := by
  intro sc fnB W X c x h
  cases x with
  | some x => cases h
  | none => exact PO.weak po_none fun σ H Q ⟨m, e, s, re, rs, h⟩ => Post.here rs (a := (none : Option Int)) rfl h
theorem snd_sli {mf : Bool} {a lo hi : IE} (ha : OkE G N cl C k a) (hl : OkO G N cl C k lo) (hh : OkO G N cl C k hi) : OkE G N cl C k (.sli mf a lo hi) := by
  intro sc fnB W X c x h
  cases x <;> first | (cases h; done) | skip
  rename_i b sl pos
  cases sl <;> first | (cases h; done) | skip
  rename_i l u st p2
  cases st <;> first | (cases h; done) | skip
  simp only [chk, Bool.and_eq_true] at h
  obtain ⟨⟨h0, h1⟩, h2⟩ := h
  refine PE.weak (pe_slice (sl_ok mf) (ha c h0) (hl c h1) (hh c h2)) fun σ H Q ⟨m, e, s, re, rs, h⟩ => ?_
  exact tE_k re rs h fun x H1 m1 v s1 re1 _ rs1 rv1 h1 => tO_k re1 rs1 h1 fun l H2 m2 s2 re2 x2 rs2 h2 => tO_k re2 rs2 h2 fun u H3 m3 s3 _ x3 rs3 h3 => ⟨m3, s3, v, (rv1.ext x2).ext x3, rs3, h3.pure⟩
end
end SM

set_option maxHeartbeats 1000000
/-! SM: calls. -/
namespace SM
open PySem L2 PySem.Spec PyProof.Rows
section
variable {G : Sg} {N : List Str} {cl : Nat → Value} {C : Cal} {k : Nat}
theorem snd_rev {mf : Bool} {a : IE} (ha : OkE G N cl C k a) : OkE G N cl C k (.rev mf a) := by
  intro sc fnB W X c x h
  cases x <;> first | (cases h; done) | skip
  rename_i b sl pos
  cases sl <;> first | (cases h; done) | skip
  rename_i l u st p2
  cases l <;> first | (cases h; done) | skip
  cases u <;> first | (cases h; done) | skip
  cases st <;> first | (cases h; done) | skip
  rename_i st
  cases st <;> first | (cases h; done) | skip
  rename_i op w p3
  cases w <;> first | (cases h; done) | skip
  rename_i w j p4
  cases w <;> first | (cases h; done) | skip
  simp only [chk, Bool.and_eq_true, decide_eq_true_eq] at h
  obtain ⟨⟨e1, e2⟩, h0⟩ := h
  subst e1
  subst e2
  refine PE.weak (pe_back (ha c h0)) fun σ H Q ⟨m, e, s, re, rs, h⟩ => ?_
  refine tE_k re rs h fun x H1 m1 v s1 re1 _ rs1 rv1 h1 => ?_
  have p := h1.pure
  unfold revV at p
  split at p
  · rename_i xs
    obtain ⟨a, ws, e, g1, g2⟩ := rv1
    refine ⟨a, ws, e, .inl ⟨g1.sq, fun q hq => mkL_new rs1 ?_ hq p⟩⟩
    have := g2.rvs.rev
    rw [← List.map_reverse] at this
    exact this
  · rename_i xs
    obtain ⟨a, ws, e, g1, g2⟩ := rv1
    refine ⟨a, ws, e, .inr ⟨g1.sq, fun q hq => tup_new rs1 ?_ hq p⟩⟩
    have g3 := g2.rvs.rev
    rw [← List.map_reverse] at g3
    exact g3.reps (allD_map _)
  · rename_i n
    obtain ⟨vs, q, p⟩ := postP_bind p
    obtain ⟨a, ws, e, _, g1, g2⟩ := rs1.get q rv1
    exact ⟨a, ws, e, .inl ⟨SqL.of g1, fun q hq => mkL_new rs1 g2.rev hq p⟩⟩
  · exact p.elim
theorem bi_ok {mf : Bool} {X : Cx} (hc : X.calm = true) (hg : X.A.guards = some []) (hu : X.A.units + 200 < cLine) : (b : Bi) → BiOk X mf b
  | .len => bi_len
  | .abs => bi_abs
  | .int => bi_int
  | .gcd => bi_gcd
  | .lcm => bi_lcm
  | .max => bi_max hc
  | .min => bi_min hc
  | .sum => bi_sum hc
  | .all => bi_all hc
  | .any => bi_any hc
  | .tuple => bi_tuple
  | .list => bi_list
  | .repr => bi_repr hg hu
  | .str => bi_str
  | .sorted => bi_sorted
def isTyB : Bi → Bool
  | .int => true | .tuple => true | .list => true | .str => true | _ => false
theorem boot_bi (b : Bi) (h1 : b ≠ .gcd) (h2 : b ≠ .lcm) : bootBuiltins (biName b) = some (biVal b) := by
  cases b <;> first | exact absurd rfl h1 | exact absurd rfl h2 | decide +kernel
theorem bi_nn (b : Bi) : biName b ≠ "__name__" := by cases b <;> decide +kernel
theorem Cok.units {fnB : Str → Bool} {sc : Scope} {W : WX} {X : Cx} (c : Cok G N cl C k fnB sc W X) : X.A.units + 200 < cLine := by have := c.rm.un; omega
theorem snd_bi {mf : Bool} {b : Bi} {es : IE} (hs : OkA G N cl C k es) : OkE G N cl C k (.bi mf b es) := by
  intro sc fnB W X c x h
  cases x <;> first | (cases h; done) | skip
  rename_i f as ks pos
  cases f <;> first | (cases h; done) | skip
  rename_i y p
  cases ks <;> first | (cases h; done) | skip
  cases as with
  | nil => simp only [chk, Bool.and_eq_true, List.isEmpty_nil, Bool.not_true] at h; exact absurd h.2 Bool.false_ne_true
  | cons a as =>
  simp only [chk, Bool.and_eq_true, decide_eq_true_eq] at h
  obtain ⟨⟨⟨⟨e, h1⟩, h2⟩, h3⟩, _⟩ := h
  subst e
  have hR := bi_ok (mf := mf) c.calm c.gd c.units b
  cases es <;> first | (simp only [chks] at h3; exact absurd h3 Bool.false_ne_true) | skip
  rename_i ia ir
  have h4 : chk G N sc ia a = true ∧ chks G N sc ir as = true := by simpa only [chks, Bool.and_eq_true] using h3
  have hst := star_ok h4.1 as X.env
  have hpl : (backTo pos (starEach as X.env)).any (·.1) = false := noStars h4.2
  have w : ∀ σ H Q, tE X.K cl C W (.bi mf b (.cons ia ir)) σ H Q → tCB (rFn X.K (biV mf b)) (tA X.K cl C W (.cons ia ir)) σ H Q := fun σ H Q ⟨m, e, s, re, rs, h⟩ =>
    tA_k re rs h fun x H1 m1 v s1 _ _ rs1 rv1 h1 => ⟨m1, s1, v, rv1, rs1, h1.pure⟩
  cases hm : isMth b with
  | true =>
    have hmt : biName b ∈ G.mth := by
      unfold biG at h2
      rw [hm] at h2
      simpa using h2
    cases b <;> first | (cases hm; done) | skip
    · exact PE.weak (pe_callBfun hR (c.gl h1) (c.gc.1 hmt) (hs c h3) (gloB_ok h1).2 hst hpl) w
    · exact PE.weak (pe_callBfun hR (c.gl h1) (c.gc.2 hmt) (hs c h3) (gloB_ok h1).2 hst hpl) w
  | false =>
    have n1 : b ≠ .gcd := fun z => by subst z; cases hm
    have n2 : b ≠ .lcm := fun z => by subst z; cases hm
    have hin : biName b ∈ G.bis := by
      unfold biG at h2
      rw [hm] at h2
      simpa using h2
    have hb := boot_bi b n1 n2
    have hn := bi_nn b
    have hd := (gloB_ok h1).2
    have hg := c.gl h1
    have hmg := c.bi _ hin
    have hA := hs c h3
    cases b <;> first | exact absurd rfl n1 | exact absurd rfl n2 | exact PE.weak (pe_callB hR hg hmg hb hA hn hd hst hpl) w | exact PE.weak (pe_callTy hR hg hmg hb hA hn hd hst hpl) w
theorem boot_ty (t : Ty) : bootBuiltins (tyName t) = some (.type (tyName t)) := by cases t <;> decide +kernel
theorem ty_nn (t : Ty) : (tyName t : Str) ≠ "__name__" := by cases t <;> decide +kernel
theorem snd_isi {a : IE} {t : Ty} (ha : OkE G N cl C k a) : OkE G N cl C k (.isi a t) := by
  intro sc fnB W X c x h
  cases x <;> first | (cases h; done) | skip
  rename_i f as ks pos
  cases f <;> first | (cases h; done) | skip
  rename_i y p
  cases as with
  | nil => cases ks <;> cases h
  | cons a1 as =>
  cases as with
  | nil => cases ks <;> cases h
  | cons a2 as =>
  cases as with
  | cons _ _ => cases a2 <;> cases ks <;> cases h
  | nil =>
  cases a2 <;> first | (cases h; done) | skip
  rename_i z p2
  cases ks <;> first | (cases h; done) | skip
  simp only [chk, Bool.and_eq_true, decide_eq_true_eq] at h
  obtain ⟨⟨⟨⟨⟨⟨e1, h1⟩, h2⟩, e2⟩, h3⟩, h4⟩, h5⟩ := h
  subst e1
  subst e2
  have hA := pa_cons (ha c h5) (pa_cons (pe_bltn (v := .ty (tyName t)) (pos := p2) (c.gl h3) (c.bi _ h4) (boot_ty t) rfl (ty_nn t) (gloB_ok h3).2) pa_nil) (star_ok h5 _ X.env)
  refine PE.weak (pe_callB (is_ok t) (c.gl h1) (c.bi _ h2) (by decide +kernel) hA (by decide +kernel) (gloB_ok h1).2 (star_ok h5 _ X.env) (by rfl)) fun σ H Q ⟨m, e, s, re, rs, h⟩ => ?_
  refine tE_k re rs h fun x H1 m1 v s1 re1 _ rs1 rv1 h1 => ?_
  obtain ⟨a, q, p⟩ := h1.ofO
  obtain ⟨b, q1, rfl⟩ := omap q
  exact ⟨m1, s1, v, x, rfl, rv1, rs1, b, q1, Post.here rs1 (a := Vl.d (.bool b)) rfl p⟩
def meId : Me → String
  | .append => "list.append" | .insert => "list.insert" | .pop => "list.pop" | .count => "list.count" | .index => "" | .clear => "" | .reverse => ""
theorem me_ok {X : Cx} (f : Me) (h : meId f ≠ "") : MtR X (meId f) (rMe X.K (meV f)) := by
  cases f
  · exact me_append
  · exact me_insert
  · exact me_pop
  · exact absurd rfl h
  · exact me_count
  · exact absurd rfl h
  · exact absurd rfl h
theorem recv_base {o : Expr} (h : recvB o = true) (name : Str) (env : Env) : attributeBase o name env (eval o env) = eval o env := by
  cases o <;> first | rfl | (cases h; done)
theorem few_ok {env : Env} {cpos : Pos} {ie : IE} {es : List Expr} (hc : chks G N sc ie es = true) (hl : es.length < 28) :
    ((backTo cpos (starEach es env)).all (fun x => !x.1) && (backToKw cpos (keywordEach [] env)).all (fun x => x.1.isSome) && decide (es.length + ([] : List Keyword).length + (if ([] : List Keyword).isEmpty then 0 else 1) < 30)) = true := by
  rw [stars_ok hc]
  have h1 : (backTo cpos (es.map fun e => (false, eval e env))).all (fun x => !x.1) = true := by
    unfold backTo
    clear hc hl
    induction es with
    | nil => rfl
    | cons a r ih => simp only [List.map_cons, List.all_cons, ih]; rfl
  rw [h1]
  have h2 : decide (es.length + ([] : List Keyword).length + (if ([] : List Keyword).isEmpty then 0 else 1) < 30) = true := decide_eq_true (by
    show es.length + 0 + (if true = true then 0 else 1) < 30
    rw [if_pos rfl]; omega)
  rw [h2]
  rfl
theorem snd_me {f : Me} {a es : IE} (ha : OkE G N cl C k a) (hs : OkA G N cl C k es) : OkE G N cl C k (.me f a es) := by
  intro sc fnB W X c x h
  cases x <;> first | (cases h; done) | skip
  rename_i fe as ks pos
  cases fe <;> first | (cases h; done) | skip
  rename_i o n apos
  cases ks <;> first | (cases h; done) | skip
  simp only [chk, Bool.and_eq_true, decide_eq_true_eq] at h
  obtain ⟨⟨⟨⟨⟨⟨e1, h0⟩, h1⟩, h2⟩, h3⟩, h4⟩, hmb⟩ := h
  subst e1
  have hid : meId f ≠ "" := by cases f <;> first | (cases hmb; done) | decide
  have hm := me_ok (X := X) f hid
  have w0 : ∀ σ H Q, tE X.K cl C W (.me f a es) σ H Q → tBM X.K "list" (rMe X.K (meV f)) (tE X.K cl C W a) (tA X.K cl C W es) σ H Q := fun σ H Q ⟨m, e, s, re, rs, h⟩ => by
    refine tE_k re rs h fun x H1 m1 v s1 re1 _ rs1 rv1 h1 => ?_
    split at h1
    · exact h1.no
    · rename_i l q
      exact ⟨ty_list rs1 q rv1, tA_k re1 rs1 h1 fun y H2 m2 w s2 _ x2 rs2 rv2 h2 => ⟨m2, s2, v, w, rv1.ext x2, rv2, rs2, h2.pure⟩⟩
  cases as with
  | cons b bs =>
    cases es <;> first | (simp only [chks] at h4; exact absurd h4 Bool.false_ne_true) | skip
    rename_i ia ir
    have h5 : chk G N sc ia b = true ∧ chks G N sc ir bs = true := by simpa only [chks, Bool.and_eq_true] using h4
    have A := hs c h4
    have hst := star_ok h5.1 bs X.env
    have hpl : (backTo pos (starEach bs X.env)).any (·.1) = false := noStars h5.2
    have hf := few_ok (env := X.env) (cpos := pos) h4 h2
    have B := recv_base h0 (meName f) X.env
    cases f <;> first | exact absurd rfl hid | skip
    · exact PE.weak (pe_bm PySem.F.plainAttrs_list PySem.F.slot_list_append PySem.F.type_list_append hm (ha c h3) A B hf h1 hst hpl) w0
    · exact PE.weak (pe_bm PySem.F.plainAttrs_list PySem.F.slot_list_insert PySem.F.type_list_insert hm (ha c h3) A B hf h1 hst hpl) w0
    · exact PE.weak (pe_bm PySem.F.plainAttrs_list PySem.F.slot_list_pop PySem.F.type_list_pop hm (ha c h3) A B hf h1 hst hpl) w0
    · exact PE.weak (pe_bm PySem.F.plainAttrs_list PySem.F.slot_list_count PySem.F.type_list_count hm (ha c h3) A B hf h1 hst hpl) w0
  | nil =>
    cases es <;> first | (simp only [chks] at h4; exact absurd h4 Bool.false_ne_true) | skip
    have B := recv_base h0 (meName f) X.env
    cases f <;> first | exact absurd rfl hid | (cases hmb; done) | skip
    refine PE.weak (pe_bm0 PySem.F.plainAttrs_list PySem.F.slot_list_pop PySem.F.type_list_pop hm (ha c h3) B h1) fun σ H Q ⟨m, e, s, re, rs, h⟩ => ?_
    refine tE_k re rs h fun x H1 m1 v s1 re1 _ rs1 rv1 h1 => ?_
    split at h1
    · exact h1.no
    · rename_i l q
      exact ⟨ty_list rs1 q rv1, ⟨m1, s1, v, [], rv1, rfl, rs1, Post.pure (cl := cl) (E := WE W σ) h1⟩⟩
/-- a def of the text -/
theorem snd_call {f : Nat} {es : IE} (hs : OkA G N cl C k es) : OkE G N cl C k (.call f es) := by
  intro sc fnB W X c x h
  cases x <;> first | (cases h; done) | skip
  rename_i fe as ks pos
  cases fe <;> first | (cases h; done) | skip
  rename_i y p
  cases ks <;> first | (cases h; done) | skip
  simp only [chk, Bool.and_eq_true, decide_eq_true_eq] at h
  obtain ⟨⟨⟨e1, h1⟩, h2⟩, h3⟩ := h
  cases as with
  | nil => simp at h3
  | cons b bs =>
  cases es <;> first | (simp only [chks] at h2; exact absurd h2 Bool.false_ne_true) | skip
  rename_i ia ir
  have h5 : chk G N sc ia b = true ∧ chks G N sc ir bs = true := by simpa only [chks, Bool.and_eq_true] using h2
  have hst := star_ok h5.1 bs X.env
  have hpl : (backTo pos (starEach bs X.env)).any (·.1) = false := noStars h5.2
  obtain ⟨a, fd, ps, g1, g2, g3, ar, _, F⟩ := c.fn f y e1
  have ha := hs c h2
  refine ⟨fun pins st σ H Q I ⟨m, e, s, re, rs, h⟩ => ?_⟩
  refine wpAny_Call_Name_kw (ld_glob I (c.gl h1) g1 ?_ (gloB_ok h1).2)
  have hA : tA X.K cl C W (.cons ia ir) σ H (fun xs H1 => ∃ m1 vs s1, RS X.K m1 H1 s1 ∧ RVs X.K m1 H1 vs xs ∧ Post X.K cl (RV X.K) (WE W σ) Q m1 H1 (C f vs s1)) :=
    tA_k re rs h fun x H1 m1 v s1 re1 _ rs1 rv1 h1 => ⟨m1, v, s1, rs1, rv1, h1⟩
  refine PySem.W.callWith_K (h₀ := X.base) I.ok.mod.kin g2 (thn (ha.run pos pins st σ H _ I hA) fun us s1 ⟨vs, H1, I1, r, m1, ws, t1, rs1, rv1, q⟩ => ⟨I1.kIn, ?_⟩) hst hpl
  have hlen : us.length = ps.length → wpAny (model X.prog X.w) X.A (call (.ref a) us) (EP X pins σ Q) X.xe s1 := fun hl => by
    have b := g3 s1 us I1.kIn (by rw [List.append_nil]; exact hl)
    rw [List.append_nil] at b
    have hv : vs.length = ps.length := by rw [← hl]; exact r.length
    refine wpAny_call (codeAny_mono (F.run X.A X.stack s1 H1 ⟨us, []⟩ us vs Q (WE W σ) c.rm c.gd I1.env0 b r ⟨hv, m1, t1, ws, rv1, rs1, q⟩) fun r s' hq => ?_)
    cases r with
    | error e => exact passAt c.tk σ pins H1 s1 e s' I1 hq
    | ok fl =>
      cases fl with
      | ret u => exact I1.after hq
      | next => exact False.elim hq
      | brk => exact False.elim hq
      | cont => exact False.elim hq
  refine hlen ?_
  by_cases hl : ws.length = ps.length
  · rw [← hl, ← r.length, rv1.length]
  · rw [ar ws t1 hl] at q
    exact q.elim
/-! ### and, or, tests -/
/-! ### keywords -/
theorem PK.weak {X : Cx} {e : List Keyword} {t t' : TA} (h : PK X e t) (w : ∀ σ H Q, t' σ H Q → t σ H Q) : PK X e t' := ⟨fun pos pins s σ H Q I q => h.run pos pins s σ H Q I (w _ _ _ q)⟩
theorem snd_knil : OkK G N cl C k .nil := by
  intro sc fnB W X c x h
  cases x with
  | cons _ _ => cases h
  | nil => exact PK.weak pk_nil fun σ H Q ⟨m, e, s, re, rs, h⟩ => Post.here (R := RVs X.K) (a := []) rs rfl h
theorem snd_kcons {a r : IE} (ha : OkE G N cl C k a) (hr : OkK G N cl C k r) : OkK G N cl C k (.cons a r) := by
  intro sc fnB W X c x h
  cases x with
  | nil => cases h
  | cons kw kws =>
    obtain ⟨nm, e, kp⟩ := kw
    have h : (chk G N sc a e && chkk G N sc r kws) = true := h
    simp only [Bool.and_eq_true] at h
    refine PK.weak (pk_cons (ha c h.1) (hr c h.2)) fun σ H Q ⟨m, e, s, re, rs, h⟩ => ?_
    refine tE_k re rs h fun x H1 m1 v s1 re1 _ rs1 rv1 h1 => tA_k re1 rs1 h1 fun y H2 m2 w s2 _ x2 rs2 rv2 h2 => ?_
    exact Post.here (R := RVs X.K) (a := v :: w) rs2 ⟨_, _, rfl, rv1.ext x2, rv2⟩ h2
theorem kw_all {env : Env} {pos : Pos} : ∀ {kws : List Keyword} {nms : List Str}, kws.map (·.arg) = nms.map some → (backToKw pos (keywordEach kws env)).all (·.1.isSome) = true ∧ (backToKw pos (keywordEach kws env)).filterMap (·.1) = nms ∧ (backToKw pos (keywordEach kws env)).any (·.1.isNone) = false
  | [], nms, h => by
    cases nms with
    | nil => exact ⟨rfl, rfl, rfl⟩
    | cons _ _ => cases h
  | ⟨nm, e, kp⟩ :: kws, nms, h => by
    cases nms with
    | nil => cases h
    | cons n nms =>
      simp only [List.map_cons, List.cons.injEq] at h
      obtain ⟨h1, h2⟩ := h
      subst h1
      obtain ⟨q1, q2, q3⟩ := kw_all (env := env) (pos := pos) h2
      refine ⟨?_, ?_, ?_⟩
      · show (true && _) = true
        rw [Bool.true_and]; exact q1
      · show n :: (backToKw pos (keywordEach kws env)).filterMap (·.1) = _
        rw [q2]
      · show (false || _) = false
        rw [Bool.false_or]; exact q3
theorem perm_rel {K : PySem.W.Frag} {m : Mu} {H : Hp} {vs : List Vl} {xs : List V} {us : List Value} (rv : RVs K m H vs xs) (r : Vals xs us) : ∀ (perm : List Nat) {ws : List Vl}, permL vs perm = some ws → ∃ ys zs, permL us perm = some zs ∧ RVs K m H ws ys ∧ Vals ys zs
  | [], ws, h => by cases h; exact ⟨[], [], rfl, rfl, .nil⟩
  | i :: perm, ws, h => by
    obtain ⟨w, h1, h2⟩ := obind h
    obtain ⟨ws', h3, rfl⟩ := omap h2
    obtain ⟨ys, zs, q1, q2, q3⟩ := perm_rel rv r perm h3
    obtain ⟨y, g1, g2⟩ := rv.get h1
    obtain ⟨z, g3, g4⟩ := r.get g1
    refine ⟨y :: ys, z :: zs, ?_, ⟨y, ys, rfl, g2, q2⟩, .cons g4 q3⟩
    show (us[i]?).bind (fun v => (permL us perm).map (v :: ·)) = _
    rw [g3, q1]
    rfl
theorem snd_callk {f : Nat} {es ks : IE} {nms : List Str} {perm : List Nat} (hs : OkK G N cl C k ks) : OkE G N cl C k (.callk f es ks nms perm) := by
  intro sc fnB W X c x h
  cases x <;> first | (cases h; done) | skip
  rename_i fe as kws pos
  cases fe <;> first | (cases h; done) | skip
  rename_i y p
  have h : (isNil es && as.isEmpty && decide (G.fns[f]? = some y) && gloB sc y && chkk G N sc ks kws && decide (kws.map (·.arg) = nms.map some) && decide ((y, nms, perm) ∈ G.kws) && !kws.isEmpty) = true := h
  simp only [Bool.and_eq_true, decide_eq_true_eq] at h
  obtain ⟨⟨⟨⟨⟨⟨⟨h8, h9⟩, e1⟩, h1⟩, h2⟩, h3⟩, h4⟩, _⟩ := h
  cases es <;> first | (cases h8; done) | skip
  cases as with
  | cons _ _ => cases h9
  | nil =>
  obtain ⟨q1, q2, q3⟩ := kw_all (env := X.env) (pos := pos) h3
  obtain ⟨a, fd, ps, g1, g2, g3, ar, kb, F⟩ := c.fn f y e1
  have hk := hs c h2
  refine ⟨fun pins st σ H Q I ⟨m, e, s, re, rs, h⟩ => ?_⟩
  refine wpAny_Call_Name_kw (ld_glob I (c.gl h1) g1 ?_ (gloB_ok h1).2)
  have h : Post X.K cl (RV X.K) (WE W σ) Q m H ((evs C ks e s).bind fun vs s => if vs.length = nms.length then (match permL vs perm with
    | some ws => C f ws s
    | none => .no) else .no) := h
  have hA : tA X.K cl C W ks σ H (fun xs H1 => ∃ m1 vs s1, RS X.K m1 H1 s1 ∧ RVs X.K m1 H1 vs xs ∧ Post X.K cl (RV X.K) (WE W σ) Q m1 H1 (if vs.length = nms.length then (match permL vs perm with
    | some ws => C f ws s1
    | none => .no) else .no)) := tA_k re rs h fun x H1 m1 v s1 re1 _ rs1 rv1 h1 => ⟨m1, v, s1, rs1, rv1, h1⟩
  refine PySem.W.callWith_KW0 (h₀ := X.base) I.ok.mod.kin g2 q1 (thn (hk.run pos pins st σ H _ I hA) fun us s1 ⟨xs, H1, I1, r, m1, vs, t1, rs1, rv1, q⟩ => ⟨I1.kIn, ?_⟩) (by rw [q3]; rfl)
  rw [q2]
  by_cases hn : vs.length = nms.length
  case neg => rw [if_neg hn] at q; exact q.elim
  rw [if_pos hn] at q
  cases hp : permL vs perm with
  | none => rw [hp] at q; exact q.elim
  | some ws =>
  rw [hp] at q
  simp only at q
  obtain ⟨ys, zs, p1, p2, p3⟩ := perm_rel rv1 r perm hp
  by_cases hl : ws.length = ps.length
  · have b : us.length = nms.length → BindsTo s1 fd ⟨[], nms.zip us⟩ (ps.zip zs) := fun hl => kb nms perm h4 s1 us zs hl p1
    have hy : ys.length = ps.length := by rw [← hl, p2.length]
    have run : us.length = nms.length → wpAny (model X.prog X.w) X.A (call (.ref a) [] (nms.zip us)) (EP X pins σ Q) X.xe s1 := fun hn => by
      refine wpAny_call (codeAny_mono (F.run X.A X.stack s1 H1 ⟨[], nms.zip us⟩ zs ys Q (WE W σ) c.rm c.gd I1.env0 (b hn) p3 ⟨hy, m1, t1, ws, p2, rs1, q⟩) fun r s' hq => ?_)
      cases r with
      | error e => exact passAt c.tk σ pins H1 s1 e s' I1 hq
      | ok fl =>
        cases fl with
        | ret u => exact I1.after hq
        | next => exact False.elim hq
        | brk => exact False.elim hq
        | cont => exact False.elim hq
    exact run (by rw [← r.length, ← rv1.length]; exact hn)
  · rw [ar ws t1 hl] at q
    exact q.elim
theorem snd_and1 {a : IE} (ha : OkE G N cl C k a) (ht : OkT G N cl C k a) : OkAnd G N cl C k (.cons a .nil) := by
  intro sc fnB W X c x pos h h0 h9
  clear h9
  cases x <;> first | (cases h; done) | skip
  rename_i b bs
  have h5 : chk G N sc a b = true ∧ chks G N sc .nil bs = true := by simpa only [chks, Bool.and_eq_true] using h
  cases bs with
  | cons _ _ => cases h5.2
  | nil =>
  simp only [List.all_cons, Bool.and_eq_true] at h0
  exact ⟨PE.weak (pe_one (ha c h5.1)) fun σ H Q q => q, PW.weak (pw_and1 (ht c h5.1 h0.1)) fun σ H Q q => q⟩
theorem snd_or1 {a : IE} (ha : OkE G N cl C k a) (ht : OkT G N cl C k a) : OkOr G N cl C k (.cons a .nil) := by
  intro sc fnB W X c x pos h h0 h9
  clear h9
  cases x <;> first | (cases h; done) | skip
  rename_i b bs
  have h5 : chk G N sc a b = true ∧ chks G N sc .nil bs = true := by simpa only [chks, Bool.and_eq_true] using h
  cases bs with
  | cons _ _ => cases h5.2
  | nil =>
  simp only [List.all_cons, Bool.and_eq_true] at h0
  exact ⟨PE.weak (pe_one (ha c h5.1)) fun σ H Q q => q, PW.weak (pw_or1 (ht c h5.1 h0.1)) fun σ H Q q => q⟩
theorem isTrue_rep {K : PySem.W.Frag} {m : Mu} {H : Hp} {v : Vl} {x : V} {b : Bool} (r : RV K m H v x) (h : isTrue? v = some b) : v = .d (.bool b) ∧ x = .bl b := by
  unfold isTrue? at h
  split at h
  · cases h; exact ⟨rfl, r⟩
  · cases h
theorem snd_and {a b r : IE} (ha : OkE G N cl C k a) (ht : OkT G N cl C k a) (hr : OkAnd G N cl C k (.cons b r)) : OkAnd G N cl C k (.cons a (.cons b r)) := by
  intro sc fnB W X c x pos h h0 h9
  clear h9
  cases x <;> first | (cases h; done) | skip
  rename_i y ys
  have h5 : chk G N sc a y = true ∧ chks G N sc (.cons b r) ys = true := by simpa only [chks, Bool.and_eq_true] using h
  cases ys with
  | nil => cases h5.2
  | cons z zs =>
  have h6 : tstF y = true ∧ (z :: zs).all tstF = true := by simpa only [List.all_cons, Bool.and_eq_true] using h0
  obtain ⟨r1, r2⟩ := hr c (pos := pos) h5.2 h6.2 (by simp)
  constructor
  · refine PE.weak (pe_and (ha c h5.1) r1) fun σ H Q ⟨m, e, s, re, rs, h⟩ => ?_
    refine tE_k re rs h fun x H1 m1 v s1 re1 _ rs1 rv1 h1 => ?_
    split at h1
    · rename_i q
      obtain ⟨rfl, rfl⟩ := isTrue_rep rv1 q
      refine ⟨true, rfl, ?_⟩
      rw [if_pos rfl]
      exact ⟨m1, e, s1, re1, rs1, h1⟩
    · rename_i q
      obtain ⟨rfl, rfl⟩ := isTrue_rep rv1 q
      refine ⟨false, rfl, ?_⟩
      rw [if_neg Bool.false_ne_true]
      exact Post.here rs1 (a := Vl.d (.bool false)) rfl h1
    · exact h1.no
  · refine PW.weak (pw_and (ht c h5.1 h6.1) r2) fun σ H Q ⟨m, e, s, re, rs, h⟩ => ?_
    refine tT_k (R' := REq) (Q := Q) (ie := a) (f := fun t s => if t = true then evT C (.and (.cons b r)) e s else .ok false s) re rs ?_ fun x H1 m1 s1 re1 _ rs1 p => ?_
    · simp only [evT, ev, ands, Rs.bind_assoc] at h ⊢
      refine Eq.mp ?_ h
      congr 1
      congr 1
      funext v s
      unfold isTrue?
      split <;> simp_all [Rs.bind, ofO, isTrue?]
    · cases x with
      | true => simp only [if_true] at p ⊢; exact ⟨m1, e, s1, re1, rs1, p⟩
      | false => simp only [Bool.false_eq_true, if_false] at p ⊢; exact Post.here rs1 rfl p
theorem snd_or {a b r : IE} (ha : OkE G N cl C k a) (ht : OkT G N cl C k a) (hr : OkOr G N cl C k (.cons b r)) : OkOr G N cl C k (.cons a (.cons b r)) := by
  intro sc fnB W X c x pos h h0 h9
  clear h9
  cases x <;> first | (cases h; done) | skip
  rename_i y ys
  have h5 : chk G N sc a y = true ∧ chks G N sc (.cons b r) ys = true := by simpa only [chks, Bool.and_eq_true] using h
  cases ys with
  | nil => cases h5.2
  | cons z zs =>
  have h6 : tstF y = true ∧ (z :: zs).all tstF = true := by simpa only [List.all_cons, Bool.and_eq_true] using h0
  obtain ⟨r1, r2⟩ := hr c (pos := pos) h5.2 h6.2 (by simp)
  constructor
  · refine PE.weak (pe_or (ha c h5.1) r1) fun σ H Q ⟨m, e, s, re, rs, h⟩ => ?_
    refine tE_k re rs h fun x H1 m1 v s1 re1 _ rs1 rv1 h1 => ?_
    split at h1
    · rename_i q
      obtain ⟨rfl, rfl⟩ := isTrue_rep rv1 q
      refine ⟨false, rfl, ?_⟩
      rw [if_neg Bool.false_ne_true]
      exact ⟨m1, e, s1, re1, rs1, h1⟩
    · rename_i q
      obtain ⟨rfl, rfl⟩ := isTrue_rep rv1 q
      refine ⟨true, rfl, ?_⟩
      rw [if_pos rfl]
      exact Post.here rs1 (a := Vl.d (.bool true)) rfl h1
    · exact h1.no
  · refine PW.weak (pw_or (ht c h5.1 h6.1) r2) fun σ H Q ⟨m, e, s, re, rs, h⟩ => ?_
    refine tT_k (R' := REq) (Q := Q) (ie := a) (f := fun t s => if t = true then .ok true s else evT C (.or (.cons b r)) e s) re rs ?_ fun x H1 m1 s1 re1 _ rs1 p => ?_
    · simp only [evT, ev, ors, Rs.bind_assoc] at h ⊢
      refine Eq.mp ?_ h
      congr 1
      congr 1
      funext v s
      unfold isTrue?
      split <;> simp_all [Rs.bind, ofO, isTrue?]
    · cases x with
      | true => simp only [if_true] at p ⊢; exact Post.here rs1 rfl p
      | false => simp only [Bool.false_eq_true, if_false] at p ⊢; exact ⟨m1, e, s1, re1, rs1, p⟩
theorem snd_bool {es : IE} (h1 : OkAnd G N cl C k es) (h2 : OkOr G N cl C k es) : (OkE G N cl C k (.and es) ∧ OkT G N cl C k (.and es)) ∧ (OkE G N cl C k (.or es) ∧ OkT G N cl C k (.or es)) := by
  refine ⟨⟨?_, ?_⟩, ?_, ?_⟩
  · intro sc fnB W X c x h
    cases x <;> first | (cases h; done) | skip
    simp only [chk, Bool.and_eq_true, decide_eq_true_eq] at h
    obtain ⟨⟨⟨e, h3⟩, h4⟩, h5⟩ := h
    subst e
    exact (h1 c h3 h4 (by rintro rfl; cases h5)).1
  · intro sc fnB W X c x h h9
    clear h9
    cases x <;> first | (cases h; done) | skip
    simp only [chk, Bool.and_eq_true, decide_eq_true_eq] at h
    obtain ⟨⟨⟨e, h3⟩, h4⟩, h5⟩ := h
    subst e
    exact (h1 c h3 h4 (by rintro rfl; cases h5)).2.pt
  · intro sc fnB W X c x h
    cases x <;> first | (cases h; done) | skip
    simp only [chk, Bool.and_eq_true, decide_eq_true_eq] at h
    obtain ⟨⟨⟨e, h3⟩, h4⟩, h5⟩ := h
    subst e
    exact (h2 c h3 h4 (by rintro rfl; cases h5)).1
  · intro sc fnB W X c x h h9
    clear h9
    cases x <;> first | (cases h; done) | skip
    simp only [chk, Bool.and_eq_true, decide_eq_true_eq] at h
    obtain ⟨⟨⟨e, h3⟩, h4⟩, h5⟩ := h
    subst e
    exact (h2 c h3 h4 (by rintro rfl; cases h5)).2.pt
end
end SM

set_option maxHeartbeats 1000000
/-! SM: targets, what is walked, comprehensions. -/
namespace SM
open PySem L2 PySem.Spec PyProof.Rows
section
variable {G : Sg} {N : List Str} {cl : Nat → Value} {C : Cal} {k : Nat}
/-! ### targets -/
def SameS (is : List Nat) (σ σ' : L2.St) : Prop := σ'.length = σ.length ∧ ∀ i, i ∉ is → σ'[i]? = σ[i]?
theorem SameS.refl {is : List Nat} {σ : L2.St} : SameS is σ σ := ⟨rfl, fun _ _ => rfl⟩
theorem SameS.trans {is js : List Nat} {σ σ' σ'' : L2.St} (a : SameS is σ σ') (b : SameS js σ' σ'') : SameS (is ++ js) σ σ'' :=
  ⟨b.1.trans a.1, fun i h => by
    rw [List.mem_append, not_or] at h
    exact (b.2 i h.2).trans (a.2 i h.1)⟩
theorem SameS.set {σ : L2.St} {i : Nat} {v : V} : SameS [i] σ (σ.set i (some v)) := ⟨by simp, fun j h => by rw [List.getElem?_set_ne]; simpa using fun e => h (by simp [e])⟩
theorem RE.set {K : PySem.W.Frag} {m : Mu} {H : Hp} {e : Sl} {σ : L2.St} (r : RE K m H e σ) {i : Nat} {u : Vl} {v : V} (rv : RV K m H u v) : RE K m H (e.set i (some u)) (σ.set i (some v)) := by
  refine ⟨by simp [r.len], fun j w h => ?_⟩
  by_cases hj : j = i
  · subst hj
    have hl : j < e.length := by
      have := (List.getElem?_eq_some_iff.mp h).1
      simpa using this
    rw [List.getElem?_set_self hl] at h
    cases h
    exact ⟨v, List.getElem?_set_self (by rw [← r.len]; exact hl), rv⟩
  · rw [List.getElem?_set_ne (Ne.symm hj)] at h ⊢
    exact r.at_ j w h
def tG (K : PySem.W.Frag) (tg : IE) : TG := fun v σ H Q => ∃ m e u e', RE K m H e σ ∧ RV K m H u v ∧ setTgV tg u e = some e' ∧ ∀ σ', RE K m H e' σ' → SameS (tgS tg) σ σ' → Q σ' H
def tGd (K : PySem.W.Frag) (tg : IE) : TG := fun v σ H Q => ∃ m e u e', RE K m H e σ ∧ Rep K m H u v ∧ setTg tg u e = some e' ∧ ∀ σ', RE K m H e' σ' → SameS (tgS tg) σ σ' → Q σ' H
def tGs (K : PySem.W.Frag) (tg : IE) : TGs := fun vs σ H Q => ∃ m e us e', RE K m H e σ ∧ Reps K m H us vs ∧ setTg.setTgs tg us e = some e' ∧ ∀ σ', RE K m H e' σ' → SameS (tgS tg) σ σ' → Q σ' H
theorem PG.weak {X : Cx} {e : Expr} {t t' : TG} (h : PG X e t) (w : ∀ v σ H Q, t' v σ H Q → t v σ H Q) : PG X e t' := ⟨fun pins s σ H v u Q I r q => h.run pins s σ H v u Q I r (w _ _ _ _ q)⟩
theorem PGs.weak {X : Cx} {e : List Expr} {t t' : TGs} (h : PGs X e t) (w : ∀ v σ H Q, t' v σ H Q → t v σ H Q) : PGs X e t' := ⟨fun pins s σ H v u Q I r q => h.run pins s σ H v u Q I r (w _ _ _ _ q)⟩
theorem locB_ok {sc : Scope} {x : Str} (h : locB sc x = true) : Loc sc x := by
  unfold locB at h
  split at h
  · exact .inl (by assumption)
  · exact .inr (by assumption)
  · cases h
theorem isLoc_ok {sc : Scope} {x : Str} (h : isLoc sc x = true) : sc.names.lookup x = some .local := by
  unfold isLoc at h
  split at h
  · assumption
  · cases h
theorem pg_nm {fnB : Str → Bool} {sc : Scope} {W : WX} {X : Cx} (c : Cok G N cl C k fnB sc W X) {i : Nat} {x : Str} {pos : Pos} (h1 : N[i]? = some x) (h2 : locB sc x = true) (h3 : (fnB x || isLoc sc x) = true) : PG X (.Name x pos) (gName i) := by
  refine pg_name (by rw [c.n]; exact c.nd) (by rw [c.n]; exact h1) (by rw [c.sc]; exact locB_ok h2) ?_
  rw [c.fnB, c.sc]
  rcases Bool.or_eq_true_iff.mp h3 with z | z
  · exact .inl z
  · exact .inr (isLoc_ok z)
theorem tgNoStar {fnB : Str → Bool} {sc : Scope} {tg : IE} {e : Expr} (h : chkG fnB sc N tg e = true) (es : List Expr) (env : Env) : assignEach (e :: es) env = (false, assign e env) :: assignEach es env := by
  cases e <;> first | rfl | skip
  cases tg <;> cases h
theorem tgsNoStar {fnB : Str → Bool} {sc : Scope} {env : Env} : ∀ {tg : IE} {es : List Expr}, chkG.chkGs fnB sc N tg es = true → assignEach es env = es.map fun e => (false, assign e env) := by
  intro tg
  induction tg with
  | cons a r _ ih =>
    intro es h
    cases es with
    | nil => rfl
    | cons e es =>
      simp only [chkG.chkGs, Bool.and_eq_true] at h
      rw [tgNoStar h.1, ih h.2]; rfl
  | nil =>
    intro es h
    cases es with
    | nil => rfl
    | cons e es => cases h
  | _ => intro es h; cases h
theorem findStar {env : Env} : ∀ es : List Expr, List.findIdx? (fun x : Bool × (Value → Sem Unit) => x.1) (es.map fun e => (false, assign e env)) = none
  | [] => rfl
  | a :: r => by
    simp only [List.map_cons, List.findIdx?_cons, findStar r]
    rfl
theorem snd_tg {fnB : Str → Bool} {sc : Scope} {W : WX} {X : Cx} (c : Cok G N cl C k fnB sc W X) : ∀ tg : IE, (∀ e, chkG fnB sc N tg e = true → PG X e (tGd X.K tg)) ∧ ∀ es, chkG.chkGs fnB sc N tg es = true → PGs X es (tGs X.K tg) := by
  intro tg
  induction tg with
  | var i =>
    refine ⟨fun e h => ?_, fun es h => (by cases es <;> cases h)⟩
    cases e <;> first | (cases h; done) | skip
    rename_i x pos
    simp only [chkG, Bool.and_eq_true, decide_eq_true_eq] at h
    exact PG.weak (pg_nm c h.1.1 h.1.2 h.2) fun v σ H Q ⟨m, e, u, e', re, rv, hs, q⟩ => by cases hs; exact q _ (re.set (u := .d u) rv) SameS.set
  | tup es ih =>
    refine ⟨fun e h => ?_, fun es h => (by cases es <;> cases h)⟩
    cases e <;> first | (cases h; done) | skip
    rename_i es' kk pos
    have h : chkG.chkGs fnB sc N es es' = true := h
    refine PG.weak (pg_tup (n := es'.length) c.calm (ih.2 es' h) (by rw [tgsNoStar h, List.length_map]) (by rw [tgsNoStar h]; exact findStar es')) fun v σ H Q ⟨m, e, u, e', re, rv, hs, q⟩ => ?_
    cases u <;> first | (cases hs; done) | skip
    rename_i us
    obtain ⟨a, ws, ev, h1, h2⟩ := rv
    have hl : ∀ (t : IE) (us : List PyData) (es : List Expr) (e e' : Sl), chkG.chkGs fnB sc N t es = true → setTg.setTgs t us e = some e' → us.length = es.length := by
      intro t
      induction t with
      | nil =>
        intro us es e e' h1 h2
        cases es <;> first | (cases h1; done) | skip
        cases us <;> first | rfl | (cases h2; done)
      | cons a r _ ih =>
        intro us es e e' h1 h2
        cases es <;> first | (cases h1; done) | skip
        cases us <;> first | (cases h2; done) | skip
        simp only [chkG.chkGs, Bool.and_eq_true] at h1
        simp only [setTg.setTgs] at h2
        obtain ⟨e1, _, h3⟩ := obind h2
        simp [ih _ _ _ _ h1.2 h3]
      | _ => intro us es e e' h1 h2; cases es <;> cases h1
    exact ⟨a, ws, ev, h1.sq, by rw [← h2.length]; exact hl _ _ _ _ _ h hs, m, e, us, e', re, h2, hs, q⟩
  | nil =>
    refine ⟨fun e h => (by cases e <;> cases h), fun es h => ?_⟩
    cases es <;> first | (cases h; done) | skip
    refine PGs.weak pgs_nil fun v σ H Q ⟨m, e, u, e', re, rv, hs, q⟩ => ?_
    cases u <;> first | (cases hs; done) | skip
    cases hs
    exact ⟨rv, q σ re SameS.refl⟩
  | cons a r ih1 ih2 =>
    refine ⟨fun e h => (by cases e <;> cases h), fun es h => ?_⟩
    cases es <;> first | (cases h; done) | skip
    rename_i x xs
    simp only [chkG.chkGs, Bool.and_eq_true] at h
    refine PGs.weak (pgs_cons (ih1.1 x h.1) (ih2.2 xs h.2) (by rw [tgNoStar h.1]; rfl)) fun v σ H Q ⟨m, e, u, e', re, rv, hs, q⟩ => ?_
    cases u <;> first | (cases hs; done) | skip
    rename_i u us
    obtain ⟨w, ws, ev, r1, r2⟩ := rv
    simp only [setTg.setTgs] at hs
    obtain ⟨e1, hs1, hs2⟩ := obind hs
    exact ⟨w, ws, ev, m, e, u, e1, re, r1, hs1, fun σ1 re1 s1 => ⟨m, e1, us, e', re1, r2, hs2, fun σ2 re2 s2 => q σ2 re2 (s1.trans s2)⟩⟩
  | _ => exact ⟨fun e h => (by cases e <;> cases h), fun es h => (by cases es <;> cases h)⟩
theorem snd_tgV {fnB : Str → Bool} {sc : Scope} {W : WX} {X : Cx} (c : Cok G N cl C k fnB sc W X) (tg : IE) (e : Expr) (h : chkG fnB sc N tg e = true) : PG X e (tG X.K tg) := by
  cases tg with
  | var i =>
    cases e <;> first | (cases h; done) | skip
    rename_i x pos
    simp only [chkG, Bool.and_eq_true, decide_eq_true_eq] at h
    exact PG.weak (pg_nm c h.1.1 h.1.2 h.2) fun v σ H Q ⟨m, e, u, e', re, rv, hs, q⟩ => by cases hs; exact q _ (re.set rv) SameS.set
  | tup es =>
    refine PG.weak ((snd_tg c (.tup es)).1 e h) fun v σ H Q ⟨m, e, u, e', re, rv, hs, q⟩ => ?_
    cases u with
    | r n => cases hs
    | d y => exact ⟨m, e, y, e', re, rv, hs, q⟩
  | _ => cases e <;> cases h

/-! ### what is walked -/
def WalkD (K : PySem.W.Frag) (m : Mu) (H : Hp) (ds : List PyData) (J : It) : Prop := ∃ (Gd : Hp → Prop) (Y : Nat → Hp → V → Hp → Prop), Walk J ds.length Gd Y ∧ (∀ m' H', Wk m H m' H' → Gd H') ∧
  ∀ m' H' s' i x H'', Wk m H m' H' → RS K m' H' s' → i < ds.length → Y i H' x H'' → (∀ a o, H' a = some o → H'' a = some o) ∧ ∃ d, ds[i]? = some d ∧ Rep K m' H'' d x
def RI (K : PySem.W.Frag) (m : Mu) (H : Hp) : Itr → It → Prop
  | .vals ds, J => WalkD K m H ds J
  | .ref n, J => ∃ a, m.l[n]? = some (some a) ∧ J = Itl K a
def tI (K : PySem.W.Frag) (cl : Nat → Value) (C : Cal) (W : WX) (ie : IE) : TI := fun σ H R => At K σ H fun m e s => Post K cl (RI K) (WE W σ) R m H (itr C ie e s)
def OkI (G : Sg) (N : List Str) (cl : Nat → Value) (C : Cal) (k : Nat) (ie : IE) : Prop := ∀ {sc : Scope} {fnB : Str → Bool} {W : WX} {X : Cx}, Cok G N cl C k fnB sc W X → ∀ {tg x : Expr}, zipTg ie tg = true → chki G N sc ie x = true → PI X tg x (tI X.K cl C W ie)
def iSeq (K : PySem.W.Frag) (tl : TE) : TI := fun σ H R => tl σ H fun x H1 => ∃ a, x = .ref a ∧ (((∃ xs, SqL K H1 a xs) ∧ R (Itl K a) H1) ∨ ((∃ xs, SqT K H1 a xs) ∧ R (Itt K a) H1))
theorem pi_seq {X : Cx} {tg l : Expr} {tl : TE} (hl : PE X l tl) : PI X tg l (iSeq X.K tl) := by
  refine ⟨fun pins st σ H R I h => ?_⟩
  refine thn (hl.run pins st σ H _ I h) fun v s1 ⟨x, H1, I1, r1, a, e, q1⟩ => ?_
  subst e
  cases r1
  have fp : ∀ b ∈ [s1.heap.objs.size], FpOk X pins H1 b := fun b hb => by
    have e : b = s1.heap.objs.size := by simpa using hb
    subst e
    exact I1.fpOk (Nat.le_refl _) (I1.hok.fresh (Nat.le_refl _))
  rcases q1 with ⟨⟨xs, hq⟩, q⟩ | ⟨⟨xs, hq⟩, q⟩
  · obtain ⟨its, _, p, _⟩ := I1.list hq
    exact wpAny_pyIter_list p.isList ⟨_, _, _, _, H1, rfl, I1.kept (t' := s1.toks) fun b o e => Heap.get?_push_of_some _ e, turn_list a _, ⟨_, Heap.get?_push_size _ rfl, rfl, rfl⟩, fp, q⟩
  · obtain ⟨its, _, p, _⟩ := I1.tuple hq
    exact wpAny_pyIter_tuple (show s1.heap.IsTuple a its.toArray from p) ⟨_, _, _, _, H1, rfl, I1.kept (t' := s1.toks) fun b o e => Heap.get?_push_of_some _ e, turn_tuple a _, ⟨_, Heap.get?_push_size _ rfl, rfl, rfl⟩, fp, q⟩
theorem Reps.get {K : PySem.W.Frag} {m : Mu} {H : Hp} {us : List PyData} {vs : List V} (h : Reps K m H us vs) {i : Nat} {v : V} (q : vs[i]? = some v) : ∃ d, us[i]? = some d ∧ Rep K m H d v := by
  obtain ⟨u, e, r⟩ := RVs.get' h.rvs q
  rw [List.getElem?_map] at e
  obtain ⟨d, e1, rfl⟩ := omap e
  exact ⟨d, e1, r⟩
theorem walk_ls {K : PySem.W.Frag} {m : Mu} {H : Hp} {ds : List PyData} {a : Addr} {ws : List V} (h1 : LsA K m H a ws) (h2 : Reps K m H ds ws) : WalkD K m H ds (Itl K a) := by
  refine ⟨_, _, by rw [h2.length]; exact walk_list (xs := ws), fun m' H' x => (h1.kp x.kp).sq, fun m' H' s' i v H'' x rs hi y => ?_⟩
  obtain ⟨rfl, y⟩ := y
  exact ⟨fun _ _ h => h, (h2.kp x.kp).get y⟩
theorem walk_tp {K : PySem.W.Frag} {m : Mu} {H : Hp} {ds : List PyData} {a : Addr} {ws : List V} (h1 : TpA K m H a ws) (h2 : Reps K m H ds ws) : WalkD K m H ds (Itt K a) := by
  refine ⟨_, _, by rw [h2.length]; exact walk_tup (xs := ws), fun m' H' x => (h1.kp x.kp).sq, fun m' H' s' i v H'' x rs hi y => ?_⟩
  obtain ⟨rfl, y⟩ := y
  exact ⟨fun _ _ h => h, (h2.kp x.kp).get y⟩
theorem snd_itv {a : IE} (ha : OkE G N cl C k a) : OkI G N cl C k (.itv a) := by
  intro sc fnB W X c tg x _ h
  refine PI.weak (pi_seq (ha c (x := x) h)) fun σ H R ⟨m, e, s, re, rs, h⟩ => ?_
  refine tE_k re rs h fun x H1 m1 v s1 re1 _ rs1 rv1 h1 => ?_
  obtain ⟨I, q, p⟩ := h1.ofO
  cases v with
  | r n =>
    obtain ⟨vs, q1, rfl⟩ := omap q
    obtain ⟨a, ws, rfl, g1, g2, g3⟩ := rs1.get q1 rv1
    exact ⟨a, rfl, .inl ⟨⟨ws, SqL.of g2⟩, Post.here rs1 (a := Itr.ref n) ⟨a, g1, rfl⟩ p⟩⟩
  | d y =>
    cases y with
    | list ds =>
      cases q
      obtain ⟨a, ws, rfl, g1, g2⟩ := rv1
      exact ⟨a, rfl, .inl ⟨⟨ws, g1.sq⟩, Post.here rs1 (a := Itr.vals ds) (walk_ls g1 g2) p⟩⟩
    | tuple ds =>
      cases q
      obtain ⟨a, ws, rfl, g1, g2⟩ := rv1
      exact ⟨a, rfl, .inr ⟨⟨ws, g1.sq⟩, Post.here rs1 (a := Itr.vals ds) (walk_tp g1 g2) p⟩⟩
    | _ => cases q
theorem walk_rg {K : PySem.W.Frag} {m : Mu} {H : Hp} {lo : Int} {n : Nat} : WalkD K m H ((List.range n).map fun k : Nat => PyData.int (lo + (k : Int))) (L2.Itr lo n) := by
  refine ⟨_, _, by rw [List.length_map, List.length_range]; exact walk_range, fun _ _ _ => trivial, fun m' H' s' i v H'' x rs hi y => ?_⟩
  obtain ⟨rfl, rfl⟩ := y
  rw [List.length_map, List.length_range] at hi
  exact ⟨fun _ _ h => h, .int (lo + (i : Int)), by rw [List.getElem?_map, List.getElem?_range hi]; rfl, rfl⟩
theorem rngV_some {i j : Int} {I : SM.Itr} (h : rngV i j = some I) : (-1000000 ≤ i ∧ i ≤ 1000000) ∧ (-1000000 ≤ j ∧ j ≤ 1000000) ∧ I = .vals ((List.range (j - i).toNat).map fun k : Nat => PyData.int (i + (k : Int))) := by
  unfold rngV at h
  split at h
  · rename_i c; cases h; exact ⟨c.1, c.2, rfl⟩
  · cases h
theorem optI_rep {K : PySem.W.Frag} {m : Mu} {H : Hp} {v : Vl} {x : V} {i : Int} (r : RV K m H v x) (h : optI v = some i) : x = .int i := by
  unfold optI at h
  split at h
  · cases h; exact r
  · cases h
theorem snd_rng1 {a : IE} (ha : OkE G N cl C k a) : OkI G N cl C k (.rng1 a) := by
  intro sc fnB W X c tg x _ h
  cases x <;> first | (cases h; done) | skip
  rename_i f as ks pos
  cases f <;> first | (cases h; done) | skip
  cases as with
  | nil => cases ks <;> cases h
  | cons a1 as =>
  cases as with
  | cons _ _ => cases ks <;> cases h
  | nil =>
  cases ks <;> first | (cases h; done) | skip
  simp only [chki, Bool.and_eq_true, decide_eq_true_eq] at h
  obtain ⟨⟨⟨e1, h1⟩, h2⟩, h3⟩ := h
  subst e1
  refine PI.weak (pi_range1 (c.gl h1) (c.bi _ h2) (pa_cons (ha c h3) pa_nil (star_ok h3 _ _)) (star_ok h3 _ _)) fun σ H R ⟨m, e, s, re, rs, h⟩ => ?_
  refine tE_k re rs h fun x H1 m1 v s1 re1 _ rs1 rv1 h1 => ?_
  obtain ⟨I, q, p⟩ := h1.ofO
  obtain ⟨j, q1, q2⟩ := obind q
  obtain ⟨_, g2, rfl⟩ := rngV_some q2
  have ex := optI_rep rv1 q1
  subst ex
  refine ⟨j, rfl, by omega, by omega, Post.here rs1 ?_ p⟩
  rw [Int.sub_zero]
  exact walk_rg
theorem snd_rng2 {a b : IE} (ha : OkE G N cl C k a) (hb : OkE G N cl C k b) : OkI G N cl C k (.rng2 a b) := by
  intro sc fnB W X c tg x _ h
  cases x <;> first | (cases h; done) | skip
  rename_i f as ks pos
  cases f <;> first | (cases h; done) | skip
  cases as with
  | nil => cases ks <;> cases h
  | cons a1 as =>
  cases as with
  | nil => cases ks <;> cases h
  | cons a2 as =>
  cases as with
  | cons _ _ => cases ks <;> cases h
  | nil =>
  cases ks <;> first | (cases h; done) | skip
  simp only [chki, Bool.and_eq_true, decide_eq_true_eq] at h
  obtain ⟨⟨⟨⟨e1, h1⟩, h2⟩, h3⟩, h4⟩ := h
  subst e1
  have st2 := star_ok h4 [] X.env
  have st1 := star_ok h3 [a2] X.env
  refine PI.weak (pi_range2 (c.gl h1) (c.bi _ h2) (pa_cons (ha c h3) (pa_cons (hb c h4) pa_nil st2) st1) (by rw [st1, st2]; rfl) st2) fun σ H R ⟨m, e, s, re, rs, h⟩ => ?_
  refine tE_k re rs h fun x H1 m1 v s1 re1 _ rs1 rv1 h1 => tE_k re1 rs1 h1 fun y H2 m2 w s2 _ x2 rs2 rv2 h2 => ?_
  obtain ⟨I, q, p⟩ := h2.ofO
  obtain ⟨i, q1, q2⟩ := obind q
  obtain ⟨j, q3, q4⟩ := obind q2
  obtain ⟨g1, g2, rfl⟩ := rngV_some q4
  have ex := optI_rep rv1 q1
  subst ex
  have ey := optI_rep rv2 q3
  subst ey
  refine ⟨i, j, rfl, ⟨by omega, by omega, by omega, by omega⟩, ?_⟩
  exact Post.here (R := RI X.K) (a := SM.Itr.vals ((List.range (j - i).toNat).map fun k : Nat => PyData.int (i + (k : Int)))) (b := L2.Itr i (j - i).toNat) rs2 walk_rg p
/-- a new pair -/
theorem pair_rep {K : PySem.W.Frag} {m : Mu} {H : Hp} {s : Sto} {T : Addr} {a b : PyData} {x y : V} (rs : RS K m H s) (hT : H T = none) (ra : Rep K m H a x) (rb : Rep K m H b y) : Rep K m (upd H T (.tup [x, y])) (.tuple [a, b]) (.ref T) := by
  have e : Ext m H m (upd H T (.tup [x, y])) := Ext.new hT
  exact ⟨T, [x, y], rfl, .inl ⟨rs.fresh hT, .inl upd_same⟩, x, [y], rfl, ra.ext e, y, [], rfl, rb.ext e, rfl⟩
/-- a list (false) or a tuple (true) -/
def seqD (k : Bool) (xs : List PyData) : PyData := match k with
  | false => .list xs
  | true => .tuple xs
theorem zipV_some {v w : Vl} {I : SM.Itr} (h : zipV v w = some I) : ∃ us vs k l, v = .d (seqD k us) ∧ w = .d (seqD l vs) ∧ I = .vals (List.zipWith (fun u v => PyData.tuple [u, v]) us vs) := by
  unfold zipV at h
  split at h
  · cases h; exact ⟨_, _, false, false, rfl, rfl, rfl⟩
  · cases h; exact ⟨_, _, true, true, rfl, rfl, rfl⟩
  · cases h; exact ⟨_, _, false, true, rfl, rfl, rfl⟩
  · cases h; exact ⟨_, _, true, false, rfl, rfl, rfl⟩
  · cases h
theorem rep_K {K : PySem.W.Frag} {m : Mu} {H : Hp} {v : Vl} {y : V} {k : Bool} {us : List PyData} (e : v = .d (seqD k us)) (r : RV K m H v y) : ∃ a ws, y = .ref a ∧ (∀ m' H', Wk m H m' H' → SqK k K H' a ws) ∧ Reps K m H us ws := by
  subst e
  cases k with
  | false => obtain ⟨a, ws, e, g1, g2⟩ := r; exact ⟨a, ws, e, fun m' H' x => (g1.kp x.kp).sq, g2⟩
  | true => obtain ⟨a, ws, e, g1, g2⟩ := r; exact ⟨a, ws, e, fun m' H' x => (g1.kp x.kp).sq, g2⟩
theorem snd_zip {a b : IE} (ha : OkE G N cl C k a) (hb : OkE G N cl C k b) : OkI G N cl C k (.zip a b) := by
  intro sc fnB W X c tg x hz h
  cases tg <;> first | (cases hz; done) | skip
  cases x <;> first | (cases h; done) | skip
  rename_i f as ks pos
  cases f <;> first | (cases h; done) | skip
  cases as with
  | nil => cases ks <;> cases h
  | cons a1 as =>
  cases as with
  | nil => cases ks <;> cases h
  | cons a2 as =>
  cases as with
  | cons _ _ => cases ks <;> cases h
  | nil =>
  cases ks <;> first | (cases h; done) | skip
  simp only [chki, Bool.and_eq_true, decide_eq_true_eq] at h
  obtain ⟨⟨⟨⟨e1, h1⟩, h2⟩, h3⟩, h4⟩ := h
  subst e1
  have st2 := star_ok h4 [] X.env
  have st1 := star_ok h3 [a2] X.env
  refine PI.weak (pi_zipM (c.gl h1) (c.bi _ h2) (pa_cons (ha c h3) (pa_cons (hb c h4) pa_nil st2) st1) st1 (by rw [st2]; rfl)) fun σ H R ⟨m, e, s, re, rs, h⟩ => ?_
  refine tE_k re rs h fun x H1 m1 v s1 re1 _ rs1 rv1 h1 => tE_k re1 rs1 h1 fun y H2 m2 w s2 _ x2 rs2 rv2 h2 => ?_
  obtain ⟨I, q, p⟩ := h2.ofO
  obtain ⟨us, vs, k1, k2, e1, e2, rfl⟩ := zipV_some q
  obtain ⟨a1, w1, rfl, g1, g2⟩ := rep_K e1 (rv1.ext x2)
  obtain ⟨a2, w2, rfl, g3, g4⟩ := rep_K e2 rv2
  refine ⟨a1, a2, k1, k2, w1, w2, rfl, (g1 _ _ Ext.refl.wk), (g3 _ _ Ext.refl.wk), ?_⟩
  refine Post.here (R := RI X.K) (a := SM.Itr.vals (List.zipWith (fun u v => PyData.tuple [u, v]) us vs)) (b := ItM k1 k2 X.K a1 a2) rs2 ?_ p
  refine ⟨fun H => SqK k1 X.K H a1 w1 ∧ SqK k2 X.K H a2 w2, YPair (fun i => w1[i]?) (fun i => w2[i]?), by rw [List.length_zipWith, g2.length, g4.length]; exact walk_M (xs := w1) (ys := w2), fun m' H' x => ⟨g1 _ _ x, g3 _ _ x⟩, fun m' H' s' i v H'' x rs hi y => ?_⟩
  obtain ⟨T, x1, y1, rfl, hT, rfl, e1, e2⟩ := y
  obtain ⟨d1, f1, r1⟩ := (g2.kp x.kp).get e1
  obtain ⟨d2, f2, r2⟩ := (g4.kp x.kp).get e2
  refine ⟨upd_keep hT, .tuple [d1, d2], ?_, pair_rep rs hT r1 r2⟩
  rw [List.getElem?_zipWith, f1, f2]
theorem enumV_some {v : Vl} {I : SM.Itr} (h : enumV v = some I) : ∃ us k, v = .d (seqD k us) ∧ I = .vals (us.zipIdx.map fun p => PyData.tuple [.int p.2, p.1]) := by
  unfold enumV at h
  split at h
  · cases h; exact ⟨_, false, rfl, rfl⟩
  · cases h; exact ⟨_, true, rfl, rfl⟩
  · cases h
theorem walk_enT {K : PySem.W.Frag} {a : Addr} {xs : List V} : Walk (ItEnT K a) xs.length (fun H => SqT K H a xs) (YPair (fun i => some (.int (i : Nat))) (fun i => xs[i]?)) := by
  refine ⟨fun i _ hi q => ⟨xs, xs[i], q, by simp [hi]⟩, fun _ q => ⟨xs, q, rfl⟩, fun i H v H' _ q y => ?_⟩
  obtain ⟨T, x, h1, h2, h3, h4⟩ := y
  exact ⟨T, .int (i : Nat), x, h1, h2, h3, rfl, h4 xs q⟩
theorem snd_enum {a : IE} (ha : OkE G N cl C k a) : OkI G N cl C k (.enum a) := by
  intro sc fnB W X c tg x hz h
  cases tg <;> first | (cases hz; done) | skip
  cases x <;> first | (cases h; done) | skip
  rename_i f as ks pos
  cases f <;> first | (cases h; done) | skip
  cases as with
  | nil => cases ks <;> cases h
  | cons a1 as =>
  cases as with
  | cons _ _ => cases ks <;> cases h
  | nil =>
  cases ks <;> first | (cases h; done) | skip
  simp only [chki, Bool.and_eq_true, decide_eq_true_eq] at h
  obtain ⟨⟨⟨e1, h1⟩, h2⟩, h3⟩ := h
  subst e1
  have st1 := star_ok h3 [] X.env
  refine PI.weak (pi_enT (c.gl h1) (c.bi _ h2) (pa_cons (ha c h3) pa_nil st1) st1) fun σ H R ⟨m, e, s, re, rs, h⟩ => ?_
  refine tE_k re rs h fun x H1 m1 v s1 re1 _ rs1 rv1 h1 => ?_
  obtain ⟨I, q, p⟩ := h1.ofO
  obtain ⟨us, k1, e1, rfl⟩ := enumV_some q
  obtain ⟨a1, w1, rfl, g1, g2⟩ := rep_K e1 rv1
  cases k1 with
  | false =>
    refine ⟨a1, w1, rfl, .inl ⟨g1 _ _ Ext.refl.wk, ?_⟩⟩
    refine Post.here (R := RI X.K) (a := SM.Itr.vals (us.zipIdx.map fun p => PyData.tuple [.int p.2, p.1])) (b := Ite X.K a1) rs1 ?_ p
    refine ⟨_, _, by rw [List.length_map, List.length_zipIdx, g2.length]; exact walk_enum (xs := w1), fun m' H' x => g1 _ _ x, fun m' H' s' i v H'' x rs hi y => ?_⟩
    obtain ⟨T, x1, y1, rfl, hT, rfl, e1, e2⟩ := y
    cases e1
    obtain ⟨d2, f2, r2⟩ := (g2.kp x.kp).get e2
    refine ⟨upd_keep hT, .tuple [.int i, d2], ?_, pair_rep rs hT rfl r2⟩
    rw [List.getElem?_map, List.getElem?_zipIdx, f2]
    simp
  | true =>
    refine ⟨a1, w1, rfl, .inr ⟨g1 _ _ Ext.refl.wk, ?_⟩⟩
    refine Post.here (R := RI X.K) (a := SM.Itr.vals (us.zipIdx.map fun p => PyData.tuple [.int p.2, p.1])) (b := ItEnT X.K a1) rs1 ?_ p
    refine ⟨_, _, by rw [List.length_map, List.length_zipIdx, g2.length]; exact walk_enT (xs := w1), fun m' H' x => g1 _ _ x, fun m' H' s' i v H'' x rs hi y => ?_⟩
    obtain ⟨T, x1, y1, rfl, hT, rfl, e1, e2⟩ := y
    cases e1
    obtain ⟨d2, f2, r2⟩ := (g2.kp x.kp).get e2
    refine ⟨upd_keep hT, .tuple [.int i, d2], ?_, pair_rep rs hT rfl r2⟩
    rw [List.getElem?_map, List.getElem?_zipIdx, f2]
    simp
/-! ### tests of a comprehension -/
theorem snd_cnil : OkC G N cl C k .nil := by
  intro sc fnB W X c x h
  cases x <;> first | (cases h; done) | skip
  refine PTs.weak pts_nil fun σ H Q ⟨m, e, s, re, rs, h⟩ => ?_
  exact Post.here (R := REq) (a := true) rs rfl h
theorem snd_ccons {a r : IE} (ht : OkT G N cl C k a) : OkC G N cl C k (.cons a r) := by
  intro sc fnB W X c x h
  cases x with
  | nil => cases h
  | cons e es =>
  cases es with
  | cons _ _ => cases h
  | nil =>
  simp only [chkc, Bool.and_eq_true] at h
  exact PTs.weak (pts_one (ht c h.2 h.1)) fun σ H Q ⟨m, e, s, re, rs, h⟩ => ⟨m, e, s, re, rs, h⟩
/-! ### the slots of a comprehension -/
theorem wipe_in {σ : L2.St} : ∀ {vs : List Nat} {i : Nat}, i ∈ vs → i < σ.length → (L2.wipe σ vs)[i]? = some none
  | [], _, h, _ => by cases h
  | v :: vs, i, h, hl => by
    unfold L2.wipe
    by_cases e : v = i
    · subst e
      exact List.getElem?_set_self (by rw [L2.wipe_length]; exact hl)
    · rw [List.getElem?_set_ne e]
      exact wipe_in ((List.mem_cons.mp h).resolve_left fun z => e z.symm) hl
theorem wipe_wipe {σ σ2 : L2.St} {vs : List Nat} (h : SameS vs (L2.wipe σ vs) σ2) : L2.wipe σ2 vs = L2.wipe σ vs := by
  have hl : σ2.length = σ.length := by rw [h.1, L2.wipe_length]
  apply List.ext_getElem?
  intro i
  by_cases hi : i ∈ vs
  · by_cases hb : i < σ.length
    · rw [wipe_in hi (by rw [hl]; exact hb), wipe_in hi hb]
    · rw [List.getElem?_eq_none (by rw [L2.wipe_length, hl]; omega), List.getElem?_eq_none (by rw [L2.wipe_length]; omega)]
  · rw [L2.wipe_out hi]
    exact h.2 i hi
theorem SameS.sub {is js : List Nat} {σ σ' : L2.St} (h : SameS is σ σ') (s : ∀ i ∈ is, i ∈ js) : SameS js σ σ' := ⟨h.1, fun i hi => h.2 i fun z => hi (s i z)⟩
theorem wipeS_length (e : Sl) : ∀ vs : List Nat, (wipe e vs).length = e.length
  | [] => rfl
  | v :: vs => by unfold wipe; rw [List.length_set, wipeS_length e vs]
theorem wipeS_some {e : Sl} {i : Nat} {x : Vl} : ∀ {vs : List Nat}, (wipe e vs)[i]? = some (some x) → e[i]? = some (some x) ∧ i ∉ vs
  | [], h => ⟨h, by simp⟩
  | v :: vs, h => by
    unfold wipe at h
    by_cases hi : v = i
    · subst hi
      by_cases hv : v < (wipe e vs).length
      · rw [List.getElem?_set_self hv] at h; cases h
      · rw [List.getElem?_eq_none (by simpa using hv)] at h; cases h
    · rw [List.getElem?_set_ne hi] at h
      obtain ⟨h1, h2⟩ := wipeS_some h
      exact ⟨h1, by simp only [List.mem_cons, not_or]; exact ⟨fun e => hi e.symm, h2⟩⟩
theorem RE.wipe {K : PySem.W.Frag} {m : Mu} {H : Hp} {e : Sl} {σ : L2.St} (r : RE K m H e σ) (vs : List Nat) : RE K m H (wipe e vs) (L2.wipe σ vs) :=
  ⟨by rw [wipeS_length, L2.wipe_length, r.len], fun i v h => by
    obtain ⟨h1, h2⟩ := wipeS_some h
    rw [L2.wipe_out h2]
    exact r.at_ i v h1⟩
theorem own_map (N : List Str) (own : List Nat) : (ownP N own).map (·.2) = own := by
  unfold ownP
  rw [List.map_map]
  exact List.map_id own
/-! ### the new list, hidden -/
theorem Wk.trans {m m' m'' : Mu} {H H' H'' : Hp} (a : Wk m H m' H') (b : Wk m' H' m'' H'') : Wk m H m'' H'' where
  kp := fun x o h n => let ⟨h1, n1⟩ := a.kp x o h n; b.kp x o h1 n1
  len := Nat.le_trans a.len b.len
  pl := fun n hn => by
    rcases b.pl n (Nat.lt_of_lt_of_le hn a.len) with h | h
    · rcases a.pl n hn with h' | h'
      · exact .inl (h.trans h')
      · exact .inr (h.trans h')
    · exact .inr h
def del (H : Hp) (D : Addr) : Hp := fun a => if a = D then none else H a
theorem del_self {H : Hp} {D : Addr} : del H D D = none := if_pos rfl
theorem del_ne {H : Hp} {a D : Addr} (h : a ≠ D) : del H D a = H a := if_neg h
theorem upd_del {H : Hp} {D : Addr} {o : HO} : upd (del H D) D o = upd H D o := by
  funext a
  by_cases h : a = D
  · subst h; rw [upd_same, upd_same]
  · rw [upd_ne h, upd_ne h, del_ne h]
theorem upd_del' {H : Hp} {D : Addr} {o : HO} (h : H D = some o) : upd (del H D) D o = H := by
  rw [upd_del]
  funext a
  by_cases e : a = D
  · subst e; rw [upd_same, h]
  · rw [upd_ne e]
section
variable {K : PySem.W.Frag} {m m' : Mu} {H H' : Hp} {s s' : Sto} {D : Addr}
theorem Wk.unhide {h : List Addr} (e : m.hid = D :: h) : Wk m H (m.show h) (del H D) := by
  refine ⟨fun a u q n => ⟨?_, fun z => n ?_⟩, Nat.le_refl _, fun _ _ => .inl rfl⟩
  · rw [del_ne]; exact q
    rintro rfl
    exact n (.inr (by rw [e]; exact List.mem_cons_self))
  · rcases z with z | z
    · exact .inl z
    · exact .inr (by rw [e]; exact List.mem_cons_of_mem _ z)
theorem RS.unhide (r : RS K m H s) {h : List Addr} (e : m.hid = D :: h) (hn : D ∉ h) : RS K (m.show h) (del H D) s := by
  have dm : D ∈ m.hid := by rw [e]; exact List.mem_cons_self
  refine ⟨r.len, fun n vs q => ?_, r.dead, r.inj, fun a ha => ⟨?_, (r.hd a (by rw [e]; exact List.mem_cons_of_mem _ ha)).2⟩⟩
  · obtain ⟨a, ws, h1, h2, h3⟩ := r.at_ n vs q
    refine ⟨a, ws, h1, ?_, RVs.wk (Wk.unhide e) h3⟩
    rw [del_ne]; exact h2
    rintro rfl
    exact (r.hd _ dm).2 (List.mem_of_getElem? h1)
  · rw [del_ne]
    · exact (r.hd a (by rw [e]; exact List.mem_cons_of_mem _ ha)).1
    · rintro rfl; exact hn ha
/-- out of a turn's run -/
theorem unhide_all {u : HO} (rs : RS K m H s) (hD : H D = none) (x : Ext (m.hide D) (upd H D u) m' H') (rs' : RS K m' H' s') :
    H' D = some u ∧ Ext m H (m'.show m.hid) (del H' D) ∧ RS K (m'.show m.hid) (del H' D) s' ∧ Wk m' H' (m'.show m.hid) (del H' D) := by
  have nl := rs.freshL hD
  have e : m'.hid = D :: m.hid := x.hid
  have nh : D ∉ m.hid := fun z => (rs.hd D z).1 hD
  refine ⟨(x.kl D _ upd_same nl).1, ⟨fun a o q n => ?_, x.len, x.pl, rfl⟩, rs'.unhide e nh, Wk.unhide e⟩
  have ne : a ≠ D := ne_of_none q hD
  obtain ⟨h1, h2⟩ := x.kl a o (by rw [upd_ne ne]; exact q) n
  exact ⟨by rw [del_ne ne]; exact h1, h2⟩
end
theorem Rs.bind_ok {α β : Type} {r : Rs α} {f : α → Sto → Rs β} {b : β} {s : Sto} (h : r.bind f = .ok b s) : ∃ a s1, r = .ok a s1 ∧ f a s1 = .ok b s := by
  cases r with
  | ok a s1 => exact ⟨a, s1, rfl, h⟩
  | ex _ _ _ => cases h
  | no => cases h
/-- a comprehension's turn -/
def turnF (C : Cal) (elt tg cnd : IE) (e : Sl) : Vl → Sto → Rs (Option Vl) := fun v s => match setTgV tg v e with
  | none => .no
  | some e1 => (tst C cnd e1 s).bind fun b s => if b then (ev C elt e1 s).bind fun x s => .ok (some x) s else .ok none s
theorem post_ok {α β : Type} {K : PySem.W.Frag} {m : Mu} {H : Hp} {s : Sto} {R : Mu → Hp → α → β → Prop} {E : XK} {Q : β → Hp → Prop} {r : Rs α} {a : α} (h : r = .ok a s) (f : ∀ m' H' b, Ext m H m' H' → RS K m' H' s → R m' H' a b → Q b H') : Post K cl R E Q m H r := by
  subst h; exact f
theorem comp_turn {K : PySem.W.Frag} {m : Mu} {Gh H'' : Hp} {s s' : Sto} {D : Addr} {acc : List Vl} {ws : List V} {e : Sl} {σ : L2.St} {elt tg cnd : IE} {own : List Nat} {u : Vl} {x : V} {o : Option Vl} {P : Hp → Prop}
    (rs : RS K m Gh s) (hD : Gh D = none) (rv : RVs K m Gh acc ws) (re : RE K m Gh e σ) (hk : ∀ a o, upd Gh D (.lst ws) a = some o → H'' a = some o) (ru : RV K (m.hide D) H'' u x)
    (ht : turnF C elt tg cnd (wipe e own) u s = .ok o s') (hsub : ∀ i ∈ tgS tg, i ∈ own) (hsz : ∀ v, o = some v → acc.length < sizeLine)
    (cont : ∀ m' G' ws', Ext m Gh m' G' → G' D = none → RS K m' G' s' → RVs K m' G' (acc ++ o.toList) ws' → P (upd G' D (.lst ws'))) :
    tG K tg x (L2.wipe σ own) H'' fun σ2 H2 => L2.wipe σ2 own = L2.wipe σ own ∧ tC K cl C noW cnd σ2 H2 fun b H3 =>
      if b = true then tE K cl C noW elt σ2 H3 fun y H4 => ∃ acc, H4 D = some (.lst acc) ∧ acc.length < sizeLine ∧ P (upd H4 D (.lst (acc ++ [y]))) else P H3 := by
  have x1 : Ext (m.hide D) (upd Gh D (.lst ws)) (m.hide D) H'' := Ext.same hk
  have w1 : Wk m Gh (m.hide D) H'' := (Wk.hide hD).trans x1.wk
  have rs1 : RS K (m.hide D) H'' s := (rs.hide hD).same hk
  have re1 : RE K (m.hide D) H'' (wipe e own) (L2.wipe σ own) := (re.wk w1).wipe own
  unfold turnF at ht
  cases hs : setTgV tg u (wipe e own) with
  | none => rw [hs] at ht; cases ht
  | some e1 =>
  rw [hs] at ht
  obtain ⟨b, s1, ht1, ht2⟩ := Rs.bind_ok ht
  refine ⟨_, _, _, _, re1, ru, hs, fun σ2 re2 hsame => ⟨wipe_wipe (hsame.sub hsub), _, _, _, re2, rs1, post_ok ht1 fun m3 H3 b' x3 rs3 eb => ?_⟩⟩
  have eb : b = b' := eb
  subst eb
  cases b with
  | false =>
    simp only [Bool.false_eq_true, if_false] at ht2 ⊢
    cases ht2
    obtain ⟨g1, g2, g3, g4⟩ := unhide_all rs hD (x1.trans x3) rs3
    have := cont _ _ ws g2 del_self g3 (by
      rw [show acc ++ (none : Option Vl).toList = acc from List.append_nil acc]
      exact rv.ext g2)
    rwa [upd_del' g1] at this
  | true =>
    simp only [if_true] at ht2 ⊢
    obtain ⟨v, s2, ht3, ht4⟩ := Rs.bind_ok ht2
    cases ht4
    refine ⟨_, _, _, re2.ext x3, rs3, post_ok ht3 fun m4 H4 y x4 rs4 ry => ?_⟩
    obtain ⟨g1, g2, g3, g4⟩ := unhide_all rs hD (x1.trans (x3.trans x4)) rs4
    refine ⟨ws, g1, by rw [← rv.length]; exact hsz v rfl, ?_⟩
    have := cont _ _ (ws ++ [y]) g2 del_self g3 (RVs.app (rv.ext g2) (RVs.one (ry.wk g4)))
    rwa [upd_del] at this
end
end SM

set_option maxHeartbeats 1000000
/-! SM: comprehensions, and every expression. -/
namespace SM
open PySem L2 PySem.Spec PyProof.Rows
section
variable {G : Sg} {N : List Str} {cl : Nat → Value} {C : Cal} {k : Nat}
theorem snd_frz {a : IE} (ha : OkE G N cl C k a) : OkE G N cl C k (.frz a) := by
  intro sc fnB W X c x h
  refine PE.weak (ha c (x := x) h) fun σ H Q ⟨m, e, s, re, rs, h⟩ => ?_
  refine tE_k re rs h fun x H1 m1 v s1 re1 _ rs1 rv1 h1 => ?_
  cases v with
  | d y => exact Post.here (R := RV X.K) (a := Vl.d y) rs1 rv1 h1
  | r n =>
    have h1 : Post X.K cl (RV X.K) (WE W σ) Q m1 H1 (ofP ((listAt n s1).bind fun vs => (frzL vs s1).bind fun p => (listAt n p.2).map fun _ => (Vl.d (.list p.1), p.2.set n none))) := h1
    have lst : ∀ {st : Sto} {us : List Vl}, listAt n st = some us → st[n]? = some (some (.lst us)) := fun {st us} q => by
      unfold listAt at q
      split at q
      · cases q; assumption
      · cases q
    cases q : listAt n s1 with
    | none => rw [q] at h1; exact h1.elim
    | some vs =>
      rw [q] at h1
      cases q2 : frzL vs s1 with
      | none => simp [q2] at h1; exact h1.elim
      | some p =>
        simp [q2] at h1
        cases q3 : listAt n p.2 with
        | none => simp [q3] at h1; exact h1.elim
        | some us =>
          simp [q3] at h1
          obtain ⟨a, ws, rfl, g1, g2, g3⟩ := rs1.get q rv1
          obtain ⟨m2, f1, f2, f3⟩ := RS.frzL rs1 g3 q2
          obtain ⟨a2, ws2, k1, k2, _⟩ := f2.at_ n us (lst q3)
          have ea : a2 = a := by
            rcases f1.pl n (List.getElem?_eq_some_iff.mp g1).1 with z | z
            · rw [z, g1] at k1; cases k1; rfl
            · rw [z] at k1; cases k1
          subst ea
          obtain ⟨e1, e2, e3⟩ := f2.freeze (lst q3) k1 g2 f3
          exact h1 _ _ _ (f1.trans e1) e2 e3
/-- list(range(j)) -/
theorem lrg_fin {mf : Bool} {a : IE} (ha : OkE G N cl C k a) {sc : Scope} {fnB : Str → Bool} {W : WX} {X : Cx} (c : Cok G N cl C k fnB sc W X) {y z : Str} {p p2 pos pos2 : Pos} {a2 : Expr} (h : chk G N sc (.lrg mf a) (.Call (.Name y p) [.Call (.Name z p2) [a2] [] pos2] [] pos) = true) :
    PE X (.Call (.Name y p) [.Call (.Name z p2) [a2] [] pos2] [] pos) (tE X.K cl C W (.lrg mf a)) := by
  simp only [chk, Bool.and_eq_true, decide_eq_true_eq] at h
  obtain ⟨⟨⟨⟨⟨⟨e1, h1⟩, h2⟩, e2⟩, h3⟩, h4⟩, h5⟩ := h
  subst e1
  subst e2
  refine PE.weak (pe_listRg c.calm (c.gl h1) (c.bi _ h2) (prg_1 (c.gl h3) (c.bi _ h4) (ha c h5) (star_ok h5 _ _)) (by rfl)) fun σ H Q ⟨m, e, s, re, rs, h⟩ => ?_
  refine tE_k re rs h fun x H1 m1 v s1 re1 _ rs1 rv1 h1 => ?_
  have pp := h1.pure
  unfold lrgV at pp
  split at pp
  · rename_i j
    split at pp
    · rename_i hj
      have ex : x = .int j := rv1
      subst ex
      have rr : ∀ l : List Nat, RVs X.K m1 H1 (l.map fun i : Nat => Vl.d (.int i)) (l.map fun i => V.int (0 + (i : Nat))) := fun l => by
        induction l with
        | nil => exact rfl
        | cons i l ih => exact ⟨_, _, rfl, by show V.int _ = V.int _; rw [Int.zero_add], ih⟩
      refine ⟨j, rfl, ⟨by omega, by omega, by omega, by omega, by omega⟩, fun q hq => ?_⟩
      have rv : RVs X.K m1 H1 ((List.range j.toNat).map fun i : Nat => Vl.d (.int i)) (rgV 0 j) := by
        unfold rgV
        rw [Int.sub_zero]
        exact rr _
      exact mkL_new rs1 rv hq pp
    · exact pp.elim
  · exact pp.elim
theorem snd_lrg {mf : Bool} {a : IE} (ha : OkE G N cl C k a) : OkE G N cl C k (.lrg mf a) := by
  intro sc fnB W X c x h
  cases x <;> first | (cases h; done) | skip
  rename_i f as ks pos
  cases f <;> first | (cases h; done) | skip
  rename_i y p
  cases as with
  | nil => cases ks <;> cases h
  | cons a1 as =>
  cases a1
  case Call f2 as2 ks2 pos2 =>
    cases f2
    case Name z p2 =>
      cases as2 with
      | nil => cases ks2 <;> cases as <;> cases ks <;> cases h
      | cons a2 as2 =>
      cases as2 with
      | cons _ _ => cases ks2 <;> cases as <;> cases ks <;> cases h
      | nil =>
      cases ks2 <;> cases as <;> cases ks <;> first | (cases h; done) | skip
      exact lrg_fin ha c h
    all_goals (cases as2 <;> cases ks2 <;> cases as <;> cases ks <;> cases h)
  all_goals (cases as <;> cases ks <;> cases h)
theorem foldi {sc : Scope} {ie : IE} {tg e : Expr} (h : chki G N sc ie e = true) (env : Env) (x : Value) : foldedSetIterable e env x = pure x := by
  cases ie with
  | itv a => exact fold_ok h env x
  | _ => cases e <;> first | rfl | (cases h; done)
theorem listAt_of {n : Nat} {s : Sto} {vs : List Vl} (q : listAt n s = some vs) : s[n]? = some (some (.lst vs)) := by
  unfold listAt at q
  split at q
  · cases q; assumption
  · cases q
/-- the end of a comprehension -/
theorem comp_end {K : PySem.W.Frag} {mf : Bool} {m1 m : Mu} {H1 Gh : Hp} {s2 : Sto} {D : Addr} {vs : List Vl} {ws : List V} {E : XK} {Q : VK} (p : Post K cl (RV K) E Q m1 H1 (ofP (mkL mf vs s2))) (x : Ext m1 H1 m Gh) (rs : RS K m Gh s2) (hD : Gh D = none) (rv : RVs K m Gh vs ws) : Q (.ref D) (upd Gh D (.lst ws)) := by
  have p := Post.ext x p
  refine mkL_new (K := K) (mf := mf) rs rv hD ?_
  cases q : mkL mf vs s2 with
  | none => rw [q] at p; exact p.elim
  | some r => rw [q] at p; obtain ⟨a, s'⟩ := r; exact p
theorem mkL_le {K : PySem.W.Frag} {mf : Bool} {m : Mu} {H : Hp} {s : Sto} {vs : List Vl} {E : XK} {Q : VK} (p : Post K cl (RV K) E Q m H (ofP (mkL mf vs s))) : vs.length ≤ sizeLine := by
  unfold mkL at p
  split at p
  · assumption
  · exact p.elim
theorem appO {acc r : List Vl} (o : Option Vl) : acc ++ (match o with | some v => v :: r | none => r) = (acc ++ o.toList) ++ r := by
  cases o <;> simp
theorem comp_reads {fnB : Str → Bool} {sc : Scope} {W : WX} {X : Cx} {mf : Bool} {elt tg it cnd : IE} {own : List Nat} (hsub : ∀ i ∈ tgS tg, i ∈ own) : ∀ σ H Q, tE X.K cl C W (.comp mf elt tg it cnd own) σ H Q → tLc (tI X.K cl C W it) (tG X.K tg) (tC X.K cl C noW cnd) (tE X.K cl C noW elt) own σ H Q := by
  intro σ H Q ⟨m, e, s, re, rs, h⟩
  refine ⟨m, e, s, re, rs, post_k h fun J H1 m1 I s1 x1 rs1 ri p => ?_⟩
  have re1 := re.ext x1
  intro D hD
  replace p : Post X.K cl (RV X.K) (WE W σ) Q m1 H1 ((noex (cmI (turnF C elt tg cnd (wipe e own)) I s1)).bind fun vs s => ofP (mkL mf vs s)) := p
  cases hq : cmI (turnF C elt tg cnd (wipe e own)) I s1 with
  | ex _ _ _ => rw [hq] at p; exact p.elim
  | no => rw [hq] at p; exact p.elim
  | ok vs s2 =>
  rw [hq] at p
  replace p : Post X.K cl (RV X.K) (WE W σ) Q m1 H1 (ofP (mkL mf vs s2)) := p
  have hlen := mkL_le p
  cases I with
  | vals ds =>
    obtain ⟨Gd, Y, wk, hg, hy⟩ := ri
    have hq : cmL (turnF C elt tg cnd (wipe e own)) ds s1 = .ok vs s2 := hq
    refine lc_it wk (fun i Hh => ∃ (m' : Mu) (Gh : Hp) (s' : Sto) (acc : List Vl) (ws : List V) (rest : List Vl), Hh = upd Gh D (.lst ws) ∧ Gh D = none ∧ Ext m1 H1 m' Gh ∧ RS X.K m' Gh s' ∧ RVs X.K m' Gh acc ws ∧
      cmL (turnF C elt tg cnd (wipe e own)) (ds.drop i) s' = .ok rest s2 ∧ vs = acc ++ rest) ?_ ?_ ?_ ?_
    · exact ⟨m1, H1, s1, [], [], vs, rfl, hD, Ext.refl, rs1, rfl, hq, rfl⟩
    · rintro i Hh - ⟨m', Gh, s', acc, ws, rest, rfl, g1, g2, g3, g4, g5, g6⟩
      exact hg m' _ (g2.trans (Ext.new g1)).wk
    · rintro i x Hh H'' hi ⟨m', Gh, s', acc, ws, rest, rfl, g1, g2, g3, g4, g5, g6⟩ y
      rw [List.drop_eq_getElem_cons hi] at g5
      obtain ⟨o, s3, t1, t2⟩ := Rs.bind_ok g5
      obtain ⟨r', s4, t3, t4⟩ := Rs.bind_ok t2
      injection t4 with t4 t5
      subst t5
      have wkh : Wk m1 H1 (m'.hide D) (upd Gh D (.lst ws)) := g2.wk.trans (Wk.hide g1)
      obtain ⟨k1, d, k2, k3⟩ := hy _ _ _ _ _ _ wkh (g3.hide g1) hi y
      rw [List.getElem?_eq_getElem hi] at k2
      injection k2 with k2
      have hvs : vs = (acc ++ o.toList) ++ r' := by rw [g6, ← t4]; exact appO o
      refine comp_turn (u := .d d) g3 g1 g4 (re1.ext g2) k1 k3 (by rw [← k2]; exact t1) hsub (fun v ho => ?_) (fun m'' G'' ws'' q1 q2 q3 q4 => ?_)
      · subst ho
        have : vs.length = acc.length + 1 + r'.length := by rw [hvs]; simp; omega
        omega
      · exact ⟨m'', G'', s3, _, ws'', r', rfl, q2, g2.trans q1, q3, q4, t3, hvs⟩
    · rintro Hh ⟨m', Gh, s', acc, ws, rest, rfl, g1, g2, g3, g4, g5, g6⟩
      rw [List.drop_length] at g5
      cases g5
      rw [List.append_nil] at g6
      subst g6
      exact comp_end p g2 g3 g1 g4
  | ref n =>
    obtain ⟨a, ha, rfl⟩ := ri
    have hq : cmR (turnF C elt tg cnd (wipe e own)) n ((listAt n s1).map List.length |>.getD 0) 0 s1 = .ok vs s2 := hq
    refine ⟨fun i f Hh => ∃ (m' : Mu) (Gh : Hp) (s' : Sto) (acc : List Vl) (ws : List V) (rest : List Vl), Hh = upd Gh D (.lst ws) ∧ Gh D = none ∧ Ext m1 H1 m' Gh ∧ RS X.K m' Gh s' ∧ RVs X.K m' Gh acc ws ∧
      cmR (turnF C elt tg cnd (wipe e own)) n f i s' = .ok rest s2 ∧ vs = acc ++ rest, ⟨_, m1, H1, s1, [], [], vs, rfl, hD, Ext.refl, rs1, rfl, hq, rfl⟩, ?_⟩
    rintro i f Hh ⟨m', Gh, s', acc, ws, rest, rfl, g1, g2, g3, g4, g5, g6⟩
    unfold cmR at g5
    cases ql : listAt n s' with
    | none => rw [ql] at g5; cases g5
    | some us =>
    rw [ql] at g5
    simp only at g5
    obtain ⟨a', zs, z1, z2, z3⟩ := g3.at_ n us (listAt_of ql)
    have hn1 : n < m1.l.length := (List.getElem?_eq_some_iff.mp ha).1
    have ea : a' = a := by
      rcases g2.pl n hn1 with z | z
      · rw [z, ha] at z1; cases z1; rfl
      · rw [z] at z1; cases z1
    subst ea
    have na : a' ≠ D := ne_of_none z2 g1
    have za : (upd Gh D (.lst ws)) a' = some (.lst zs) := by rw [upd_ne na]; exact z2
    cases qi : us[i]? with
    | none =>
      rw [qi] at g5
      cases g5
      rw [List.append_nil] at g6
      subst g6
      refine .inl ⟨⟨zs, SqL.of za, ?_⟩, comp_end p g2 g3 g1 g4⟩
      rw [← z3.length]
      exact List.getElem?_eq_none_iff.mp qi
    | some u =>
      rw [qi] at g5
      simp only at g5
      cases f with
      | zero => cases g5
      | succ f =>
      simp only at g5
      obtain ⟨o, s3, t1, t2⟩ := Rs.bind_ok g5
      obtain ⟨r', s4, t3, t4⟩ := Rs.bind_ok t2
      injection t4 with t4 t5
      subst t5
      obtain ⟨x, w1, w2⟩ := z3.get qi
      have hvs : vs = (acc ++ o.toList) ++ r' := by rw [g6, ← t4]; exact appO o
      refine .inr ⟨⟨zs, x, SqL.of za, w1⟩, fun Hh => ∃ (m' : Mu) (Gh : Hp) (s' : Sto) (acc : List Vl) (ws : List V) (rest : List Vl), Hh = upd Gh D (.lst ws) ∧ Gh D = none ∧ Ext m1 H1 m' Gh ∧ RS X.K m' Gh s' ∧ RVs X.K m' Gh acc ws ∧
        cmR (turnF C elt tg cnd (wipe e own)) n f (i + 1) s' = .ok rest s4 ∧ vs = acc ++ rest, fun H' q => ⟨f, Nat.lt_succ_self f, q⟩, fun x' H' y => ?_⟩
      obtain ⟨rfl, y⟩ := y
      have := y zs (SqL.of za)
      rw [w1] at this
      cases this
      refine comp_turn (u := u) g3 g1 g4 (re1.ext g2) (fun _ _ h => h) (RV.wk (Wk.hide g1) w2) t1 hsub (fun v ho => ?_) (fun m'' G'' ws'' q1 q2 q3 q4 => ?_)
      · subst ho
        have : vs.length = acc.length + 1 + r'.length := by rw [hvs]; simp; omega
        omega
      · exact ⟨m'', G'', s3, _, ws'', r', rfl, q2, g2.trans q1, q3, q4, t3, hvs⟩
theorem snd_comp {mf : Bool} {elt tg it cnd : IE} {own : List Nat} (he : OkE G N cl C k elt) (hi : OkI G N cl C k it) (hcnd : OkC G N cl C k cnd) : OkE G N cl C k (.comp mf elt tg it cnd own) := by
  intro sc fnB W X c x h
  cases x <;> first | (cases h; done) | skip
  rename_i elt' gens scope pos
  cases gens with
  | nil => cases h
  | cons g gs =>
  cases gs with
  | cons _ _ =>
    obtain ⟨_, _, _, nn⟩ := g
    cases nn with
    | negSucc _ => cases h
    | ofNat n => cases n <;> cases h
  | nil =>
  obtain ⟨tg', it', ifs', nn⟩ := g
  cases nn with
  | negSucc _ => cases h
  | ofNat nn =>
  cases nn with
  | succ _ => cases h
  | zero =>
  have h : (zipTg it tg' && chki G N sc it it' && blkC N sc scope (ownP N own) && chkG (blkF scope) (relS scope sc) N tg tg' && (tgS tg).all (fun i => decide (i ∈ own)) && chkc G N (relS scope sc) cnd ifs' && chk G N (relS scope sc) elt elt') = true := h
  simp only [Bool.and_eq_true] at h
  obtain ⟨⟨⟨⟨⟨⟨h1, h2⟩, h3⟩, h4⟩, h5⟩, h6⟩, h7⟩ := h
  have hsub : ∀ i ∈ tgS tg, i ∈ own := fun i hi => by
    have := List.all_eq_true.mp h5 i hi
    exact of_decide_eq_true this
  have blk := c.blk
  refine PE.weak (pe_lc (wi := tI X.K cl C W it) (g := tG X.K tg) (tt := tC X.K cl C noW cnd) (te := tE X.K cl C noW elt) (own := ownP N own) c.calm (by rw [c.n]; exact c.nd) (hi c h1 h2) (by rw [c.n, c.sc]; exact blkOk_by h3)
    (fun s H Ca cls fp => snd_tgV (c.blk s H scope Ca cls fp) tg tg' h4) (fun s H Ca cls fp => hcnd (c.blk s H scope Ca cls fp) h6) (fun s H Ca cls fp => he (c.blk s H scope Ca cls fp) h7) (fun x => foldi (tg := tg') h2 X.env x)) fun σ H Q q => by
    rw [own_map]
    exact comp_reads (sc := sc) (fnB := fnB) hsub σ H Q q
/-! ### dict displays -/
theorem snd_dic {ks vs : IE} (hv : ∀ v r, vs = .cons v r → OkE G N cl C k v) : OkE G N cl C k (.dic ks vs) := by
  intro sc fnB W X c x h
  cases x <;> first | (cases h; done) | skip
  rename_i ks' vs' pos
  replace h : chkd G N sc vs ks ks' vs' = true := h
  cases vs <;> first | (cases ks <;> cases h; done) | skip
  · cases ks <;> first | (cases h; done) | skip
    cases ks' with
    | cons _ _ => cases h
    | nil =>
    cases vs' with
    | cons _ _ => cases h
    | nil =>
    refine PE.weak pe_dnewK fun σ H Q ⟨m, e, s, re, rs, h⟩ => ?_
    have h : Post X.K cl (RV X.K) (WE W σ) Q m H (.ok (.d (.dict [])) s) := h
    intro p hp
    exact h m _ (.ref p) (Ext.new hp) (rs.new hp) ⟨p, [], rfl, rs.fresh hp, upd_same, rfl⟩
  · rename_i v r
    cases r <;> first | (cases h; done) | skip
    cases ks <;> first | (cases h; done) | skip
    rename_i k0 kr
    cases k0 <;> first | (cases h; done) | skip
    rename_i d
    cases d <;> first | (cases h; done) | skip
    rename_i y
    cases kr <;> first | (cases h; done) | skip
    cases ks' with
    | nil => cases h
    | cons k1 ks' =>
    cases k1 with
    | none => cases h
    | some k1 =>
    cases k1 <;> first | (cases h; done) | skip
    rename_i z j p1
    cases z <;> first | (cases h; done) | skip
    rename_i z
    cases ks' with
    | cons _ _ => cases h
    | nil =>
    cases vs' with
    | nil => cases h
    | cons w vs' =>
    cases vs' with
    | cons _ _ => cases h
    | nil =>
    have h : (decide (y = z) && chk G N sc v w) = true := h
    simp only [Bool.and_eq_true, decide_eq_true_eq] at h
    obtain ⟨e1, h1⟩ := h
    subst e1
    refine PE.weak (pe_disp (pps_cons pe_str (hv v _ rfl c h1) pps_nil) rfl rfl (by simp) (by simp)) fun σ H Q ⟨m, e, s, re, rs, h⟩ => ?_
    have h : Post X.K cl (RV X.K) (WE W σ) Q m H ((noex ((ev C v e s).bind fun a s => .ok [a] s)).bind fun b s => ofP (dicV [.d (.str y)] b s)) := h
    intro p hp
    cases hq : ev C v e s with
    | ex _ _ _ => rw [hq] at h; exact h.elim
    | no => rw [hq] at h; exact h.elim
    | ok u s1 =>
    rw [hq] at h
    have h : Post X.K cl (RV X.K) (WE W σ) Q m H (ofP (dicV [.d (.str y)] [u] s1)) := h
    have w0 : Wk m H (m.hide p) (upd H p (.dK [])) := Wk.hide hp
    refine ⟨m.hide p, e, s, re.wk w0, rs.hide hp, post_ok hq fun m1 H1 x x1 rs1 rx => ?_⟩
    obtain ⟨g1, g2, g3, g4⟩ := unhide_all rs hp x1 rs1
    refine ⟨g1, [(.inr y, x)], rfl, by simp, ?_⟩
    cases u with
    | r n => exact h.elim
    | d z =>
      have h : Post X.K cl (RV X.K) (WE W σ) Q m H (.ok (.d (.dict [(.str y, z)])) s1) := h
      rw [← upd_del]
      have e2 : Ext (m1.show m.hid) (SM.del H1 p) (m1.show m.hid) (upd (SM.del H1 p) p (.dK (mergeK [] [(.inr y, x)]))) := Ext.new del_self
      refine h _ _ _ (g2.trans e2) (g3.new del_self) ⟨p, mergeK [] [(.inr y, x)], rfl, g3.fresh del_self, upd_same, .inr y, x, [], rfl, rfl, ?_, rfl⟩
      exact Rep.kp e2.kp (Rep.kp g4.kp rx)
end
end SM

set_option maxHeartbeats 1000000
/-! SM: every expression. -/
namespace SM
open PySem L2 PySem.Spec PyProof.Rows
section
variable {G : Sg} {N : List Str} {cl : Nat → Value} {C : Cal} {k : Nat}
structure Oks (G : Sg) (N : List Str) (cl : Nat → Value) (C : Cal) (k : Nat) (ie : IE) : Prop where
  e : OkE G N cl C k ie
  t : OkT G N cl C k ie
  a : OkA G N cl C k ie
  o : OkO G N cl C k ie
  c : OkC G N cl C k ie
  i : OkI G N cl C k ie
  kk : OkK G N cl C k ie
  h : ∀ v r, ie = .cons v r → OkE G N cl C k v
  an : OkAnd G N cl C k ie
  or : OkOr G N cl C k ie
theorem okT_plain {ie : IE} (h : OkE G N cl C k ie) (p : ∀ (sc : Scope) (x : Expr), chk G N sc ie x = true → plainT x = true) : OkT G N cl C k ie := by
  intro sc fnB W X c x h1 _
  exact pt_plain (h c h1) (p _ _ h1)
theorem Oks.mk' {ie : IE} (e : OkE G N cl C k ie) (t : OkT G N cl C k ie)
    (a : ∀ sc x, chks G N sc ie x = false) (o : ∀ sc x, chko G N sc ie x = false) (c : ∀ sc x, chkc G N sc ie x = false) (i : ∀ sc x, chki G N sc ie x = false) (kk : ∀ sc x, chkk G N sc ie x = false) (h : ∀ v r, ie ≠ .cons v r := by intro _ _ e; cases e) : Oks G N cl C k ie where
  h := fun v r e => absurd e (h v r)
  kk := fun _ _ h => by rw [kk] at h; cases h
  e := e
  t := t
  a := fun _ _ h => by rw [a] at h; cases h
  o := fun _ _ h => by rw [o] at h; cases h
  c := fun _ _ h => by rw [c] at h; cases h
  i := fun _ _ _ _ h => by rw [i] at h; cases h
  an := fun _ _ _ h => by rw [a] at h; cases h
  or := fun _ _ _ h => by rw [a] at h; cases h
theorem Oks.it {ie : IE} (i : OkI G N cl C k ie) (e : ∀ sc x, chk G N sc ie x = false)
    (a : ∀ sc x, chks G N sc ie x = false) (o : ∀ sc x, chko G N sc ie x = false) (c : ∀ sc x, chkc G N sc ie x = false) (kk : ∀ sc x, chkk G N sc ie x = false) (h : ∀ v r, ie ≠ .cons v r := by intro _ _ e; cases e) : Oks G N cl C k ie where
  h := fun v r e => absurd e (h v r)
  kk := fun _ _ h => by rw [kk] at h; cases h
  e := fun _ _ h => by rw [e] at h; cases h
  t := fun _ _ h => by rw [e] at h; cases h
  a := fun _ _ h => by rw [a] at h; cases h
  o := fun _ _ h => by rw [o] at h; cases h
  c := fun _ _ h => by rw [c] at h; cases h
  i := i
  an := fun _ _ _ h => by rw [a] at h; cases h
  or := fun _ _ _ h => by rw [a] at h; cases h
theorem okT_frz {a : IE} (h : OkT G N cl C k a) : OkT G N cl C k (.frz a) := by
  intro sc fnB W X c x h1 h2
  refine PT.weak (h c (x := x) h1 h2) fun σ H Q ⟨m, e, s, re, rs, q⟩ => ⟨m, e, s, re, rs, ?_⟩
  unfold evT at q ⊢
  replace q : Post X.K cl REq (WE W σ) Q m H ((ev C a.frz e s).bind fun v s => ofO (isTrue? v) s) := q
  show Post X.K cl REq (WE W σ) Q m H ((ev C a e s).bind fun v s => ofO (isTrue? v) s)
  rw [show ev C (.frz a) e s = (ev C a e s).bind fun x s => ofP (frzV x s) from rfl, Rs.bind_assoc] at q
  cases hv : ev C a e s with
  | no => rw [hv] at q; exact q
  | ex _ _ _ => rw [hv] at q; exact q
  | ok v s1 =>
    rw [hv] at q
    cases v with
    | d y => exact q
    | r n =>
      exfalso
      have q : Post X.K cl REq (WE W σ) Q m H ((ofP ((listAt n s1).bind fun vs => (frzL vs s1).bind fun p => (listAt n p.2).map fun _ => (Vl.d (.list p.1), p.2.set n none))).bind fun v s => ofO (isTrue? v) s) := q
      cases q1 : listAt n s1 with
      | none => rw [q1] at q; exact q
      | some vs =>
        rw [q1] at q
        cases q2 : frzL vs s1 with
        | none => simp [q2] at q; exact q
        | some p =>
          simp [q2] at q
          cases q3 : listAt n p.2 with
          | none => simp [q3] at q; exact q
          | some us => simp [q3] at q; exact q
theorem chkF_ok {ie : IE} (e : ∀ sc x, chk G N sc ie x = false) (a : ∀ sc x, chks G N sc ie x = false) (o : ∀ sc x, chko G N sc ie x = false) (c : ∀ sc x, chkc G N sc ie x = false) (i : ∀ sc x, chki G N sc ie x = false) (kk : ∀ sc x, chkk G N sc ie x = false) (h : ∀ v r, ie ≠ .cons v r := by intro _ _ e; cases e) : Oks G N cl C k ie :=
  Oks.mk' (fun _ _ h => by rw [e] at h; cases h) (fun _ _ h => by rw [e] at h; cases h) a o c i kk h
theorem oks : ∀ ie : IE, Oks G N cl C k ie := by
  intro ie
  induction ie with
  | nil => exact ⟨fun _ _ h => (by cases h), fun _ _ h => (by cases h), snd_nil, snd_onil, snd_cnil, fun _ _ _ _ h => (by cases h), snd_knil, fun _ _ e => (by cases e),
      fun {sc} {fnB} {W} {X} _ {x} {pos} h _ n => (by cases x with
        | nil => exact absurd rfl n
        | cons _ _ => cases h), fun {sc} {fnB} {W} {X} _ {x} {pos} h _ n => (by cases x with
        | nil => exact absurd rfl n
        | cons _ _ => cases h)⟩
  | cons a r iha ihr =>
    refine ⟨fun _ _ h => (by cases h), fun _ _ h => (by cases h), snd_cons iha.e ihr.a, snd_o iha.e, snd_ccons iha.t, fun _ _ _ _ h => (by cases h), snd_kcons iha.e ihr.kk, fun v r e => (by cases e; exact iha.e), ?_, ?_⟩
    · cases r with
      | nil => exact snd_and1 iha.e iha.t
      | cons b r => exact snd_and iha.e iha.t ihr.an
      | _ =>
        intro sc fnB W X c x pos h
        cases x with
        | nil => cases h
        | cons x xs => simp only [chks, Bool.and_eq_true] at h; cases xs <;> cases h.2
    · cases r with
      | nil => exact snd_or1 iha.e iha.t
      | cons b r => exact snd_or iha.e iha.t ihr.or
      | _ =>
        intro sc fnB W X c x pos h
        cases x with
        | nil => cases h
        | cons x xs => simp only [chks, Bool.and_eq_true] at h; cases xs <;> cases h.2
  | var i => exact .mk' snd_var (okT_plain snd_var fun sc x h => by cases x <;> first | rfl | (cases h; done)) (fun _ x => by cases x <;> rfl) (fun _ x => by cases x <;> rfl) (fun _ x => by cases x <;> rfl) (fun _ x => by cases x <;> rfl) (fun _ x => by cases x <;> rfl)
  | lit d => exact .mk' snd_lit (okT_plain snd_lit fun sc x h => by cases x <;> first | rfl | (cases d <;> cases h; done)) (fun _ x => by cases x <;> rfl) (fun _ x => by cases x <;> rfl) (fun _ x => by cases x <;> rfl) (fun _ x => by cases x <;> rfl) (fun _ x => by cases x <;> rfl)
  | glob x d => exact .mk' snd_glob (okT_plain snd_glob fun sc x h => by cases x <;> first | rfl | (cases h; done)) (fun _ x => by cases x <;> rfl) (fun _ x => by cases x <;> rfl) (fun _ x => by cases x <;> rfl) (fun _ x => by cases x <;> rfl) (fun _ x => by cases x <;> rfl)
  | bop m o a b iha ihb => exact .mk' (snd_bop iha.e ihb.e) (okT_plain (snd_bop iha.e ihb.e) fun sc x h => by cases x <;> first | rfl | (cases h; done)) (fun _ x => by cases x <;> rfl) (fun _ x => by cases x <;> rfl) (fun _ x => by cases x <;> rfl) (fun _ x => by cases x <;> rfl) (fun _ x => by cases x <;> rfl)
  | neg a iha => exact .mk' (snd_neg iha.e) (okT_plain (snd_neg iha.e) fun sc x h => by
      cases x <;> first | rfl | (cases h; done) | skip
      rename_i op _ _
      cases op <;> first | rfl | (simp [chk] at h; done)) (fun _ x => by cases x <;> rfl) (fun _ x => by cases x <;> rfl) (fun _ x => by cases x <;> rfl) (fun _ x => by cases x <;> rfl) (fun _ x => by cases x <;> rfl)
  | not a iha => exact .mk' (snd_not iha.e iha.t).1 (snd_not iha.e iha.t).2 (fun _ x => by cases x <;> rfl) (fun _ x => by cases x <;> rfl) (fun _ x => by cases x <;> rfl) (fun _ x => by cases x <;> rfl) (fun _ x => by cases x <;> rfl)
  | cmp o a b iha ihb => exact .mk' (snd_cmp iha.e ihb.e).1 (snd_cmp iha.e ihb.e).2 (fun _ x => by cases x <;> rfl) (fun _ x => by cases x <;> rfl) (fun _ x => by cases x <;> rfl) (fun _ x => by cases x <;> rfl) (fun _ x => by cases x <;> rfl)
  | chain o p a b c iha ihb ihc => exact .mk' (snd_chain iha.e ihb.e ihc.e).1 (snd_chain iha.e ihb.e ihc.e).2 (fun _ x => by cases x <;> rfl) (fun _ x => by cases x <;> rfl) (fun _ x => by cases x <;> rfl) (fun _ x => by cases x <;> rfl) (fun _ x => by cases x <;> rfl)
  | and es ih => exact .mk' (snd_bool ih.an ih.or).1.1 (snd_bool ih.an ih.or).1.2 (fun _ x => by cases x <;> rfl) (fun _ x => by cases x <;> rfl) (fun _ x => by cases x <;> rfl) (fun _ x => by cases x <;> rfl) (fun _ x => by cases x <;> rfl)
  | or es ih => exact .mk' (snd_bool ih.an ih.or).2.1 (snd_bool ih.an ih.or).2.2 (fun _ x => by cases x <;> rfl) (fun _ x => by cases x <;> rfl) (fun _ x => by cases x <;> rfl) (fun _ x => by cases x <;> rfl) (fun _ x => by cases x <;> rfl)
  | ite c a b ihc iha ihb => exact .mk' (snd_ite ihc.t iha.e ihb.e) (fun {sc} {fnB} {W} {X} _ {x} h h2 => by cases x <;> first | (cases h2; done) | (cases h; done)) (fun _ x => by cases x <;> rfl) (fun _ x => by cases x <;> rfl) (fun _ x => by cases x <;> rfl) (fun _ x => by cases x <;> rfl) (fun _ x => by cases x <;> rfl)
  | tup es ih => exact .mk' (snd_tup ih.a) (okT_plain (snd_tup ih.a) fun sc x h => by cases x <;> first | rfl | (cases h; done)) (fun _ x => by cases x <;> rfl) (fun _ x => by cases x <;> rfl) (fun _ x => by cases x <;> rfl) (fun _ x => by cases x <;> rfl) (fun _ x => by cases x <;> rfl)
  | lst m es ih => exact .mk' (snd_lst ih.a) (okT_plain (snd_lst ih.a) fun sc x h => by cases x <;> first | rfl | (cases h; done)) (fun _ x => by cases x <;> rfl) (fun _ x => by cases x <;> rfl) (fun _ x => by cases x <;> rfl) (fun _ x => by cases x <;> rfl) (fun _ x => by cases x <;> rfl)
  | rep m es k' ih ihk => exact .mk' (snd_rep ih.a ihk.e) (okT_plain (snd_rep ih.a ihk.e) fun sc x h => by cases x <;> first | rfl | (cases h; done)) (fun _ x => by cases x <;> rfl) (fun _ x => by cases x <;> rfl) (fun _ x => by cases x <;> rfl) (fun _ x => by cases x <;> rfl) (fun _ x => by cases x <;> rfl)
  | idx a i iha ihi => exact .mk' (snd_idx iha.e ihi.e) (okT_plain (snd_idx iha.e ihi.e) fun sc x h => by cases x <;> first | rfl | (cases h; done)) (fun _ x => by cases x <;> rfl) (fun _ x => by cases x <;> rfl) (fun _ x => by cases x <;> rfl) (fun _ x => by cases x <;> rfl) (fun _ x => by cases x <;> rfl)
  | sli m a lo hi iha ihl ihh => exact .mk' (snd_sli iha.e ihl.o ihh.o) (okT_plain (snd_sli iha.e ihl.o ihh.o) fun sc x h => by cases x <;> first | rfl | (cases h; done)) (fun _ x => by cases x <;> rfl) (fun _ x => by cases x <;> rfl) (fun _ x => by cases x <;> rfl) (fun _ x => by cases x <;> rfl) (fun _ x => by cases x <;> rfl)
  | rev m a iha => exact .mk' (snd_rev iha.e) (okT_plain (snd_rev iha.e) fun sc x h => by cases x <;> first | rfl | (cases h; done)) (fun _ x => by cases x <;> rfl) (fun _ x => by cases x <;> rfl) (fun _ x => by cases x <;> rfl) (fun _ x => by cases x <;> rfl) (fun _ x => by cases x <;> rfl)
  | bi m b es ih => exact .mk' (snd_bi ih.a) (okT_plain (snd_bi ih.a) fun sc x h => by cases x <;> first | rfl | (cases h; done)) (fun _ x => by cases x <;> rfl) (fun _ x => by cases x <;> rfl) (fun _ x => by cases x <;> rfl) (fun _ x => by cases x <;> rfl) (fun _ x => by cases x <;> rfl)
  | isi a t iha => exact .mk' (snd_isi iha.e) (okT_plain (snd_isi iha.e) fun sc x h => by cases x <;> first | rfl | (cases h; done)) (fun _ x => by cases x <;> rfl) (fun _ x => by cases x <;> rfl) (fun _ x => by cases x <;> rfl) (fun _ x => by cases x <;> rfl) (fun _ x => by cases x <;> rfl)
  | me f a es iha ih => exact .mk' (snd_me iha.e ih.a) (okT_plain (snd_me iha.e ih.a) fun sc x h => by cases x <;> first | rfl | (cases h; done)) (fun _ x => by cases x <;> rfl) (fun _ x => by cases x <;> rfl) (fun _ x => by cases x <;> rfl) (fun _ x => by cases x <;> rfl) (fun _ x => by cases x <;> rfl)
  | call f es ih => exact .mk' (snd_call ih.a) (okT_plain (snd_call ih.a) fun sc x h => by cases x <;> first | rfl | (cases h; done)) (fun _ x => by cases x <;> rfl) (fun _ x => by cases x <;> rfl) (fun _ x => by cases x <;> rfl) (fun _ x => by cases x <;> rfl) (fun _ x => by cases x <;> rfl)
  | comp m elt tg it cnd own ihe _ ihi ihc => exact .mk' (snd_comp ihe.e ihi.i ihc.c) (okT_plain (snd_comp ihe.e ihi.i ihc.c) fun sc x h => by cases x <;> first | rfl | (cases h; done)) (fun _ x => by cases x <;> rfl) (fun _ x => by cases x <;> rfl) (fun _ x => by cases x <;> rfl) (fun _ x => by cases x <;> rfl) (fun _ x => by cases x <;> rfl)
  | frz a iha => exact .mk' (snd_frz iha.e) (okT_frz iha.t) (fun _ x => by cases x <;> rfl) (fun _ x => by cases x <;> rfl) (fun _ x => by cases x <;> rfl) (fun _ x => by cases x <;> rfl) (fun _ x => by cases x <;> rfl)
  | lrg mf a iha => exact .mk' (snd_lrg iha.e) (okT_plain (snd_lrg iha.e) fun sc x h => by cases x <;> first | rfl | (cases h; done)) (fun _ x => by cases x <;> rfl) (fun _ x => by cases x <;> rfl) (fun _ x => by cases x <;> rfl) (fun _ x => by cases x <;> rfl) (fun _ x => by cases x <;> rfl)
  | rng1 a iha => exact .it (snd_rng1 iha.e) (fun _ x => by cases x <;> rfl) (fun _ x => by cases x <;> rfl) (fun _ x => by cases x <;> rfl) (fun _ x => by cases x <;> rfl) (fun _ x => by cases x <;> rfl)
  | rng2 a b iha ihb => exact .it (snd_rng2 iha.e ihb.e) (fun _ x => by cases x <;> rfl) (fun _ x => by cases x <;> rfl) (fun _ x => by cases x <;> rfl) (fun _ x => by cases x <;> rfl) (fun _ x => by cases x <;> rfl)
  | zip a b iha ihb => exact .it (snd_zip iha.e ihb.e) (fun _ x => by cases x <;> rfl) (fun _ x => by cases x <;> rfl) (fun _ x => by cases x <;> rfl) (fun _ x => by cases x <;> rfl) (fun _ x => by cases x <;> rfl)
  | enum a iha => exact .it (snd_enum iha.e) (fun _ x => by cases x <;> rfl) (fun _ x => by cases x <;> rfl) (fun _ x => by cases x <;> rfl) (fun _ x => by cases x <;> rfl) (fun _ x => by cases x <;> rfl)
  | itv a iha => exact .it (snd_itv iha.e) (fun _ x => by cases x <;> rfl) (fun _ x => by cases x <;> rfl) (fun _ x => by cases x <;> rfl) (fun _ x => by cases x <;> rfl) (fun _ x => by cases x <;> rfl)
  | dic ks vs _ ihv =>
    have hd : OkE G N cl C k (.dic ks vs) := snd_dic ihv.h
    exact .mk' hd (okT_plain hd fun sc x h => by cases x <;> first | rfl | (cases h; done)) (fun _ x => by cases x <;> rfl) (fun _ x => by cases x <;> rfl) (fun _ x => by cases x <;> rfl) (fun _ x => by cases x <;> rfl) (fun _ x => by cases x <;> rfl)
  | callk f es ks nms perm _ ihk => exact .mk' (snd_callk ihk.kk) (okT_plain (snd_callk ihk.kk) fun sc x h => by cases x <;> first | rfl | (cases h; done)) (fun _ x => by cases x <;> rfl) (fun _ x => by cases x <;> rfl) (fun _ x => by cases x <;> rfl) (fun _ x => by cases x <;> rfl) (fun _ x => by cases x <;> rfl)
  | comp2 => exact chkF_ok (fun _ x => by cases x <;> rfl) (fun _ x => by cases x <;> rfl) (fun _ x => by cases x <;> rfl) (fun _ x => by cases x <;> rfl) (fun _ x => by cases x <;> rfl) (fun _ x => by cases x <;> rfl)
end
end SM

set_option maxHeartbeats 1000000
/-! SM: statements: the check, how a run's end is handed on. -/
namespace SM
open PySem L2 PySem.Spec PyProof.Rows
/-! ### the check -/
def isLC : Expr → Bool
  | .ListComp .. => true
  | _ => false
def isNm : Expr → Bool
  | .Name .. => true
  | _ => false
def nmOn (sc : Scope) (line : Nat) : Expr → Option Str
  | .Name id pos => if sc.names.lookup id == some .local && pos.line == line then some id else none
  | _ => none
def swNames (sc : Scope) (ts : List Expr) : List Str := ts.filterMap (nmOn sc ((ts.head?.map (·.pos.line)).getD 0))
def isStar : Expr → Bool
  | .Starred .. => true
  | _ => false
/-- the stores of a tuple by a tuple are in order -/
def swNone (sc : Scope) (ts vs : List Expr) : Bool :=
  (!(ts.length == 2 || ts.length == 3) || vs.length != ts.length) || (!vs.any isStar && (((swNames sc ts).length != ts.length || (swNames sc ts).eraseDups.length != (swNames sc ts).length) || vs.all (foldedForSure 8)))
def swSome (sc : Scope) (ts vs : List Expr) : Bool :=
  (ts.length == 2 || ts.length == 3) && vs.length == ts.length && !vs.any isStar && (swNames sc ts).length == ts.length && (swNames sc ts).eraseDups.length == (swNames sc ts).length && !vs.all (foldedForSure 8) && !vs.all (constantsAlone 8)
def plainSt (sc : Scope) : Expr → Expr → Bool
  | .Tuple ts _ _, .Tuple vs _ _ => swNone sc ts vs
  | .List .., _ => false
  | .Name y _, .ListComp .. => !(isLoc sc y)
  | t, e => !(isLC e && isNm t)
def chkTg (G : Sg) (N : List Str) (fnB : Str → Bool) (sc : Scope) : IE → Expr → Bool
  | .idx a i, .Subscript a' i' _ => plainIx i' && chk G N sc a a' && chk G N sc i i'
  | tg, t => chkG fnB sc N tg t
def lcOn (sc : Scope) (i : Nat) (own : List Nat) : Expr → Expr → Bool
  | .Name y py, .ListComp _ _ scope pos => isLoc sc y && (py.line == pos.line) && !(scope.names.any fun p => p.1 == y && (p.2 == .local || p.2 == .cell))
  | _, _ => false
def asgLC (sc : Scope) (tg a : IE) (t e' : Expr) : Bool := match tg, a with
  | .var i, .comp _ _ _ _ _ own => lcOn sc i own t e'
  | _, _ => false
def chkTs (G : Sg) (N : List Str) (fnB : Str → Bool) (sc : Scope) : IE → List Expr → Bool
  | .nil, [] => true
  | .cons t r, e :: es => chkTg G N fnB sc t e && chkTs G N fnB sc r es
  | _, _ => false
mutual
def chkS (G : Sg) (N : List Str) (fnB : Str → Bool) (sc : Scope) : IS → Stmt → Bool
  | .asg tg e, .Assign [t] e' _ => chkTg G N fnB sc tg t && chk G N sc e e' && (plainSt sc t e' || asgLC sc tg e t e')
  | .par (.var i) (.var j) a b, .Assign [.Tuple [.Name x px, .Name y py] _ _] (.Tuple [a', b'] _ _) _ => decide (N[i]? = some x) && decide (N[j]? = some y) && !(i == j) && isLoc sc x && isLoc sc y && swSome sc [.Name x px, .Name y py] [a', b'] && chk G N sc a a' && chk G N sc b b'
  | .par3 i j l a b c, .Assign [.Tuple [.Name x px, .Name y py, .Name z pz] _ _] (.Tuple [a', b', c'] _ _) _ => decide (N[i]? = some x) && decide (N[j]? = some y) && decide (N[l]? = some z) && !(i == j) && !(i == l) && !(j == l) && isLoc sc x && isLoc sc y && isLoc sc z &&
      swSome sc [.Name x px, .Name y py, .Name z pz] [a', b', c'] && chk G N sc a a' && chk G N sc b b' && chk G N sc c c'
  | .ptup ts es, .Assign [.Tuple ts' _ _] (.Tuple es' _ _) _ => chkTs G N fnB sc ts ts' && chks G N sc es es' && swNone sc ts' es'
  | .aug i o e, .AugAssign (.Name x _) op e' _ => decide (N[i]? = some x) && locB sc x && (fnB x || isLoc sc x) && decide (opOf o = op) && (decide (o = .add) || decide (o = .sub)) && chk G N sc e e'
  | .ite c a b, .If c' a' b' _ => tstF c' && chk G N sc c c' && chkSs G N fnB sc a a' && chkSs G N fnB sc b b'
  | .forr tg it body, .For t it' body' [] _ => chkG fnB sc N tg t && zipTg it t && chki G N sc it it' && chkSs G N fnB sc body body'
  | .whil c body, .While c' body' [] _ => tstF c' && chk G N sc c c' && chkSs G N fnB sc body body'
  | .ret e, .Return (some e') _ => chk G N sc e e'
  | .ret (.lit .none), .Return none _ => true
  | .expr e, .Expr e' _ => chk G N sc e e' && !isLC e'
  | .pass, .Pass _ => true
  | .pass, .Expr (.Constant (.str _) _ _) _ => true
  | .brk, .Break _ => true
  | .cont, .Continue _ => true
  | .never, _ => true
  | _, _ => false
def chkSs (G : Sg) (N : List Str) (fnB : Str → Bool) (sc : Scope) : IS → List Stmt → Bool
  | .nil, [] => true
  | .cons a r, st :: sts => chkS G N fnB sc a st && chkSs G N fnB sc r sts
  | .never, _ => true
  | _, _ => false
end
/-! ### the ends -/
section
variable {K : PySem.W.Frag} {cl : Nat → Value} {C : Cal} {W : WX} {m m' : Mu} {H H' : Hp} {e : Sl} {σ : L2.St} {s : Sto}
def PostF (K : PySem.W.Frag) (cl : Nat → Value) (W : WX) (D : Ends) (m : Mu) (H : Hp) : Fl → Prop
  | .nx e s => ∀ m' H' σ', Ext m H m' H' → RS K m' H' s → RE K m' H' e σ' → D.nx σ' H'
  | .bk e s => ∀ m' H' σ', Ext m H m' H' → RS K m' H' s → RE K m' H' e σ' → D.bk σ' H'
  | .ct e s => ∀ m' H' σ', Ext m H m' H' → RS K m' H' s → RE K m' H' e σ' → D.ct σ' H'
  | .rt v s => ∀ m' H' b, Ext m H m' H' → RS K m' H' s → RV K m' H' v b → D.rt b H'
  | .ex c v e s => ∀ m' H' d y σ', Ext m H m' H' → RS K m' H' s → RV K m' H' v y → H' d = some (.xd [("value", y)]) → RE K m' H' e σ' → W (cl c) (some d) σ' H'
  | .no => False
theorem PostF.ext {D : Ends} (x : Ext m H m' H') : ∀ {f : Fl}, PostF K cl W D m H f → PostF K cl W D m' H' f
  | .nx _ _, h => fun m2 H2 σ' y r q => h m2 H2 σ' (x.trans y) r q
  | .bk _ _, h => fun m2 H2 σ' y r q => h m2 H2 σ' (x.trans y) r q
  | .ct _ _, h => fun m2 H2 σ' y r q => h m2 H2 σ' (x.trans y) r q
  | .rt _ _, h => fun m2 H2 σ' y r q => h m2 H2 σ' (x.trans y) r q
  | .ex _ _ _ _, h => fun m2 H2 d y σ' z r q => h m2 H2 d y σ' (x.trans z) r q
  | .no, h => h
def bindF {α : Type} (e : Sl) (r : Rs α) (f : α → Sto → Fl) : Fl := match r with
  | .ok a s => f a s
  | .ex c v s => .ex c v e s
  | .no => .no
theorem liftR_bind {α : Type} (e : Sl) (r : Rs α) (f : α → Sto → Rs Sl) : liftR e (r.bind f) = bindF e r fun a s => liftR e (f a s) := by cases r <;> rfl
theorem postF_k {α δ : Type} {R : Mu → Hp → α → δ → Prop} {r : Rs α} {f : α → Sto → Fl} {D : Ends} {T : δ → Hp → Prop} (re : RE K m H e σ) (h : PostF K cl W D m H (bindF e r f))
    (k : ∀ x H1 m1 v s1, RE K m1 H1 e σ → Ext m H m1 H1 → RS K m1 H1 s1 → R m1 H1 v x → PostF K cl W D m1 H1 (f v s1) → T x H1) : Post K cl R (WE W σ) T m H r := by
  cases r with
  | ok a s1 => exact fun m' H' b x rs rv => k b H' m' a s1 (re.ext x) x rs rv (PostF.ext x h)
  | ex c v s1 => exact fun m' H' d y x rs rv hd => h m' H' d y σ x rs rv hd (re.ext x)
  | no => exact h
theorem sE_k {ie : IE} {f : Vl → Sto → Fl} {D : Ends} {T : VK} (re : RE K m H e σ) (rs : RS K m H s) (h : PostF K cl W D m H (bindF e (ev C ie e s) f))
    (k : ∀ x H1 m1 v s1, RE K m1 H1 e σ → Ext m H m1 H1 → RS K m1 H1 s1 → RV K m1 H1 v x → PostF K cl W D m1 H1 (f v s1) → T x H1) : tE K cl C W ie σ H T :=
  ⟨m, e, s, re, rs, postF_k re h k⟩
theorem sT_k {ie : IE} {f : Bool → Sto → Fl} {D : Ends} {T : Bool → Hp → Prop} (re : RE K m H e σ) (rs : RS K m H s) (h : PostF K cl W D m H (bindF e (evT C ie e s) f))
    (k : ∀ x H1 m1 s1, RE K m1 H1 e σ → Ext m H m1 H1 → RS K m1 H1 s1 → PostF K cl W D m1 H1 (f x s1) → T x H1) : tT K cl C W ie σ H T :=
  ⟨m, e, s, re, rs, postF_k (R := REq) re h fun x H1 m1 v s1 a b c d p => by cases d; exact k _ H1 m1 s1 a b c p⟩
theorem PostF.here {D : Ends} (re : RE K m H e σ) (rs : RS K m H s) (h : PostF K cl W D m H (.nx e s)) : D.nx σ H := h m H σ Ext.refl rs re
def tS (K : PySem.W.Frag) (cl : Nat → Value) (C : Cal) (W : WX) (fu : Nat) (is : IS) : TS := fun D σ H => At K σ H fun m e s => PostF K cl W D m H (exS C fu is e s)
theorem ifF {D : Ends} {c : IE} {f g : Sto → Fl} (h : PostF K cl W D m H (match ev C c e s with
    | .ok v s => (match isTrue? v with
      | some true => f s
      | some false => g s
      | none => .no)
    | .ex c v s => .ex c v e s
    | .no => .no)) : PostF K cl W D m H (bindF e (evT C c e s) fun b s => if b = true then f s else g s) := by
  unfold evT
  cases q : ev C c e s with
  | no => rw [q] at h; exact h
  | ex _ _ _ => rw [q] at h; exact h
  | ok v s1 =>
    rw [q] at h
    cases q2 : isTrue? v with
    | none => simp only [q2] at h; exact h.elim
    | some b =>
      simp only [q2] at h
      show PostF K cl W D m H (bindF e (ofO (isTrue? v) s1) _)
      rw [q2]
      cases b <;> exact h
end
/-! ### the stores of a tuple -/
section
variable {X : Cx} {sc : Scope}
theorem blockK (hk : X.env.scope.kind = .function) : X.env.blockKind = .function := by unfold Env.blockKind; rw [hk]; rfl
theorem swNames_eq (hs : X.env.scope = sc) (ts : List Expr) : (ts.filterMap fun
    | .Name id pos => if X.env.kindOf id == some .local && pos.line == (ts.head?.map (·.pos.line)).getD 0 then some id else none
    | _ => none) = swNames sc ts := by
  subst hs
  unfold swNames
  congr 1
theorem starAny (vs : List Expr) : (vs.any fun | .Starred .. => true | _ => false) = vs.any isStar := by
  congr 1
theorem sw_form {ts vs : List Expr} {k1 k2 : Nat} {p1 p2 : Pos} (hs : X.env.scope = sc) (hk : X.env.scope.kind = .function) : swappedStores [.Tuple ts k1 p1] (.Tuple vs k2 p2) X.env =
    if (!(ts.length == 2 || ts.length == 3) || vs.length != ts.length) = true then pure none else if vs.any isStar = true then pure none else
      if ((swNames sc ts).length != ts.length || (swNames sc ts).eraseDups.length != (swNames sc ts).length) = true then pure none else if vs.all (foldedForSure 8) = true then pure none else
        if vs.all (constantsAlone 8) = true then unsupported "assign.tuple-of-constant-expressions:order-of-the-stores" else pure (some (swNames sc ts)) := by
  unfold swappedStores
  rw [← swNames_eq hs, ← starAny]
  simp only [blockK hk]
  rw [show (ScopeKind.function != ScopeKind.function) = false from rfl, Bool.or_false]
  refine ite_congr rfl (fun _ => rfl) fun _ => ite_congr rfl (fun _ => rfl) fun _ => ite_congr rfl (fun _ => rfl) fun _ => ite_congr rfl (fun _ => rfl) fun _ => ?_
  split
  · trace_state
    rfl
  · rfl
theorem sw_none {ts vs : List Expr} {k1 k2 : Nat} {p1 p2 : Pos} (hs : X.env.scope = sc) (hk : X.env.scope.kind = .function) (h : swNone sc ts vs = true) : swappedStores [.Tuple ts k1 p1] (.Tuple vs k2 p2) X.env = pure none := by
  rw [sw_form hs hk]
  unfold swNone at h
  split
  · rfl
  · rename_i a
    rw [Bool.eq_false_iff.mpr a, Bool.false_or, Bool.and_eq_true] at h
    obtain ⟨h1, h2⟩ := h
    rw [if_neg (by intro z; rw [z] at h1; cases h1)]
    split
    · rfl
    · rename_i b
      rw [Bool.eq_false_iff.mpr b, Bool.false_or] at h2
      rw [if_pos h2]
theorem sw_some {ts vs : List Expr} {k1 k2 : Nat} {p1 p2 : Pos} (hs : X.env.scope = sc) (hk : X.env.scope.kind = .function) (h : swSome sc ts vs = true) : swappedStores [.Tuple ts k1 p1] (.Tuple vs k2 p2) X.env = pure (some (swNames sc ts)) := by
  rw [sw_form hs hk]
  unfold swSome at h
  simp only [Bool.and_eq_true] at h
  obtain ⟨⟨⟨⟨⟨⟨h1, h2⟩, h3⟩, h4⟩, h5⟩, h6⟩, h7⟩ := h
  rw [if_neg (by rw [h1]; simp only [bne, h2]; decide), if_neg (by intro z; rw [z] at h3; cases h3), if_neg (by simp only [bne, h4, h5]; decide), if_neg (by intro z; rw [z] at h6; cases h6), if_neg (by intro z; rw [z] at h7; cases h7)]
end
end SM

set_option maxHeartbeats 1000000
/-! SM: statements. -/
namespace SM
open PySem L2 PySem.Spec PyProof.Rows
structure CokS (G : Sg) (N : List Str) (cl : Nat → Value) (C : Cal) (k : Nat) (fnB : Str → Bool) (sc : Scope) (W : WX) (X : Cx) : Prop where
  c : Cok G N cl C k fnB sc W X
  kind : sc.kind = .function
  hp : PassesOwn (model X.prog X.w) X.A X.env X.xe
theorem PS.weak {X : Cx} {st : Stmt} {t t' : TS} (h : PS X st t) (w : ∀ D σ H, t' D σ H → t D σ H) : PS X st t' := ⟨fun pins s σ H D I q => h.run pins s σ H D I (w _ _ _ q)⟩
theorem PSs.weak {X : Cx} {st : List Stmt} {t t' : TS} (h : PSs X st t) (w : ∀ D σ H, t' D σ H → t D σ H) : PSs X st t' := ⟨fun pins s σ H D I q => h.run pins s σ H D I (w _ _ _ q)⟩
section
variable {G : Sg} {N : List Str} {cl : Nat → Value} {C : Cal} {k fu : Nat}
def OkS (G : Sg) (N : List Str) (cl : Nat → Value) (C : Cal) (k fu : Nat) (is : IS) : Prop := ∀ {sc : Scope} {fnB : Str → Bool} {W : WX} {X : Cx}, CokS G N cl C k fnB sc W X → ∀ {st : Stmt}, chkS G N fnB sc is st = true → PS X st (tS X.K cl C W fu is)
def OkSs (G : Sg) (N : List Str) (cl : Nat → Value) (C : Cal) (k fu : Nat) (is : IS) : Prop := ∀ {sc : Scope} {fnB : Str → Bool} {W : WX} {X : Cx}, CokS G N cl C k fnB sc W X → ∀ {sts : List Stmt}, chkSs G N fnB sc is sts = true → PSs X sts (tS X.K cl C W fu is)
section
variable {sc : Scope} {fnB : Str → Bool} {W : WX} {X : Cx}
theorem CokS.kk (c : CokS G N cl C k fnB sc W X) : X.env.scope.kind = .function := by rw [c.c.sc]; exact c.kind
theorem chk_dc {p1 p2 p3 p4 p5} : ∀ ie : IE, chk G N sc ie (.DictComp p1 p2 p3 p4 p5) = false := by
  intro ie
  induction ie with
  | frz a ih => exact ih
  | lit d => cases d <;> rfl
  | _ => rfl
theorem chk_sc {p1 p2 p3 p4} : ∀ ie : IE, chk G N sc ie (.SetComp p1 p2 p3 p4) = false := by
  intro ie
  induction ie with
  | frz a ih => exact ih
  | lit d => cases d <;> rfl
  | _ => rfl
theorem isLoc_eq {y : Str} : (sc.names.lookup y == some .local) = isLoc sc y := by
  unfold isLoc
  cases h : sc.names.lookup y with
  | none => rfl
  | some k => cases k <;> rfl
theorem sw_one (c : CokS G N cl C k fnB sc W X) {a : IE} {t e' : Expr} {l : Nat} (h : plainSt sc t e' = true) (h2 : chk G N sc a e' = true) : swapsWithSole [t] e' l X.env = pure false := by
  cases e' <;> first | rfl | (rw [chk_dc] at h2; cases h2; done) | (rw [chk_sc] at h2; cases h2; done) | skip
  cases t <;> first | rfl | (cases h; done) | skip
  rename_i elt gs scope pos y py
  have h : (!(isLoc sc y)) = true := h
  have hy : isLoc sc y = false := by simpa using h
  have ky : (X.env.kindOf y == some .local) = false := by
    show (X.env.scope.names.lookup y == some .local) = false
    rw [c.c.sc, isLoc_eq, hy]
  show swapsWith (.ListComp elt gs scope pos) (some (.Name y py)) l X.env = pure false
  unfold swapsWith
  simp only [ky, Bool.and_false, Bool.false_and]
theorem sw_two (c : CokS G N cl C k fnB sc W X) {t e' : Expr} (h : plainSt sc t e' = true) : swappedStores [t] e' X.env = pure none := by
  cases t <;> first | rfl | (cases h; done) | skip
  cases e' <;> first | rfl | skip
  exact sw_none c.c.sc c.kk h
theorem chkTg_one {tg : IE} {t : Expr} (h : chkTg G N fnB sc tg t = true) (env : Env) : (assignEach [t] env).map (·.2) = [assign t env] := by
  cases t <;> first | rfl | skip
  cases tg <;> cases h
def gS (K : PySem.W.Frag) (cl : Nat → Value) (C : Cal) (W : WX) (tg : IE) : TG := fun v σ H Q => ∃ m e s u, RE K m H e σ ∧ RS K m H s ∧ RV K m H u v ∧ PostF K cl W { nx := Q, rt := fun _ _ => False } m H (liftR e (asgT C tg u e s))
theorem snd_gS (c : Cok G N cl C k fnB sc W X) {tg : IE} {t : Expr} (h : chkTg G N fnB sc tg t = true) : PG X t (gS X.K cl C W tg) := by
  by_cases hi : ∃ a i, tg = .idx a i
  · obtain ⟨a, i, rfl⟩ := hi
    cases t <;> first | (cases h; done) | skip
    rename_i a' i' pos
    have h : (plainIx i' && chk G N sc a a' && chk G N sc i i') = true := h
    simp only [Bool.and_eq_true] at h
    obtain ⟨⟨h1, h2⟩, h3⟩ := h
    refine PG.weak (pg_sub ((oks a).e c h2) ((oks i).e c h3) set_ok (by cases i' <;> first | (intro _; rfl) | (cases h1; done))) fun v σ H Q ⟨m, e, s, u, re, rs, rv, p⟩ => ?_
    have p : PostF X.K cl W { nx := Q, rt := fun _ _ => False } m H (liftR e ((ev C a e s).bind fun o s => (ev C i e s).bind fun k s => match setV o k u s with
      | some s => .ok e s
      | none => .no)) := p
    rw [liftR_bind] at p
    refine sE_k re rs p fun x H1 m1 o s1 re1 x1 rs1 ro p => ?_
    rw [liftR_bind] at p
    refine sE_k re1 rs1 p fun y H2 m2 k s2 re2 x2 rs2 rk p => ?_
    cases q : setV o k u s2 with
    | none => simp only [q] at p; exact p.elim
    | some s3 =>
      simp only [q] at p
      exact ⟨m2, s2, o, k, u, s3, ro.ext x2, rk, (rv.ext x1).ext x2, rs2, q, fun m' H' x3 rs3 => p m' H' σ x3 rs3 (re2.ext x3)⟩
  · have e1 : chkG fnB sc N tg t = true := by
      cases tg <;> first | exact h | skip
      exact absurd ⟨_, _, rfl⟩ hi
    refine PG.weak (snd_tgV c tg t e1) fun v σ H Q ⟨m, e, s, u, re, rs, rv, p⟩ => ?_
    have e2 : asgT C tg u e s = ofO (setTgV tg u e) s := by
      cases tg <;> first | rfl | skip
      exact absurd ⟨_, _, rfl⟩ hi
    rw [e2] at p
    cases q : setTgV tg u e with
    | none => rw [q] at p; exact p.elim
    | some e' => rw [q] at p; exact ⟨m, e, u, e', re, rv, q, fun σ' re' _ => PostF.here re' rs p⟩
/-! ### a tuple of places -/
theorem tg1NoStar {tg : IE} {e : Expr} (h : chkTg G N fnB sc tg e = true) (es : List Expr) (env : Env) : assignEach (e :: es) env = (false, assign e env) :: assignEach es env := by
  cases e <;> first | rfl | skip
  cases tg <;> cases h
theorem tsNoStar {env : Env} : ∀ {tg : IE} {es : List Expr}, chkTs G N fnB sc tg es = true → assignEach es env = es.map fun e => (false, assign e env) := by
  intro tg
  induction tg with
  | cons a r _ ih =>
    intro es h
    cases es with
    | nil => rfl
    | cons e es =>
      simp only [chkTs, Bool.and_eq_true] at h
      rw [tg1NoStar h.1, ih h.2]; rfl
  | nil =>
    intro es h
    cases es with
    | nil => rfl
    | cons e es => cases h
  | _ => intro es h; cases h
theorem ts_len : ∀ {tg : IE} {es : List Expr}, chkTs G N fnB sc tg es = true → ieLen tg = es.length := by
  intro tg
  induction tg with
  | cons a r _ ih =>
    intro es h
    cases es with
    | nil => cases h
    | cons e es =>
      simp only [chkTs, Bool.and_eq_true] at h
      simp [ieLen, ih h.2]
  | nil =>
    intro es h
    cases es with
    | nil => rfl
    | cons e es => cases h
  | _ => intro es h; cases es <;> cases h
def gPs (K : PySem.W.Frag) (cl : Nat → Value) (C : Cal) (W : WX) (ts : IE) : TGs := fun vs σ H Q => ∃ m e s us, RE K m H e σ ∧ RS K m H s ∧ RVs K m H us vs ∧ PostF K cl W { nx := Q, rt := fun _ _ => False } m H (asgs C ts us e s)
theorem snd_gPs (c : Cok G N cl C k fnB sc W X) : ∀ {ts : IE} {tl : List Expr}, chkTs G N fnB sc ts tl = true → PGs X tl (gPs X.K cl C W ts) := by
  intro ts
  induction ts with
  | nil =>
    intro tl h
    cases tl <;> first | (cases h; done) | skip
    refine PGs.weak pgs_nil fun vs σ H Q ⟨m, e, s, us, re, rs, rv, p⟩ => ?_
    cases us with
    | nil => exact ⟨rv, PostF.here re rs p⟩
    | cons u us => exact p.elim
  | cons t r _ ih =>
    intro tl h
    cases tl <;> first | (cases h; done) | skip
    rename_i x xs
    simp only [chkTs, Bool.and_eq_true] at h
    refine PGs.weak (pgs_cons (snd_gS c h.1) (ih h.2) (by rw [tg1NoStar h.1]; rfl)) fun vs σ H Q ⟨m, e, s, us, re, rs, rv, p⟩ => ?_
    cases us with
    | nil => exact p.elim
    | cons u us =>
      obtain ⟨w, ws, ev, r1, r2⟩ := rv
      refine ⟨w, ws, ev, m, e, s, u, re, rs, r1, ?_⟩
      have p : PostF X.K cl W { nx := Q, rt := fun _ _ => False } m H (match asgT C t u e s with
        | .ok e' s' => asgs C r us e' s'
        | .ex c v s => .ex c v e s
        | .no => .no) := p
      cases q : asgT C t u e s with
      | ok e1 s1 =>
        rw [q] at p
        exact fun m' H' σ' x rs' re' => ⟨m', e1, s1, us, re', rs', r2.ext x, PostF.ext x p⟩
      | ex c v s1 => rw [q] at p; exact p
      | no => rw [q] at p; exact p.elim
  | _ => intro tl h; cases tl <;> cases h
theorem PostF.liftNx {m : Mu} {H : Hp} {e : Sl} {D D' : Ends} {r : Rs Sl} (h : PostF X.K cl W D m H (liftR e r)) (q : ∀ σ H, D.nx σ H → D'.nx σ H) : PostF X.K cl W D' m H (liftR e r) := by
  cases r with
  | ok e' s => exact fun m' H' σ' x r z => q _ _ (h m' H' σ' x r z)
  | ex c v s => exact h
  | no => exact h
theorem sndS_asg {tg a : IE} : OkS G N cl C k fu (.asg tg a) := by
  intro sc fnB W X c st h
  cases st <;> first | (cases h; done) | skip
  rename_i ts e' pos
  cases ts with
  | nil => cases h
  | cons t ts =>
  cases ts with
  | cons _ _ => cases h
  | nil =>
  have h : (chkTg G N fnB sc tg t && chk G N sc a e' && (plainSt sc t e' || asgLC sc tg a t e')) = true := by
    cases tg <;> exact h
  simp only [Bool.and_eq_true, Bool.or_eq_true] at h
  obtain ⟨⟨h1, h2⟩, h3⟩ := h
  rcases h3 with h3 | h3
  · refine PS.weak (ps_asg ((oks a).e c.c h2) (snd_gS c.c h1) (sw_one c h3 h2) (sw_two c h3) (chkTg_one h1 _)) fun D σ H ⟨m, e, s, re, rs, p⟩ => ?_
    have p : PostF X.K cl W D m H (liftR e ((ev C a e s).bind fun v s => asgT C tg v e s)) := p
    rw [liftR_bind] at p
    refine sE_k re rs p fun x H1 m1 v s1 re1 x1 rs1 rv p => ?_
    exact ⟨m1, e, s1, v, re1, rs1, rv, p.liftNx fun _ _ z => z⟩
  · cases tg <;> first | (cases h3; done) | skip
    rename_i i
    cases a <;> first | (cases h3; done) | skip
    rename_i mf elt tg' it cnd own
    · cases t <;> first | (cases h3; done) | skip
      rename_i y py
      cases e' <;> first | (cases h3; done) | skip
      rename_i elt' gens scope lpos
      have h3 : (isLoc sc y && (py.line == lpos.line) && !(scope.names.any fun p => p.1 == y && (p.2 == .local || p.2 == .cell))) = true := h3
      simp only [Bool.and_eq_true] at h3
      obtain ⟨⟨h4, h5⟩, h6⟩ := h3
      cases gens with
      | nil => cases h2
      | cons g gs =>
      cases gs with
      | cons _ _ =>
        obtain ⟨_, _, _, nn⟩ := g
        cases nn with
        | negSucc _ => cases h2
        | ofNat n => cases n <;> cases h2
      | nil =>
      obtain ⟨tg1, it1, ifs1, nn⟩ := g
      cases nn with
      | negSucc _ => cases h2
      | ofNat nn =>
      cases nn with
      | succ _ => cases h2
      | zero =>
      have h2 : (zipTg it tg1 && chki G N sc it it1 && blkC N sc scope (ownP N own) && chkG (blkF scope) (relS scope sc) N tg' tg1 && (tgS tg').all (fun i => decide (i ∈ own)) && chkc G N (relS scope sc) cnd ifs1 && chk G N (relS scope sc) elt elt') = true := h2
      simp only [Bool.and_eq_true] at h2
      obtain ⟨⟨⟨⟨⟨⟨g1, g2⟩, g3⟩, g4⟩, g5⟩, g6⟩, g7⟩ := h2
      have hsub : ∀ i ∈ tgS tg', i ∈ own := fun i hi => by
        have := List.all_eq_true.mp g5 i hi
        exact of_decide_eq_true this
      have h1 : (decide (N[i]? = some y) && locB sc y && (fnB y || isLoc sc y)) = true := h1
      simp only [Bool.and_eq_true, decide_eq_true_eq] at h1
      refine PS.weak (ps_setLc (i := i) (wi := tI X.K cl C W it) (g := tG X.K tg') (tt := tC X.K cl C noW cnd) (te := tE X.K cl C noW elt) (own := ownP N own) c.c.calm (by rw [c.c.n]; exact c.c.nd) (by rw [c.c.n]; exact h1.1.1) (by rw [c.c.sc]; exact isLoc_ok h4)
        (sw_true c.kk (by rw [c.c.sc]; exact isLoc_ok h4) h5 (by simpa using h6)) ((oks it).i c.c g1 g2) (by rw [c.c.n, c.c.sc]; exact blkOk_by g3)
        (fun s H Ca cls fp => snd_tgV (c.c.blk s H scope Ca cls fp) tg' tg1 g4) (fun s H Ca cls fp => (oks cnd).c (c.c.blk s H scope Ca cls fp) g6) (fun s H Ca cls fp => (oks elt).e (c.c.blk s H scope Ca cls fp) g7) (fun x => foldi (tg := tg1) g2 X.env x)) fun D σ H ⟨m, e, s, re, rs, p⟩ => ?_
      rw [own_map]
      refine comp_reads (cl := cl) (C := C) (W := W) (mf := mf) (sc := sc) (fnB := fnB) hsub _ _ _ ?_
      have p : PostF X.K cl W D m H (liftR e ((ev C (.comp mf elt tg' it cnd own) e s).bind fun v s => ofO (some (e.set i (some v))) s)) := p
      rw [liftR_bind] at p
      refine sE_k re rs p fun x H1 m1 v s1 re1 x1 rs1 rv p => ?_
      exact PostF.here (re1.set rv) rs1 p
theorem asgs_nx {D : Ends} {m : Mu} {H : Hp} : ∀ {ts : IE} {us : List Vl} {e : Sl} {s : Sto}, PostF X.K cl W D m H (asgs C ts us e s) → PostF X.K cl W { nx := D.nx, rt := fun _ _ => False } m H (asgs C ts us e s) := by
  intro ts
  induction ts with
  | nil =>
    intro us e s p
    cases us with
    | nil => exact p
    | cons u us => exact p
  | cons t r _ ih =>
    intro us e s p
    cases us with
    | nil => exact p
    | cons u us =>
      have p : PostF X.K cl W D m H (match asgT C t u e s with
        | .ok e' s' => asgs C r us e' s'
        | .ex c v s => .ex c v e s
        | .no => .no) := p
      show PostF X.K cl W { nx := D.nx, rt := fun _ _ => False } m H (match asgT C t u e s with
        | .ok e' s' => asgs C r us e' s'
        | .ex c v s => .ex c v e s
        | .no => .no)
      cases q : asgT C t u e s with
      | ok e1 s1 => rw [q] at p; exact ih p
      | ex c v s1 => rw [q] at p; exact p
      | no => rw [q] at p; exact p
  | _ => intro us e s p; exact p
theorem sndS_ptup {ts es : IE} : OkS G N cl C k fu (.ptup ts es) := by
  intro sc fnB W X c st h
  cases st <;> first | (cases h; done) | skip
  rename_i tl e' pos
  cases tl with
  | nil => cases h
  | cons t tl =>
  cases tl with
  | cons _ _ => cases t <;> cases e' <;> cases h
  | nil =>
  cases t <;> first | (cases h; done) | skip
  cases e' <;> first | (cases h; done) | skip
  rename_i ts' k1 p1 es' k2 p2
  have h : (chkTs G N fnB sc ts ts' && chks G N sc es es' && swNone sc ts' es') = true := h
  simp only [Bool.and_eq_true] at h
  obtain ⟨⟨h1, h2⟩, h3⟩ := h
  refine PS.weak (ps_asg (pe_tup ((oks es).a c.c h2)) (pg_tup (n := ts'.length) c.c.calm (snd_gPs c.c h1) (by rw [tsNoStar h1, List.length_map]) (by rw [tsNoStar h1]; exact findStar ts')) rfl (sw_none c.c.sc c.kk h3) rfl) fun D σ H ⟨m, e, s, re, rs, p⟩ => ?_
  have p : PostF X.K cl W D m H (bindF e (evs C es e s) fun vs s => if vs.length = ieLen ts ∧ vs.length ≤ 16777216 then asgs C ts vs e s else .no) := by
    have p : PostF X.K cl W D m H (match evs C es e s with
      | .ok vs s => if vs.length = ieLen ts ∧ vs.length ≤ 16777216 then asgs C ts vs e s else .no
      | .ex c v s => .ex c v e s
      | .no => .no) := p
    cases q : evs C es e s with
    | ok vs s1 => rw [q] at p; exact p
    | ex d v s1 => rw [q] at p; exact p
    | no => rw [q] at p; exact p
  refine ⟨m, e, s, re, rs, postF_k (R := fun m H us vs => RVs X.K m H us vs) re p fun xs H1 m1 vs s1 re1 x1 rs1 rv1 p => ?_⟩
  by_cases hz : vs.length = ieLen ts ∧ vs.length ≤ 16777216
  · rw [if_pos hz] at p
    have hl := rv1.length
    refine ⟨by rw [← hl, sizeLine_eq]; exact hz.2, fun q hq => ⟨q, xs, rfl, ?_, by rw [← hl, hz.1]; exact ts_len h1, m1, e, s1, vs, re1.ext (Ext.new hq), rs1.new hq, rv1.ext (Ext.new hq), ?_⟩⟩
    · exact .inl (.inl upd_same)
    · exact asgs_nx (PostF.ext (Ext.new (o := .tup xs) hq) p)
  · rw [if_neg hz] at p
    exact p.elim
theorem chk_starE {ie : IE} {e : Expr} (h : chk G N sc ie e = true) : isStar e = false := by
  cases e <;> first | rfl | (rw [chk_star] at h; cases h)
theorem sndS_par {t u a b : IE} : OkS G N cl C k fu (.par t u a b) := by
  intro sc fnB W X c st h
  cases t <;> first | (cases h; done) | skip
  rename_i i
  cases u <;> first | (cases h; done) | skip
  rename_i j
  cases st <;> first | (cases h; done) | skip
  rename_i ts e' pos
  cases ts with
  | nil => cases h
  | cons t ts =>
  cases t <;> first | (cases h; done) | skip
  rename_i es kt pt
  cases es with
  | nil => cases ts <;> cases h
  | cons t1 es =>
  cases t1 <;> first | (cases h; done) | skip
  rename_i x px
  cases es with
  | nil => cases ts <;> cases h
  | cons t2 es =>
  cases t2 <;> first | (cases h; done) | skip
  rename_i y py
  cases es with
  | cons _ _ => cases ts <;> cases h
  | nil =>
  cases ts with
  | cons _ _ => cases h
  | nil =>
  cases e' <;> first | (cases h; done) | skip
  rename_i vs k2 p2
  cases vs with
  | nil => cases h
  | cons a' vs =>
  cases vs with
  | nil => cases h
  | cons b' vs =>
  cases vs with
  | cons _ _ => cases h
  | nil =>
  have h : (decide (N[i]? = some x) && decide (N[j]? = some y) && !(i == j) && isLoc sc x && isLoc sc y && swSome sc [.Name x px, .Name y py] [a', b'] && chk G N sc a a' && chk G N sc b b') = true := h
  simp only [Bool.and_eq_true, decide_eq_true_eq] at h
  obtain ⟨⟨⟨⟨⟨⟨⟨h1, h2⟩, h3⟩, h4⟩, h5⟩, h6⟩, h7⟩, h8⟩ := h
  have hij : i ≠ j := by rintro rfl; simp at h3
  have st2 := star_ok h8 [] X.env
  have st1 := star_ok h7 [b'] X.env
  have nm : swNames sc [.Name x px, .Name y py] = [x, y] := by
    unfold swSome at h6
    simp only [Bool.and_eq_true] at h6
    have z := h6.1.1.1.2
    unfold swNames at z ⊢
    unfold nmOn at z ⊢
    simp only [List.filterMap_cons, List.filterMap_nil] at z ⊢
    split at z <;> split at z <;> simp_all
  have sw := sw_some (X := X) (k1 := kt) (k2 := k2) (p1 := pt) (p2 := p2) c.c.sc c.kk h6
  rw [nm] at sw
  refine PS.weak (ps_par (i := i) (j := j) c.c.calm (by rw [c.c.n]; exact c.c.nd) (by rw [c.c.n]; exact h1) (by rw [c.c.n]; exact h2) hij (by rw [c.c.sc]; exact isLoc_ok h4) (by rw [c.c.sc]; exact isLoc_ok h5)
    (pa_cons ((oks a).e c.c h7) (pa_cons ((oks b).e c.c h8) pa_nil st2) st1) sw) fun D σ H ⟨m, e, s, re, rs, p⟩ => ?_
  have p : PostF X.K cl W D m H (liftR e ((ev C a e s).bind fun v s => (ev C b e s).bind fun w s => .ok ((e.set i (some v)).set j (some w)) s)) := p
  rw [liftR_bind] at p
  refine sE_k re rs p fun x H1 m1 v s1 re1 x1 rs1 rv p => ?_
  rw [liftR_bind] at p
  refine sE_k re1 rs1 p fun y H2 m2 w s2 re2 x2 rs2 rw' p => ?_
  exact ⟨x, y, rfl, PostF.here ((re2.set (rv.ext x2)).set rw') rs2 p⟩
theorem sndS_par3 {i j l : Nat} {a b d : IE} : OkS G N cl C k fu (.par3 i j l a b d) := by
  intro sc fnB W X c st h
  cases st <;> first | (cases h; done) | skip
  rename_i ts e' pos
  cases ts with
  | nil => cases h
  | cons t ts =>
  cases t <;> first | (cases h; done) | skip
  rename_i es kt pt
  cases es with
  | nil => cases ts <;> cases h
  | cons t1 es =>
  cases t1 <;> first | (cases h; done) | skip
  rename_i x px
  cases es with
  | nil => cases ts <;> cases h
  | cons t2 es =>
  cases t2 <;> first | (cases h; done) | skip
  rename_i y py
  cases es with
  | nil => cases ts <;> cases h
  | cons t3 es =>
  cases t3 <;> first | (cases h; done) | skip
  rename_i z pz
  cases es with
  | cons _ _ => cases ts <;> cases h
  | nil =>
  cases ts with
  | cons _ _ => cases h
  | nil =>
  cases e' <;> first | (cases h; done) | skip
  rename_i vs k2 p2
  cases vs with
  | nil => cases h
  | cons a' vs =>
  cases vs with
  | nil => cases h
  | cons b' vs =>
  cases vs with
  | nil => cases h
  | cons d' vs =>
  cases vs with
  | cons _ _ => cases h
  | nil =>
  have h : (decide (N[i]? = some x) && decide (N[j]? = some y) && decide (N[l]? = some z) && !(i == j) && !(i == l) && !(j == l) && isLoc sc x && isLoc sc y && isLoc sc z &&
      swSome sc [.Name x px, .Name y py, .Name z pz] [a', b', d'] && chk G N sc a a' && chk G N sc b b' && chk G N sc d d') = true := h
  simp only [Bool.and_eq_true, decide_eq_true_eq] at h
  obtain ⟨⟨⟨⟨⟨⟨⟨⟨⟨⟨⟨⟨h1, h2⟩, h3⟩, h4⟩, h5⟩, h6⟩, h7⟩, h8⟩, h9⟩, g1⟩, g2⟩, g3⟩, g4⟩ := h
  have hij : i ≠ j := by rintro rfl; simp at h4
  have hil : i ≠ l := by rintro rfl; simp at h5
  have hjl : j ≠ l := by rintro rfl; simp at h6
  have st3 := star_ok g4 [] X.env
  have st2 := star_ok g3 [d'] X.env
  have st1 := star_ok g2 [b', d'] X.env
  have nm : swNames sc [.Name x px, .Name y py, .Name z pz] = [x, y, z] := by
    unfold swSome at g1
    simp only [Bool.and_eq_true] at g1
    have w := g1.1.1.1.2
    unfold swNames at w ⊢
    unfold nmOn at w ⊢
    simp only [List.filterMap_cons, List.filterMap_nil] at w ⊢
    split at w <;> split at w <;> split at w <;> simp_all
  have sw := sw_some (X := X) (k1 := kt) (k2 := k2) (p1 := pt) (p2 := p2) c.c.sc c.kk g1
  rw [nm] at sw
  refine PS.weak (ps_par3 (i := i) (j := j) (l := l) c.c.calm (by rw [c.c.n]; exact c.c.nd) (by rw [c.c.n]; exact h1) (by rw [c.c.n]; exact h2) (by rw [c.c.n]; exact h3) hij hil hjl (by rw [c.c.sc]; exact isLoc_ok h7) (by rw [c.c.sc]; exact isLoc_ok h8) (by rw [c.c.sc]; exact isLoc_ok h9)
    (pa_cons ((oks a).e c.c g2) (pa_cons ((oks b).e c.c g3) (pa_cons ((oks d).e c.c g4) pa_nil st3) st2) st1) sw) fun D σ H ⟨m, e, s, re, rs, p⟩ => ?_
  have p : PostF X.K cl W D m H (liftR e ((ev C a e s).bind fun v s => (ev C b e s).bind fun w s => (ev C d e s).bind fun x s => .ok (((e.set i (some v)).set j (some w)).set l (some x)) s)) := p
  rw [liftR_bind] at p
  refine sE_k re rs p fun x H1 m1 v s1 re1 x1 rs1 rv p => ?_
  rw [liftR_bind] at p
  refine sE_k re1 rs1 p fun y H2 m2 w s2 re2 x2 rs2 rw' p => ?_
  rw [liftR_bind] at p
  refine sE_k re2 rs2 p fun z H3 m3 u s3 re3 x3 rs3 ru p => ?_
  exact ⟨x, y, z, rfl, PostF.here (((re3.set ((rv.ext x2).ext x3)).set (rw'.ext x3)).set ru) rs3 p⟩
theorem binI_int {o : BOp} {x y z : Int} (h : decide (o = .add) = true ∨ decide (o = .sub) = true) (q : binI o x y = some z) : (o = .add ∧ z = x + y) ∨ (o = .sub ∧ z = x - y) := by
  rcases h with h | h
  · have e := of_decide_eq_true h
    subst e; cases q; exact .inl ⟨rfl, rfl⟩
  · have e := of_decide_eq_true h
    subst e; cases q; exact .inr ⟨rfl, rfl⟩
def augOp : BOp → Int → Int → Int
  | .add, i, j => i + j
  | _, i, j => i - j
def augI (o : BOp) : TIp := ipI (augOp o)
theorem ip_ok {o : BOp} (h : decide (o = .add) = true ∨ decide (o = .sub) = true) : PIp X (opOf o) (augI o) := by
  rcases h with h | h
  · have e := of_decide_eq_true h
    subst e; exact ip_add
  · have e := of_decide_eq_true h
    subst e; exact ip_sub
theorem sndS_aug {i : Nat} {o : BOp} {a : IE} : OkS G N cl C k fu (.aug i o a) := by
  intro sc fnB W X c st h
  cases st <;> first | (cases h; done) | skip
  rename_i t op e' pos
  cases t <;> first | (cases h; done) | skip
  rename_i x px
  have h : (decide (N[i]? = some x) && locB sc x && (fnB x || isLoc sc x) && decide (opOf o = op) && (decide (o = .add) || decide (o = .sub)) && chk G N sc a e') = true := h
  simp only [Bool.and_eq_true, decide_eq_true_eq] at h
  obtain ⟨⟨⟨⟨⟨h1, h2⟩, h3⟩, h4⟩, h5⟩, h6⟩ := h
  subst h4
  have h5 : decide (o = .add) = true ∨ decide (o = .sub) = true := by simpa using h5
  refine PS.weak (ps_aug (i := i) (by rw [c.c.n]; exact c.c.nd) (by rw [c.c.n]; exact h1) (by rw [c.c.sc]; exact locB_ok h2) ((oks a).e c.c h6) (ip_ok h5) (by
    rw [c.c.fnB, c.c.sc]
    rcases Bool.or_eq_true_iff.mp h3 with z | z
    · exact .inl z
    · exact .inr (isLoc_ok z))) fun D σ H ⟨m, e, s, re, rs, p⟩ => ?_
  have p : PostF X.K cl W D m H (match e[i]? with
    | some (some (.d (.int x))) => liftR e ((ev C a e s).bind fun y s => match y with
      | .d (.int y) => ofO ((binI o x y).map fun z => e.set i (some (.d (.int z)))) s
      | _ => .no)
    | _ => .no) := p
  split at p
  · rename_i x0 hx
    obtain ⟨v, e1, rv⟩ := re.at_ i _ hx
    cases rv
    refine ⟨_, e1, ?_⟩
    rw [liftR_bind] at p
    refine sE_k re rs p fun y H1 m1 v s1 re1 x1 rs1 rv p => ?_
    split at p
    · rename_i y0
      cases rv
      cases q : binI o x0 y0 with
      | none => rw [q] at p; exact p.elim
      | some z =>
        rw [q] at p
        have q2 : augOp o x0 y0 = z := by
          rcases binI_int h5 q with ⟨rfl, rfl⟩ | ⟨rfl, rfl⟩ <;> rfl
        refine ⟨x0, y0, rfl, rfl, ?_⟩
        show D.nx (σ.set i (some (.int (augOp o x0 y0)))) H1
        rw [q2]
        exact PostF.here (re1.set (u := .d (.int z)) rfl) rs1 p
    · exact p.elim
  · exact p.elim
theorem sndS_ite {a : IE} {x y : IS} (hx : OkSs G N cl C k fu x) (hy : OkSs G N cl C k fu y) : OkS G N cl C k fu (.ite a x y) := by
  intro sc fnB W X c st h
  cases st <;> first | (cases h; done) | skip
  rename_i a' x' y' pos
  have h : (tstF a' && chk G N sc a a' && chkSs G N fnB sc x x' && chkSs G N fnB sc y y') = true := h
  simp only [Bool.and_eq_true] at h
  obtain ⟨⟨⟨h1, h2⟩, h3⟩, h4⟩ := h
  refine PS.weak (ps_if ((oks a).t c.c h2 h1) (hx c h3) (hy c h4)) fun D σ H ⟨m, e, s, re, rs, p⟩ => ?_
  have p := ifF (f := fun s => exS C fu x e s) (g := fun s => exS C fu y e s) p
  refine sT_k re rs p fun b H1 m1 s1 re1 x1 rs1 p => ?_
  cases b with
  | true => exact ⟨m1, e, s1, re1, rs1, p⟩
  | false => exact ⟨m1, e, s1, re1, rs1, p⟩
theorem exS_ret (fu : Nat) {a : IE} {e : Sl} {s : Sto} : exS C fu (.ret a) e s = bindF e (ev C a e s) fun v s => .rt v s := by
  show (match ev C a e s with
    | .ok v s => Fl.rt v s
    | .ex c v s => .ex c v e s
    | .no => .no) = _
  cases ev C a e s <;> rfl
theorem exS_expr (fu : Nat) {a : IE} {e : Sl} {s : Sto} : exS C fu (.expr a) e s = bindF e (ev C a e s) fun v s => .nx e s := by
  show (match ev C a e s with
    | .ok _ s => Fl.nx e s
    | .ex c v s => .ex c v e s
    | .no => .no) = _
  cases ev C a e s <;> rfl
theorem sndS_ret {a : IE} : OkS G N cl C k fu (.ret a) := by
  intro sc fnB W X c st h
  cases st <;> first | (cases h; done) | (cases a <;> cases h; done) | skip
  rename_i e' pos
  cases e' with
  | some e' =>
    have h : chk G N sc a e' = true := by cases a <;> exact h
    refine PS.weak (ps_ret ((oks a).e c.c h)) fun D σ H ⟨m, e, s, re, rs, p⟩ => ?_
    have p : PostF X.K cl W D m H (bindF e (ev C a e s) fun v s => .rt v s) := by rw [← exS_ret fu]; exact p
    exact sE_k re rs p fun x H1 m1 v s1 re1 x1 rs1 rv p => p m1 H1 x Ext.refl rs1 rv
  | none =>
    cases a <;> first | (cases h; done) | skip
    rename_i d
    cases d <;> first | (cases h; done) | skip
    refine PS.weak ps_retN fun D σ H ⟨m, e, s, re, rs, p⟩ => ?_
    exact p m H .non Ext.refl rs rfl
theorem sndS_expr {a : IE} : OkS G N cl C k fu (.expr a) := by
  intro sc fnB W X c st h
  cases st <;> first | (cases h; done) | skip
  rename_i e' pos
  have h : (chk G N sc a e' && !isLC e') = true := h
  simp only [Bool.and_eq_true] at h
  refine PS.weak (ps_expr ((oks a).e c.c h.1) ?_) fun D σ H ⟨m, e, s, re, rs, p⟩ => ?_
  · obtain ⟨h1, h2⟩ := h
    cases e' <;> first | rfl | (rw [chk_dc] at h1; cases h1; done) | (rw [chk_sc] at h1; cases h1; done) | (cases h2; done)
  · have p : PostF X.K cl W D m H (bindF e (ev C a e s) fun v s => .nx e s) := by rw [← exS_expr fu]; exact p
    exact sE_k re rs p fun x H1 m1 v s1 re1 x1 rs1 rv p => PostF.here re1 rs1 p
theorem sndS_small : OkS G N cl C k fu .pass ∧ OkS G N cl C k fu .brk ∧ OkS G N cl C k fu .cont ∧ OkS G N cl C k fu .never := by
  refine ⟨?_, ?_, ?_, ?_⟩
  · intro sc fnB W X c st h
    cases st <;> first | (cases h; done) | skip
    · rename_i e' pos
      cases e' <;> first | (cases h; done) | skip
      rename_i d _ _
      cases d <;> first | (cases h; done) | skip
      exact PS.weak ps_doc fun D σ H ⟨m, e, s, re, rs, p⟩ => PostF.here re rs p
    · exact PS.weak ps_pass fun D σ H ⟨m, e, s, re, rs, p⟩ => PostF.here re rs p
  · intro sc fnB W X c st h
    cases st <;> first | (cases h; done) | skip
    exact PS.weak ps_break fun D σ H ⟨m, e, s, re, rs, p⟩ => p m H σ Ext.refl rs re
  · intro sc fnB W X c st h
    cases st <;> first | (cases h; done) | skip
    exact PS.weak ps_continue fun D σ H ⟨m, e, s, re, rs, p⟩ => p m H σ Ext.refl rs re
  · intro sc fnB W X c st h
    exact PS.weak ps_never fun D σ H ⟨m, e, s, re, rs, p⟩ => p
/-! ### loops -/
theorem loopF {m : Mu} {H : Hp} {D : Ends} {Nx : L2.St → Hp → Prop} {f : Fl} {g : Sl → Sto → Fl} (h : PostF X.K cl W D m H (match f with
    | .nx e s => g e s
    | .ct e s => g e s
    | .bk e s => .nx e s
    | .rt v s => .rt v s
    | .ex c v e s => .ex c v e s
    | .no => .no)) (hN : ∀ m' H' σ' e s, Ext m H m' H' → RS X.K m' H' s → RE X.K m' H' e σ' → PostF X.K cl W D m' H' (g e s) → Nx σ' H') : PostF X.K cl W { D with nx := Nx, ct := Nx, bk := D.nx } m H f := by
  cases f with
  | nx e s => exact fun m' H' σ' x rs re => hN m' H' σ' e s x rs re (PostF.ext x h)
  | ct e s => exact fun m' H' σ' x rs re => hN m' H' σ' e s x rs re (PostF.ext x h)
  | bk e s => exact h
  | rt v s => exact h
  | ex c v e s => exact h
  | no => exact h
theorem sndS_whil {a : IE} {x : IS} (hx : OkSs G N cl C k fu x) : OkS G N cl C k fu (.whil a x) := by
  intro sc fnB W X c st h
  cases st <;> first | (cases h; done) | skip
  rename_i a' x' orelse pos
  cases orelse with
  | cons _ _ => cases h
  | nil =>
  have h : (tstF a' && chk G N sc a a' && chkSs G N fnB sc x x') = true := h
  simp only [Bool.and_eq_true] at h
  obtain ⟨⟨h1, h2⟩, h3⟩ := h
  refine PS.weak (ps_while c.hp ((oks a).t c.c h2 h1) (hx c h3)) fun D σ H ⟨m, e, s, re, rs, p⟩ => ?_
  refine ⟨fun n σ H => At X.K σ H fun m e s => PostF X.K cl W D m H (whL (ev C a) (exS C fu x) n e s), ⟨fu, m, e, s, re, rs, p⟩, ?_⟩
  rintro n σ H ⟨m, e, s, re, rs, p⟩
  cases n with
  | zero => exact p.elim
  | succ n =>
    have p := ifF (f := fun s => match exS C fu x e s with
        | .nx e s => whL (ev C a) (exS C fu x) n e s
        | .ct e s => whL (ev C a) (exS C fu x) n e s
        | .bk e s => .nx e s
        | .rt v s => .rt v s
        | .ex c v e s => .ex c v e s
        | .no => .no) (g := fun s => .nx e s) p
    refine sT_k re rs p fun b H1 m1 s1 re1 x1 rs1 p => ?_
    cases b with
    | false => exact PostF.here re1 rs1 p
    | true =>
      refine ⟨fun σ' H' => At X.K σ' H' fun m e s => PostF X.K cl W D m H' (whL (ev C a) (exS C fu x) n e s), fun σ' H' q => ⟨n, Nat.lt_succ_self n, q⟩, ?_⟩
      exact ⟨m1, e, s1, re1, rs1, loopF p fun m' H' σ' e s x rs re q => ⟨m', e, s, re, rs, q⟩⟩
end
end
end SM

set_option maxHeartbeats 1000000
/-! SM: for; every statement. -/
namespace SM
open PySem L2 PySem.Spec PyProof.Rows
section
variable {G : Sg} {N : List Str} {cl : Nat → Value} {C : Cal} {k fu : Nat}
def turnS (C : Cal) (fu : Nat) (tg : IE) (body : IS) : Vl → Sl → Sto → Fl := fun v e s => match setTgV tg v e with
  | none => .no
  | some e => exS C fu body e s
theorem exS_for {tg it : IE} {body : IS} {e : Sl} {s : Sto} : exS C fu (.forr tg it body) e s = bindF e (itr C it e s) fun I s => goI (turnS C fu tg body) I e s := by
  show (match itr C it e s with
    | .ok I s => goI (turnS C fu tg body) I e s
    | .ex c v s => .ex c v e s
    | .no => .no) = _
  cases itr C it e s <;> rfl
theorem sndS_forr {tg it : IE} {body : IS} (hb : OkSs G N cl C k fu body) : OkS G N cl C k fu (.forr tg it body) := by
  intro sc fnB W X c st h
  cases st <;> first | (cases h; done) | skip
  rename_i t it' body' orelse pos
  cases orelse with
  | cons _ _ => cases h
  | nil =>
  have h : (chkG fnB sc N tg t && zipTg it t && chki G N sc it it' && chkSs G N fnB sc body body') = true := h
  simp only [Bool.and_eq_true] at h
  obtain ⟨⟨⟨h1, h2⟩, h3⟩, h4⟩ := h
  refine PS.weak (ps_for c.hp c.c.calm ((oks it).i c.c h2 h3) (snd_tgV c.c tg t h1) (hb c h4) (fun x => foldi (tg := t) h3 X.env x)) fun D σ H ⟨m, e, s, re, rs, p⟩ => ?_
  replace p : PostF X.K cl W D m H (exS C fu (.forr tg it body) e s) := p
  rw [exS_for] at p
  refine ⟨m, e, s, re, rs, postF_k (R := RI X.K) re p fun J H1 m1 I s1 re1 x1 rs1 ri p => ?_⟩
  cases I with
  | vals ds =>
    obtain ⟨Gd, Y, wk, hg, hy⟩ := ri
    have p : PostF X.K cl W D m1 H1 (goL (turnS C fu tg body) ds e s1) := p
    refine for_it wk (fun i σ' H' => ∃ m' e' s', Wk m1 H1 m' H' ∧ RE X.K m' H' e' σ' ∧ RS X.K m' H' s' ∧ PostF X.K cl W D m' H' (goL (turnS C fu tg body) (ds.drop i) e' s')) ?_ ?_ ?_ ?_
    · exact ⟨m1, e, s1, Ext.refl.wk, re1, rs1, p⟩
    · rintro i σ' H' - ⟨m', e', s', w, _, _, _⟩
      exact hg _ _ w
    · rintro i x σ' H' H'' hi ⟨m', e', s', w, re', rs', p⟩ y
      obtain ⟨k1, d, k2, k3⟩ := hy _ _ _ _ _ _ w rs' hi y
      rw [List.getElem?_eq_getElem hi] at k2
      injection k2 with k2
      rw [List.drop_eq_getElem_cons hi, k2] at p
      have xs : Ext m' H' m' H'' := Ext.same k1
      have p : PostF X.K cl W D m' H' (match turnS C fu tg body (.d d) e' s' with
        | .nx e s => goL (turnS C fu tg body) (ds.drop (i + 1)) e s
        | .ct e s => goL (turnS C fu tg body) (ds.drop (i + 1)) e s
        | .bk e s => .nx e s
        | .rt v s => .rt v s
        | .ex c v e s => .ex c v e s
        | .no => .no) := p
      unfold turnS at p
      cases q : setTgV tg (.d d) e' with
      | none => simp only [q] at p; exact p.elim
      | some e1 =>
        simp only [q] at p
        refine ⟨m', e', .d d, e1, re'.ext xs, k3, q, fun σ2 re2 _ => ⟨m', e1, s', re2, rs'.same k1, loopF (PostF.ext xs p) fun m2 H2 σ3 e2 s2 x2 rs2 re2 p2 => ?_⟩⟩
        exact ⟨m2, e2, s2, (w.trans xs.wk).trans x2.wk, re2, rs2, p2⟩
    · rintro σ' H' ⟨m', e', s', w, re', rs', p⟩
      rw [List.drop_length] at p
      exact PostF.here re' rs' p
  | ref n =>
    obtain ⟨a, ha, rfl⟩ := ri
    have hn1 : n < m1.l.length := (List.getElem?_eq_some_iff.mp ha).1
    have p : PostF X.K cl W D m1 H1 (goR (turnS C fu tg body) n ((listAt n s1).map List.length |>.getD 0) 0 e s1) := p
    refine ⟨fun i f σ' H' => ∃ m' e' s', Wk m1 H1 m' H' ∧ RE X.K m' H' e' σ' ∧ RS X.K m' H' s' ∧ PostF X.K cl W D m' H' (goR (turnS C fu tg body) n f i e' s'), ⟨_, m1, e, s1, Ext.refl.wk, re1, rs1, p⟩, ?_⟩
    rintro i f σ' H' ⟨m', e', s', w, re', rs', p⟩
    unfold goR at p
    cases ql : listAt n s' with
    | none => rw [ql] at p; exact p.elim
    | some us =>
    rw [ql] at p
    simp only at p
    obtain ⟨a', zs, z1, z2, z3⟩ := rs'.at_ n us (listAt_of ql)
    have ea : a' = a := by
      rcases w.pl n hn1 with z | z
      · rw [z, ha] at z1; cases z1; rfl
      · rw [z] at z1; cases z1
    subst ea
    cases qi : us[i]? with
    | none =>
      rw [qi] at p
      refine .inl ⟨⟨zs, SqL.of z2, ?_⟩, PostF.here re' rs' p⟩
      rw [← z3.length]
      exact List.getElem?_eq_none_iff.mp qi
    | some u =>
      rw [qi] at p
      simp only at p
      cases f with
      | zero => exact p.elim
      | succ f =>
      simp only at p
      obtain ⟨x, w1, w2⟩ := z3.get qi
      refine .inr ⟨⟨zs, x, SqL.of z2, w1⟩, fun σ' H' => ∃ m' e' s', Wk m1 H1 m' H' ∧ RE X.K m' H' e' σ' ∧ RS X.K m' H' s' ∧ PostF X.K cl W D m' H' (goR (turnS C fu tg body) n f (i + 1) e' s'), fun σ' H' q => ⟨f, Nat.lt_succ_self f, q⟩, fun x' H'' y => ?_⟩
      obtain ⟨rfl, y⟩ := y
      have := y zs (SqL.of z2)
      rw [w1] at this
      cases this
      have p : PostF X.K cl W D m' H'' (match turnS C fu tg body u e' s' with
        | .nx e s => goR (turnS C fu tg body) n f (i + 1) e s
        | .ct e s => goR (turnS C fu tg body) n f (i + 1) e s
        | .bk e s => .nx e s
        | .rt v s => .rt v s
        | .ex c v e s => .ex c v e s
        | .no => .no) := p
      unfold turnS at p
      cases q : setTgV tg u e' with
      | none => simp only [q] at p; exact p.elim
      | some e1 =>
        simp only [q] at p
        refine ⟨m', e', u, e1, re', w2, q, fun σ2 re2 _ => ⟨m', e1, s', re2, rs', loopF p fun m2 H2 σ3 e2 s2 x2 rs2 re2 p2 => ?_⟩⟩
        exact ⟨m2, e2, s2, w.trans x2.wk, re2, rs2, p2⟩
structure OksS (G : Sg) (N : List Str) (cl : Nat → Value) (C : Cal) (k fu : Nat) (is : IS) : Prop where
  s : OkS G N cl C k fu is
  b : OkSs G N cl C k fu is
theorem OksS.one {is : IS} (s : OkS G N cl C k fu is) (h : ∀ (fnB : Str → Bool) (sc : Scope) (sts : List Stmt), chkSs G N fnB sc is sts = false) : OksS G N cl C k fu is := ⟨s, fun _ _ q => by rw [h] at q; cases q⟩
theorem oksS : ∀ is : IS, OksS G N cl C k fu is := by
  intro is
  induction is with
  | nil =>
    refine ⟨fun {sc} {fnB} {W} {X} c {st} h => (by cases st <;> cases h), fun {sc} {fnB} {W} {X} c {sts} h => ?_⟩
    cases sts with
    | cons _ _ => cases h
    | nil => exact PSs.weak pss_nil fun D σ H ⟨m, e, s, re, rs, p⟩ => PostF.here re rs p
  | cons a r iha ihr =>
    refine ⟨fun {sc} {fnB} {W} {X} c {st} h => (by cases st <;> cases h), fun {sc} {fnB} {W} {X} c {sts} h => ?_⟩
    cases sts with
    | nil => cases h
    | cons st sts =>
      have h : (chkS G N fnB sc a st && chkSs G N fnB sc r sts) = true := h
      simp only [Bool.and_eq_true] at h
      refine PSs.weak (pss_cons (iha.s c h.1) (ihr.b c h.2)) fun D σ H ⟨m, e, s, re, rs, p⟩ => ⟨m, e, s, re, rs, ?_⟩
      have p : PostF X.K cl W D m H (match exS C fu a e s with
        | .nx e s => exS C fu r e s
        | f => f) := p
      show PostF X.K cl W { nx := tS X.K cl C W fu r D, rt := D.rt, bk := D.bk, ct := D.ct } m H (exS C fu a e s)
      cases q : exS C fu a e s with
      | nx e1 s1 => rw [q] at p; exact fun m' H' σ' x rs re => ⟨m', e1, s1, re, rs, PostF.ext x p⟩
      | rt _ _ => rw [q] at p; exact p
      | bk _ _ => rw [q] at p; exact p
      | ct _ _ => rw [q] at p; exact p
      | ex _ _ _ _ => rw [q] at p; exact p
      | no => rw [q] at p; exact p
  | asg tg e => exact .one sndS_asg fun _ _ x => by cases x <;> rfl
  | par t u a b => exact .one sndS_par fun _ _ x => by cases x <;> rfl
  | par3 => exact .one sndS_par3 fun _ _ x => by cases x <;> rfl
  | ptup => exact .one sndS_ptup fun _ _ x => by cases x <;> rfl
  | aug => exact .one sndS_aug fun _ _ x => by cases x <;> rfl
  | ite c a b iha ihb => exact .one (sndS_ite iha.b ihb.b) fun _ _ x => by cases x <;> rfl
  | forr tg it b ihb => exact .one (sndS_forr ihb.b) fun _ _ x => by cases x <;> rfl
  | whil c b ihb => exact .one (sndS_whil ihb.b) fun _ _ x => by cases x <;> rfl
  | ret => exact .one sndS_ret fun _ _ x => by cases x <;> rfl
  | expr => exact .one sndS_expr fun _ _ x => by cases x <;> rfl
  | pass => exact .one sndS_small.1 fun _ _ x => by cases x <;> rfl
  | brk => exact .one sndS_small.2.1 fun _ _ x => by cases x <;> rfl
  | cont => exact .one sndS_small.2.2.1 fun _ _ x => by cases x <;> rfl
  | never => exact ⟨sndS_small.2.2.2, fun {sc} {fnB} {W} {X} c {sts} h => PSs.weak pss_never fun D σ H ⟨m, e, s, re, rs, p⟩ => p⟩
end
end SM

set_option maxHeartbeats 1000000
/-! SM: defs, level by level; the law's own call. -/
namespace SM
open PySem L2 PySem.Spec PyProof.Rows
section
variable {P : Program} {w : World} {K : PySem.W.Frag} {mg : Str → Option Value} {base : Heap}
/-- a def whose body keeps it, where nothing is being shown -/
theorem fnG_of {x qual : Str} {params : Arguments} {body : List Stmt} {scope : Scope} {f : Addr} {fd : FuncData} {N ps : List Str} {k : Nat} {sp : Sp} (F : FunD K x qual params body scope [] [] f fd) (S : FnScope N ps scope)
    (len : ∀ vs H Q E, sp vs H Q E → vs.length = ps.length)
    (hb : ∀ (cdv : Value) (A : Around) (out : List Env) (s : Shared) (H : Hp) (vs : List V) (Q : VK) (E : XK), Room k (A.deeper (envOfC qual scope s.heap.objs.size f cdv)) → A.guards = some [] → sp vs H Q E →
      ∃ t, PSs (cxOf (L2.CX P w) P w K mg base N qual scope f cdv A out s H E) body t ∧ t { nx := fun _ H' => Q .non H', rt := Q } (start N vs) H) : FnG P w K mg base (k + 1) f fd ps sp := by
  obtain ⟨oc, od, dV, kV, doc, pm, an, cdv, ct, osl, rfl, lk, hcd, _, _⟩ := F.ex
  refine ⟨len, fun A out sh H args us vs Q E room gd env bind vals prom => ?_⟩
  have inK : K.In sh.heap := env.mod.kin.keeps fun b o q => (env.bs b o q).1
  have noLim : sh.heap.NoLimit := env.mod.nolimit.keeps fun b o q => (env.bs b o q).1
  have kinds : ∀ y ∈ ps.zip us, scope.names.lookup y.1 = some .local ∨ (scope.names.lookup y.1 = some .cell ∧ ((cellsFrom (sh.heap.objs.size + 1) scope.names []).lookup y.1).isSome = true) := by
    rintro ⟨nm, v⟩ hy
    exact (S.par nm (List.of_mem_zip hy).1).imp id fun q => ⟨q, PySem.W.cellsFrom_some _ _ _ (.inl q)⟩
  refine codeAny_call_function room.depth (inK _ _ lk) rfl S.co S.gen rfl (PySem.W.codeRec_of inK hcd) (bind _ _ _ _ (wpAny_newFunctionEnv_cells S.kind kinds fun env' he s1 incall => ?_))
  subst he
  refine ⟨noLim.keeps incall.toInCall.keep, codeAny_func ?_⟩
  obtain ⟨t, runs, holds⟩ := hb cdv A out sh H vs Q E (room.deeper _) gd prom
  have inv := inv_start (CX := L2.CX P w) (N := N) (E := E) S room.hd env (len _ _ _ _ prom) vals incall
  refine wpAny_mono (runs.run [] s1 (start N vs) H _ inv holds) (fun fl s' hs => ?_) fun e s' hs => hs
  cases fl with
  | ret u => obtain ⟨v, _, H', J, rv, q⟩ := hs; exact ⟨v, H', J.os, J.bare, J.base, J.hok, rv, q⟩
  | next => obtain ⟨_, H', J, q⟩ := hs; exact ⟨.non, H', J.os, J.bare, J.base, J.hok, rfl, q⟩
  | brk => obtain ⟨_, _, _, q⟩ := hs; exact q.elim
  | cont => obtain ⟨_, _, _, q⟩ := hs; exact q.elim
end
/-! ### the table of defs -/
structure DefAt (G : Sg) (K : PySem.W.Frag) (mg : Str → Option Value) (x : Str) (F : Df) (a : Addr) (fd : FuncData) (ps : List Str) : Prop where
  gl : mg x = some (.ref a)
  bd : ∀ (s : Shared) (us : List Value), us.length = ps.length → BindsTo s fd ⟨us, []⟩ (ps.zip us)
  np : F.np = ps.length
  kp : PySem.W.keepIn K (.ref a) = true
  kw : ∀ (nms : List Str) (perm : List Nat), (x, nms, perm) ∈ G.kws → KwB fd ps nms perm
  ex : ∃ (N : List Str) (qual : Str) (params : Arguments) (body : List Stmt) (scope : Scope), FunD K x qual params body scope [] [] a fd ∧ FnScope N ps scope ∧ F.ns = N.length ∧ chkSs G N (fun _ => true) scope F.body body = true
def DefOk (G : Sg) (K : PySem.W.Frag) (mg : Str → Option Value) (x : Str) (F : Df) : Prop := ∃ (a : Addr) (fd : FuncData) (ps : List Str), DefAt G K mg x F a fd ps
structure TabOk (G : Sg) (K : PySem.W.Frag) (mg : Str → Option Value) (P : List Df) : Prop where
  fn : ∀ (f : Nat) (x : Str), G.fns[f]? = some x → ∃ F, P[f]? = some F ∧ DefOk G K mg x F
  cn : ∀ (x : Str) (d : PyData), (x, d) ∈ G.cns → ∃ u v, mg x = some u ∧ L2.RelV v u ∧ ∀ m H, Rep K m H d v
  bi : ∀ x ∈ G.bis, mg x = none
  gc : ((("gcd" : Str) ∈ G.mth) → mg "gcd" = some (.builtin "math.gcd")) ∧ ((("lcm" : Str) ∈ G.mth) → mg "lcm" = some (.builtin "math.lcm"))
section
variable {G : Sg} {P : Program} {w : World} {K : PySem.W.Frag} {mg : Str → Option Value} {T : List Df} {cl : Nat → Value} {fu : Nat}
theorem leave_post {s₀ : Sto} {m : Mu} {H : Hp} {fl : Fl} {Q : VK} {E : XK} (rs : RS K m H s₀) (p : Post K cl (RV K) E Q m H (leave s₀ fl)) : PostF K cl (fun cls d _ H => E cls d H) { nx := fun _ H' => Q .non H', rt := Q } m H fl := by
  cases fl with
  | nx e s =>
    intro m' H' σ' x rs' _
    simp only [leave] at p
    split at p
    · rename_i c
      obtain ⟨h1, h2, h3⟩ := rs.cut x rs' (v := .d .none) (y := .non) rfl c
      exact p _ _ _ h1 h2 h3
    · exact p m' H' .non x rs' rfl
  | rt v s =>
    intro m' H' b x rs' rv
    simp only [leave] at p
    split at p
    · rename_i c
      obtain ⟨h1, h2, h3⟩ := rs.cut x rs' rv c
      exact p _ _ _ h1 h2 h3
    · exact p m' H' b x rs' rv
  | bk e s => exact (show False from p).elim
  | ct e s => exact (show False from p).elim
  | ex c v e s => exact fun m' H' d y σ' x rs' rv hd _ => p m' H' d y x rs' rv hd
  | no => exact p
theorem RVs.start {m : Mu} {H : Hp} {us : List Vl} {vs : List V} (r : RVs K m H us vs) (N : List Str) (n : Nat) (hn : us.length = n) : RE K m H (us.map some ++ List.replicate (N.length - n) none) (L2.start N vs) := by
  subst hn
  refine ⟨by unfold L2.start; simp [r.length], fun i v h => ?_⟩
  have hl := r.length
  by_cases hi : i < us.length
  · rw [List.getElem?_append_left (by simpa using hi), List.getElem?_map] at h
    obtain ⟨u, e, rfl'⟩ := omap h
    cases rfl'
    obtain ⟨y, e2, rv⟩ := r.get e
    refine ⟨y, ?_, rv⟩
    unfold L2.start
    rw [List.getElem?_append_left (by simpa [← hl] using hi), List.getElem?_map, e2]
    rfl
  · rw [List.getElem?_append_right (by simpa using hi), List.getElem?_replicate] at h
    split at h <;> cases h
theorem callI_len {f : Nat} {F : Df} (hF : T[f]? = some F) {vs : List Vl} (h : vs.length ≠ F.np) (s : Sto) : ∀ k, callI T fu k f vs s = .no
  | 0 => rfl
  | k + 1 => by
    unfold callI
    rw [hF]
    exact if_neg h
theorem binds_all {fd : FuncData} {ps : List Str} (h : ∀ (s : Shared) (us : List Value), us.length = ps.length → BindsTo s fd ⟨us, []⟩ (ps.zip us)) : Binds K fd ps [] := fun s us _ hl => by
  rw [List.append_nil] at hl ⊢
  exact h s us hl
theorem level (tab : TabOk G K mg T) (base : Heap) : ∀ (k f : Nat) (x : Str) (F : Df) (a : Addr) (fd : FuncData) (ps : List Str), T[f]? = some F → DefAt G K mg x F a fd ps → FnG P w K mg base k a fd ps (spI K cl (callI T fu k) f ps.length)
  | 0, f, x, F, a, fd, ps, hF, D => by
    refine ⟨fun vs H Q E z => z.1, fun A out s H args us vs Q E _ _ _ _ _ z => ?_⟩
    obtain ⟨_, m, s, us, _, _, p⟩ := z
    exact p.elim
  | k + 1, f, x, F, a, fd, ps, hF, D => by
    obtain ⟨N, qual, params, body, scope, h2, h3, h5, h7⟩ := D.ex
    have h4 := D.np
    refine fnG_of h2 h3 (fun vs H Q E z => z.1) fun cdv A out s H vs Q E room gd z => ?_
    obtain ⟨hl, m, st, us, rv, rs, p⟩ := z
    have ck : Cok G N cl (callI T fu k) k (fun _ => true) scope (fun cls d _ H => E cls d H) (cxOf (L2.CX P w) P w K mg base N qual scope a cdv A out s H E) := by
      refine ⟨rfl, rfl, rfl, rfl, h3.nd, takes_of rfl rfl rfl rfl, gd, room, fun f x h => ?_, tab.cn, tab.bi, tab.gc⟩
      obtain ⟨F, hF, a, fd, ps, D⟩ := tab.fn f x h
      exact ⟨a, fd, ps, D.gl, D.kp, binds_all D.bd, fun vs s hl => callI_len hF (by rw [D.np]; exact hl) s k, D.kw, level tab base k f x F a fd ps hF D⟩
    refine ⟨_, (oksS (fu := fu) F.body).b ⟨ck, h3.kind, passes_of rfl⟩ h7, m, _, st, RVs.start rv N F.np (by rw [rv.length, hl, h4]), rs, leave_post rs ?_⟩
    have e : callI T fu (k + 1) f us st = leave st (exS (callI T fu k) fu F.body (us.map some ++ List.replicate (F.ns - F.np) none) st) := by
      show (match T[f]? with
        | some F => if us.length = F.np then leave st (exS (callI T fu k) fu F.body (us.map some ++ List.replicate (F.ns - F.np) none) st) else .no
        | none => .no) = _
      rw [hF]
      exact if_pos (by rw [rv.length, hl, h4])
    rw [e, h5] at p
    exact p
end
/-! ### the law's own call -/
/-- what is tracked at the start: the script, where it is no object of the module -/
noncomputable def hp0 (K : PySem.W.Frag) (a : Addr) (o : Obj) (ns : List Int) : Hp := fun b => if b = a then (match K.lookup a with
  | some _ => none
  | none => some (.frz o (.lst (ns.map V.int)))) else none
section
variable {K : PySem.W.Frag} {a : Addr} {o : Obj} {ns : List Int}
theorem hp0_ne {b : Addr} (h : b ≠ a) : hp0 K a o ns b = none := if_neg h
theorem hp0_some {b : Addr} {u : HO} (h : hp0 K a o ns b = some u) : b = a ∧ K.lookup a = none ∧ u = .frz o (.lst (ns.map V.int)) := by
  by_cases e : b = a
  · subst e
    have h : (match K.lookup b with
      | some _ => none
      | none => some (HO.frz o (.lst (ns.map V.int)))) = some u := (if_pos rfl).symm.trans h
    cases q : K.lookup b with
    | none => rw [q] at h; cases h; exact ⟨rfl, rfl, rfl⟩
    | some _ => rw [q] at h; cases h
  · rw [hp0_ne e] at h; cases h
theorem hp0_at (h : K.lookup a = none) : hp0 K a o ns a = some (.frz o (.lst (ns.map V.int))) := by
  unfold hp0
  rw [if_pos rfl, h]
end
theorem call_law {P : Program} {w : World} {K : PySem.W.Frag} {mg mb : Str → Option Value} {k : Nat} {fa a : Addr} {fd : FuncData} {x : Str} {sp : Sp} {sh : Shared} {vs : List Value} {ns : List Int}
    (inK : K.In sh.heap) (glo : sh.heap.Ns mainGlobals mg) (blt : sh.heap.Ns builtinsNs mb) (boot : ∀ x : Str, x ≠ "__name__" → mb x = bootBuiltins x) (lim : sh.heap.NoLimit) (noGen : sh.gens = #[])
    (obj : sh.heap.get? a = some { cls := .type "list", data := .seq vs.toArray }) (nums : IntsAre vs ns) (small : ns.length ≤ sizeLine) (room : Room k callerA)
    (keeps : ∀ base : Heap, K.In base → base.Ns mainGlobals mg → FnG P w K mg base k fa fd [x] sp) (binds : ∀ (s : Shared) (u : Value), BindsTo s fd ⟨[u], []⟩ [(x, u)])
    (prom : ∀ H : Hp, SqL K H a (ns.map V.int) → sp [.ref a] H (fun v _ => v = .bl true) fun _ _ _ => False) :
    codeAny (model P w) callerA (.call (.ref fa) ⟨[.ref a], []⟩) (fun r s' => r = .ok (.ret (.bool true)) ∧ OldK sh.heap s'.heap ∧ s'.os = sh.os ∧ AllBare s'.gens) sh := by
  have vals := vals_ints nums
  have count := nums.length
  generalize ho : ({ cls := .type "list", data := .seq vs.toArray } : Obj) = o at obj
  obtain ⟨T, hT⟩ : ∃ T : Hp, T = hp0 K a o ns := ⟨_, rfl⟩
  have only : ∀ {b : Addr}, T b ≠ none → b = a ∧ K.lookup a = none := fun {b} z => by
    cases q : T b with
    | none => exact absurd q z
    | some u => rw [hT] at q; exact ⟨(hp0_some q).1, (hp0_some q).2.1⟩
  have plain : ∀ {b : Addr} {c : Obj} {es : Array DictEntry} {n : Nat}, sh.heap.get? b = some c → c.data = .dict es n → T b = none := fun {b c es n} e d => by
    cases q : T b with
    | none => rfl
    | some u =>
      exfalso
      have ea := (only (by rw [q]; exact fun z => nomatch z)).1
      rw [ea, obj] at e
      cases e
      rw [← ho] at d
      exact nomatch d
  have keepNs : ∀ {b : Addr} {m : Str → Option Value}, sh.heap.Ns b m → (hidT sh.heap T).Ns b m := fun {b m} q => by
    obtain ⟨c, es, n, e, d, r⟩ := q
    exact ⟨c, es, n, hidT_get e (plain e d), d, r⟩
  have inB : K.In (hidT sh.heap T) := fun b c e => hidT_get (inK b c e) (by
    cases q : T b with
    | none => rfl
    | some u =>
      exfalso
      obtain ⟨e1, e2⟩ := only (b := b) (by rw [q]; exact fun z => nomatch z)
      rw [e1, e2] at e
      cases e)
  have wide : ∀ u, K.lookup a = some u → u = o := fun u e => by
    have := inK a u e
    rw [obj] at this
    exact (Option.some.inj this).symm
  have hS : SqL K T a (ns.map V.int) := by
    cases q : K.lookup a with
    | none =>
      refine .inl (.inr ⟨o, ?_⟩)
      rw [hT]
      exact hp0_at q
    | some u =>
      have := wide u q
      subst this
      subst ho
      exact .inr ⟨_, vs.toArray, _, q, rfl, rfl, rfl, by rw [List.size_toArray, count]; exact small, by simpa using vals⟩
  have hok : HOk P w T sh.heap := fun b u q => by
    rw [hT] at q
    obtain ⟨rfl, _, rfl⟩ := hp0_some q
    subst ho
    exact ⟨obj, by rw [List.length_map]; exact small, vs, _, vals, obj⟩
  have noLim : (hidT sh.heap T).NoLimit := by
    obtain ⟨mc, q1, q2⟩ := lim
    exact ⟨mc, keepNs q1, q2⟩
  have env : Env0 P w K mg (hidT sh.heap T) callerA [] sh T :=
    ⟨rfl, ⟨inB, keepNs glo, ⟨mb, keepNs blt, boot⟩, noLim⟩, fun _ _ e => of_hidT e, Nat.le_of_eq (hidT_size _ _), trivial, fun b z => (by cases z), hok, .of_eq noGen⟩
  have run := (keeps _ inB (keepNs glo)).run callerA [] sh T ⟨[.ref a], []⟩ [.ref a] [.ref a] _ _ room rfl env (binds sh (.ref a)) (.cons rfl .nil) (prom T hS)
  refine codeAny_mono run fun r s' h => ?_
  cases r with
  | error e =>
    obtain ⟨_, _, _, _, _, _, _, _, _, _, _, _, z⟩ := h
    exact z.elim
  | ok fl =>
    cases fl with
    | next => exact False.elim h
    | brk => exact False.elim h
    | cont => exact False.elim h
    | ret u =>
      obtain ⟨v, T', os, bare, un, hok', rel, q⟩ := h
      have q : v = .bl true := q
      subst q
      have eu : u = Value.bool true := rel
      subst eu
      refine ⟨rfl, OldK.of_keep fun b c e => ?_, os, bare⟩
      cases q : T b with
      | none => exact un.keep b c e q (fun z => by cases z) (by simp)
      | some u =>
        rw [hT] at q
        obtain ⟨rfl, q2, rfl⟩ := hp0_some q
        rw [obj] at e
        cases e
        exact (hok' _ _ (un.frzs _ _ _ (by rw [hT]; exact hp0_at q2))).1
/-- the end of a law's head: the table of defs, the law among them, its run by values -/
theorem walk_law {l : PySem.W.OpenLaw} {n k fu : Nat} {q : Program} {loose : List Str} {XP : (Str → Option Value) → Heap → Prop} {YP : World → Heap → Prop} {d : DefRec} {G : Sg} {T : List Df} {fl : Nat}
    (most : l.most = some n) (small : n ≤ sizeLine) (noDef : d.params.defaults = []) (room : Room k callerA)
    (facts : ∀ (w : World) (mg : Str → Option Value) (h : Heap), YP w h → h.Ns mainGlobals mg → ∃ K : PySem.W.Frag, K.In h ∧ TabOk G K mg T) (name : G.fns[fl]? = some d.name) (one : (T[fl]?).map Df.np = some 1)
    (law : ∀ ns : List Int, ns.length ≤ n → (∀ i ∈ ns, Builtin.Int.intBits i ≤ 1048576) → ∃ s, callI T fu k fl [.d (.list (ns.map PyData.int))] [] = .ok (.d (.bool true)) s) :
    PySem.W.WalkO q loose XP YP l.row.toRowW d [] (fun f vs => PySem.call f vs) := by
  refine Att.attach_callB most noDef fun w s₀ sh mg mb fa o pm cd doc a vs ns ground yes _ _ _ atName obj nums len bits noGen => ?_
  obtain ⟨K, inK, tab⟩ := facts w mg _ yes ground.T.g
  obtain ⟨F, hF, a', fd, ps, D⟩ := tab.fn fl d.name name
  have q1 := D.gl
  rw [atName] at q1
  cases q1
  rw [hF] at one
  have one : some F.np = some 1 := one
  have e1 : ps.length = 1 := by injection one with e; rw [← D.np, e]
  obtain ⟨x, rfl⟩ : ∃ x, ps = [x] := by
    cases ps with
    | nil => cases e1
    | cons x r => cases r with
      | nil => exact ⟨x, rfl⟩
      | cons _ _ => cases e1
  refine call_law (P := l.prog) (w := w) (x := x) (fd := fd) (sp := spI K (fun _ => .none) (callI T fu k) fl 1) inK ground.T.g ground.T.b ground.T.builtins ground.T.nolimit noGen obj nums (Nat.le_trans len small) room (fun base _ _ => ?_) (fun s u => D.bd s [u] rfl) fun H hS => ?_
  · exact level tab base k fl d.name F fa fd [x] hF D
  · obtain ⟨s, hs⟩ := law ns len bits
    refine ⟨rfl, ⟨[], []⟩, [], [.d (.list (ns.map PyData.int))], ⟨_, [], rfl, ⟨a, _, rfl, ?_, RVs.ofInts ns⟩, rfl⟩, ⟨rfl, fun n vs q => (by simp at q), fun n q => (by simp at q), fun i j a q => (by simp at q), fun a q => (by simp at q)⟩, ?_⟩
    · rcases hS with z | z
      · exact .inl ⟨fun q => q.elim (fun q => (by cases q)) fun q => (by cases q), z⟩
      · exact .inr z
    · rw [hs]
      intro m' H' b _ _ r
      exact r
end SM

set_option maxHeartbeats 1000000
/-! SM: what the head tells of the defs. -/
namespace SM
open PySem L2 PySem.Spec PyProof.Rows
/-- an import's built-in function -/
def impB (K : PySem.W.Frag) (g : Str × String) : Bool := He.eqO (PySem.W.nsIn K mainGlobals g.1) (some (some (.builtin g.2)))
def intsB : List Value → List Int → Bool
  | [], [] => true
  | .int i _ :: r, j :: q => decide (i = j) && intsB r q
  | _, _ => false
/-- a tuple of ints -/
def tupB (K : PySem.W.Frag) (g : Str × List Int) : Bool := match PySem.W.nsIn K mainGlobals g.1 with
  | some (some (.ref a)) => (match K.lookup a with
    | some o => decide (o.cls = .type "tuple") && (match o.data with
      | .seq its _ => decide (its.size ≤ sizeLine) && intsB its.toList g.2
      | _ => false)
    | none => false)
  | _ => false
/-- what else the head tells -/
inductive Gx where
  | imp (x : Str) (b : String)
  | tup (x : Str) (ns : List Int)
def Gx.ok (K : PySem.W.Frag) : Gx → Bool
  | .imp x b => impB K (x, b)
  | .tup x ns => tupB K (x, ns)
abbrev AlG : Type := He.AlD × Bool
def obsGG (n : Nat) (fa : List He.Fa) (fn : List He.DefD) (gs : List Gx) (g : Addr → Option Obj) : AlG := (He.obsD fa fn (He.frG g (He.asD g n)), gs.all (Gx.ok (He.frG g (He.asD g n))))
def hookG (n : Nat) (fa : List He.Fa) (fn : List He.DefD) (gs : List Gx) : PySem.W.Hook where
  α := AlG
  obs := fun s => obsGG n fa fn gs s.heap.get?
  val := fun _ => (He.valD fn, true)
  says := fun _ h => ∃ K : PySem.W.Frag, K.In h ∧ He.SaysD fa fn K ∧ gs.all (Gx.ok K) = true
  of := fun _ _ e => ⟨_, He.frG_in, (Prod.mk.inj e).1, (Prod.mk.inj e).2⟩
  keeps := fun _ _ _ ⟨K, hK, c⟩ k => ⟨K, PySem.W.Frag.In.keeps hK k, c⟩
theorem obsGG_eq {n : Nat} {fa : List He.Fa} {fn : List He.DefD} {gs : List Gx} {g : Addr → Option Obj} {s : Shared} (h : ∀ a, g a = s.heap.get? a) : obsGG n fa fn gs g = (hookG n fa fn gs).obs s := by
  have e : g = s.heap.get? := funext h
  rw [e] <;> rfl
section
variable {G : Sg} {K : PySem.W.Frag} {h : Heap} {mg : Str → Option Value} {fa : List He.Fa} {fn : List He.DefD}
theorem imp_ok (X : K.In h) (ns : h.Ns mainGlobals mg) {gs : List Gx} (c : gs.all (Gx.ok K) = true) {x : Str} {b : String} (m : Gx.imp x b ∈ gs) : mg x = some (.builtin b) :=
  PySem.W.mg_of X ns (He.eqO_ok (List.all_eq_true.mp c _ m))
theorem kwA {x qual : Str} {params : Arguments} {body : List Stmt} {scope : Scope} {f : Addr} {fd : FuncData} {ps nms : List Str} {perm : List Nat} (F : FunD K x qual params body scope [] [] f fd)
    (q : ∀ (kV doc pm : Value) (an : Option Addr) (cdv ct : Value) (us zs : List Value), us.length = nms.length → permL us perm = some zs → bindArgs (PySem.W.fnOf x qual params body scope .none kV doc pm an cdv ct) ⟨[], nms.zip us⟩ = pure (ps.zip zs)) : KwB fd ps nms perm := by
  obtain ⟨oc, od, dV, kV, doc, pm, an, cdv, ct, osl, rfl, lk, hcd, hD, hK⟩ := F.ex
  rcases hD with ⟨_, rfl⟩ | ⟨e, _⟩
  · exact fun s us zs hl hp => .of_eq (q kV doc pm an cdv ct us zs hl hp)
  · exact absurd rfl e
theorem kw_none {α : Type} {x : Str} {l : List (Str × α)} (n : l.all (fun p => !decide (p.1 = x)) = true) {a : α} (m : (x, a) ∈ l) : False := by
  have := List.all_eq_true.mp n _ m
  simp at this
theorem kw_some {α : Type} [DecidableEq α] {x : Str} {l : List (Str × α)} {a b : α} (n : l.all (fun p => !decide (p.1 = x) || decide (p.2 = a)) = true) (m : (x, b) ∈ l) : b = a := by
  have := List.all_eq_true.mp n _ m
  simpa using this
theorem kw_two {α : Type} [DecidableEq α] {x : Str} {l : List (Str × α)} {a a' b : α} (n : l.all (fun p => !decide (p.1 = x) || (decide (p.2 = a) || decide (p.2 = a'))) = true) (m : (x, b) ∈ l) : b = a ∨ b = a' := by
  have := List.all_eq_true.mp n _ m
  simpa using this
/-- a def of the table -/
theorem defOk_of {i : Nat} {x qual : Str} {params : Arguments} {body : List Stmt} {scope : Scope} {F : Df} {N ps : List Str} (X : K.In h) (ns : h.Ns mainGlobals mg) (c : He.SaysD fa fn K) (j : Nat) (hf : fa[j]? = some (.glo x)) (hd : fn[i]? = some ⟨(x, none), x, qual, params, body, scope, [], []⟩)
    (S : FnScope N ps scope) (hp : F.np = ps.length) (hn : F.ns = N.length)
    (bd : ∀ (kV doc pm : Value) (an : Option Addr) (cdv ct : Value) (us : List Value), us.length = ps.length → bindArgs (PySem.W.fnOf x qual params body scope .none kV doc pm an cdv ct) ⟨us, []⟩ = pure (ps.zip us))
    (kw : ∀ (nms : List Str) (perm : List Nat), (x, nms, perm) ∈ G.kws → ∀ (kV doc pm : Value) (an : Option Addr) (cdv ct : Value) (us zs : List Value), us.length = nms.length → permL us perm = some zs →
      bindArgs (PySem.W.fnOf x qual params body scope .none kV doc pm an cdv ct) ⟨[], nms.zip us⟩ = pure (ps.zip zs))
    (ck : chkSs G N (fun _ => true) scope F.body body = true) : DefOk G K mg x F := by
  obtain ⟨fd, Fd⟩ := c.def_ i hd
  have gl := He.glo_ok X ns (c.fact j hf)
  exact ⟨_, fd, ps, gl, fun s us hl => FunD.bindsA Fd bd s us hl, hp, Fd.kp, fun nms perm m => kwA Fd (kw nms perm m), N, qual, params, body, scope, Fd, S, hn, ck⟩
theorem intsB_vals : ∀ {vs : List Value} {ns : List Int}, intsB vs ns = true → Vals (ns.map V.int) vs
  | [], [], _ => .nil
  | [], _ :: _, h => by cases h
  | v :: vs, [], h => by cases v <;> cases h
  | v :: vs, n :: ns, h => by
    cases v <;> first | (cases h; done) | skip
    simp only [intsB, Bool.and_eq_true, decide_eq_true_eq] at h
    obtain ⟨rfl, h2⟩ := h
    exact .cons ⟨_, rfl⟩ (intsB_vals h2)
theorem cn_tup (X : K.In h) (ns : h.Ns mainGlobals mg) {gs : List Gx} (c : gs.all (Gx.ok K) = true) {x : Str} {is : List Int} (m : Gx.tup x is ∈ gs) : ∃ u v, mg x = some u ∧ L2.RelV v u ∧ ∀ m H, Rep K m H (.tuple (is.map .int)) v := by
  have t : tupB K (x, is) = true := List.all_eq_true.mp c _ m
  unfold tupB at t
  split at t
  · rename_i a e
    split at t
    · rename_i o eo
      simp only [Bool.and_eq_true, decide_eq_true_eq] at t
      obtain ⟨t1, t2⟩ := t
      split at t2
      · rename_i its n ed
        simp only [Bool.and_eq_true, decide_eq_true_eq] at t2
        exact ⟨.ref a, .ref a, PySem.W.mg_of X ns e, rfl, fun m H => ⟨a, is.map V.int, rfl, .inr ⟨o, its, n, eo, t1, ed, t2.1, intsB_vals t2.2⟩, RVs.ofInts is⟩⟩
      · cases t2
    · cases t
  · cases t
theorem cn_int (X : K.In h) (ns : h.Ns mainGlobals mg) (c : He.SaysD fa fn K) (j : Nat) {x : Str} {i : Int} (hf : fa[j]? = some (.int x i)) : ∃ u v, mg x = some u ∧ L2.RelV v u ∧ ∀ m H, Rep K m H (.int i) v := by
  obtain ⟨t, e⟩ := He.int_ok X ns (c.fact j hf)
  exact ⟨_, .int i, e, ⟨t, rfl⟩, fun _ _ => rfl⟩
end
end SM

set_option maxHeartbeats 1000000
/-! SM: plain rules of the interpreter's runs. -/
namespace SM
open PySem
variable {C : Cal} {fu k : Nat} {e : Sl} {s : Sto}
theorem leave_pure (x : PyData) (s : Sto) : leave s (.rt (.d x) s) = .ok (.d x) s := by
  have h : Cut s (.d x) s := ⟨trivial, fun _ _ => .inl rfl⟩
  simp only [leave, if_pos h, List.take_length]
theorem leave_nx (e : Sl) (s : Sto) : leave s (.nx e s) = .ok (.d .none) s := by
  have h : Cut s (.d .none) s := ⟨trivial, fun _ _ => .inl rfl⟩
  simp only [leave, if_pos h, List.take_length]
/-! ### one step each -/
@[simp] theorem ok_bind {α β : Type} (a : α) (s : Sto) (f : α → Sto → Rs β) : (Rs.ok a s).bind f = f a s := rfl
@[simp] theorem bindF_ok {α : Type} (e : Sl) (a : α) (s : Sto) (f : α → Sto → Fl) : bindF e (.ok a s) f = f a s := rfl
@[simp] theorem ofO_some {α : Type} (a : α) (s : Sto) : ofO (some a) s = .ok a s := rfl
@[simp] theorem ofP_some {α : Type} (a : α) (s : Sto) : ofP (some (a, s)) = .ok a s := rfl
@[simp] theorem isTrue_bool (b : Bool) : isTrue? (Vl.d (.bool b)) = some b := rfl
@[simp] theorem optI_int (i : Int) : optI (.d (.int i)) = some i := rfl
@[simp] theorem ev_lit (d : PyData) : ev C (.lit d) e s = .ok (.d d) s := rfl
@[simp] theorem ev_glob (x : Str) (d : PyData) : ev C (.glob x d) e s = .ok (.d d) s := rfl
def varR (o : Option (Option Vl)) (s : Sto) : Rs Vl := match o with
  | some (some v) => .ok v s
  | _ => .no
@[simp] theorem varR_some (v : Vl) (s : Sto) : varR (some (some v)) s = .ok v s := rfl
@[simp] theorem ev_var (i : Nat) : ev C (.var i) e s = varR (e[i]?) s := by
  show (match e[i]? with
    | some (some v) => Rs.ok v s
    | _ => .no) = _
  unfold varR
  rfl
@[simp] theorem ev_bop (m : Bool) (o : BOp) (a b : IE) : ev C (.bop m o a b) e s = (ev C a e s).bind fun x s => (ev C b e s).bind fun y s => ofP (binV m o x y s) := rfl
def negR (x : Vl) (s : Sto) : Rs Vl := match x with
  | .d (.int i) => .ok (Vl.d (.int (-i))) s
  | _ => .no
@[simp] theorem negR_int (i : Int) (s : Sto) : negR (.d (.int i)) s = .ok (Vl.d (.int (-i))) s := rfl
@[simp] theorem ev_neg (a : IE) : ev C (.neg a) e s = (ev C a e s).bind negR := rfl
theorem evT_eq (a : IE) : evT C a e s = (ev C a e s).bind fun v s => ofO (isTrue? v) s := rfl
@[simp] theorem ev_not (a : IE) : ev C (.not a) e s = (evT C a e s).bind fun t s => .ok (Vl.d (.bool (!t))) s := by
  unfold evT
  show ((ev C a e s).bind fun x s => match isTrue? x with
    | some b => Rs.ok (Vl.d (.bool (!b))) s
    | none => .no) = _
  cases ev C a e s with
  | ok v s1 =>
    show (match isTrue? v with
      | some b => Rs.ok (Vl.d (.bool (!b))) s1
      | none => .no) = (ofO (isTrue? v) s1).bind _
    cases isTrue? v <;> rfl
  | ex _ _ _ => rfl
  | no => rfl
@[simp] theorem ev_cmp (o : COp) (a b : IE) : ev C (.cmp o a b) e s = (ev C a e s).bind fun x s => (ev C b e s).bind fun y s => ofO ((cmpV o x y s).map fun b => Vl.d (.bool b)) s := rfl
@[simp] theorem ev_chain (o p : COp) (a b c : IE) : ev C (.chain o p a b c) e s = (ev C a e s).bind fun x s => (ev C b e s).bind fun y s => (ofO (cmpV o x y s) s).bind fun t s => if t = true then (ev C c e s).bind fun z s => ofO ((cmpV p y z s).map fun b => Vl.d (.bool b)) s else .ok (Vl.d (.bool false)) s := by
  show ((ev C a e s).bind fun x s => (ev C b e s).bind fun y s => match cmpV o x y s with
    | some true => (ev C c e s).bind fun z s => ofO ((cmpV p y z s).map fun b => Vl.d (.bool b)) s
    | some false => .ok (Vl.d (.bool false)) s
    | none => .no) = _
  congr 1
  funext x s1
  congr 1
  funext y s2
  cases cmpV o x y s2 with
  | none => rfl
  | some t => cases t <;> rfl
@[simp] theorem ev_and (es : IE) : ev C (.and es) e s = ands C es e s := rfl
@[simp] theorem ev_or (es : IE) : ev C (.or es) e s = ors C es e s := rfl
@[simp] theorem ands_one (a : IE) : ands C (.cons a .nil) e s = ev C a e s := rfl
@[simp] theorem ors_one (a : IE) : ors C (.cons a .nil) e s = ev C a e s := rfl
/-- one of two runs, by a truth -/
def iteK {β : Type} (f g : Sl → Sto → β) (e : Sl) (t : Bool) (s : Sto) : β := if t = true then f e s else g e s
@[simp] theorem iteK_eq {β : Type} (f g : Sl → Sto → β) (e : Sl) (t : Bool) (s : Sto) : iteK f g e t s = if t = true then f e s else g e s := rfl
def litK (b : Bool) (_ : Sl) (s : Sto) : Rs Vl := .ok (Vl.d (.bool b)) s
@[simp] theorem litK_eq (b : Bool) (e : Sl) (s : Sto) : litK b e s = .ok (Vl.d (.bool b)) s := rfl
@[simp] theorem ands_two (a b r : IE) : ands C (.cons a (.cons b r)) e s = (evT C a e s).bind (iteK (ands C (.cons b r)) (litK false) e) := by
  unfold evT
  show ((ev C a e s).bind fun x s => match isTrue? x with
    | some true => ands C (.cons b r) e s
    | some false => Rs.ok (Vl.d (.bool false)) s
    | none => .no) = _
  cases ev C a e s with
  | ok v s1 =>
    show (match isTrue? v with
      | some true => ands C (.cons b r) e s1
      | some false => Rs.ok (Vl.d (.bool false)) s1
      | none => .no) = (ofO (isTrue? v) s1).bind _
    cases isTrue? v with
    | none => rfl
    | some t => cases t <;> rfl
  | ex _ _ _ => rfl
  | no => rfl
@[simp] theorem ors_two (a b r : IE) : ors C (.cons a (.cons b r)) e s = (evT C a e s).bind (iteK (litK true) (ors C (.cons b r)) e) := by
  unfold evT
  show ((ev C a e s).bind fun x s => match isTrue? x with
    | some false => ors C (.cons b r) e s
    | some true => Rs.ok (Vl.d (.bool true)) s
    | none => .no) = _
  cases ev C a e s with
  | ok v s1 =>
    show (match isTrue? v with
      | some false => ors C (.cons b r) e s1
      | some true => Rs.ok (Vl.d (.bool true)) s1
      | none => .no) = (ofO (isTrue? v) s1).bind _
    cases isTrue? v with
    | none => rfl
    | some t => cases t <;> rfl
  | ex _ _ _ => rfl
  | no => rfl
@[simp] theorem ev_ite (c a b : IE) : ev C (.ite c a b) e s = (evT C c e s).bind (iteK (ev C a) (ev C b) e) := by
  unfold evT
  show ((ev C c e s).bind fun x s => match isTrue? x with
    | some true => ev C a e s
    | some false => ev C b e s
    | none => .no) = _
  cases ev C c e s with
  | ok v s1 =>
    show (match isTrue? v with
      | some true => ev C a e s1
      | some false => ev C b e s1
      | none => .no) = (ofO (isTrue? v) s1).bind _
    cases isTrue? v with
    | none => rfl
    | some t => cases t <;> rfl
  | ex _ _ _ => rfl
  | no => rfl
@[simp] theorem ev_tup (es : IE) : ev C (.tup es) e s = (evs C es e s).bind fun vs s => if vs.length ≤ 16777216 then ofO ((allD vs).map fun ds => Vl.d (.tuple ds)) s else .no := rfl
@[simp] theorem ev_lst (m : Bool) (es : IE) : ev C (.lst m es) e s = (evs C es e s).bind fun vs s => ofP (mkL m vs s) := rfl
def repR (m : Bool) (vs : List Vl) (x : Vl) (s : Sto) : Rs Vl := match x with
  | .d (.int k) => if 0 ≤ k ∧ k ≤ 1000 then ofP (mkL m (List.replicate k.toNat vs).flatten s) else .no
  | _ => .no
@[simp] theorem repR_int (m : Bool) (vs : List Vl) (k : Int) (s : Sto) : repR m vs (.d (.int k)) s = if 0 ≤ k ∧ k ≤ 1000 then ofP (mkL m (List.replicate k.toNat vs).flatten s) else .no := rfl
@[simp] theorem ev_rep (m : Bool) (es k : IE) : ev C (.rep m es k) e s = (evs C es e s).bind fun vs s => if vs.length ≤ 1000 then (ev C k e s).bind (repR m vs) else .no := rfl
@[simp] theorem noex_ok {α : Type} (a : α) (s : Sto) : noex (.ok a s) = .ok a s := rfl
@[simp] theorem ev_dic (ks vs : IE) : ev C (.dic ks vs) e s = (evs C ks e s).bind fun a s => (noex (evs C vs e s)).bind fun b s => ofP (dicV a b s) := rfl
@[simp] theorem dicV_nil : dicV [] [] s = some (.d (.dict []), s) := rfl
@[simp] theorem dicV_one (k : Str) (v : PyData) : dicV [.d (.str k)] [.d v] s = some (.d (.dict [(.str k, v)]), s) := rfl
def callkR (C : Cal) (f : Nat) (us : List Vl) (n : Nat) (perm : List Nat) (vs : List Vl) (s : Sto) : Rs Vl := if vs.length = n then (match permL (us ++ vs) perm with
  | some ws => C f ws s
  | none => .no) else .no
theorem callkR_eq {C : Cal} {f n : Nat} {us vs ws : List Vl} {perm : List Nat} {s : Sto} (h : vs.length = n) (p : permL (us ++ vs) perm = some ws) : callkR C f us n perm vs s = C f ws s := by
  unfold callkR
  rw [if_pos h, p]
@[simp] theorem ev_callk (f : Nat) (es ks : IE) (nms : List Str) (perm : List Nat) : ev C (.callk f es ks nms perm) e s = (evs C es e s).bind fun us s => (evs C ks e s).bind (callkR C f us nms.length perm) := rfl
@[simp] theorem ev_idx (a i : IE) : ev C (.idx a i) e s = (ev C a e s).bind fun x s => (ev C i e s).bind fun y s => ofP (idxV x y s) := rfl
@[simp] theorem ev_sli (m : Bool) (a lo hi : IE) : ev C (.sli m a lo hi) e s = (ev C a e s).bind fun x s => (evo C lo e s).bind fun l s => (evo C hi e s).bind fun h s => ofP (sliV m x l h s) := rfl
@[simp] theorem ev_rev (m : Bool) (a : IE) : ev C (.rev m a) e s = (ev C a e s).bind fun x s => ofP (revV m x s) := rfl
@[simp] theorem ev_bi (m : Bool) (b : Bi) (es : IE) : ev C (.bi m b es) e s = (evs C es e s).bind fun vs s => ofP (biV m b vs s) := rfl
@[simp] theorem ev_isi (a : IE) (t : Ty) : ev C (.isi a t) e s = (ev C a e s).bind fun x s => ofO ((isT t x s).map fun b => Vl.d (.bool b)) s := rfl
@[simp] theorem ev_call (f : Nat) (es : IE) : ev C (.call f es) e s = (evs C es e s).bind fun vs s => C f vs s := rfl
@[simp] theorem ev_frz (a : IE) : ev C (.frz a) e s = (ev C a e s).bind fun x s => ofP (frzV x s) := rfl
@[simp] theorem evs_nil : evs C .nil e s = .ok [] s := rfl
@[simp] theorem evs_cons (a r : IE) : evs C (.cons a r) e s = (ev C a e s).bind fun x s => (evs C r e s).bind fun xs s => .ok (x :: xs) s := rfl
@[simp] theorem evo_nil : evo C .nil e s = .ok none s := rfl
@[simp] theorem evo_cons (a r : IE) : evo C (.cons a r) e s = (ev C a e s).bind fun x s => ofO ((optI x).map some) s := rfl
@[simp] theorem tst_nil : tst C .nil e s = .ok true s := rfl
@[simp] theorem tst_cons (a r : IE) : tst C (.cons a r) e s = evT C a e s := rfl
/-! ### statements -/
@[simp] theorem exS_nil : exS C fu .nil e s = .nx e s := rfl
def thenF (f : Fl) (g : Sl → Sto → Fl) : Fl := match f with
  | .nx e s => g e s
  | f => f
@[simp] theorem thenF_nx (e : Sl) (s : Sto) (g : Sl → Sto → Fl) : thenF (.nx e s) g = g e s := rfl
@[simp] theorem thenF_rt (v : Vl) (s : Sto) (g : Sl → Sto → Fl) : thenF (.rt v s) g = .rt v s := rfl
@[simp] theorem thenF_ct (e : Sl) (s : Sto) (g : Sl → Sto → Fl) : thenF (.ct e s) g = .ct e s := rfl
@[simp] theorem thenF_bk (e : Sl) (s : Sto) (g : Sl → Sto → Fl) : thenF (.bk e s) g = .bk e s := rfl
@[simp] theorem exS_cons (a r : IS) : exS C fu (.cons a r) e s = thenF (exS C fu a e s) (exS C fu r) := by
  show (match exS C fu a e s with
    | .nx e s => exS C fu r e s
    | f => f) = _
  cases exS C fu a e s <;> rfl
@[simp] theorem exS_ret' (a : IE) : exS C fu (.ret a) e s = bindF e (ev C a e s) fun v s => .rt v s := exS_ret fu
@[simp] theorem exS_expr' (a : IE) : exS C fu (.expr a) e s = bindF e (ev C a e s) fun _ s => .nx e s := exS_expr fu
@[simp] theorem exS_pass : exS C fu .pass e s = .nx e s := rfl
@[simp] theorem exS_ite (c : IE) (a b : IS) : exS C fu (.ite c a b) e s = bindF e (evT C c e s) (iteK (exS C fu a) (exS C fu b) e) := by
  unfold evT
  show (match ev C c e s with
    | .ok v s => (match isTrue? v with
      | some true => exS C fu a e s
      | some false => exS C fu b e s
      | none => .no)
    | .ex c v s => .ex c v e s
    | .no => .no) = _
  cases ev C c e s with
  | ok v s1 =>
    show (match isTrue? v with
      | some true => exS C fu a e s1
      | some false => exS C fu b e s1
      | none => .no) = bindF e (ofO (isTrue? v) s1) _
    cases isTrue? v with
    | none => rfl
    | some t => cases t <;> rfl
  | ex _ _ _ => rfl
  | no => rfl
@[simp] theorem exS_asgv (i : Nat) (a : IE) : exS C fu (.asg (.var i) a) e s = bindF e (ev C a e s) fun v s => .nx (e.set i (some v)) s := by
  show liftR e ((ev C a e s).bind fun v s => ofO (some (e.set i (some v))) s) = _
  rw [liftR_bind]
  rfl
@[simp] theorem exS_par (i j : Nat) (a b : IE) : exS C fu (.par (.var i) (.var j) a b) e s = bindF e (ev C a e s) fun v s => bindF e (ev C b e s) fun w s => .nx ((e.set i (some v)).set j (some w)) s := by
  show liftR e ((ev C a e s).bind fun v s => (ev C b e s).bind fun w s => .ok ((e.set i (some v)).set j (some w)) s) = _
  rw [liftR_bind]
  congr 1
  funext v s1
  rw [liftR_bind]
  rfl
theorem eqD_int (i j : Int) : eqD (.int i) (.int j) = some (decide (i = j)) := by
  show some (i == j) = _
  rw [Bool.beq_eq_decide_eq]
theorem eqD_bool (i j : Bool) : eqD (.bool i) (.bool j) = some (i == j) := rfl
theorem bools_map {α : Type} (f : α → Bool) : ∀ l : List α, bools? (l.map fun x => PyData.bool (f x)) = some (l.map f)
  | [] => rfl
  | a :: r => by simp [bools?, bools_map f r]
theorem ints_map {α : Type} (f : α → Int) : ∀ l : List α, ints? (l.map fun x => PyData.int (f x)) = some (l.map f)
  | [] => rfl
  | a :: r => by simp [ints?, ints_map f r]
theorem allV_map {α : Type} (f : α → Bool) (l : List α) : allV [.d (.list (l.map fun x => PyData.bool (f x)))] s = some (Vl.d (.bool (l.all f)), s) := by
  have h : dataL (.d (.list (l.map fun x => PyData.bool (f x)))) s = some (l.map fun x => PyData.bool (f x)) := allD_map _
  show ((dataL (.d (.list (l.map fun x => PyData.bool (f x)))) s).bind bools?).map _ = _
  rw [h]
  show (bools? (l.map fun x => PyData.bool (f x))).map _ = _
  rw [bools_map]
  show some (Vl.d (.bool ((l.map f).all id)), s) = _
  rw [List.all_map]
  rfl
theorem cm_map {turn : Vl → Sto → Rs (Option Vl)} {f : PyData → PyData} : ∀ {ds : List PyData}, (∀ x ∈ ds, turn (.d x) s = .ok (some (.d (f x))) s) → cmL turn ds s = .ok (ds.map fun x => Vl.d (f x)) s
  | [], _ => rfl
  | a :: r, h => by
    show (turn (.d a) s).bind _ = _
    rw [h a List.mem_cons_self]
    show (cmL turn r s).bind _ = _
    rw [cm_map (ds := r) fun x hx => h x (List.mem_cons_of_mem _ hx)]
    rfl
/-- [elt for tg in it], pure, over data -/
theorem comp_map {elt tg it : IE} {own : List Nat} {ds : List PyData} (f : PyData → PyData) (hi : itr C it e s = .ok (.vals ds) s) (hl : ds.length ≤ 16777216)
    (ht : ∀ x ∈ ds, ∃ e1, setTgV tg (.d x) (wipe e own) = some e1 ∧ ev C elt e1 s = .ok (.d (f x)) s) : ev C (.comp false elt tg it .nil own) e s = .ok (.d (.list (ds.map f))) s := by
  show ((itr C it e s).bind fun I s => (noex (cmI (turnF C elt tg .nil (wipe e own)) I s)).bind fun vs s => ofP (mkL false vs s)) = _
  rw [hi]
  show ((noex (cmL (turnF C elt tg .nil (wipe e own)) ds s)).bind fun vs s => ofP (mkL false vs s)) = _
  rw [cm_map (f := f) fun x hx => ?_]
  · show ofP (mkL false (ds.map fun x => Vl.d (f x)) s) = _
    unfold mkL
    rw [if_pos (by simpa using hl)]
    have : allD (ds.map fun x => Vl.d (f x)) = some (ds.map f) := by
      have := allD_map (ds.map f)
      rwa [List.map_map] at this
    rw [if_neg (by decide), this]
    rfl
  · obtain ⟨e1, h1, h2⟩ := ht x hx
    unfold turnF
    rw [h1]
    show (Rs.ok true s).bind _ = _
    show (ev C elt e1 s).bind _ = _
    rw [h2]
    rfl
theorem atI_nat {α : Type} {vs : List α} {i : Nat} (h : i < vs.length) : L2.atI vs (i : Int) = some vs[i] := by
  unfold L2.atI L2.ixN
  rw [if_pos (by omega), if_pos (by omega)]
  show vs[((i : Int)).toNat]? = _
  rw [Int.toNat_natCast, List.getElem?_eq_getElem h]
theorem idx_tup {xs : List PyData} {i : Nat} (h : i < xs.length) : idxV (.d (.tuple xs)) (.d (.int i)) s = some (.d xs[i], s) := by
  show (L2.atI (xs.map Vl.d) (i : Int)).map (·, s) = _
  rw [atI_nat (by simpa using h)]
  simp
theorem idx_lst {xs : List PyData} {i : Nat} (h : i < xs.length) : idxV (.d (.list xs)) (.d (.int i)) s = some (.d xs[i], s) := by
  show (L2.atI (xs.map Vl.d) (i : Int)).map (·, s) = _
  rw [atI_nat (by simpa using h)]
  simp
theorem idx0 (x : PyData) (xs : List PyData) : idxV (.d (.tuple (x :: xs))) (.d (.int 0)) s = some (.d x, s) := idx_tup (xs := x :: xs) (i := 0) (by simp)
theorem idx1 (x y : PyData) (xs : List PyData) : idxV (.d (.tuple (x :: y :: xs))) (.d (.int 1)) s = some (.d y, s) := idx_tup (xs := x :: y :: xs) (i := 1) (by simp)
/-! ### for over data, with an early end -/
theorem goL_all {turn : Vl → Sl → Sto → Fl} (Inv : Sl → Prop) (P : PyData → Bool) : ∀ (ds : List PyData) (_ : ∀ x ∈ ds, ∀ e, Inv e → if P x = true then ∃ e', turn (.d x) e s = .nx e' s ∧ Inv e' else turn (.d x) e s = .rt (.d (.bool false)) s) (e : Sl), Inv e →
    if ds.all P = true then ∃ e', goL turn ds e s = .nx e' s ∧ Inv e' else goL turn ds e s = .rt (.d (.bool false)) s
  | [], _, e, i => by
    rw [if_pos (by rfl)]
    exact ⟨e, rfl, i⟩
  | x :: r, h, e, i => by
    have hx := h x List.mem_cons_self e i
    cases q : P x with
    | false =>
      rw [q, if_neg (by decide)] at hx
      rw [List.all_cons, q, Bool.false_and, if_neg (by decide)]
      show (match turn (.d x) e s with
        | .nx e s => goL turn r e s
        | .ct e s => goL turn r e s
        | .bk e s => .nx e s
        | .rt v s => .rt v s
        | .ex c v e s => .ex c v e s
        | .no => .no) = _
      rw [hx]
    | true =>
      rw [q, if_pos rfl] at hx
      obtain ⟨e', h1, i'⟩ := hx
      have ih := goL_all Inv P r (fun y hy => h y (List.mem_cons_of_mem _ hy)) e' i'
      have step : goL turn (x :: r) e s = goL turn r e' s := by
        show (match turn (.d x) e s with
          | .nx e s => goL turn r e s
          | .ct e s => goL turn r e s
          | .bk e s => .nx e s
          | .rt v s => .rt v s
          | .ex c v e s => .ex c v e s
          | .no => .no) = _
        rw [h1]
      rw [List.all_cons, q, Bool.true_and, step]
      exact ih
theorem exS_for_vals {tg it : IE} {body : IS} {ds : List PyData} {s' : Sto} (h : itr C it e s = .ok (.vals ds) s') : exS C fu (.forr tg it body) e s = goL (turnS C fu tg body) ds e s' := by
  rw [exS_for, h]
  rfl
theorem binV_int (m : Bool) (o : BOp) (i j : Int) : binV m o (.d (.int i)) (.d (.int j)) s = (binI o i j).map fun k => (.d (.int k), s) := by cases o <;> rfl
theorem cmp_ne_int (i j : Int) : cmpV .ne (.d (.int i)) (.d (.int j)) s = some (!decide (i = j)) := by
  show (eqD (.int i) (.int j)).map (!·) = _
  rw [eqD_int]
  rfl
theorem cmp_eq_int (i j : Int) : cmpV .eq (.d (.int i)) (.d (.int j)) s = some (decide (i = j)) := eqD_int i j
def tgF (o : Option Sl) (s : Sto) : Fl := match o with
  | some e => .nx e s
  | none => .no
@[simp] theorem tgF_some (e : Sl) (s : Sto) : tgF (some e) s = .nx e s := rfl
@[simp] theorem exS_asgt (ts a : IE) : exS C fu (.asg (.tup ts) a) e s = bindF e (ev C a e s) fun v s => tgF (setTgV (.tup ts) v e) s := by
  show liftR e ((ev C a e s).bind fun v s => ofO (setTgV (.tup ts) v e) s) = _
  rw [liftR_bind]
  congr 1
  funext v s1
  cases setTgV (.tup ts) v e <;> rfl
theorem cmp_lt_int (i j : Int) : cmpV .lt (.d (.int i)) (.d (.int j)) s = some (decide (i < j)) := rfl
theorem cmp_le_int (i j : Int) : cmpV .le (.d (.int i)) (.d (.int j)) s = some (decide (i ≤ j)) := rfl
theorem cmp_ge_int (i j : Int) : cmpV .ge (.d (.int i)) (.d (.int j)) s = some (decide (j ≤ i)) := rfl
theorem cmp_gt_int (i j : Int) : cmpV .gt (.d (.int i)) (.d (.int j)) s = some (decide (j < i)) := rfl
end SM

set_option maxHeartbeats 1000000
/-! SM: what is true behind a run (weakest preconditions). -/
namespace SM
open PySem
abbrev XP : Type := Nat → Vl → Sto → Prop
abbrev nX : XP := fun _ _ _ => False
/-- the run ends well with Q, or raises with X -/
def Ok {α : Type} (r : Rs α) (Q : α → Sto → Prop) (X : XP) : Prop := match r with
  | .ok a s => Q a s
  | .ex c v s => X c v s
  | .no => False
structure Pt where
  n : Sl → Sto → Prop
  r : Vl → Sto → Prop
  b : Sl → Sto → Prop
  c : Sl → Sto → Prop
  x : Nat → Vl → Sl → Sto → Prop
def Sw (f : Fl) (P : Pt) : Prop := match f with
  | .nx e s => P.n e s
  | .rt v s => P.r v s
  | .bk e s => P.b e s
  | .ct e s => P.c e s
  | .ex c v e s => P.x c v e s
  | .no => False
section
variable {α β : Type} {C : Cal} {fu k : Nat} {e : Sl} {s : Sto} {Q Q' : α → Sto → Prop} {X X' : XP} {P P' : Pt}
@[simp] theorem Ok_ok (a : α) (s : Sto) : Ok (.ok a s) Q X = Q a s := rfl
@[simp] theorem Ok_bind (r : Rs β) (f : β → Sto → Rs α) : Ok (r.bind f) Q X = Ok r (fun a s => Ok (f a s) Q X) X := by cases r <;> rfl
@[simp] theorem Ok_ite (c : Prop) [Decidable c] (a b : Rs α) : Ok (if c then a else b) Q X = if c then Ok a Q X else Ok b Q X := by split <;> rfl
theorem Ok.mono {r : Rs α} (h : Ok r Q X) (f : ∀ a s, Q a s → Q' a s) (g : ∀ c v s, X c v s → X' c v s) : Ok r Q' X' := by
  cases r with
  | ok a s => exact f a s h
  | ex c v s => exact g c v s h
  | no => exact h
theorem Ok.imp {r : Rs α} (h : Ok r Q nX) (f : ∀ a s, Q a s → Q' a s) : Ok r Q' X := h.mono f fun _ _ _ z => z.elim
theorem Ok.and {r : Rs α} {Q1 Q2 : α → Sto → Prop} (h : Ok r Q1 X) (g : Ok r Q2 X) : Ok r (fun a s => Q1 a s ∧ Q2 a s) X := by
  cases r with
  | ok a s => exact ⟨h, g⟩
  | ex c v s => exact h
  | no => exact h
theorem Ok.eq {r : Rs α} {a : α} (h : r = .ok a s) (q : Q a s) : Ok r Q X := by rw [h]; exact q
theorem Ok.ex {r : Rs α} (h : Ok r Q nX) : ∃ a s, r = .ok a s ∧ Q a s := by
  cases r with
  | ok a s => exact ⟨a, s, rfl, h⟩
  | ex c v s => exact h.elim
  | no => exact h.elim
theorem Ok_one {r : Rs α} {a : α} (h : Ok r (fun b t => b = a ∧ t = s) nX) : r = .ok a s := by
  obtain ⟨b, t, h1, h2, h3⟩ := h.ex
  rw [h1, h2, h3]
theorem Sw.mono {f : Fl} (h : Sw f P) (n : ∀ e s, P.n e s → P'.n e s) (r : ∀ v s, P.r v s → P'.r v s) (b : ∀ e s, P.b e s → P'.b e s) (c : ∀ e s, P.c e s → P'.c e s) (x : ∀ c v e s, P.x c v e s → P'.x c v e s) : Sw f P' := by
  cases f with
  | nx e s => exact n e s h
  | rt v s => exact r v s h
  | bk e s => exact b e s h
  | ct e s => exact c e s h
  | ex d v e s => exact x d v e s h
  | no => exact h
@[simp] theorem Sw_nx (e : Sl) (s : Sto) : Sw (.nx e s) P = P.n e s := rfl
@[simp] theorem Sw_rt (v : Vl) (s : Sto) : Sw (.rt v s) P = P.r v s := rfl
@[simp] theorem Sw_bk (e : Sl) (s : Sto) : Sw (.bk e s) P = P.b e s := rfl
@[simp] theorem Sw_ct (e : Sl) (s : Sto) : Sw (.ct e s) P = P.c e s := rfl
@[simp] theorem Sw_no : Sw .no P = False := rfl
def nxt (g : Sl → Sto → Fl) (P : Pt) (e : Sl) (s : Sto) : Prop := Sw (g e s) P
@[simp] theorem nxt_eq (g : Sl → Sto → Fl) (P : Pt) (e : Sl) (s : Sto) : nxt g P e s = Sw (g e s) P := rfl
@[simp] theorem Sw_thenF (f : Fl) (g : Sl → Sto → Fl) : Sw (thenF f g) P = Sw f ⟨nxt g P, P.r, P.b, P.c, P.x⟩ := by cases f <;> rfl
@[simp] theorem Sw_bindF (r : Rs β) (f : β → Sto → Fl) : Sw (bindF e r f) P = Ok r (fun a s => Sw (f a s) P) (fun c v s => P.x c v e s) := by cases r <;> rfl
@[simp] theorem Sw_ite (c : Prop) [Decidable c] (a b : Fl) : Sw (if c then a else b) P = if c then Sw a P else Sw b P := by split <;> rfl
theorem Sw_tgF (o : Option Sl) : Sw (tgF o s) P = ∃ e, o = some e ∧ P.n e s := by
  cases o with
  | none => exact propext ⟨False.elim, fun ⟨_, h, _⟩ => by cases h⟩
  | some e => exact propext ⟨fun h => ⟨e, rfl, h⟩, fun ⟨e', h, g⟩ => by cases h; exact g⟩
theorem Sw_cut {a r : IS} (J : Sl → Sto → Prop) (h1 : Sw (exS C fu a e s) ⟨J, P.r, P.b, P.c, P.x⟩) (h2 : ∀ e s, J e s → Sw (exS C fu r e s) P) : Sw (exS C fu (.cons a r) e s) P := by
  rw [exS_cons, Sw_thenF]
  exact h1.mono (fun e s j => h2 e s j) (fun _ _ q => q) (fun _ _ q => q) (fun _ _ q => q) fun _ _ _ _ q => q
/-! ### more statements -/
@[simp] theorem exS_brk : exS C fu .brk e s = .bk e s := rfl
@[simp] theorem exS_cont : exS C fu .cont e s = .ct e s := rfl
@[simp] theorem exS_ptup (ts es : IE) : exS C fu (.ptup ts es) e s = bindF e (evs C es e s) fun vs s => if vs.length = ieLen ts ∧ vs.length ≤ 16777216 then asgs C ts vs e s else .no := by
  show (match evs C es e s with
    | .ok vs s => if vs.length = ieLen ts ∧ vs.length ≤ 16777216 then asgs C ts vs e s else .no
    | .ex c v s => .ex c v e s
    | .no => .no) = _
  cases evs C es e s <;> rfl
@[simp] theorem ieLen_cons (a r : IE) : ieLen (.cons a r) = ieLen r + 1 := rfl
@[simp] theorem ieLen_nil : ieLen .nil = 0 := rfl
@[simp] theorem asgs_nil : asgs C .nil [] e s = .nx e s := rfl
@[simp] theorem asgs_var (i : Nat) (r : IE) (v : Vl) (vs : List Vl) : asgs C (.cons (.var i) r) (v :: vs) e s = asgs C r vs (e.set i (some v)) s := rfl
def asgK (C : Cal) (r : IE) (vs : List Vl) (e : Sl) (o : Option Sto) : Fl := match o with
  | some s => asgs C r vs e s
  | none => .no
@[simp] theorem asgK_some (r : IE) (vs : List Vl) : asgK C r vs e (some s) = asgs C r vs e s := rfl
@[simp] theorem asgs_idx (a i r : IE) (v : Vl) (vs : List Vl) : asgs C (.cons (.idx a i) r) (v :: vs) e s = bindF e (ev C a e s) fun o s => bindF e (ev C i e s) fun k s => asgK C r vs e (setV o k v s) := by
  show (match (ev C a e s).bind fun o s => (ev C i e s).bind fun k s => match setV o k v s with
      | some s => .ok e s
      | none => .no with
    | .ok e' s' => asgs C r vs e' s'
    | .ex c v s => .ex c v e s
    | .no => .no) = _
  cases ev C a e s with
  | ok o s1 =>
    show (match (ev C i e s1).bind fun k s => match setV o k v s with
        | some s => .ok e s
        | none => .no with
      | .ok e' s' => asgs C r vs e' s'
      | .ex c v s => .ex c v e s
      | .no => .no) = bindF e (ev C i e s1) fun k s => asgK C r vs e (setV o k v s)
    cases ev C i e s1 with
    | ok k s2 =>
      show (match (match setV o k v s2 with
          | some s => Rs.ok e s
          | none => .no) with
        | .ok e' s' => asgs C r vs e' s'
        | .ex c v s => .ex c v e s
        | .no => .no) = asgK C r vs e (setV o k v s2)
      cases setV o k v s2 <;> rfl
    | ex d w s2 => rfl
    | no => rfl
  | ex d w s1 => rfl
  | no => rfl
@[simp] theorem exS_par3 (i j l : Nat) (a b c : IE) : exS C fu (.par3 i j l a b c) e s = bindF e (ev C a e s) fun v s => bindF e (ev C b e s) fun w s => bindF e (ev C c e s) fun x s => .nx (((e.set i (some v)).set j (some w)).set l (some x)) s := by
  show liftR e ((ev C a e s).bind fun v s => (ev C b e s).bind fun w s => (ev C c e s).bind fun x s => .ok (((e.set i (some v)).set j (some w)).set l (some x)) s) = _
  rw [liftR_bind]
  congr 1
  funext v s1
  rw [liftR_bind]
  congr 1
  funext w s2
  rw [liftR_bind]
  rfl
def setF (o : Option Sto) (e : Sl) : Fl := match o with
  | some s => .nx e s
  | none => .no
@[simp] theorem setF_some (s : Sto) (e : Sl) : setF (some s) e = .nx e s := rfl
@[simp] theorem exS_asgi (a i v : IE) : exS C fu (.asg (.idx a i) v) e s = bindF e (ev C v e s) fun v s => bindF e (ev C a e s) fun o s => bindF e (ev C i e s) fun k s => setF (setV o k v s) e := by
  show liftR e ((ev C v e s).bind fun v s => (ev C a e s).bind fun o s => (ev C i e s).bind fun k s => match setV o k v s with
    | some s => .ok e s
    | none => .no) = _
  rw [liftR_bind]
  congr 1
  funext v s1
  rw [liftR_bind]
  congr 1
  funext o s2
  rw [liftR_bind]
  congr 1
  funext k s3
  cases setV o k v s3 <;> rfl
def augF (o : BOp) (x y : Vl) (e : Sl) (i : Nat) (s : Sto) : Fl := match x, y with
  | .d (.int x), .d (.int y) => (match binI o x y with
    | some z => .nx (e.set i (some (.d (.int z)))) s
    | none => .no)
  | _, _ => .no
theorem exS_aug' (i : Nat) (o : BOp) (a : IE) {x : Int} (h : e[i]? = some (some (.d (.int x)))) : exS C fu (.aug i o a) e s = bindF e (ev C a e s) fun y s => augF o (.d (.int x)) y e i s := by
  show (match e[i]? with
    | some (some (.d (.int x))) => liftR e ((ev C a e s).bind fun y s => match y with
      | .d (.int y) => ofO ((binI o x y).map fun z => e.set i (some (.d (.int z)))) s
      | _ => .no)
    | _ => .no) = _
  rw [h]
  show liftR e _ = _
  rw [liftR_bind]
  congr 1
  funext y s1
  cases y with
  | r n => rfl
  | d y =>
    cases y <;> try rfl
    rename_i y
    show liftR e (ofO ((binI o x y).map fun z => e.set i (some (.d (.int z)))) s1) = (match binI o x y with
      | some z => Fl.nx (e.set i (some (.d (.int z)))) s1
      | none => .no)
    cases binI o x y <;> rfl
theorem Ok_ofO (o : Option α) (s : Sto) : Ok (ofO o s) Q X = ∃ a, o = some a ∧ Q a s := by
  cases o with
  | none => exact propext ⟨False.elim, fun ⟨_, h, _⟩ => by cases h⟩
  | some e => exact propext ⟨fun h => ⟨e, rfl, h⟩, fun ⟨e', h, g⟩ => by cases h; exact g⟩
theorem Ok_ofP (o : Po α) : Ok (ofP o) Q X = ∃ a s, o = some (a, s) ∧ Q a s := by
  cases o with
  | none => exact propext ⟨False.elim, fun ⟨_, _, h, _⟩ => by cases h⟩
  | some e => obtain ⟨a, s⟩ := e; exact propext ⟨fun h => ⟨a, s, rfl, h⟩, fun ⟨a', s', h, g⟩ => by cases h; exact g⟩
/-! ### calls -/
def Lv (s₀ : Sto) (v : Vl) (s : Sto) (Q : Vl → Sto → Prop) : Prop := ∀ s', (s' = s ∨ (Cut s₀ v s ∧ s' = s.take s₀.length)) → (Cut s₀ v s → s' = s.take s₀.length) → Q v s'
theorem Ok_leave {s₀ : Sto} {f : Fl} {Q : Vl → Sto → Prop} (h : Sw f ⟨fun _ s => Lv s₀ (.d .none) s Q, fun v s => Lv s₀ v s Q, fun _ _ => False, fun _ _ => False, fun c v _ s => X c v s⟩) : Ok (leave s₀ f) Q X := by
  cases f with
  | nx e s =>
    simp only [leave]
    split
    · rename_i c
      exact h _ (.inr ⟨c, rfl⟩) fun _ => rfl
    · rename_i c
      exact h _ (.inl rfl) fun z => absurd z c
  | rt v s =>
    simp only [leave]
    split
    · rename_i c
      exact h _ (.inr ⟨c, rfl⟩) fun _ => rfl
    · rename_i c
      exact h _ (.inl rfl) fun z => absurd z c
  | bk e s => exact h.elim
  | ct e s => exact h.elim
  | ex c v e s => exact h
  | no => exact h
theorem Ok_call {T : List Df} {f : Nat} {F : Df} {vs : List Vl} {Q : Vl → Sto → Prop} (hF : T[f]? = some F) (hl : vs.length = F.np)
    (h : Sw (exS (callI T fu k) fu F.body (vs.map some ++ List.replicate (F.ns - F.np) none) s) ⟨fun _ t => Lv s (.d .none) t Q, fun v t => Lv s v t Q, fun _ _ => False, fun _ _ => False, fun c v _ s => X c v s⟩) : Ok (callI T fu (k + 1) f vs s) Q X := by
  have e : callI T fu (k + 1) f vs s = leave s (exS (callI T fu k) fu F.body (vs.map some ++ List.replicate (F.ns - F.np) none) s) := by
    show (match T[f]? with
      | some F => if vs.length = F.np then leave s (exS (callI T fu k) fu F.body (vs.map some ++ List.replicate (F.ns - F.np) none) s) else .no
      | none => .no) = _
    rw [hF]
    exact if_pos hl
  rw [e]
  exact Ok_leave h
/-- nothing was made -/
theorem Lv_len {s₀ : Sto} {v : Vl} {Q : Vl → Sto → Prop} (hl : s.length = s₀.length) (q : Q v s) : Lv s₀ v s Q := by
  rintro s' (rfl | ⟨_, rfl⟩) _
  · exact q
  · rw [← hl, List.take_length]; exact q
/-- what was made is forgotten: the value is data, and the places that stood hold what they held or data -/
theorem Lv_cut {s₀ t : Sto} {x : PyData} {Q : Vl → Sto → Prop} (hl : s.length = s₀.length) (hs : ∀ i, i < s₀.length → s[i]? = s₀[i]? ∨ ∀ o, s[i]? = some o → ltO s₀.length o) (q : Q (.d x) s) : Lv s₀ (.d x) (s ++ t) Q := by
  have c : Cut s₀ (.d x) (s ++ t) := ⟨trivial, fun i hi => by
    rw [List.getElem?_append_left (by omega)]
    exact hs i hi⟩
  intro s' _ h
  rw [h c, ← hl, List.take_left]
  exact q
theorem Lv_app {t : Sto} {x : PyData} {Q : Vl → Sto → Prop} (q : Q (.d x) s) : Lv s (.d x) (s ++ t) Q := Lv_cut rfl (fun _ _ => .inl rfl) q
/-- a new list is told -/
theorem Lv_new {s₀ : Sto} {n : Nat} {Q : Vl → Sto → Prop} (hn : s₀.length ≤ n) (q : Q (.r n) s) : Lv s₀ (.r n) s Q := by
  have nc : ¬ Cut s₀ (.r n) s := fun c => by have : n < s₀.length := c.1; omega
  rintro s' (rfl | ⟨c, _⟩) _
  · exact q
  · exact absurd c nc
/-! ### loops -/
@[simp] theorem goI_vals (t : Vl → Sl → Sto → Fl) (xs : List PyData) : goI t (.vals xs) e s = goL t xs e s := rfl
@[simp] theorem exS_for' (tg it : IE) (body : IS) : exS C fu (.forr tg it body) e s = bindF e (itr C it e s) fun I s => goI (turnS C fu tg body) I e s := exS_for
@[simp] theorem itr_itv (a : IE) : itr C (.itv a) e s = (ev C a e s).bind fun x s => ofO (itrV x s) s := rfl
@[simp] theorem itr_rng1 (a : IE) : itr C (.rng1 a) e s = (ev C a e s).bind fun x s => ofO ((optI x).bind (rngV 0)) s := rfl
@[simp] theorem itr_rng2 (a b : IE) : itr C (.rng2 a b) e s = (ev C a e s).bind fun x s => (ev C b e s).bind fun y s => ofO ((optI x).bind fun i => (optI y).bind (rngV i)) s := rfl
@[simp] theorem itr_zip (a b : IE) : itr C (.zip a b) e s = (ev C a e s).bind fun x s => (ev C b e s).bind fun y s => ofO (zipV x y) s := rfl
@[simp] theorem itr_enum (a : IE) : itr C (.enum a) e s = (ev C a e s).bind fun x s => ofO (enumV x) s := rfl
theorem Sw_step (t : Vl → Sl → Sto → Fl) (x : PyData) (xs : List PyData) : Sw (goL t (x :: xs) e s) P = Sw (t (.d x) e s) ⟨fun e s => Sw (goL t xs e s) P, P.r, P.n, fun e s => Sw (goL t xs e s) P, P.x⟩ := by
  show Sw (match t (.d x) e s with
    | .nx e s => goL t xs e s
    | .ct e s => goL t xs e s
    | .bk e s => .nx e s
    | .rt v s => .rt v s
    | .ex c v e s => .ex c v e s
    | .no => .no) P = _
  cases t (.d x) e s <;> rfl
theorem Sw_goL {t : Vl → Sl → Sto → Fl} (I : List PyData → Sl → Sto → Prop) (step : ∀ x r e s, I (x :: r) e s → Sw (t (.d x) e s) ⟨I r, P.r, P.n, I r, P.x⟩) (last : ∀ e s, I [] e s → P.n e s) : ∀ {xs : List PyData} {e : Sl} {s : Sto}, I xs e s → Sw (goL t xs e s) P
  | [], e, s, h => last e s h
  | x :: r, e, s, h => by
    rw [Sw_step]
    exact (step x r e s h).mono (fun e s q => Sw_goL I step last q) (fun _ _ q => q) (fun _ _ q => q) (fun e s q => Sw_goL I step last q) fun _ _ _ _ q => q
/-- the same, over a list of other things -/
theorem Sw_goM {t : Vl → Sl → Sto → Fl} (f : α → PyData) (I : List α → Sl → Sto → Prop) (step : ∀ x r e s, I (x :: r) e s → Sw (t (.d (f x)) e s) ⟨I r, P.r, P.n, I r, P.x⟩) (last : ∀ e s, I [] e s → P.n e s) : ∀ {xs : List α} {e : Sl} {s : Sto}, I xs e s → Sw (goL t (xs.map f) e s) P
  | [], e, s, h => last e s h
  | x :: r, e, s, h => by
    rw [List.map_cons, Sw_step]
    exact (step x r e s h).mono (fun e s q => Sw_goM f I step last q) (fun _ _ q => q) (fun _ _ q => q) (fun e s q => Sw_goM f I step last q) fun _ _ _ _ q => q
theorem turnS_var (i : Nat) (body : IS) (v : Vl) : turnS C fu (.var i) body v e s = exS C fu body (e.set i (some v)) s := rfl
theorem turnS_of {tg : IE} {body : IS} {v : Vl} {e1 : Sl} (h : setTgV tg v e = some e1) : turnS C fu tg body v e s = exS C fu body e1 s := by unfold turnS; rw [h]
@[simp] theorem exS_whil (c : IE) (b : IS) : exS C fu (.whil c b) e s = whL (ev C c) (exS C fu b) fu e s := rfl
theorem Sw_whL {c : IE} {b : IS} (I : Nat → Sl → Sto → Prop) (step : ∀ m e s, I m e s → Ok (evT C c e s) (fun t s => if t = true then Sw (exS C fu b e s) ⟨fun e s => ∃ l, l < m ∧ I l e s, P.r, P.n, fun e s => ∃ l, l < m ∧ I l e s, P.x⟩ else P.n e s) (fun d v s => P.x d v e s)) :
    ∀ (n m : Nat) {e : Sl} {s : Sto}, m < n → I m e s → Sw (whL (ev C c) (exS C fu b) n e s) P
  | 0, m, e, s, h, _ => absurd h (Nat.not_lt_zero _)
  | n + 1, m, e, s, h, i => by
    have st := step m e s i
    unfold evT at st
    show Sw (match ev C c e s with
      | .ok v s => (match isTrue? v with
        | some true => (match exS C fu b e s with
          | .nx e s => whL (ev C c) (exS C fu b) n e s
          | .ct e s => whL (ev C c) (exS C fu b) n e s
          | .bk e s => .nx e s
          | .rt v s => .rt v s
          | .ex c v e s => .ex c v e s
          | .no => .no)
        | some false => .nx e s
        | none => .no)
      | .ex c v s => .ex c v e s
      | .no => .no) P
    cases q : ev C c e s with
    | no => rw [q] at st; exact st
    | ex d v s1 => rw [q] at st; exact st
    | ok v s1 =>
      rw [q] at st
      have st : Ok (ofO (isTrue? v) s1) (fun t s => if t = true then Sw (exS C fu b e s) ⟨fun e s => ∃ l, l < m ∧ I l e s, P.r, P.n, fun e s => ∃ l, l < m ∧ I l e s, P.x⟩ else P.n e s) (fun d v s => P.x d v e s) := st
      simp only
      cases q2 : isTrue? v with
      | none => rw [q2] at st; exact st
      | some t =>
        rw [q2] at st
        cases t with
        | false => exact st
        | true =>
          have st : Sw (exS C fu b e s1) ⟨fun e s => ∃ l, l < m ∧ I l e s, P.r, P.n, fun e s => ∃ l, l < m ∧ I l e s, P.x⟩ := st
          simp only
          cases q3 : exS C fu b e s1 with
          | nx e2 s2 => rw [q3] at st; obtain ⟨l, hl, i2⟩ := st; exact Sw_whL I step n l (by omega) i2
          | ct e2 s2 => rw [q3] at st; obtain ⟨l, hl, i2⟩ := st; exact Sw_whL I step n l (by omega) i2
          | bk e2 s2 => rw [q3] at st; exact st
          | rt v2 s2 => rw [q3] at st; exact st
          | ex d v2 e2 s2 => rw [q3] at st; exact st
          | no => rw [q3] at st; exact st
/-! ### comprehensions -/
theorem evs_map {turn : Vl → Sto → Rs (Option Vl)} {X : XP} (I : Nat → Sto → Prop) (R : PyData → Prop) : ∀ {ds : List PyData} {n : Nat} {s : Sto}, I n s → (∀ x ∈ ds, ∀ n s, I n s → Ok (turn (.d x) s) (fun o t => I (n + 1) t ∧ ∃ d, o = some (.d d) ∧ R d) nX) →
    Ok (cmL turn ds s) (fun vs t => I (n + ds.length) t ∧ ∃ xs : List PyData, vs = xs.map Vl.d ∧ xs.length = ds.length ∧ ∀ x ∈ xs, R x) X
  | [], n, s, i, _ => ⟨i, [], rfl, rfl, fun _ h => by cases h⟩
  | a :: r, n, s, i, h => by
    show Ok ((turn (.d a) s).bind fun o s => (cmL turn r s).bind fun r s => .ok (match o with | some v => v :: r | none => r) s) _ _
    rw [Ok_bind]
    refine (h a List.mem_cons_self n s i).imp fun o t ⟨i2, d, e, rd⟩ => ?_
    subst e
    rw [Ok_bind]
    refine (evs_map I R (X := nX) i2 fun x hx => h x (List.mem_cons_of_mem _ hx)).imp fun vs t2 ⟨i3, xs, e, hl, hr⟩ => ?_
    subst e
    refine ⟨by rw [List.length_cons, show n + (r.length + 1) = n + 1 + r.length by omega]; exact i3, d :: xs, rfl, by simp [hl], fun x hx => ?_⟩
    rcases List.mem_cons.mp hx with rfl | hx
    · exact rd
    · exact hr x hx
/-- [elt for tg in ..], drawn: what stands behind each turn, what each item is -/
theorem Ok_comp {elt tg it : IE} {own : List Nat} {Q : Vl → Sto → Prop} (I : Nat → Sto → Prop) (R : PyData → Prop) {ds : List PyData} {s' : Sto} (hi : itr C it e s = .ok (.vals ds) s') (hl : ds.length ≤ 16777216) (h0 : I 0 s')
    (ht : ∀ x ∈ ds, ∀ n s, I n s → ∃ e1, setTgV tg (.d x) (wipe e own) = some e1 ∧ Ok (ev C elt e1 s) (fun v t => I (n + 1) t ∧ ∃ d, v = .d d ∧ R d) nX)
    (hq : ∀ (xs : List PyData) (t : Sto), xs.length = ds.length → (∀ x ∈ xs, R x) → I ds.length t → Q (.d (.list xs)) t) : Ok (ev C (.comp false elt tg it .nil own) e s) Q X := by
  show Ok ((itr C it e s).bind fun I s => (noex (cmI (turnF C elt tg .nil (wipe e own)) I s)).bind fun vs s => ofP (mkL false vs s)) Q X
  rw [hi]
  show Ok ((noex (cmL (turnF C elt tg .nil (wipe e own)) ds s')).bind fun vs s => ofP (mkL false vs s)) Q X
  have key := evs_map (turn := turnF C elt tg .nil (wipe e own)) (X := nX) I R h0 (ds := ds) fun x hx n s i => by
    obtain ⟨e1, h1, h2⟩ := ht x hx n s i
    unfold turnF
    rw [h1]
    show Ok ((Rs.ok true s).bind fun b s => if b = true then (ev C elt e1 s).bind fun x s => .ok (some x) s else .ok none s) _ _
    show Ok ((ev C elt e1 s).bind fun x s => .ok (some x) s) _ _
    rw [Ok_bind]
    exact h2.imp fun v t ⟨i, d, e, r⟩ => ⟨i, d, by rw [e], r⟩
  obtain ⟨vs, t, hv, hI, xs, rfl, hx, hr⟩ := key.ex
  rw [hv]
  show Ok (ofP (mkL false (xs.map Vl.d) t)) Q X
  have m : mkL false (xs.map Vl.d) t = some (.d (.list xs), t) := by
    unfold mkL
    rw [if_pos (by simpa [hx] using hl), if_neg (by decide), allD_map]
    rfl
  rw [m]
  exact hq xs t hx hr (by rw [Nat.zero_add] at hI; exact hI)
/-- .. a list that is changed later -/
theorem Ok_compM {elt tg it : IE} {own : List Nat} {Q : Vl → Sto → Prop} (I : Nat → Sto → Prop) (R : PyData → Prop) {ds : List PyData} {s' : Sto} (hi : itr C it e s = .ok (.vals ds) s') (hl : ds.length ≤ 16777216) (h0 : I 0 s')
    (ht : ∀ x ∈ ds, ∀ n s, I n s → ∃ e1, setTgV tg (.d x) (wipe e own) = some e1 ∧ Ok (ev C elt e1 s) (fun v t => I (n + 1) t ∧ ∃ d, v = .d d ∧ R d) nX)
    (hq : ∀ (xs : List PyData) (t : Sto), xs.length = ds.length → (∀ x ∈ xs, R x) → I ds.length t → Q (.r t.length) (t ++ [some (.lst (xs.map Vl.d))])) : Ok (ev C (.comp true elt tg it .nil own) e s) Q X := by
  show Ok ((itr C it e s).bind fun I s => (noex (cmI (turnF C elt tg .nil (wipe e own)) I s)).bind fun vs s => ofP (mkL true vs s)) Q X
  rw [hi]
  show Ok ((noex (cmL (turnF C elt tg .nil (wipe e own)) ds s')).bind fun vs s => ofP (mkL true vs s)) Q X
  have key := evs_map (turn := turnF C elt tg .nil (wipe e own)) (X := nX) I R h0 (ds := ds) fun x hx n s i => by
    obtain ⟨e1, h1, h2⟩ := ht x hx n s i
    unfold turnF
    rw [h1]
    show Ok ((Rs.ok true s).bind fun b s => if b = true then (ev C elt e1 s).bind fun x s => .ok (some x) s else .ok none s) _ _
    show Ok ((ev C elt e1 s).bind fun x s => .ok (some x) s) _ _
    rw [Ok_bind]
    exact h2.imp fun v t ⟨i, d, e, r⟩ => ⟨i, d, by rw [e], r⟩
  obtain ⟨vs, t, hv, hI, xs, rfl, hx, hr⟩ := key.ex
  rw [hv]
  show Ok (ofP (mkL true (xs.map Vl.d) t)) Q X
  have m : mkL true (xs.map Vl.d) t = some (.r t.length, t ++ [some (.lst (xs.map Vl.d))]) := by
    unfold mkL
    rw [if_pos (by simpa [hx] using hl), if_pos rfl]
  rw [m]
  exact hq xs t hx hr (by rw [Nat.zero_add] at hI; exact hI)
/-- [elt for tg in .. if cnd], where nothing is changed -/
theorem cm_filter {turn : Vl → Sto → Rs (Option Vl)} {f : PyData → PyData} {p : PyData → Bool} : ∀ {ds : List PyData}, (∀ x ∈ ds, turn (.d x) s = .ok (if p x = true then some (.d (f x)) else none) s) → cmL turn ds s = .ok (((ds.filter p).map f).map Vl.d) s
  | [], _ => rfl
  | a :: r, h => by
    show (turn (.d a) s).bind _ = _
    rw [h a List.mem_cons_self]
    show (cmL turn r s).bind _ = _
    rw [cm_filter (ds := r) fun x hx => h x (List.mem_cons_of_mem _ hx)]
    cases q : p a <;> simp [q]
theorem comp_filter {elt tg it c : IE} {own : List Nat} {ds : List PyData} (f : PyData → PyData) (p : PyData → Bool) (hi : itr C it e s = .ok (.vals ds) s) (hl : ds.length ≤ 16777216)
    (ht : ∀ x ∈ ds, ∃ e1, setTgV tg (.d x) (wipe e own) = some e1 ∧ evT C c e1 s = .ok (p x) s ∧ (p x = true → ev C elt e1 s = .ok (.d (f x)) s)) : ev C (.comp false elt tg it (.cons c .nil) own) e s = .ok (.d (.list ((ds.filter p).map f))) s := by
  show ((itr C it e s).bind fun I s => (noex (cmI (turnF C elt tg (.cons c .nil) (wipe e own)) I s)).bind fun vs s => ofP (mkL false vs s)) = _
  rw [hi]
  show ((noex (cmL (turnF C elt tg (.cons c .nil) (wipe e own)) ds s)).bind fun vs s => ofP (mkL false vs s)) = _
  rw [cm_filter (f := f) (p := p) fun x hx => ?_]
  · show ofP (mkL false (((ds.filter p).map f).map Vl.d) s) = _
    unfold mkL
    rw [if_pos (by have := List.length_filter_le p ds; simp; omega), if_neg (by decide), allD_map]
    rfl
  · obtain ⟨e1, h1, h2, h3⟩ := ht x hx
    unfold turnF
    rw [h1]
    show (evT C c e1 s).bind _ = _
    rw [h2]
    cases q : p x with
    | false => rfl
    | true =>
      show (ev C elt e1 s).bind _ = _
      rw [h3 q]
      rfl
/-- .. where the tests draw -/
theorem evs_some {turn : Vl → Sto → Rs (Option Vl)} {X : XP} (I : Sto → Prop) (f : PyData → PyData) : ∀ {ds : List PyData} {s : Sto}, I s → (∀ x ∈ ds, ∀ s, I s → Ok (turn (.d x) s) (fun o t => I t ∧ (o = some (.d (f x)) ∨ o = none)) nX) →
    Ok (cmL turn ds s) (fun vs t => I t ∧ ∃ xs : List PyData, vs = (xs.map f).map Vl.d ∧ xs.Sublist ds) X
  | [], s, i, _ => ⟨i, [], rfl, .slnil⟩
  | a :: r, s, i, h => by
    show Ok ((turn (.d a) s).bind fun o s => (cmL turn r s).bind fun r s => .ok (match o with | some v => v :: r | none => r) s) _ _
    rw [Ok_bind]
    refine (h a List.mem_cons_self s i).imp fun o t ⟨i2, ho⟩ => ?_
    rw [Ok_bind]
    refine (evs_some I f (X := nX) i2 fun x hx => h x (List.mem_cons_of_mem _ hx)).imp fun vs t2 ⟨i3, xs, e, hl⟩ => ?_
    subst e
    rcases ho with rfl | rfl
    · exact ⟨i3, a :: xs, rfl, hl.cons₂ a⟩
    · exact ⟨i3, xs, rfl, hl.cons a⟩
theorem Ok_comp_some {elt tg it c : IE} {own : List Nat} {Q : Vl → Sto → Prop} (I : Sto → Prop) (f : PyData → PyData) {ds : List PyData} {s' : Sto} (hi : itr C it e s = .ok (.vals ds) s') (hl : ds.length ≤ 16777216) (h0 : I s')
    (ht : ∀ x ∈ ds, ∀ s, I s → ∃ e1, setTgV tg (.d x) (wipe e own) = some e1 ∧ Ok (evT C c e1 s) (fun b t => I t ∧ (b = true → ev C elt e1 t = .ok (.d (f x)) t)) nX)
    (hq : ∀ (xs : List PyData) (t : Sto), xs.Sublist ds → I t → Q (.d (.list (xs.map f))) t) : Ok (ev C (.comp false elt tg it (.cons c .nil) own) e s) Q X := by
  show Ok ((itr C it e s).bind fun I s => (noex (cmI (turnF C elt tg (.cons c .nil) (wipe e own)) I s)).bind fun vs s => ofP (mkL false vs s)) Q X
  rw [hi]
  show Ok ((noex (cmL (turnF C elt tg (.cons c .nil) (wipe e own)) ds s')).bind fun vs s => ofP (mkL false vs s)) Q X
  have key := evs_some (turn := turnF C elt tg (.cons c .nil) (wipe e own)) (X := nX) I f h0 (ds := ds) fun x hx s i => by
    obtain ⟨e1, h1, h2⟩ := ht x hx s i
    unfold turnF
    rw [h1]
    show Ok ((evT C c e1 s).bind fun b s => if b = true then (ev C elt e1 s).bind fun x s => .ok (some x) s else .ok none s) _ _
    rw [Ok_bind]
    refine h2.imp fun b t ⟨i, h3⟩ => ?_
    cases b with
    | false => exact ⟨i, .inr rfl⟩
    | true =>
      rw [if_pos rfl, Ok_bind, h3 rfl]
      exact ⟨i, .inl rfl⟩
  obtain ⟨vs, t, hv, hI, xs, rfl, hx⟩ := key.ex
  rw [hv]
  show Ok (ofP (mkL false ((xs.map f).map Vl.d) t)) Q X
  have m : mkL false ((xs.map f).map Vl.d) t = some (.d (.list (xs.map f)), t) := by
    unfold mkL
    rw [if_pos (by have := hx.length_le; simp; omega), if_neg (by decide), allD_map]
    rfl
  rw [m]
  exact hq xs t hx hI
end
end SM

set_option maxHeartbeats 1000000
/-! SM: values, as simp reads them. -/
namespace SM
open PySem
section
variable {C : Cal} {n : Nat} {s t u : Sto} {vs ws : List Vl} {v : Vl} {m : Bool}
theorem listAt_lt (h : listAt n s = some vs) : n < s.length := by
  unfold listAt at h
  cases q : s[n]? with
  | none => rw [q] at h; cases h
  | some o => exact (List.getElem?_eq_some_iff.mp q).1
@[simp] theorem putL_length : (putL n vs s).length = s.length := by simp [putL]
theorem listAt_put (h : n < s.length) : listAt n (putL n vs s) = some vs := by
  unfold listAt putL
  simp [h]
theorem listAt_put_ne {j : Nat} (h : j ≠ n) : listAt j (putL n vs s) = listAt j s := by
  unfold listAt putL
  rw [List.getElem?_set_ne (Ne.symm h)]
theorem listAt_new : listAt s.length (s ++ [some (.lst vs)]) = some vs := by simp [listAt]
theorem listAt_old (h : n < s.length) : listAt n (s ++ t) = listAt n s := by simp [listAt, List.getElem?_append_left h]
theorem putL_new : putL s.length ws (s ++ [some (.lst vs)]) = s ++ [some (.lst ws)] := by simp [putL]
theorem putL_put : putL n ws (putL n vs s) = putL n ws s := by simp [putL]
theorem ixN_nat {k i : Nat} (h : i < k) : L2.ixN k (i : Int) = some i := by
  unfold L2.ixN
  rw [if_pos (by omega), if_pos (by omega)]
  simp
/-! ### places -/
@[simp] theorem atI0 {α : Type} (a : α) (l : List α) : L2.atI (a :: l) 0 = some a := by
  have := atI_nat (vs := a :: l) (i := 0) (by simp)
  simpa using this
@[simp] theorem atI1 {α : Type} (a b : α) (l : List α) : L2.atI (a :: b :: l) 1 = some b := by
  have := atI_nat (vs := a :: b :: l) (i := 1) (by simp)
  simpa using this
@[simp] theorem atI2 {α : Type} (a b c : α) (l : List α) : L2.atI (a :: b :: c :: l) 2 = some c := by
  have := atI_nat (vs := a :: b :: c :: l) (i := 2) (by simp)
  simpa using this
@[simp] theorem atI3 {α : Type} (a b c d : α) (l : List α) : L2.atI (a :: b :: c :: d :: l) 3 = some d := by
  have := atI_nat (vs := a :: b :: c :: d :: l) (i := 3) (by simp)
  simpa using this
@[simp] theorem atI4 {α : Type} (a b c d e : α) (l : List α) : L2.atI (a :: b :: c :: d :: e :: l) 4 = some e := by
  have := atI_nat (vs := a :: b :: c :: d :: e :: l) (i := 4) (by simp)
  simpa using this
@[simp] theorem atI5 {α : Type} (a0 a1 a2 a3 a4 a5 : α) (l : List α) : L2.atI (a0 :: a1 :: a2 :: a3 :: a4 :: a5 :: l) 5 = some a5 := by
  have := atI_nat (vs := a0 :: a1 :: a2 :: a3 :: a4 :: a5 :: l) (i := 5) (by simp)
  simpa using this
@[simp] theorem atI6 {α : Type} (a0 a1 a2 a3 a4 a5 a6 : α) (l : List α) : L2.atI (a0 :: a1 :: a2 :: a3 :: a4 :: a5 :: a6 :: l) 6 = some a6 := by
  have := atI_nat (vs := a0 :: a1 :: a2 :: a3 :: a4 :: a5 :: a6 :: l) (i := 6) (by simp)
  simpa using this
@[simp] theorem atI7 {α : Type} (a0 a1 a2 a3 a4 a5 a6 a7 : α) (l : List α) : L2.atI (a0 :: a1 :: a2 :: a3 :: a4 :: a5 :: a6 :: a7 :: l) 7 = some a7 := by
  have := atI_nat (vs := a0 :: a1 :: a2 :: a3 :: a4 :: a5 :: a6 :: a7 :: l) (i := 7) (by simp)
  simpa using this
@[simp] theorem atI8 {α : Type} (a0 a1 a2 a3 a4 a5 a6 a7 a8 : α) (l : List α) : L2.atI (a0 :: a1 :: a2 :: a3 :: a4 :: a5 :: a6 :: a7 :: a8 :: l) 8 = some a8 := by
  have := atI_nat (vs := a0 :: a1 :: a2 :: a3 :: a4 :: a5 :: a6 :: a7 :: a8 :: l) (i := 8) (by simp)
  simpa using this
@[simp] theorem atI9 {α : Type} (a0 a1 a2 a3 a4 a5 a6 a7 a8 a9 : α) (l : List α) : L2.atI (a0 :: a1 :: a2 :: a3 :: a4 :: a5 :: a6 :: a7 :: a8 :: a9 :: l) 9 = some a9 := by
  have := atI_nat (vs := a0 :: a1 :: a2 :: a3 :: a4 :: a5 :: a6 :: a7 :: a8 :: a9 :: l) (i := 9) (by simp)
  simpa using this
@[simp] theorem atI10 {α : Type} (a0 a1 a2 a3 a4 a5 a6 a7 a8 a9 a10 : α) (l : List α) : L2.atI (a0 :: a1 :: a2 :: a3 :: a4 :: a5 :: a6 :: a7 :: a8 :: a9 :: a10 :: l) 10 = some a10 := by
  have := atI_nat (vs := a0 :: a1 :: a2 :: a3 :: a4 :: a5 :: a6 :: a7 :: a8 :: a9 :: a10 :: l) (i := 10) (by simp)
  simpa using this
@[simp] theorem atI11 {α : Type} (a0 a1 a2 a3 a4 a5 a6 a7 a8 a9 a10 a11 : α) (l : List α) : L2.atI (a0 :: a1 :: a2 :: a3 :: a4 :: a5 :: a6 :: a7 :: a8 :: a9 :: a10 :: a11 :: l) 11 = some a11 := by
  have := atI_nat (vs := a0 :: a1 :: a2 :: a3 :: a4 :: a5 :: a6 :: a7 :: a8 :: a9 :: a10 :: a11 :: l) (i := 11) (by simp)
  simpa using this
@[simp] theorem atI12 {α : Type} (a0 a1 a2 a3 a4 a5 a6 a7 a8 a9 a10 a11 a12 : α) (l : List α) : L2.atI (a0 :: a1 :: a2 :: a3 :: a4 :: a5 :: a6 :: a7 :: a8 :: a9 :: a10 :: a11 :: a12 :: l) 12 = some a12 := by
  have := atI_nat (vs := a0 :: a1 :: a2 :: a3 :: a4 :: a5 :: a6 :: a7 :: a8 :: a9 :: a10 :: a11 :: a12 :: l) (i := 12) (by simp)
  simpa using this
@[simp] theorem atI13 {α : Type} (a0 a1 a2 a3 a4 a5 a6 a7 a8 a9 a10 a11 a12 a13 : α) (l : List α) : L2.atI (a0 :: a1 :: a2 :: a3 :: a4 :: a5 :: a6 :: a7 :: a8 :: a9 :: a10 :: a11 :: a12 :: a13 :: l) 13 = some a13 := by
  have := atI_nat (vs := a0 :: a1 :: a2 :: a3 :: a4 :: a5 :: a6 :: a7 :: a8 :: a9 :: a10 :: a11 :: a12 :: a13 :: l) (i := 13) (by simp)
  simpa using this
@[simp] theorem atI14 {α : Type} (a0 a1 a2 a3 a4 a5 a6 a7 a8 a9 a10 a11 a12 a13 a14 : α) (l : List α) : L2.atI (a0 :: a1 :: a2 :: a3 :: a4 :: a5 :: a6 :: a7 :: a8 :: a9 :: a10 :: a11 :: a12 :: a13 :: a14 :: l) 14 = some a14 := by
  have := atI_nat (vs := a0 :: a1 :: a2 :: a3 :: a4 :: a5 :: a6 :: a7 :: a8 :: a9 :: a10 :: a11 :: a12 :: a13 :: a14 :: l) (i := 14) (by simp)
  simpa using this
@[simp] theorem atI15 {α : Type} (a0 a1 a2 a3 a4 a5 a6 a7 a8 a9 a10 a11 a12 a13 a14 a15 : α) (l : List α) : L2.atI (a0 :: a1 :: a2 :: a3 :: a4 :: a5 :: a6 :: a7 :: a8 :: a9 :: a10 :: a11 :: a12 :: a13 :: a14 :: a15 :: l) 15 = some a15 := by
  have := atI_nat (vs := a0 :: a1 :: a2 :: a3 :: a4 :: a5 :: a6 :: a7 :: a8 :: a9 :: a10 :: a11 :: a12 :: a13 :: a14 :: a15 :: l) (i := 15) (by simp)
  simpa using this
@[simp] theorem atI16 {α : Type} (a0 a1 a2 a3 a4 a5 a6 a7 a8 a9 a10 a11 a12 a13 a14 a15 a16 : α) (l : List α) : L2.atI (a0 :: a1 :: a2 :: a3 :: a4 :: a5 :: a6 :: a7 :: a8 :: a9 :: a10 :: a11 :: a12 :: a13 :: a14 :: a15 :: a16 :: l) 16 = some a16 := by
  have := atI_nat (vs := a0 :: a1 :: a2 :: a3 :: a4 :: a5 :: a6 :: a7 :: a8 :: a9 :: a10 :: a11 :: a12 :: a13 :: a14 :: a15 :: a16 :: l) (i := 16) (by simp)
  simpa using this
@[simp] theorem atI17 {α : Type} (a0 a1 a2 a3 a4 a5 a6 a7 a8 a9 a10 a11 a12 a13 a14 a15 a16 a17 : α) (l : List α) : L2.atI (a0 :: a1 :: a2 :: a3 :: a4 :: a5 :: a6 :: a7 :: a8 :: a9 :: a10 :: a11 :: a12 :: a13 :: a14 :: a15 :: a16 :: a17 :: l) 17 = some a17 := by
  have := atI_nat (vs := a0 :: a1 :: a2 :: a3 :: a4 :: a5 :: a6 :: a7 :: a8 :: a9 :: a10 :: a11 :: a12 :: a13 :: a14 :: a15 :: a16 :: a17 :: l) (i := 17) (by simp)
  simpa using this
@[simp] theorem atI18 {α : Type} (a0 a1 a2 a3 a4 a5 a6 a7 a8 a9 a10 a11 a12 a13 a14 a15 a16 a17 a18 : α) (l : List α) : L2.atI (a0 :: a1 :: a2 :: a3 :: a4 :: a5 :: a6 :: a7 :: a8 :: a9 :: a10 :: a11 :: a12 :: a13 :: a14 :: a15 :: a16 :: a17 :: a18 :: l) 18 = some a18 := by
  have := atI_nat (vs := a0 :: a1 :: a2 :: a3 :: a4 :: a5 :: a6 :: a7 :: a8 :: a9 :: a10 :: a11 :: a12 :: a13 :: a14 :: a15 :: a16 :: a17 :: a18 :: l) (i := 18) (by simp)
  simpa using this
@[simp] theorem atI19 {α : Type} (a0 a1 a2 a3 a4 a5 a6 a7 a8 a9 a10 a11 a12 a13 a14 a15 a16 a17 a18 a19 : α) (l : List α) : L2.atI (a0 :: a1 :: a2 :: a3 :: a4 :: a5 :: a6 :: a7 :: a8 :: a9 :: a10 :: a11 :: a12 :: a13 :: a14 :: a15 :: a16 :: a17 :: a18 :: a19 :: l) 19 = some a19 := by
  have := atI_nat (vs := a0 :: a1 :: a2 :: a3 :: a4 :: a5 :: a6 :: a7 :: a8 :: a9 :: a10 :: a11 :: a12 :: a13 :: a14 :: a15 :: a16 :: a17 :: a18 :: a19 :: l) (i := 19) (by simp)
  simpa using this
@[simp] theorem atI20 {α : Type} (a0 a1 a2 a3 a4 a5 a6 a7 a8 a9 a10 a11 a12 a13 a14 a15 a16 a17 a18 a19 a20 : α) (l : List α) : L2.atI (a0 :: a1 :: a2 :: a3 :: a4 :: a5 :: a6 :: a7 :: a8 :: a9 :: a10 :: a11 :: a12 :: a13 :: a14 :: a15 :: a16 :: a17 :: a18 :: a19 :: a20 :: l) 20 = some a20 := by
  have := atI_nat (vs := a0 :: a1 :: a2 :: a3 :: a4 :: a5 :: a6 :: a7 :: a8 :: a9 :: a10 :: a11 :: a12 :: a13 :: a14 :: a15 :: a16 :: a17 :: a18 :: a19 :: a20 :: l) (i := 20) (by simp)
  simpa using this
@[simp] theorem atI21 {α : Type} (a0 a1 a2 a3 a4 a5 a6 a7 a8 a9 a10 a11 a12 a13 a14 a15 a16 a17 a18 a19 a20 a21 : α) (l : List α) : L2.atI (a0 :: a1 :: a2 :: a3 :: a4 :: a5 :: a6 :: a7 :: a8 :: a9 :: a10 :: a11 :: a12 :: a13 :: a14 :: a15 :: a16 :: a17 :: a18 :: a19 :: a20 :: a21 :: l) 21 = some a21 := by
  have := atI_nat (vs := a0 :: a1 :: a2 :: a3 :: a4 :: a5 :: a6 :: a7 :: a8 :: a9 :: a10 :: a11 :: a12 :: a13 :: a14 :: a15 :: a16 :: a17 :: a18 :: a19 :: a20 :: a21 :: l) (i := 21) (by simp)
  simpa using this
@[simp] theorem atI22 {α : Type} (a0 a1 a2 a3 a4 a5 a6 a7 a8 a9 a10 a11 a12 a13 a14 a15 a16 a17 a18 a19 a20 a21 a22 : α) (l : List α) : L2.atI (a0 :: a1 :: a2 :: a3 :: a4 :: a5 :: a6 :: a7 :: a8 :: a9 :: a10 :: a11 :: a12 :: a13 :: a14 :: a15 :: a16 :: a17 :: a18 :: a19 :: a20 :: a21 :: a22 :: l) 22 = some a22 := by
  have := atI_nat (vs := a0 :: a1 :: a2 :: a3 :: a4 :: a5 :: a6 :: a7 :: a8 :: a9 :: a10 :: a11 :: a12 :: a13 :: a14 :: a15 :: a16 :: a17 :: a18 :: a19 :: a20 :: a21 :: a22 :: l) (i := 22) (by simp)
  simpa using this
@[simp] theorem atI23 {α : Type} (a0 a1 a2 a3 a4 a5 a6 a7 a8 a9 a10 a11 a12 a13 a14 a15 a16 a17 a18 a19 a20 a21 a22 a23 : α) (l : List α) : L2.atI (a0 :: a1 :: a2 :: a3 :: a4 :: a5 :: a6 :: a7 :: a8 :: a9 :: a10 :: a11 :: a12 :: a13 :: a14 :: a15 :: a16 :: a17 :: a18 :: a19 :: a20 :: a21 :: a22 :: a23 :: l) 23 = some a23 := by
  have := atI_nat (vs := a0 :: a1 :: a2 :: a3 :: a4 :: a5 :: a6 :: a7 :: a8 :: a9 :: a10 :: a11 :: a12 :: a13 :: a14 :: a15 :: a16 :: a17 :: a18 :: a19 :: a20 :: a21 :: a22 :: a23 :: l) (i := 23) (by simp)
  simpa using this
theorem atI_mem {α : Type} {xs : List α} {i : Int} (h0 : 0 ≤ i) (h : i < xs.length) : ∃ x ∈ xs, L2.atI xs i = some x := by
  have := atI_nat (vs := xs) (i := i.toNat) (by omega)
  rw [Int.toNat_of_nonneg h0] at this
  exact ⟨_, List.getElem_mem _, this⟩
theorem Ok_atI {xs : List PyData} {j : Int} {Q : Vl → Sto → Prop} {X : XP} (h0 : 0 ≤ j) (h1 : j < xs.length) (h : ∀ y ∈ xs, Q (.d y) s) : Ok (ofP (Option.map (fun x => (Vl.d x, s)) (L2.atI xs j))) Q X := by
  obtain ⟨y, hy, e⟩ := atI_mem h0 h1
  rw [e]
  exact h y hy
theorem Ok_comp_map {elt tg it : IE} {own : List Nat} {e : Sl} {ds : List PyData} {Q : Vl → Sto → Prop} {X : XP} (f : PyData → PyData) (hi : itr C it e s = .ok (.vals ds) s) (hl : ds.length ≤ 16777216)
    (ht : ∀ x ∈ ds, ∃ e1, setTgV tg (.d x) (wipe e own) = some e1 ∧ ev C elt e1 s = .ok (.d (f x)) s) (hq : Q (.d (.list (ds.map f))) s) : Ok (ev C (.comp false elt tg it .nil own) e s) Q X := Ok.eq (comp_map f hi hl ht) hq
theorem Ok_comp_filter {elt tg it c : IE} {own : List Nat} {e : Sl} {ds : List PyData} {Q : Vl → Sto → Prop} {X : XP} (f : PyData → PyData) (p : PyData → Bool) (hi : itr C it e s = .ok (.vals ds) s) (hl : ds.length ≤ 16777216)
    (ht : ∀ x ∈ ds, ∃ e1, setTgV tg (.d x) (wipe e own) = some e1 ∧ evT C c e1 s = .ok (p x) s ∧ (p x = true → ev C elt e1 s = .ok (.d (f x)) s)) (hq : Q (.d (.list ((ds.filter p).map f))) s) : Ok (ev C (.comp false elt tg it (.cons c .nil) own) e s) Q X := Ok.eq (comp_filter f p hi hl ht) hq
@[simp] theorem ixN_1_0 : L2.ixN 1 0 = some 0 := rfl
@[simp] theorem ixN_2_0 : L2.ixN 2 0 = some 0 := rfl
@[simp] theorem ixN_2_1 : L2.ixN 2 1 = some 1 := rfl
@[simp] theorem ixN_3_0 : L2.ixN 3 0 = some 0 := rfl
@[simp] theorem ixN_3_1 : L2.ixN 3 1 = some 1 := rfl
@[simp] theorem ixN_3_2 : L2.ixN 3 2 = some 2 := rfl
@[simp] theorem ixN_4_0 : L2.ixN 4 0 = some 0 := rfl
@[simp] theorem ixN_4_1 : L2.ixN 4 1 = some 1 := rfl
@[simp] theorem ixN_4_2 : L2.ixN 4 2 = some 2 := rfl
@[simp] theorem ixN_4_3 : L2.ixN 4 3 = some 3 := rfl
@[simp] theorem ixN_5_0 : L2.ixN 5 0 = some 0 := rfl
@[simp] theorem ixN_5_1 : L2.ixN 5 1 = some 1 := rfl
@[simp] theorem ixN_5_2 : L2.ixN 5 2 = some 2 := rfl
@[simp] theorem ixN_5_3 : L2.ixN 5 3 = some 3 := rfl
@[simp] theorem ixN_5_4 : L2.ixN 5 4 = some 4 := rfl
@[simp] theorem ixN_6_0 : L2.ixN 6 0 = some 0 := rfl
@[simp] theorem ixN_6_1 : L2.ixN 6 1 = some 1 := rfl
@[simp] theorem ixN_6_2 : L2.ixN 6 2 = some 2 := rfl
@[simp] theorem ixN_6_3 : L2.ixN 6 3 = some 3 := rfl
@[simp] theorem ixN_6_4 : L2.ixN 6 4 = some 4 := rfl
@[simp] theorem ixN_6_5 : L2.ixN 6 5 = some 5 := rfl
@[simp] theorem ixN_7_0 : L2.ixN 7 0 = some 0 := rfl
@[simp] theorem ixN_7_1 : L2.ixN 7 1 = some 1 := rfl
@[simp] theorem ixN_7_2 : L2.ixN 7 2 = some 2 := rfl
@[simp] theorem ixN_7_3 : L2.ixN 7 3 = some 3 := rfl
@[simp] theorem ixN_7_4 : L2.ixN 7 4 = some 4 := rfl
@[simp] theorem ixN_7_5 : L2.ixN 7 5 = some 5 := rfl
@[simp] theorem ixN_7_6 : L2.ixN 7 6 = some 6 := rfl
@[simp] theorem ixN_1_m : L2.ixN 1 (-1) = some 0 := rfl
@[simp] theorem ixN_2_m : L2.ixN 2 (-1) = some 1 := rfl
@[simp] theorem ixN_3_m : L2.ixN 3 (-1) = some 2 := rfl
@[simp] theorem ixN_4_m : L2.ixN 4 (-1) = some 3 := rfl
@[simp] theorem ixN_5_m : L2.ixN 5 (-1) = some 4 := rfl
@[simp] theorem ixN_6_m : L2.ixN 6 (-1) = some 5 := rfl
@[simp] theorem ixN_7_m : L2.ixN 7 (-1) = some 6 := rfl
@[simp] theorem idxV_r (i : Int) : idxV (.r n) (.d (.int i)) s = ((listAt n s).bind fun vs => L2.atI vs i).map (·, s) := by
  show ((listAt n s).bind _) = _
  cases listAt n s <;> rfl
theorem atI_map {α β : Type} (f : α → β) (l : List α) (i : Int) : L2.atI (l.map f) i = (L2.atI l i).map f := by
  unfold L2.atI
  rw [List.length_map]
  cases L2.ixN l.length i <;> simp
@[simp] theorem idxV_t (xs : List PyData) (i : Int) : idxV (.d (.tuple xs)) (.d (.int i)) s = (L2.atI xs i).map fun x => (.d x, s) := by
  show (L2.atI (xs.map Vl.d) i).map (·, s) = _
  rw [atI_map]
  cases L2.atI xs i <;> rfl
@[simp] theorem idxV_l (xs : List PyData) (i : Int) : idxV (.d (.list xs)) (.d (.int i)) s = (L2.atI xs i).map fun x => (.d x, s) := by
  show (L2.atI (xs.map Vl.d) i).map (·, s) = _
  rw [atI_map]
  cases L2.atI xs i <;> rfl
@[simp] theorem setV_r (i : Int) (v : Vl) : setV (.r n) (.d (.int i)) v s = (listAt n s).bind fun vs => (L2.ixN vs.length i).map fun j => putL n (vs.set j v) s := rfl
/-! ### built-in functions -/
@[simp] theorem w_len_t (xs : List PyData) : biV m .len [.d (.tuple xs)] s = some (.d (.int xs.length), s) := by simp [biV, lenV, itemsV, itemsD]
@[simp] theorem w_len_l (xs : List PyData) : biV m .len [.d (.list xs)] s = some (.d (.int xs.length), s) := by simp [biV, lenV, itemsV, itemsD]
@[simp] theorem w_len_r : biV m .len [.r n] s = (listAt n s).map fun l => (.d (.int l.length), s) := rfl
@[simp] theorem w_abs (i : Int) : biV m .abs [.d (.int i)] s = some (.d (.int i.natAbs), s) := by
  show some (Vl.d (.int (if i < 0 then -i else i)), s) = _
  congr 4
  split <;> omega
@[simp] theorem w_int (i : Int) : biV m .int [.d (.int i)] s = some (.d (.int i), s) := rfl
@[simp] theorem w_int_b (b : Bool) : biV m .int [.d (.bool b)] s = some (.d (.int (if b then 1 else 0)), s) := rfl
@[simp] theorem w_gcd (i j : Int) : biV m .gcd [.d (.int i), .d (.int j)] s = some (.d (.int (Int.gcd i j)), s) := rfl
@[simp] theorem w_max (i j : Int) : biV m .max [.d (.int i), .d (.int j)] s = some (.d (.int (max i j)), s) := by
  show some (Vl.d (.int (if j > i then j else i)), s) = _
  congr 4
  omega
@[simp] theorem w_min (i j : Int) : biV m .min [.d (.int i), .d (.int j)] s = some (.d (.int (min i j)), s) := by
  show some (Vl.d (.int (if j < i then j else i)), s) = _
  congr 4
  omega
@[simp] theorem w_min3 (i j k : Int) : biV m .min [.d (.int i), .d (.int j), .d (.int k)] s = some (.d (.int (min (min i j) k)), s) := by
  have e : minV [.d (.int i), .d (.int j), .d (.int k)] s = some (Vl.d (.int (if k < (if j < i then j else i) then k else (if j < i then j else i))), s) := rfl
  show minV [.d (.int i), .d (.int j), .d (.int k)] s = _
  rw [e]
  congr 4
  omega
theorem w_ints (is : List Int) : ints? (is.map .int) = some is := by
  have := ints_map id is
  simpa using this
@[simp] theorem w_sum (is : List Int) : biV m .sum [.d (.list (is.map .int))] s = some (.d (.int is.sum), s) := by
  show ((dataL (.d (.list (is.map .int))) s).bind ints?).map _ = _
  have h : dataL (.d (.list (is.map .int))) s = some (is.map .int) := allD_map _
  rw [h]
  show (ints? (is.map .int)).map _ = _
  rw [w_ints]
  rfl
def vI (i : Int) : Vl := .d (.int i)
theorem vI_map (is : List Int) : is.map vI = (is.map PyData.int).map Vl.d := by rw [List.map_map]; rfl
theorem allD_vI (is : List Int) : allD (is.map vI) = some (is.map .int) := by rw [vI_map]; exact allD_map _
theorem w_sum_r {is : List Int} (h : listAt n s = some (is.map vI)) : biV m .sum [.r n] s = some (.d (.int is.sum), s) := by
  show ((dataL (.r n) s).bind ints?).map _ = _
  have h : dataL (.r n) s = some (is.map .int) := by
    show (listAt n s).bind allD = _
    rw [h]
    exact allD_vI _
  rw [h]
  show (ints? (is.map .int)).map _ = _
  rw [w_ints]
  rfl
@[simp] theorem w_tup_l (xs : List PyData) : biV m .tuple [.d (.list xs)] s = some (.d (.tuple xs), s) := by
  show (dataV (.d (.list xs)) s).map _ = _
  have h : dataV (.d (.list xs)) s = some xs := allD_map _
  rw [h]
  rfl
@[simp] theorem w_tup_t (xs : List PyData) : biV m .tuple [.d (.tuple xs)] s = some (.d (.tuple xs), s) := by
  show (dataV (.d (.tuple xs)) s).map _ = _
  have h : dataV (.d (.tuple xs)) s = some xs := allD_map _
  rw [h]
  rfl
theorem w_tup_r {xs : List PyData} (h : listAt n s = some (xs.map Vl.d)) : biV m .tuple [.r n] s = some (.d (.tuple xs), s) := by
  show (dataV (.r n) s).map _ = _
  have h : dataV (.r n) s = some xs := by
    show (listAt n s).bind allD = _
    rw [h]
    exact allD_map _
  rw [h]
  rfl
@[simp] theorem allD_nil : allD [] = some [] := rfl
@[simp] theorem allD_d (x : PyData) (r : List Vl) : allD (.d x :: r) = (allD r).map (x :: ·) := rfl
@[simp] theorem allD_m (l : List PyData) : allD (l.map Vl.d) = some l := allD_map l
@[simp] theorem mkL_f : mkL false vs s = if vs.length ≤ 16777216 then (allD vs).map fun ds => (.d (.list ds), s) else none := rfl
@[simp] theorem allD_rep (k : Nat) (x : PyData) : allD (List.replicate k (Vl.d x)) = some (List.replicate k x) := by
  have := allD_map (List.replicate k x)
  rwa [List.map_replicate] at this
theorem mkL_data (xs : List PyData) : mkL false (xs.map Vl.d) s = if xs.length ≤ 16777216 then some (.d (.list xs), s) else none := by
  unfold mkL
  rw [allD_map, List.length_map]
  rfl
theorem mkL_true : mkL true vs s = if vs.length ≤ 16777216 then some (.r s.length, s ++ [some (.lst vs)]) else none := rfl
@[simp] theorem w_list_t (xs : List PyData) : biV false .list [.d (.tuple xs)] s = if xs.length ≤ 16777216 then some (.d (.list xs), s) else none := by
  show (itemsV (.d (.tuple xs)) s).bind (fun l => mkL false l s) = _
  exact mkL_data xs
@[simp] theorem w_list_l (xs : List PyData) : biV false .list [.d (.list xs)] s = if xs.length ≤ 16777216 then some (.d (.list xs), s) else none := by
  show (itemsV (.d (.list xs)) s).bind (fun l => mkL false l s) = _
  exact mkL_data xs
@[simp] theorem w_repr (x : PyData) : biV m .repr [.d x] s = if x.showable = true ∧ x.shown.length ≤ 16777216 ∧ x.depth ≤ 100 ∧ (x.hasDict = false ∨ noLst x = true) then some (.d (.str x.shown), s) else none := rfl
@[simp] theorem w_str (i : Int) : biV m .str [.d (.int i)] s = if i.natAbs.log2 < 1920 then some (.d (.str (toString i)), s) else none := rfl
/-! ### operators -/
@[simp] theorem bin_add (i j : Int) : binV m .add (.d (.int i)) (.d (.int j)) s = some (.d (.int (i + j)), s) := rfl
@[simp] theorem bin_sub (i j : Int) : binV m .sub (.d (.int i)) (.d (.int j)) s = some (.d (.int (i - j)), s) := rfl
@[simp] theorem bin_mul (i j : Int) : binV m .mul (.d (.int i)) (.d (.int j)) s = if mulOk i j then some (.d (.int (i * j)), s) else none := by
  show (if mulOk i j then some (i * j) else none : Option Int).map (fun k => (Vl.d (.int k), s)) = _
  split <;> rfl
@[simp] theorem bin_mod (i j : Int) : binV m .mod (.d (.int i)) (.d (.int j)) s = if 0 < j then some (.d (.int (i % j)), s) else if j < 0 then some (.d (.int (i.fmod j)), s) else none := by
  show (if 0 < j then some (i % j) else if j < 0 then some (i.fmod j) else none : Option Int).map (fun k => (Vl.d (.int k), s)) = _
  split
  · rfl
  · split <;> rfl
@[simp] theorem bin_fdiv (i j : Int) : binV m .fdiv (.d (.int i)) (.d (.int j)) s = if 0 < j ∧ j.natAbs.log2 < 9000 then some (.d (.int (i / j)), s) else if j < 0 ∧ j.natAbs.log2 < 9000 then some (.d (.int (i.fdiv j)), s) else none := by
  show (if 0 < j ∧ j.natAbs.log2 < 9000 then some (i / j) else if j < 0 ∧ j.natAbs.log2 < 9000 then some (i.fdiv j) else none : Option Int).map (fun k => (Vl.d (.int k), s)) = _
  split
  · rfl
  · split <;> rfl
theorem bin_pow {i j k : Int} (h : binI .pow i j = some k) : binV m .pow (.d (.int i)) (.d (.int j)) s = some (.d (.int k), s) := by
  show (binI .pow i j).map _ = _
  rw [h]
  rfl
@[simp] theorem bin_tt (a b : List PyData) : binV m .add (.d (.tuple a)) (.d (.tuple b)) s = if a.length + b.length ≤ 16777216 then some (.d (.tuple (a ++ b)), s) else none := by
  show binD .add (.tuple a) (.tuple b) s = _
  simp [binD]
@[simp] theorem bin_ll (a b : List PyData) : binV false .add (.d (.list a)) (.d (.list b)) s = if a.length + b.length ≤ 16777216 then some (.d (.list (a ++ b)), s) else none := by
  show mkL false (a.map Vl.d ++ b.map Vl.d) s = _
  rw [← List.map_append, mkL_data, List.length_append]
@[simp] theorem bin_llm (a b : List PyData) : binV true .add (.d (.list a)) (.d (.list b)) s = mkL true ((a ++ b).map Vl.d) s := by
  show mkL true (a.map Vl.d ++ b.map Vl.d) s = _
  rw [← List.map_append]
@[simp] theorem bin_tm (a : List PyData) (j : Int) : binV m .mul (.d (.tuple a)) (.d (.int j)) s = if 2 ≤ j ∧ j ≤ 1000 ∧ a.length ≤ 1000 then some (.d (.tuple (List.replicate j.toNat a).flatten), s) else none := by
  show binD .mul (.tuple a) (.int j) s = _
  simp [binD]
@[simp] theorem mulOk_rs {i j : Int} (h : j.natAbs < 2 ^ 64) : mulOk i j ↔ True := ⟨fun _ => trivial, fun _ => .inr (.inl h)⟩
@[simp] theorem mulOk_ls {i j : Int} (h : i.natAbs < 2 ^ 64) : mulOk i j ↔ True := ⟨fun _ => trivial, fun _ => .inl h⟩
@[simp] theorem log2_s {j : Nat} (h : j < 2 ^ 64) : Nat.log2 j < 9000 ↔ True := by
  refine ⟨fun _ => trivial, fun _ => ?_⟩
  by_cases h0 : j = 0
  · subst h0; decide
  · exact Nat.lt_trans ((Nat.log2_lt h0).mpr h) (by decide)
theorem mulOk_r {i j : Int} (h : j.natAbs < 2 ^ 64) : mulOk i j := .inr (.inl h)
theorem mulOk_l {i j : Int} (h : i.natAbs < 2 ^ 64) : mulOk i j := .inl h
/-! ### comparisons -/
theorem eqD_str (i j : Str) : eqD (.str i) (.str j) = some (decide (i = j)) := rfl
@[simp] theorem c_eq (i j : Int) : cmpV .eq (.d (.int i)) (.d (.int j)) s = some (decide (i = j)) := eqD_int i j
@[simp] theorem c_ne (i j : Int) : cmpV .ne (.d (.int i)) (.d (.int j)) s = some (!decide (i = j)) := cmp_ne_int i j
@[simp] theorem c_lt (i j : Int) : cmpV .lt (.d (.int i)) (.d (.int j)) s = some (decide (i < j)) := rfl
@[simp] theorem c_le (i j : Int) : cmpV .le (.d (.int i)) (.d (.int j)) s = some (decide (i ≤ j)) := rfl
@[simp] theorem c_gt (i j : Int) : cmpV .gt (.d (.int i)) (.d (.int j)) s = some (decide (j < i)) := rfl
@[simp] theorem c_ge (i j : Int) : cmpV .ge (.d (.int i)) (.d (.int j)) s = some (decide (j ≤ i)) := rfl
@[simp] theorem c_eqb (i j : Bool) : cmpV .eq (.d (.bool i)) (.d (.bool j)) s = some (i == j) := rfl
@[simp] theorem c_eqs (i j : Str) : cmpV .eq (.d (.str i)) (.d (.str j)) s = some (decide (i = j)) := eqD_str i j
@[simp] theorem c_nes (i j : Str) : cmpV .ne (.d (.str i)) (.d (.str j)) s = some (!decide (i = j)) := by
  show (eqD (.str i) (.str j)).map (!·) = _
  rw [eqD_str]
  rfl
@[simp] theorem rng_nat (k : Nat) (h : k ≤ 1000000) : rngV 0 (k : Int) = some (.vals ((List.range k).map fun j : Nat => PyData.int j)) := by
  unfold rngV
  rw [if_pos (by omega)]
  simp
theorem rng_int {k : Int} (h0 : 0 ≤ k) (h : k ≤ 1000000) : rngV 0 k = some (.vals ((List.range k.toNat).map fun j : Nat => PyData.int j)) := by
  have := rng_nat k.toNat (by omega)
  rwa [Int.toNat_of_nonneg h0] at this
theorem rng1_ok {a : IE} {e : Sl} {k : Int} (ha : ev C a e s = .ok (.d (.int k)) t) (h0 : 0 ≤ k) (h : k ≤ 1000000) : itr C (.rng1 a) e s = .ok (.vals ((List.range k.toNat).map fun j : Nat => PyData.int j)) t := by
  rw [itr_rng1, ha, ok_bind, optI_int]
  show ofO (rngV 0 k) t = _
  rw [rng_int h0 h]
  rfl
theorem itv_t {a : IE} {e : Sl} {xs : List PyData} (ha : ev C a e s = .ok (.d (.tuple xs)) t) : itr C (.itv a) e s = .ok (.vals xs) t := by
  rw [itr_itv, ha]
  rfl
theorem itv_l {a : IE} {e : Sl} {xs : List PyData} (ha : ev C a e s = .ok (.d (.list xs)) t) : itr C (.itv a) e s = .ok (.vals xs) t := by
  rw [itr_itv, ha]
  rfl
@[simp] theorem itrV_t (xs : List PyData) : itrV (.d (.tuple xs)) s = some (.vals xs) := rfl
@[simp] theorem itrV_l (xs : List PyData) : itrV (.d (.list xs)) s = some (.vals xs) := rfl
@[simp] theorem zip_l (a b : List PyData) : zipV (.d (.list a)) (.d (.list b)) = some (.vals (List.zipWith (fun u v => PyData.tuple [u, v]) a b)) := rfl
@[simp] theorem enum_l (a : List PyData) : enumV (.d (.list a)) = some (.vals (a.zipIdx.map fun p => PyData.tuple [.int p.2, p.1])) := rfl
@[simp] theorem frz_d (x : PyData) : frzV (.d x) s = some (.d x, s) := rfl
@[simp] theorem sli_t (xs : List PyData) (lo hi : Option Int) : sliV m (.d (.tuple xs)) lo hi s = some (.d (.tuple (cutL xs lo hi)), s) := rfl
@[simp] theorem sli_l (xs : List PyData) (lo hi : Option Int) : sliV false (.d (.list xs)) lo hi s = if (cutL xs lo hi).length ≤ 16777216 then some (.d (.list (cutL xs lo hi)), s) else none := mkL_data _
@[simp] theorem rev_t (xs : List PyData) : revV m (.d (.tuple xs)) s = some (.d (.tuple xs.reverse), s) := rfl
@[simp] theorem rev_l (xs : List PyData) : revV false (.d (.list xs)) s = if xs.length ≤ 16777216 then some (.d (.list xs.reverse), s) else none := by
  show mkL false (xs.reverse.map Vl.d) s = _
  rw [mkL_data, List.length_reverse]
theorem cut_sub {α : Type} (xs : List α) (lo hi : Option Int) : (cutL xs lo hi).Sublist xs := (List.take_sublist _ _).trans (List.drop_sublist _ _)
theorem cut_to {α : Type} (xs : List α) {i : Int} (h0 : 0 ≤ i) : cutL xs none (some i) = xs.take i.toNat := by
  have e : HT.sIx xs.length xs.length (some i) = min i.toNat xs.length := by
    have := HT.sIx_nat xs.length xs.length i.toNat
    rwa [Int.toNat_of_nonneg h0] at this
  unfold cutL
  rw [e, HT.sIx_none, List.drop_zero, Nat.sub_zero]
  by_cases h : i.toNat ≤ xs.length
  · rw [Nat.min_eq_left h]
  · rw [Nat.min_eq_right (by omega), List.take_length, List.take_of_length_le (by omega)]
theorem cut_from {α : Type} (xs : List α) {i : Int} (h0 : 0 ≤ i) : cutL xs (some i) none = xs.drop i.toNat := by
  have e : HT.sIx xs.length 0 (some i) = min i.toNat xs.length := by
    have := HT.sIx_nat xs.length 0 i.toNat
    rwa [Int.toNat_of_nonneg h0] at this
  unfold cutL
  rw [e, HT.sIx_none]
  by_cases h : i.toNat ≤ xs.length
  · rw [Nat.min_eq_left h]
    exact List.take_of_length_le (by simp)
  · rw [Nat.min_eq_right (by omega), List.drop_of_length_le (Nat.le_refl _), List.drop_of_length_le (by omega)]
    simp
@[simp] theorem isT_tup (x : PyData) : isT .tuple (.d x) s = some (match x with | .tuple _ => true | _ => false) := by cases x <;> rfl
@[simp] theorem isT_int (x : PyData) : isT .int (.d x) s = some (match x with | .int _ => true | .bool _ => true | _ => false) := by cases x <;> rfl
@[simp] theorem isT_bool (x : PyData) : isT .bool (.d x) s = some (match x with | .bool _ => true | _ => false) := by cases x <;> rfl
@[simp] theorem isT_lst (x : PyData) : isT .list (.d x) s = some (match x with | .list _ => true | _ => false) := by cases x <;> rfl
/-- only the place n is another one -/
def Fr (n : Nat) (s t : Sto) : Prop := t.length = s.length ∧ ∀ j, j ≠ n → t[j]? = s[j]?
theorem Fr.refl : Fr n s s := ⟨rfl, fun _ _ => rfl⟩
theorem Fr.trans (a : Fr n s t) (b : Fr n t u) : Fr n s u := ⟨b.1.trans a.1, fun j h => (b.2 j h).trans (a.2 j h)⟩
theorem Fr.put : Fr n s (putL n vs s) := ⟨putL_length, fun j h => by unfold putL; rw [List.getElem?_set_ne (Ne.symm h)]⟩
theorem Fr.putr (a : Fr n s t) : Fr n s (putL n vs t) := a.trans .put
end
end SM

set_option maxHeartbeats 1000000
/-! SM: values that repr shows. -/
namespace SM
open PySem
mutual
/-- tuples of ints below 2 ^ b -/
def plB (b : Nat) : PyData → Bool
  | .int i => decide (i.natAbs < 2 ^ b)
  | .tuple xs => plBs b xs
  | _ => false
def plBs (b : Nat) : List PyData → Bool
  | [] => true
  | x :: xs => plB b x && plBs b xs
end
mutual
/-- what repr shows -/
def okB : PyData → Bool
  | .none | .bool _ => true
  | .int i => decide (i.natAbs < 2 ^ 1900)
  | .str x => x.cps.toList.all fun c => decide (c < 16 ^ 8)
  | .list xs | .tuple xs => okBs xs
  | .dict kvs => okKv kvs
def okBs : List PyData → Bool
  | [] => true
  | x :: xs => okB x && okBs xs
def okKv : List (PyData × PyData) → Bool
  | [] => true
  | (k, v) :: r => okB k && okB v && okKv r
end
theorem plBs_all {b : Nat} : ∀ {xs : List PyData}, plBs b xs = true ↔ ∀ x ∈ xs, plB b x = true
  | [] => by simp [plBs]
  | x :: xs => by simp [plBs, plBs_all (xs := xs)]
theorem okBs_all : ∀ {xs : List PyData}, okBs xs = true ↔ ∀ x ∈ xs, okB x = true
  | [] => by simp [okBs]
  | x :: xs => by simp [okBs, okBs_all (xs := xs)]
theorem noLsts_all : ∀ {xs : List PyData}, noLsts xs = true ↔ ∀ x ∈ xs, noLst x = true
  | [] => by simp [noLsts]
  | x :: xs => by simp [noLsts, noLsts_all (xs := xs)]
theorem noDicts_all : ∀ {xs : List PyData}, PyData.hasDictAll xs = false ↔ ∀ x ∈ xs, PyData.hasDict x = false
  | [] => by simp [PyData.hasDictAll]
  | x :: xs => by simp [PyData.hasDictAll, noDicts_all (xs := xs)]
mutual
theorem plB_ok {b : Nat} (hb : b ≤ 1900) : ∀ {x : PyData}, plB b x = true → okB x = true ∧ x.hasDict = false ∧ noLst x = true
  | .int i, h => by
    simp only [plB, decide_eq_true_eq] at h
    refine ⟨?_, rfl, rfl⟩
    simp only [okB, decide_eq_true_eq]
    exact Nat.lt_of_lt_of_le h (Nat.pow_le_pow_right (by decide) hb)
  | .tuple xs, h => plBs_ok hb (xs := xs) h
theorem plBs_ok {b : Nat} (hb : b ≤ 1900) : ∀ {xs : List PyData}, plBs b xs = true → okBs xs = true ∧ PyData.hasDictAll xs = false ∧ noLsts xs = true
  | [], _ => ⟨rfl, rfl, rfl⟩
  | x :: xs, h => by
    simp only [plBs, Bool.and_eq_true] at h
    obtain ⟨a1, a2, a3⟩ := plB_ok hb h.1
    obtain ⟨b1, b2, b3⟩ := plBs_ok hb h.2
    simp only [okBs, PyData.hasDictAll, noLsts, a1, a2, a3, b1, b2, b3]
    decide
end
mutual
theorem plB_mono {b c : Nat} (hb : b ≤ c) : ∀ {x : PyData}, plB b x = true → plB c x = true
  | .int i, h => by
    simp only [plB, decide_eq_true_eq] at h ⊢
    exact Nat.lt_of_lt_of_le h (Nat.pow_le_pow_right (by decide) hb)
  | .tuple xs, h => plBs_mono hb (xs := xs) h
theorem plBs_mono {b c : Nat} (hb : b ≤ c) : ∀ {xs : List PyData}, plBs b xs = true → plBs c xs = true
  | [], _ => rfl
  | x :: xs, h => by
    simp only [plBs, Bool.and_eq_true] at h ⊢
    exact ⟨plB_mono hb h.1, plBs_mono hb h.2⟩
end
theorem log2_1920 {i : Int} (h : i.natAbs < 2 ^ 1900) : i.natAbs.log2 < 1920 := by
  by_cases h0 : i.natAbs = 0
  · rw [h0]; decide
  · exact Nat.lt_trans ((Nat.log2_lt h0).mpr h) (by decide)
theorem int_short {i : Int} (h : i.natAbs < 2 ^ 1900) : (PyData.shown (.int i)).length ≤ 2000 := by
  have e := int_text_length_le (a := i) (k := 1920) (by decide) (log2_1920 h)
  show (Str.ofString (toString i)).length ≤ 2000
  rw [ofString_length]
  omega
mutual
theorem okB_shows : ∀ {x : PyData}, okB x = true → x.showable = true ∧ x.leavesShort 2000 = true
  | .none, _ => ⟨rfl, rfl⟩
  | .bool _, _ => ⟨rfl, rfl⟩
  | .int i, h => by
    simp only [okB, decide_eq_true_eq] at h
    exact ⟨by simp only [PyData.showable, decide_eq_true_eq]; exact log2_1920 h, by simp only [PyData.leavesShort, decide_eq_true_eq]; exact int_short h⟩
  | .str x, h => ⟨rfl, h⟩
  | .list xs, h => okBs_shows (xs := xs) h
  | .tuple xs, h => okBs_shows (xs := xs) h
  | .dict kvs, h => okKv_shows (kvs := kvs) h
theorem okBs_shows : ∀ {xs : List PyData}, okBs xs = true → PyData.showableAll xs = true ∧ PyData.leavesShortAll 2000 xs = true
  | [], _ => ⟨rfl, rfl⟩
  | x :: xs, h => by
    simp only [okBs, Bool.and_eq_true] at h
    obtain ⟨a1, a2⟩ := okB_shows h.1
    obtain ⟨b1, b2⟩ := okBs_shows h.2
    simp only [PyData.showableAll, PyData.leavesShortAll, a1, a2, b1, b2]
    decide
theorem okKv_shows : ∀ {kvs : List (PyData × PyData)}, okKv kvs = true → PyData.showableKv kvs = true ∧ PyData.leavesShortKv 2000 kvs = true
  | [], _ => ⟨rfl, rfl⟩
  | (k, v) :: r, h => by
    simp only [okKv, Bool.and_eq_true] at h
    obtain ⟨a1, a2⟩ := okB_shows h.1.1
    obtain ⟨b1, b2⟩ := okB_shows h.1.2
    obtain ⟨c1, c2⟩ := okKv_shows h.2
    simp only [PyData.showableKv, PyData.leavesShortKv, a1, a2, b1, b2, c1, c2]
    decide
end
/-- a value, of a size and a depth -/
structure Rp (N D : Nat) (x : PyData) : Prop where
  ok : okB x = true
  bk : x.bulk ≤ N
  dp : x.depth ≤ D
  hd : x.hasDict = false ∨ noLst x = true
theorem Rp.mono {N D N' D' : Nat} {x : PyData} (h : Rp N D x) (hN : N ≤ N') (hD : D ≤ D') : Rp N' D' x := ⟨h.ok, Nat.le_trans h.bk hN, Nat.le_trans h.dp hD, h.hd⟩
theorem Rp.shows {x : PyData} (h : Rp 8000 100 x) : x.showable = true ∧ x.shown.length ≤ 16777216 ∧ x.depth ≤ 100 ∧ (x.hasDict = false ∨ noLst x = true) := by
  obtain ⟨h1, h2⟩ := okB_shows h.ok
  refine ⟨h1, ?_, h.dp, h.hd⟩
  have := PyData.shown_le_bulk 2000 (by decide) x h2
  have h3 : (2000 + 2) * x.bulk ≤ 2002 * 8000 := Nat.mul_le_mul_left _ h.bk
  omega
def rpB (N D : Nat) (x : PyData) : Bool := (okB x && decide (x.bulk ≤ N)) && (decide (x.depth ≤ D) && (!x.hasDict || noLst x))
theorem rpB_rp {N D : Nat} {x : PyData} (h : rpB N D x = true) : Rp N D x := by
  simp only [rpB, Bool.and_eq_true, decide_eq_true_eq, Bool.or_eq_true, Bool.not_eq_true'] at h
  exact ⟨h.1.1, h.1.2, h.2.1, h.2.2⟩
/-- .. without lists and dicts -/
structure Pl (b N D : Nat) (x : PyData) : Prop where
  pl : plB b x = true
  bk : x.bulk ≤ N
  dp : x.depth ≤ D
theorem Pl.rp {b N D : Nat} {x : PyData} (h : Pl b N D x) (hb : b ≤ 1900) : Rp N D x := ⟨(plB_ok hb h.pl).1, h.bk, h.dp, .inl (plB_ok hb h.pl).2.1⟩
theorem Pl.mono {b N D b' N' D' : Nat} {x : PyData} (h : Pl b N D x) (hb : b ≤ b') (hN : N ≤ N') (hD : D ≤ D') : Pl b' N' D' x := ⟨plB_mono hb h.pl, Nat.le_trans h.bk hN, Nat.le_trans h.dp hD⟩
theorem bulk_app : ∀ (xs ys : List PyData), PyData.bulkAll (xs ++ ys) = PyData.bulkAll xs + PyData.bulkAll ys
  | [], ys => by simp [PyData.bulkAll]
  | x :: xs, ys => by simp only [List.cons_append, PyData.bulkAll, bulk_app xs ys]; omega
theorem depth_app : ∀ (xs ys : List PyData), PyData.depthAll (xs ++ ys) = max (PyData.depthAll xs) (PyData.depthAll ys)
  | [], ys => by simp [PyData.depthAll]
  | x :: xs, ys => by simp only [List.cons_append, PyData.depthAll, depth_app xs ys]; omega
theorem depth_le {D : Nat} : ∀ {xs : List PyData}, PyData.depthAll xs ≤ D ↔ ∀ x ∈ xs, x.depth ≤ D
  | [] => by simp [PyData.depthAll]
  | x :: xs => by
    have := depth_le (D := D) (xs := xs)
    simp only [PyData.depthAll, List.mem_cons, forall_eq_or_imp, ← this]
    omega
theorem bulk_le {N : Nat} : ∀ {xs : List PyData}, (∀ x ∈ xs, x.bulk ≤ N) → PyData.bulkAll xs ≤ xs.length * (N + 1)
  | [], _ => by simp [PyData.bulkAll]
  | x :: xs, h => by
    have h1 := h x List.mem_cons_self
    have h2 := bulk_le (N := N) (xs := xs) fun y hy => h y (List.mem_cons_of_mem _ hy)
    simp only [PyData.bulkAll, List.length_cons, Nat.add_mul, Nat.one_mul]
    omega
theorem bulk_mem {x : PyData} : ∀ {xs : List PyData}, x ∈ xs → x.bulk + 1 ≤ PyData.bulkAll xs
  | y :: xs, h => by
    rcases List.mem_cons.mp h with rfl | h
    · simp only [PyData.bulkAll]; omega
    · have := bulk_mem h
      simp only [PyData.bulkAll]; omega
/-- a tuple of plain things -/
theorem Pl.tup {b N D L : Nat} {xs : List PyData} (h : ∀ x ∈ xs, Pl b N D x) (hl : xs.length ≤ L) : Pl b (L * (N + 1)) (D + 1) (.tuple xs) :=
  ⟨plBs_all.mpr fun x hx => (h x hx).pl, Nat.le_trans (bulk_le fun x hx => (h x hx).bk) (Nat.mul_le_mul_right _ hl), Nat.succ_le_succ (depth_le.mpr fun x hx => (h x hx).dp)⟩
theorem Pl.int {b : Nat} {i : Int} (h : i.natAbs < 2 ^ b) : Pl b 0 0 (.int i) := ⟨by simpa [plB] using h, Nat.le_refl 0, Nat.le_refl 0⟩
theorem Pl.items {b N D : Nat} {xs : List PyData} (h : Pl b N D (.tuple xs)) : ∀ x ∈ xs, Pl b N D x := fun x hx =>
  ⟨plBs_all.mp h.pl x hx, Nat.le_trans (Nat.le_trans (Nat.le_succ _) (bulk_mem hx)) h.bk, Nat.le_trans (depth_le.mp (Nat.le_refl _) x hx) (Nat.le_of_succ_le h.dp)⟩
/-- a part of a tuple's items, a tuple again -/
theorem Pl.sub {b N D : Nat} {xs ys : List PyData} (h : Pl b N D (.tuple xs)) (hs : ys.Sublist xs) : Pl b N D (.tuple ys) := by
  have hb : PyData.bulkAll ys ≤ PyData.bulkAll xs := by
    clear h
    induction hs with
    | slnil => exact Nat.le_refl _
    | cons a _ ih => simp only [PyData.bulkAll]; omega
    | cons_cons a _ ih => simp only [PyData.bulkAll]; omega
  exact ⟨plBs_all.mpr fun x hx => plBs_all.mp h.pl x (hs.subset hx), Nat.le_trans hb h.bk, Nat.le_trans (Nat.succ_le_succ (depth_le.mpr fun x hx => depth_le.mp (Nat.le_refl _) x (hs.subset hx))) h.dp⟩
theorem Pl.app {b N D N' : Nat} {xs ys : List PyData} (h : Pl b N D (.tuple xs)) (g : Pl b N' D (.tuple ys)) : Pl b (N + N') D (.tuple (xs ++ ys)) := by
  refine ⟨plBs_all.mpr fun x hx => ?_, ?_, ?_⟩
  · rcases List.mem_append.mp hx with hx | hx
    · exact plBs_all.mp h.pl x hx
    · exact plBs_all.mp g.pl x hx
  · have h1 : PyData.bulkAll xs ≤ N := h.bk
    have h2 : PyData.bulkAll ys ≤ N' := g.bk
    show PyData.bulkAll _ ≤ _
    rw [bulk_app]; omega
  · have h1 : PyData.depthAll xs + 1 ≤ D := h.dp
    have h2 : PyData.depthAll ys + 1 ≤ D := g.dp
    show PyData.depthAll _ + 1 ≤ _
    rw [depth_app]; omega
theorem Pl.perm {b N D : Nat} {xs ys : List PyData} (h : Pl b N D (.tuple xs)) (hs : ys.Perm xs) : Pl b N D (.tuple ys) := by
  have hb : PyData.bulkAll ys = PyData.bulkAll xs := by
    clear h
    induction hs with
    | nil => rfl
    | cons a _ ih => simp only [PyData.bulkAll, ih]
    | swap a b l => simp only [PyData.bulkAll]; omega
    | trans _ _ ih1 ih2 => exact ih1.trans ih2
  exact ⟨plBs_all.mpr fun x hx => plBs_all.mp h.pl x (hs.subset hx), by show PyData.bulkAll ys ≤ N; rw [hb]; exact h.bk, Nat.le_trans (Nat.succ_le_succ (depth_le.mpr fun x hx => depth_le.mp (Nat.le_refl _) x (hs.subset hx))) h.dp⟩
theorem Pl.rep {b N D : Nat} {xs : List PyData} (h : Pl b N D (.tuple xs)) : ∀ k : Nat, Pl b (k * N) (max D 1) (.tuple (List.replicate k xs).flatten)
  | 0 => ⟨rfl, by simp [PyData.bulk, PyData.bulkAll], by simp [PyData.depth, PyData.depthAll]; omega⟩
  | k + 1 => by
    rw [List.replicate_succ, List.flatten_cons, Nat.add_mul, Nat.one_mul, Nat.add_comm]
    exact (h.mono (Nat.le_refl _) (Nat.le_refl _) (by omega)).app (h.rep k)
end SM

set_option maxHeartbeats 1000000
/-! plain: fractions of weights, their least common denominator. -/
namespace SM
open PySem
/-- w over S in lowest terms -/
def frO (w S : Int) : Int × Int := (w / (Int.gcd w S : Nat), S / (Int.gcd w S : Nat))
theorem gcd_pos {w S : Int} (h : 0 < S) : (1 : Int) ≤ (Int.gcd w S : Nat) := by
  have : 0 < Int.gcd w S := Int.gcd_pos_of_ne_zero_right _ (by omega)
  omega
theorem frO_w {w S : Int} (h : 0 < S) : (frO w S).1 * (Int.gcd w S : Nat) = w := Int.ediv_mul_cancel (Int.gcd_dvd_left ..)
theorem frO_S {w S : Int} (h : 0 < S) : (frO w S).2 * (Int.gcd w S : Nat) = S := Int.ediv_mul_cancel (Int.gcd_dvd_right ..)
theorem frO_cross {w S : Int} (h : 0 < S) : (frO w S).1 * S = w * (frO w S).2 := by
  have h1 := frO_w (w := w) h
  have h2 := frO_S (w := w) h
  calc (frO w S).1 * S = (frO w S).1 * ((frO w S).2 * (Int.gcd w S : Nat)) := by rw [h2]
    _ = ((frO w S).1 * (Int.gcd w S : Nat)) * (frO w S).2 := by rw [Int.mul_comm (frO w S).2, Int.mul_assoc]
    _ = w * (frO w S).2 := by rw [h1]
theorem frO_pos {w S : Int} (h : 0 < S) : 1 ≤ (frO w S).2 := by
  have h2 := frO_S (w := w) h
  have g := gcd_pos (w := w) h
  rcases Int.lt_or_le 0 (frO w S).2 with z | z
  · omega
  · have : (frO w S).2 * (Int.gcd w S : Nat) ≤ 0 := Int.mul_nonpos_of_nonpos_of_nonneg z (by omega)
    omega
theorem frO_nn {w S : Int} (h : 0 < S) (hw : 0 ≤ w) : 0 ≤ (frO w S).1 := Int.ediv_nonneg hw (by have := gcd_pos (w := w) h; omega)
theorem frO_dvd {w S : Int} (h : 0 < S) : (frO w S).2 ∣ S := ⟨_, (frO_S h).symm⟩
theorem frO_gcd {w S : Int} (h : 0 < S) : Int.gcd (frO w S).1 (frO w S).2 = 1 := by
  have g := gcd_pos (w := w) h
  exact Int.gcd_ediv_gcd_ediv_gcd (by omega)
theorem frO_zero {w S : Int} (h : 0 < S) : (frO w S).1 = 0 ↔ w = 0 := by
  have h1 := frO_w (w := w) h
  have g := gcd_pos (w := w) h
  constructor
  · intro z; rw [z] at h1; omega
  · intro z
    rw [z] at h1
    rcases Int.mul_eq_zero.mp h1 with e | e
    · rw [z]; exact e
    · rw [z] at g; omega
theorem frO_le {w S : Int} (h : 0 < S) : (frO w S).2 ≤ S := Int.le_of_dvd h (frO_dvd h)
theorem frO_abs {w S : Int} (h : 0 < S) : (frO w S).1.natAbs ≤ w.natAbs := Int.natAbs_ediv_le_natAbs ..
def frs (is : List Int) : List (Int × Int) := is.map fun w => frO w is.sum
/-- the least common multiple of what stands below -/
def lcmF : Int → List (Int × Int) → Int
  | L, [] => L
  | L, p :: r => lcmF (Int.lcm L p.2 : Nat) r
theorem lcmF_dvd {S : Int} : ∀ {ps : List (Int × Int)} {L : Int}, L ∣ S → (∀ p ∈ ps, p.2 ∣ S) → lcmF L ps ∣ S
  | [], _, h, _ => h
  | p :: r, L, h, hp => by
    show lcmF (Int.lcm L p.2 : Nat) r ∣ S
    exact lcmF_dvd (Int.coe_lcm_dvd h (hp p List.mem_cons_self)) fun q hq => hp q (List.mem_cons_of_mem _ hq)
theorem lcmF_ge : ∀ {ps : List (Int × Int)} {L : Int}, L ∣ lcmF L ps
  | [], _ => Int.dvd_refl _
  | p :: r, L => Int.dvd_trans (Int.dvd_lcm_left (a:=L) (b:=p.2)) (lcmF_ge (ps := r))
theorem lcmF_of : ∀ {ps : List (Int × Int)} {L : Int}, ∀ p ∈ ps, p.2 ∣ lcmF L ps
  | [], _, _, h => by cases h
  | p :: r, L, q, h => by
    rcases List.mem_cons.mp h with rfl | h
    · exact Int.dvd_trans (Int.dvd_lcm_right (a:=L) (b:=q.2)) (lcmF_ge (ps := r))
    · exact lcmF_of (ps := r) q h
/-! ### sums over 0, 1, .. -/
def sumR (f : Nat → Int) (n : Nat) : Int := ((List.range n).map f).sum
@[simp] theorem sumR_zero (f : Nat → Int) : sumR f 0 = 0 := rfl
theorem sumR_succ (f : Nat → Int) (n : Nat) : sumR f (n + 1) = sumR f n + f n := by simp [sumR, List.range_succ]
theorem sumR_congr {f g : Nat → Int} : ∀ {n : Nat}, (∀ k, k < n → f k = g k) → sumR f n = sumR g n
  | 0, _ => rfl
  | n + 1, h => by rw [sumR_succ, sumR_succ, sumR_congr (n := n) (fun k hk => h k (by omega)), h n (by omega)]
theorem sumR_mul (f : Nat → Int) (c : Int) : ∀ n, sumR (fun k => f k * c) n = sumR f n * c
  | 0 => by simp
  | n + 1 => by rw [sumR_succ, sumR_succ, sumR_mul f c n, Int.add_mul]
theorem sumR_sub (f g : Nat → Int) : ∀ n, sumR (fun k => f k - g k) n = sumR f n - sumR g n
  | 0 => by simp
  | n + 1 => by rw [sumR_succ, sumR_succ, sumR_succ, sumR_sub f g n]; omega
theorem sumR_nn {f : Nat → Int} : ∀ {n : Nat}, (∀ k, k < n → 0 ≤ f k) → 0 ≤ sumR f n
  | 0, _ => by simp
  | n + 1, h => by
    have h1 := sumR_nn (n := n) fun k hk => h k (by omega)
    have h2 := h n (by omega)
    rw [sumR_succ]; omega
theorem sumR_eq0 {f : Nat → Int} : ∀ {n : Nat}, (∀ k, k < n → 0 ≤ f k) → (sumR f n = 0 ↔ ∀ k, k < n → f k = 0)
  | 0, _ => by simp
  | n + 1, h => by
    have h0 : ∀ k, k < n → 0 ≤ f k := fun k hk => h k (by omega)
    have h1 := sumR_nn h0
    have h2 := h n (by omega)
    have ih := sumR_eq0 h0
    rw [sumR_succ]
    constructor
    · intro z k hk
      have z1 : sumR f n = 0 := by omega
      by_cases e : k = n
      · subst e; omega
      · exact ih.mp z1 k (by omega)
    · intro z
      rw [ih.mpr fun k hk => z k (by omega), z n (by omega)]
      rfl
theorem sumR_abs {f : Nat → Int} {B : Nat} : ∀ {n : Nat}, (∀ k, k < n → (f k).natAbs ≤ B) → (sumR f n).natAbs ≤ n * B
  | 0, _ => by simp
  | n + 1, h => by
    have h1 := sumR_abs (n := n) fun k hk => h k (by omega)
    have h2 := h n (by omega)
    rw [sumR_succ, Nat.add_mul]; omega
theorem range_getD {α : Type} (d : α) (xs : List α) : (List.range xs.length).map (fun k => xs.getD k d) = xs := by
  refine List.ext_getElem (by simp) fun i h1 h2 => ?_
  simp [List.getD_eq_getElem?_getD, h2]
theorem sum_sumR (xs : List Int) : xs.sum = sumR (fun k => xs.getD k 0) xs.length := by
  unfold sumR
  rw [range_getD]
theorem map_range {α β : Type} (d : α) (f : α → β) (xs : List α) : xs.map f = (List.range xs.length).map fun k => f (xs.getD k d) := by
  conv => lhs; rw [← range_getD d xs]
  rw [List.map_map]
  rfl
theorem getD_lt {α : Type} {d : α} {xs : List α} {i : Nat} (h : i < xs.length) : xs.getD i d = xs[i] := by simp [List.getD_eq_getElem?_getD, h]
theorem getD_mem {α : Type} {d : α} {xs : List α} {i : Nat} (h : i < xs.length) : xs.getD i d ∈ xs := by rw [getD_lt h]; exact List.getElem_mem _
theorem zipIdx_range {α β : Type} (d : α) (f : α × Nat → β) (xs : List α) : xs.zipIdx.map f = (List.range xs.length).map fun k => f (xs.getD k d, k) := by
  refine List.ext_getElem (by simp) fun i h1 h2 => ?_
  have h3 : i < xs.length := by simpa using h2
  simp [List.getD_eq_getElem?_getD, h3]
/-! ### what choices get -/
def dot (P : Nat → Nat → Int) (o : Nat) (ws : List Int) : Int := sumR (fun k => ws.getD k 0 * P o k) ws.length
theorem getD_map0 (c : Int) (ns : List Int) (k : Nat) : (ns.map (· * c)).getD k 0 = ns.getD k 0 * c := by
  simp only [List.getD_eq_getElem?_getD, List.getElem?_map]
  cases ns[k]? <;> simp
theorem dot_scale (P : Nat → Nat → Int) (o : Nat) (c : Int) (ns : List Int) : dot P o (ns.map (· * c)) = dot P o ns * c := by
  unfold dot
  rw [List.length_map, ← sumR_mul]
  refine sumR_congr fun k _ => ?_
  rw [getD_map0, Int.mul_assoc, Int.mul_assoc, Int.mul_comm c]
theorem sum_scale (c : Int) (ns : List Int) : (ns.map (· * c)).sum = ns.sum * c := by
  rw [sum_sumR, sum_sumR, List.length_map, ← sumR_mul]
  exact sumR_congr fun k _ => getD_map0 c ns k
/-- the greatest of a list of numbers -/
theorem maxL_some : ∀ {xs : List Int}, xs ≠ [] → ∃ m, maxL xs = some m ∧ m ∈ xs ∧ ∀ x ∈ xs, x ≤ m
  | [], h => absurd rfl h
  | [a], _ => ⟨a, rfl, by simp, by simp⟩
  | a :: b :: r, _ => by
    obtain ⟨m, h1, h2, h3⟩ := maxL_some (xs := b :: r) (by simp)
    refine ⟨max a m, ?_, ?_, ?_⟩
    · show (match maxL (b :: r) with
        | none => some a
        | some m => some (if m > a then m else a)) = _
      rw [h1]
      simp only
      congr 1
      omega
    · rcases Int.le_total a m with h | h
      · rw [Int.max_eq_right h]; exact List.mem_cons_of_mem _ h2
      · rw [Int.max_eq_left h]; exact List.mem_cons_self
    · intro x hx
      rcases List.mem_cons.mp hx with rfl | hx
      · omega
      · have := h3 x hx; omega
def mxO (f : Nat → Int) (m : Nat) : Int := (maxL ((List.range m).map f)).getD 0
theorem mxO_of {f : Nat → Int} {m : Nat} (h : 1 ≤ m) : maxL ((List.range m).map f) = some (mxO f m) ∧ (∃ o, o < m ∧ mxO f m = f o) ∧ ∀ o, o < m → f o ≤ mxO f m := by
  obtain ⟨x, h1, h2, h3⟩ := maxL_some (xs := (List.range m).map f) (by simp; omega)
  have e : mxO f m = x := by simp [mxO, h1]
  rw [e]
  refine ⟨h1, ?_, fun o ho => h3 _ (List.mem_map.mpr ⟨o, by simpa using ho, rfl⟩)⟩
  obtain ⟨o, ho, rfl⟩ := List.mem_map.mp h2
  exact ⟨o, by simpa using ho, rfl⟩
theorem mxO_scale {f : Nat → Int} {m : Nat} (h : 1 ≤ m) {c : Int} (hc : 0 < c) : mxO (fun o => f o * c) m = mxO f m * c := by
  obtain ⟨_, ⟨o, ho, e⟩, g⟩ := mxO_of (f := f) h
  obtain ⟨_, ⟨o', ho', e'⟩, g'⟩ := mxO_of (f := fun o => f o * c) h
  refine Int.le_antisymm ?_ ?_
  · rw [e']
    exact Int.mul_le_mul_of_nonneg_right (g o' ho') (by omega)
  · rw [e]
    exact g' o ho
/-- all that has a part is best -/
def Bst (P : Nat → Nat → Int) (us ws : List Int) : Prop := ∀ k, k < us.length → us.getD k 0 ≠ 0 → dot P k ws = mxO (fun o => dot P o ws) us.length
theorem gain_zero {P : Nat → Nat → Int} {us ws : List Int} (h1 : 1 ≤ us.length) (hu : ∀ u ∈ us, 0 ≤ u) :
    sumR (fun k => us.getD k 0 * dot P k ws) us.length = mxO (fun o => dot P o ws) us.length * us.sum ↔ Bst P us ws := by
  obtain ⟨_, _, g⟩ := mxO_of (f := fun o => dot P o ws) h1
  unfold Bst
  generalize mxO (fun o => dot P o ws) us.length = M at g ⊢
  have k1 : M * us.sum - sumR (fun k => us.getD k 0 * dot P k ws) us.length = sumR (fun k => us.getD k 0 * (M - dot P k ws)) us.length := by
    rw [sum_sumR, Int.mul_comm M, ← sumR_mul, ← sumR_sub]
    exact sumR_congr fun k _ => (Int.mul_sub ..).symm
  have k2 := sumR_eq0 (f := fun k => us.getD k 0 * (M - dot P k ws)) (n := us.length) fun k hk => Int.mul_nonneg (hu _ (getD_mem hk)) (by have := g k hk; omega)
  have k3 : sumR (fun k => us.getD k 0 * dot P k ws) us.length = M * us.sum ↔ sumR (fun k => us.getD k 0 * (M - dot P k ws)) us.length = 0 := by omega
  rw [k3, k2]
  refine ⟨fun h k hk hn => ?_, fun h k hk => ?_⟩
  · rcases Int.mul_eq_zero.mp (h k hk) with z | z
    · exact absurd z hn
    · omega
  · by_cases z : us.getD k 0 = 0
    · rw [z]; simp
    · rw [h k hk z, Int.sub_self, Int.mul_zero]
end SM

set_option maxHeartbeats 1000000
/-! plain: games as lists of lists of numbers; loops by places. -/
namespace SM
open PySem
def rowD (r : List Int) : PyData := .tuple (r.map .int)
def tabD (A : List (List Int)) : PyData := .tuple (A.map rowD)
def gD (A B : List (List Int)) : PyData := .tuple [tabD A, tabD B]
def inB (x : Int) : Prop := -1000 ≤ x ∧ x ≤ 1000
def rwOk (C : Nat) (r : List Int) : Prop := r.length = C ∧ ∀ x ∈ r, inB x
structure Gv (A B : List (List Int)) (R C : Nat) : Prop where
  ra : A.length = R
  rb : B.length = R
  ca : ∀ r ∈ A, rwOk C r
  cb : ∀ r ∈ B, rwOk C r
  r1 : 1 ≤ R
  r5 : R ≤ 5
  c1 : 1 ≤ C
  c5 : C ≤ 5
def gt (A : List (List Int)) (i j : Nat) : Int := (A.getD i []).getD j 0
def pay (A B : List (List Int)) (sd own oth : Nat) : Int := if sd = 0 then gt A own oth else gt B oth own
def mn (R C sd : Nat) : Nat := if sd = 0 then R else C
@[simp] theorem mn0 (R C : Nat) : mn R C 0 = R := rfl
@[simp] theorem mn1 (R C : Nat) : mn R C 1 = C := rfl
theorem gt_in {A : List (List Int)} {C i j : Nat} (h : ∀ r ∈ A, rwOk C r) (hi : i < A.length) (hj : j < C) : inB (gt A i j) := by
  have h1 := h _ (getD_mem (d := []) hi)
  exact h1.2 _ (getD_mem (by rw [h1.1]; exact hj))
theorem gt_abs {x : Int} (h : inB x) : x.natAbs ≤ 1000 := by obtain ⟨h1, h2⟩ := h; omega
section
variable {C : Cal} {n : Nat} {s t : Sto} {m : Bool} {e : Sl} {A B : List (List Int)} {r : List Int}
theorem at_row {i : Nat} (h : i < A.length) : L2.atI (A.map rowD) (i : Int) = some (rowD (A.getD i [])) := by rw [atI_nat (by simpa using h), getD_lt h]; simp
theorem at_int {i : Nat} (h : i < r.length) : L2.atI (r.map PyData.int) (i : Int) = some (.int (r.getD i 0)) := by rw [atI_nat (by simpa using h), getD_lt h]; simp
@[simp] theorem idx_tab (i : Int) : idxV (.d (tabD A)) (.d (.int i)) s = (L2.atI (A.map rowD) i).map fun x => (.d x, s) := idxV_t ..
@[simp] theorem idx_row (i : Int) : idxV (.d (rowD r)) (.d (.int i)) s = (L2.atI (r.map PyData.int) i).map fun x => (.d x, s) := idxV_t ..
@[simp] theorem idx_g0 : idxV (.d (gD A B)) (.d (.int 0)) s = some (.d (tabD A), s) := by unfold gD; simp
@[simp] theorem idx_g1 : idxV (.d (gD A B)) (.d (.int 1)) s = some (.d (tabD B), s) := by unfold gD; simp
@[simp] theorem len_tab : biV m .len [.d (tabD A)] s = some (.d (.int A.length), s) := by unfold tabD; simp
@[simp] theorem len_row : biV m .len [.d (rowD r)] s = some (.d (.int r.length), s) := by unfold rowD; simp
@[simp] theorem itr_tab : itrV (.d (tabD A)) s = some (.vals (A.map rowD)) := rfl
@[simp] theorem itr_row : itrV (.d (rowD r)) s = some (.vals (r.map .int)) := rfl
@[simp] theorem max_l (is : List Int) : biV m .max [.d (.list (is.map .int))] s = (maxL is).map fun k => (.d (.int k), s) := by
  show ((dataV (.d (.list (is.map .int))) s).bind ints?).bind _ = _
  have h : dataV (.d (.list (is.map .int))) s = some (is.map .int) := allD_map _
  rw [h]
  show (ints? (is.map .int)).bind _ = _
  rw [w_ints, Option.bind_some]
@[simp] theorem max_row : biV m .max [.d (rowD r)] s = (maxL r).map fun k => (.d (.int k), s) := by
  show ((dataV (.d (.tuple (r.map .int))) s).bind ints?).bind _ = _
  have h : dataV (.d (.tuple (r.map .int))) s = some (r.map .int) := allD_map _
  rw [h]
  show (ints? (r.map .int)).bind _ = _
  rw [w_ints, Option.bind_some]
@[simp] theorem ev_lrg (m : Bool) (a : IE) : ev C (.lrg m a) e s = (ev C a e s).bind fun x s => ofP (lrgV m x s) := rfl
@[simp] theorem lrg_nat {k : Nat} (h : k ≤ 1000000) : lrgV false (.d (.int k)) s = some (.d (.list ((List.range k).map fun i : Nat => .int i)), s) := by
  unfold lrgV
  simp only
  rw [if_pos (by omega)]
  show mkL false ((List.range (Int.toNat k)).map ((Vl.d) ∘ fun i : Nat => PyData.int i)) s = _
  rw [← List.map_map, mkL_data, if_pos (by simp; omega)]
  simp
def meR (C : Cal) (f : Me) (es : IE) (e : Sl) (o : Vl) (s : Sto) : Rs Vl := match listV o s with
  | some _ => (evs C es e s).bind fun xs s => ofP (meV f o xs s)
  | none => .no
@[simp] theorem ev_me (f : Me) (o es : IE) : ev C (.me f o es) e s = (ev C o e s).bind (meR C f es e) := by
  show (ev C o e s).bind _ = _
  congr 1
  funext o s
  unfold meR
  cases listV o s <;> rfl
theorem meR_r {f : Me} {es : IE} {vs : List Vl} (h : listAt n s = some vs) : meR C f es e (.r n) s = (evs C es e s).bind fun xs s => ofP (meV f (.r n) xs s) := by
  unfold meR
  show (match listAt n s with
    | some _ => (evs C es e s).bind fun xs s => ofP (meV f (.r n) xs s)
    | none => .no) = _
  rw [h]
@[simp] theorem meR_new {f : Me} {es : IE} {vs : List Vl} : meR C f es e (.r s.length) (s ++ [some (.lst vs)]) = (evs C es e (s ++ [some (.lst vs)])).bind fun xs t => ofP (meV f (.r s.length) xs t) := meR_r listAt_new
theorem app_r {vs : List Vl} {v : Vl} (h : listAt n s = some vs) (hl : vs.length < 16777216) : meV .append (.r n) [v] s = some (.d .none, putL n (vs ++ [v]) s) := by
  show (listAt n s).bind _ = _
  rw [h, Option.bind_some, if_pos hl]
theorem app_new {vs : List Vl} {v : Vl} (hl : vs.length < 16777216) : meV .append (.r s.length) [v] (s ++ [some (.lst vs)]) = some (.d .none, s ++ [some (.lst (vs ++ [v]))]) := by
  rw [app_r listAt_new hl, putL_new]
theorem frz_r {xs : List PyData} (h : listAt n s = some (xs.map Vl.d)) : frzV (.r n) s = some (.d (.list xs), s.set n none) := by
  show (listAt n s).bind _ = _
  rw [h, Option.bind_some, frzL_data, Option.bind_some]
  show (listAt n s).map _ = _
  rw [h]
  rfl
theorem frz_new {xs : List PyData} : frzV (.r s.length) (s ++ [some (.lst (xs.map Vl.d))]) = some (.d (.list xs), s ++ [none]) := by
  rw [frz_r listAt_new]
  simp
/-- [elt for x in xs], pure, over things told as data -/
theorem comp_on {α : Type} {elt tg it : IE} {own : List Nat} {xs : List α} (g f : α → PyData) (hi : itr C it e s = .ok (.vals (xs.map g)) s) (hl : xs.length ≤ 16777216)
    (ht : ∀ a ∈ xs, ∃ e1, setTgV tg (.d (g a)) (wipe e own) = some e1 ∧ ev C elt e1 s = .ok (.d (f a)) s) : ev C (.comp false elt tg it .nil own) e s = .ok (.d (.list (xs.map f))) s := by
  show ((itr C it e s).bind fun I s => (noex (cmI (turnF C elt tg .nil (wipe e own)) I s)).bind fun vs s => ofP (mkL false vs s)) = _
  rw [hi]
  show ((noex (cmL (turnF C elt tg .nil (wipe e own)) (xs.map g) s)).bind fun vs s => ofP (mkL false vs s)) = _
  have key : ∀ ys : List α, (∀ a ∈ ys, a ∈ xs) → cmL (turnF C elt tg .nil (wipe e own)) (ys.map g) s = .ok ((ys.map f).map Vl.d) s := by
    intro ys
    induction ys with
    | nil => intro _; rfl
    | cons a r ih =>
      intro hm
      obtain ⟨e1, h1, h2⟩ := ht a (hm a List.mem_cons_self)
      have tn : turnF C elt tg .nil (wipe e own) (.d (g a)) s = .ok (some (.d (f a))) s := by
        unfold turnF
        rw [h1]
        show (ev C elt e1 s).bind _ = _
        rw [h2]
        rfl
      show (turnF C elt tg .nil (wipe e own) (.d (g a)) s).bind _ = _
      rw [tn]
      show (cmL (turnF C elt tg .nil (wipe e own)) (r.map g) s).bind _ = _
      rw [ih fun x hx => hm x (List.mem_cons_of_mem _ hx)]
      rfl
  rw [key xs fun _ h => h]
  show ofP (mkL false ((xs.map f).map Vl.d) s) = _
  rw [mkL_data, if_pos (by simpa using hl)]
  rfl
/-- [elt for x in xs if c], pure, over things told as data -/
theorem filter_on {α : Type} {elt tg it c : IE} {own : List Nat} {xs : List α} (g f : α → PyData) (p : α → Bool) (hi : itr C it e s = .ok (.vals (xs.map g)) s) (hl : xs.length ≤ 16777216)
    (ht : ∀ a ∈ xs, ∃ e1, setTgV tg (.d (g a)) (wipe e own) = some e1 ∧ evT C c e1 s = .ok (p a) s ∧ (p a = true → ev C elt e1 s = .ok (.d (f a)) s)) : ev C (.comp false elt tg it (.cons c .nil) own) e s = .ok (.d (.list ((xs.filter p).map f))) s := by
  show ((itr C it e s).bind fun I s => (noex (cmI (turnF C elt tg (.cons c .nil) (wipe e own)) I s)).bind fun vs s => ofP (mkL false vs s)) = _
  rw [hi]
  show ((noex (cmL (turnF C elt tg (.cons c .nil) (wipe e own)) (xs.map g) s)).bind fun vs s => ofP (mkL false vs s)) = _
  have key : ∀ ys : List α, (∀ a ∈ ys, a ∈ xs) → cmL (turnF C elt tg (.cons c .nil) (wipe e own)) (ys.map g) s = .ok (((ys.filter p).map f).map Vl.d) s := by
    intro ys
    induction ys with
    | nil => intro _; rfl
    | cons a r ih =>
      intro hm
      obtain ⟨e1, h1, h2, h3⟩ := ht a (hm a List.mem_cons_self)
      have tn : turnF C elt tg (.cons c .nil) (wipe e own) (.d (g a)) s = .ok (if p a = true then some (.d (f a)) else none) s := by
        unfold turnF
        rw [h1]
        show (evT C c e1 s).bind _ = _
        rw [h2]
        cases q : p a with
        | false => rfl
        | true =>
          show (ev C elt e1 s).bind _ = _
          rw [h3 q]
          rfl
      show (turnF C elt tg (.cons c .nil) (wipe e own) (.d (g a)) s).bind _ = _
      rw [tn]
      show (cmL (turnF C elt tg (.cons c .nil) (wipe e own)) (r.map g) s).bind _ = _
      rw [ih fun x hx => hm x (List.mem_cons_of_mem _ hx)]
      cases q : p a <;> simp [q]
  rw [key xs fun _ h => h]
  show ofP (mkL false (((xs.filter p).map f).map Vl.d) s) = _
  rw [mkL_data, if_pos (by have := List.length_filter_le p xs; simp; omega)]
  rfl
/-- a loop by places -/
theorem Sw_goN {t : Vl → Sl → Sto → Fl} {P : Pt} (J : Nat → Sl → Sto → Prop) {xs : List PyData} (step : ∀ j (h : j < xs.length) e s, J j e s → Sw (t (.d xs[j]) e s) ⟨J (j + 1), P.r, P.n, J (j + 1), P.x⟩) (last : ∀ e s, J xs.length e s → P.n e s) {e : Sl} {s : Sto} (h0 : J 0 e s) : Sw (goL t xs e s) P := by
  refine Sw_goL (fun r e s => ∃ j, r = xs.drop j ∧ j ≤ xs.length ∧ J j e s) (fun x r e s ⟨j, hr, hj, h⟩ => ?_) (fun e s ⟨j, hr, hj, h⟩ => ?_) ⟨0, by simp, by omega, h0⟩
  · have hlt : j < xs.length := by
      rcases Nat.lt_or_ge j xs.length with z | z
      · exact z
      · rw [List.drop_eq_nil_of_le z] at hr; cases hr
    rw [List.drop_eq_getElem_cons hlt] at hr
    injection hr with e1 e2
    subst e1
    have hs := step j hlt e s h
    exact hs.mono (fun e s q => ⟨j + 1, e2, hlt, q⟩) (fun _ _ q => q) (fun _ _ q => q) (fun e s q => ⟨j + 1, e2, hlt, q⟩) fun _ _ _ _ q => q
  · have hge : xs.length ≤ j := by
      rcases Nat.lt_or_ge j xs.length with z | z
      · rw [List.drop_eq_getElem_cons z] at hr; cases hr
      · exact z
    have : j = xs.length := by omega
    subst this
    exact last e s h
theorem Sw_goR {t : Vl → Sl → Sto → Fl} {P : Pt} (k : Nat) (J : Nat → Sl → Sto → Prop) (step : ∀ j, j < k → ∀ e s, J j e s → Sw (t (.d (.int j)) e s) ⟨J (j + 1), P.r, P.n, J (j + 1), P.x⟩) (last : ∀ e s, J k e s → P.n e s) {e : Sl} {s : Sto} (h0 : J 0 e s) : Sw (goL t ((List.range k).map fun j : Nat => PyData.int j) e s) P := by
  refine Sw_goN J (fun j h e s q => ?_) (fun e s q => last e s (by simpa using q)) h0
  have hj : j < k := by simpa using h
  simp only [List.getElem_map, List.getElem_range]
  exact step j hj e s q
end
end SM

set_option maxHeartbeats 1000000
/-! plain: mixes of weights, as numbers over one number. -/
namespace SM
open PySem
structure Wt (ws : List Int) (c : Nat) : Prop where
  len : ws.length = c
  c5 : c ≤ 5
  rg : ∀ w ∈ ws, 0 ≤ w ∧ w < 2 ^ 1480
  pos : 0 < ws.sum
def frD (p : Int × Int) : PyData := .tuple [.int p.1, .int p.2]
def mixD (ws : List Int) : PyData := .tuple ((frs ws).map frD)
def lc (ws : List Int) : Int := lcmF 1 (frs ws)
def nsO (ws : List Int) : List Int := (frs ws).map fun p => p.1 * (lc ws / p.2)
def cO (ws : List Int) : Int := ws.sum / lc ws
theorem sum_lt5 {is : List Int} (h : ∀ i ∈ is, 0 ≤ i ∧ i < 2 ^ 1480) : is.sum ≤ is.length * 2 ^ 1480 := by
  induction is with
  | nil => simp
  | cons a is ih =>
    have ha := h a List.mem_cons_self
    have := ih fun j hj => h j (List.mem_cons_of_mem _ hj)
    simp only [List.sum_cons, List.length_cons]
    generalize (2 : Int) ^ 1480 = X at *
    have e : ((is.length + 1 : Nat) : Int) * X = is.length * X + X := by rw [Int.natCast_add, Int.add_mul]; simp
    rw [e]
    omega
section
variable {ws : List Int} {c : Nat}
theorem Wt.lt (h : Wt ws c) : ws.sum.natAbs < 2 ^ 1483 := by
  have h1 := sum_lt5 h.rg
  have h5 : (ws.length : Int) * 2 ^ 1480 ≤ 5 * 2 ^ 1480 := Int.mul_le_mul_of_nonneg_right (by have := h.len; have := h.c5; omega) (by decide +kernel)
  have e : (5 * 2 ^ 1480 : Int) < 2 ^ 1483 := by decide +kernel
  have := h.pos
  omega
theorem lcmF_pos : ∀ {ps : List (Int × Int)} {L : Int}, 0 < L → (∀ p ∈ ps, 1 ≤ p.2) → 0 < lcmF L ps
  | [], _, h, _ => h
  | p :: r, L, h, hp => by
    show 0 < lcmF (Int.lcm L p.2 : Nat) r
    refine lcmF_pos ?_ fun q hq => hp q (List.mem_cons_of_mem _ hq)
    have := hp p List.mem_cons_self
    have : 0 < Int.lcm L p.2 := Int.lcm_pos (by omega) (by omega)
    omega
theorem Wt.frs_mem (h : Wt ws c) {p : Int × Int} (hp : p ∈ frs ws) : ∃ w ∈ ws, p = frO w ws.sum := by
  obtain ⟨w, hw, e⟩ := List.mem_map.mp hp
  exact ⟨w, hw, e.symm⟩
theorem Wt.frs_pos (h : Wt ws c) : ∀ p ∈ frs ws, 1 ≤ p.2 ∧ p.2 ∣ ws.sum := fun p hp => by
  obtain ⟨w, hw, rfl⟩ := h.frs_mem hp
  exact ⟨frO_pos h.pos, frO_dvd h.pos⟩
theorem Wt.lc_pos (h : Wt ws c) : 0 < lc ws := lcmF_pos (by decide) fun p hp => (h.frs_pos p hp).1
theorem Wt.lc_dvd (h : Wt ws c) : lc ws ∣ ws.sum := lcmF_dvd ⟨_, (Int.one_mul _).symm⟩ fun p hp => (h.frs_pos p hp).2
theorem Wt.lc_mul (h : Wt ws c) : lc ws * cO ws = ws.sum := Int.mul_ediv_cancel' h.lc_dvd
theorem Wt.c_pos (h : Wt ws c) : 0 < cO ws := by
  have h1 := h.lc_mul
  have h2 := h.lc_pos
  have h3 := h.pos
  rcases Int.lt_or_le 0 (cO ws) with z | z
  · exact z
  · have : lc ws * cO ws ≤ 0 := Int.mul_nonpos_of_nonneg_of_nonpos (by omega) z
    omega
theorem Wt.ns_mul (h : Wt ws c) : ws = (nsO ws).map (· * cO ws) := by
  unfold nsO frs
  rw [List.map_map, List.map_map]
  conv => lhs; rw [← List.map_id ws]
  refine List.map_congr_left fun w hw => ?_
  have hp : frO w ws.sum ∈ frs ws := List.mem_map.mpr ⟨w, hw, rfl⟩
  have d : (frO w ws.sum).2 ∣ lc ws := lcmF_of _ hp
  have d1 := frO_pos (w := w) h.pos
  have cr := frO_cross (w := w) h.pos
  have lm := h.lc_mul
  obtain ⟨q, hq⟩ := d
  have e : lc ws / (frO w ws.sum).2 = q := by rw [hq]; exact Int.mul_ediv_cancel_left q (by omega)
  show w = (frO w ws.sum).1 * (lc ws / (frO w ws.sum).2) * cO ws
  rw [e]
  clear e hp
  generalize (frO w ws.sum).2 = b at *
  generalize (frO w ws.sum).1 = a at *
  generalize cO ws = k at *
  refine Int.eq_of_mul_eq_mul_right (a := b) (by omega) ?_
  rw [← cr, ← lm, hq]
  ac_rfl
theorem Wt.ns_sum (h : Wt ws c) : (nsO ws).sum = lc ws := by
  have h1 := h.lc_mul
  have h2 : ws.sum = (nsO ws).sum * cO ws := by
    conv => lhs; rw [h.ns_mul]
    exact sum_scale _ _
  have h3 := h.c_pos
  exact Int.eq_of_mul_eq_mul_right (a := cO ws) (by omega) (by rw [← h2, h1])
theorem ns_len : (nsO ws).length = ws.length := by simp [nsO, frs]
theorem Wt.ns_nn (h : Wt ws c) : ∀ x ∈ nsO ws, 0 ≤ x := fun x hx => by
  obtain ⟨p, hp, rfl⟩ := List.mem_map.mp hx
  obtain ⟨w, hw, rfl⟩ := h.frs_mem hp
  have h1 := frO_nn h.pos (h.rg w hw).1
  have h2 : 0 ≤ lc ws / (frO w ws.sum).2 := Int.ediv_nonneg (by have := h.lc_pos; omega) (by have := frO_pos (w := w) h.pos; omega)
  exact Int.mul_nonneg h1 h2
theorem Wt.ns_le (h : Wt ws c) : ∀ x ∈ nsO ws, x.natAbs < 2 ^ 1480 := fun x hx => by
  have h0 := h.ns_nn x hx
  have h1 : x * cO ws ∈ ws := by
    rw [h.ns_mul]
    have : x * cO ws ∈ (nsO ws).map (· * cO ws) := List.mem_map.mpr ⟨x, hx, rfl⟩
    rwa [← h.ns_mul] at this ⊢
  have h2 := (h.rg _ h1).2
  have h3 := h.c_pos
  have h4 : x * 1 ≤ x * cO ws := Int.mul_le_mul_of_nonneg_left (by omega) h0
  have e : ((2 ^ 1480 : Nat) : Int) = 2 ^ 1480 := by norm_cast
  omega
theorem Wt.lc_lt (h : Wt ws c) : (lc ws).natAbs < 2 ^ 1483 := by
  have h1 := Int.le_of_dvd h.pos h.lc_dvd
  have h2 := h.lc_pos
  have := h.lt
  omega
theorem Wt.ns0 (h : Wt ws c) (k : Nat) : (nsO ws).getD k 0 = 0 ↔ ws.getD k 0 = 0 := by
  have e : ws.getD k 0 = (nsO ws).getD k 0 * cO ws := by
    conv => lhs; rw [h.ns_mul]
    exact getD_map0 _ _ _
  have := h.c_pos
  rw [e]
  constructor
  · intro z; rw [z]; simp
  · intro z
    rcases Int.mul_eq_zero.mp z with q | q
    · exact q
    · omega
theorem frs_getD0 (h : Wt ws c) {k : Nat} (hk : k < ws.length) : ((frs ws).getD k (0, 1)).1 = 0 ↔ ws.getD k 0 = 0 := by
  have e : (frs ws).getD k (0, 1) = frO (ws.getD k 0) ws.sum := by
    rw [getD_lt (by simpa [frs] using hk), getD_lt hk]
    simp [frs]
  rw [e]
  exact frO_zero h.pos
/-- the best ones are the same against the numbers as against the weights -/
theorem Wt.dot_ns (h : Wt ws c) (P : Nat → Nat → Int) (o : Nat) : dot P o ws = dot P o (nsO ws) * cO ws := by
  conv => lhs; rw [h.ns_mul]
  exact dot_scale _ _ _ _
theorem Wt.best_ns (h : Wt ws c) (P : Nat → Nat → Int) {m : Nat} (hm : 1 ≤ m) (o : Nat) : dot P o ws = mxO (fun o => dot P o ws) m ↔ dot P o (nsO ws) = mxO (fun o => dot P o (nsO ws)) m := by
  have e : (fun o => dot P o ws) = fun o => dot P o (nsO ws) * cO ws := funext fun o => h.dot_ns P o
  have hc := h.c_pos
  rw [e, mxO_scale hm hc, h.dot_ns P o]
  constructor
  · intro z; exact Int.eq_of_mul_eq_mul_right (by omega) z
  · intro z; rw [z]
theorem Bst_ns {us : List Int} {d : Nat} (P : Nat → Nat → Int) (hu : Wt us d) (h : Wt ws c) : Bst P us ws ↔ Bst P (nsO us) (nsO ws) := by
  have h1 : 1 ≤ us.length := by
    cases us with
    | nil => have := hu.pos; simp at this
    | cons a r => simp
  unfold Bst
  rw [ns_len]
  constructor
  · intro z k hk hn
    exact (h.best_ns P h1 k).mp (z k hk fun q => hn ((hu.ns0 k).mpr q))
  · intro z k hk hn
    exact (h.best_ns P h1 k).mpr (z k hk fun q => hn ((hu.ns0 k).mp q))
theorem log_of {i : Int} {k : Nat} (h : i.natAbs < 2 ^ k) : i.natAbs.log2 < k ∨ i = 0 := by
  by_cases h0 : i = 0
  · exact .inr h0
  · exact .inl ((Nat.log2_lt (by omega)).mpr h)
theorem log_lt {i : Int} {k l : Nat} (h : i.natAbs < 2 ^ k) (hk : k ≤ l) (hl : 0 < l) : i.natAbs.log2 < l := by
  rcases log_of h with z | z
  · omega
  · subst z; simpa using hl
theorem mulOk_of {i j : Int} {k l : Nat} (hi : i.natAbs < 2 ^ k) (hj : j.natAbs < 2 ^ l) (h : k + l < 1000000) : mulOk i j := by
  rcases log_of hi with a | rfl
  · rcases log_of hj with b | rfl
    · exact .inr (.inr (by omega))
    · exact .inr (.inl (by decide))
  · exact .inl (by decide)
theorem fr_eq {M N a b : Int} (ha : 0 < a) (hb : 0 < b) : (frO M a).1 * (frO N b).2 = (frO N b).1 * (frO M a).2 ↔ M * b = N * a := by
  have h1 := frO_cross (w := M) ha
  have h2 := frO_cross (w := N) hb
  have p1 := frO_pos (w := M) ha
  have p2 := frO_pos (w := N) hb
  generalize (frO M a).1 = i at *
  generalize (frO M a).2 = j at *
  generalize (frO N b).1 = k at *
  generalize (frO N b).2 = l at *
  have e1 : i * l * (a * b) = M * b * (j * l) := by
    calc i * l * (a * b) = i * a * (l * b) := by ac_rfl
      _ = M * b * (j * l) := by rw [h1]; ac_rfl
  have e2 : k * j * (a * b) = N * a * (j * l) := by
    calc k * j * (a * b) = k * b * (j * a) := by ac_rfl
      _ = N * a * (j * l) := by rw [h2]; ac_rfl
  have jl : j * l ≠ 0 := by have := Int.mul_pos (show 0 < j by omega) (show 0 < l by omega); omega
  have ab : a * b ≠ 0 := by have := Int.mul_pos ha hb; omega
  constructor
  · intro z
    exact Int.eq_of_mul_eq_mul_right jl (by rw [← e1, ← e2, z])
  · intro z
    exact Int.eq_of_mul_eq_mul_right ab (by rw [e1, e2, z])
theorem frO_01 {x S : Int} (h : 0 < S) : frO x S = (0, 1) ↔ x = 0 := by
  constructor
  · intro z
    exact (frO_zero h).mp (by rw [z])
  · intro z
    subst z
    have : (Int.gcd 0 S : Int) = S := by simp; omega
    simp only [frO, this, Int.zero_ediv]
    rw [Int.ediv_self (by omega)]
theorem dot_abs {P : Nat → Nat → Int} {o : Nat} {ns : List Int} (hl : ns.length ≤ 5) (hn : ∀ x ∈ ns, x.natAbs < 2 ^ 1480) (hP : ∀ k, k < ns.length → (P o k).natAbs ≤ 1000) : (dot P o ns).natAbs < 2 ^ 1493 := by
  have h1 : (dot P o ns).natAbs ≤ ns.length * (2 ^ 1480 * 1000) := sumR_abs fun k hk => by
    rw [Int.natAbs_mul]
    exact Nat.mul_le_mul (Nat.le_of_lt (hn _ (getD_mem hk))) (hP k hk)
  have h2 : ns.length * (2 ^ 1480 * 1000) ≤ 5 * (2 ^ 1480 * 1000) := Nat.mul_le_mul_right _ hl
  have e : 5 * (2 ^ 1480 * 1000) < (2 : Nat) ^ 1493 := by decide +kernel
  exact Nat.lt_of_le_of_lt (Nat.le_trans h1 h2) e
theorem zip_range {xs : List Int} {f : Nat → Int} {m : Nat} (h : xs.length = m) : List.zipWith (fun u v => PyData.tuple [u, v]) (xs.map PyData.int) (((List.range m).map f).map PyData.int) = (List.range m).map fun k => PyData.tuple [.int (xs.getD k 0), .int (f k)] := by
  refine List.ext_getElem (by simp [h]) fun i h1 h2 => ?_
  have h3 : i < xs.length := by simp at h2; omega
  rw [List.getElem_zipWith]
  simp only [List.getElem_map, List.getElem_range]
  rw [getD_lt h3]
theorem pos_len (h : Wt ws c) : 1 ≤ ws.length := by
  cases ws with
  | nil => have := h.pos; simp at this
  | cons a r => simp
end
end SM

set_option maxHeartbeats 1000000
/-! plain: the least of a list. -/
namespace SM
open PySem
theorem minL_some : ∀ {xs : List Int}, xs ≠ [] → ∃ m, minL xs = some m ∧ m ∈ xs ∧ ∀ x ∈ xs, m ≤ x
  | [], h => absurd rfl h
  | [a], _ => ⟨a, rfl, by simp, by simp⟩
  | a :: b :: r, _ => by
    obtain ⟨m, h1, h2, h3⟩ := minL_some (xs := b :: r) (by simp)
    refine ⟨min a m, ?_, ?_, ?_⟩
    · show (match minL (b :: r) with
        | none => some a
        | some m => some (if m < a then m else a)) = _
      rw [h1]
      simp only
      congr 1
      omega
    · rcases Int.le_total a m with h | h
      · rw [Int.min_eq_left h]; exact List.mem_cons_self
      · rw [Int.min_eq_right h]; exact List.mem_cons_of_mem _ h2
    · intro x hx
      rcases List.mem_cons.mp hx with rfl | hx
      · omega
      · have := h3 x hx; omega
def mnO (f : Nat → Int) (m : Nat) : Int := (minL ((List.range m).map f)).getD 0
theorem mnO_of {f : Nat → Int} {m : Nat} (h : 1 ≤ m) : minL ((List.range m).map f) = some (mnO f m) ∧ (∃ o, o < m ∧ mnO f m = f o) ∧ ∀ o, o < m → mnO f m ≤ f o := by
  obtain ⟨x, h1, h2, h3⟩ := minL_some (xs := (List.range m).map f) (by simp; omega)
  have e : mnO f m = x := by simp [mnO, h1]
  rw [e]
  refine ⟨h1, ?_, fun o ho => h3 _ (List.mem_map.mpr ⟨o, by simpa using ho, rfl⟩)⟩
  obtain ⟨o, ho, rfl⟩ := List.mem_map.mp h2
  exact ⟨o, by simpa using ho, rfl⟩
theorem mnO_scale {f : Nat → Int} {m : Nat} (h : 1 ≤ m) {c : Int} (hc : 0 < c) : mnO (fun o => f o * c) m = mnO f m * c := by
  obtain ⟨_, ⟨o, ho, e⟩, g⟩ := mnO_of (f := f) h
  obtain ⟨_, ⟨o', ho', e'⟩, g'⟩ := mnO_of (f := fun o => f o * c) h
  refine Int.le_antisymm ?_ ?_
  · rw [e]
    exact g' o ho
  · rw [e']
    exact Int.mul_le_mul_of_nonneg_right (g o' ho') (by omega)
section
variable {s : Sto} {m : Bool} {r : List Int}
@[simp] theorem min_l (is : List Int) : biV m .min [.d (.list (is.map .int))] s = (minL is).map fun k => (.d (.int k), s) := by
  show ((dataV (.d (.list (is.map .int))) s).bind ints?).bind _ = _
  have h : dataV (.d (.list (is.map .int))) s = some (is.map .int) := allD_map _
  rw [h]
  show (ints? (is.map .int)).bind _ = _
  rw [w_ints, Option.bind_some]
end
/-- the fraction of two sums stays, both times one number -/
theorem frO_scale {a b c : Int} (hb : 0 < b) (hc : 0 < c) : frO (a * c) (b * c) = frO a b := by
  have g : (Int.gcd (a * c) (b * c) : Int) = (Int.gcd a b : Int) * c := by
    rw [Int.gcd_mul_right]
    have : (c.natAbs : Int) = c := by omega
    rw [Int.natCast_mul, this]
  unfold frO
  rw [g, Int.mul_ediv_mul_of_pos_left _ _ hc, Int.mul_ediv_mul_of_pos_left _ _ hc]
end SM
namespace SM
open PySem
section
variable {s : Sto}
theorem eqD_nil (xs : List PyData) : eqD (.list xs) (.list []) = some xs.isEmpty := by
  cases xs with
  | nil => rfl
  | cons a r => rfl
theorem c_eq_nil (xs : List PyData) : cmpV .eq (.d (.list xs)) (.d (.list [])) s = some xs.isEmpty := eqD_nil xs
theorem c_ne_nil (xs : List PyData) : cmpV .ne (.d (.list xs)) (.d (.list [])) s = some (!xs.isEmpty) := by
  show (eqD (.list xs) (.list [])).map (!·) = _
  rw [eqD_nil]
  rfl
theorem c_neb' (i j : Bool) : cmpV .ne (.d (.bool i)) (.d (.bool j)) s = some (!(i == j)) := rfl
end
def lsD (r : List Int) : PyData := .list (r.map .int)
def trp (T : List (List Int)) (C : Nat) : List (List Int) := (List.range C).map fun j => T.map fun r => r.getD j 0
theorem trp_gt {T : List (List Int)} {C i j : Nat} (hj : j < C) (hi : i < T.length) : gt (trp T C) j i = gt T i j := by
  unfold gt
  rw [getD_lt (show j < (trp T C).length by simpa [trp] using hj)]
  simp only [trp, List.getElem_map, List.getElem_range]
  rw [getD_lt (show i < (T.map fun r => r.getD j 0).length by simpa using hi), getD_lt hi]
  simp
end SM

set_option maxHeartbeats 1000000
/-! plain: comprehensions by places (what stands behind the turns depends on the place). -/
namespace SM
open PySem
section
variable {C : Cal} {fu k : Nat} {e : Sl} {s : Sto} {X : XP}
theorem evs_at {turn : Vl → Sto → Rs (Option Vl)} {X : XP} (I : Nat → Sto → Prop) (R : Nat → PyData → Prop) : ∀ {ds : List PyData} {k : Nat} {s : Sto}, I k s → (∀ j (h : j < ds.length) s, I (k + j) s → Ok (turn (.d ds[j]) s) (fun o t => I (k + j + 1) t ∧ ∃ d, o = some (.d d) ∧ R (k + j) d) nX) →
    Ok (cmL turn ds s) (fun vs t => I (k + ds.length) t ∧ ∃ xs : List PyData, vs = xs.map Vl.d ∧ xs.length = ds.length ∧ ∀ j (h : j < xs.length), R (k + j) xs[j]) X
  | [], k, s, i, _ => ⟨i, [], rfl, rfl, fun _ h => absurd h (Nat.not_lt_zero _)⟩
  | a :: r, k, s, i, h => by
    show Ok ((turn (.d a) s).bind fun o s => (cmL turn r s).bind fun r s => .ok (match o with | some v => v :: r | none => r) s) _ _
    rw [Ok_bind]
    refine (h 0 (by simp) s i).imp fun o t ⟨i2, d, e, rd⟩ => ?_
    subst e
    rw [Ok_bind]
    refine (evs_at I R (X := nX) (k := k + 1) i2 fun j hj s i => ?_).imp fun vs t2 ⟨i3, xs, e, hl, hr⟩ => ?_
    · have q := h (j + 1) (by simpa using hj) s (by rw [show k + (j + 1) = k + 1 + j by omega]; exact i)
      rw [show k + (j + 1) = k + 1 + j by omega] at q
      simpa using q
    · subst e
      refine ⟨by rw [List.length_cons, show k + (r.length + 1) = k + 1 + r.length by omega]; exact i3, d :: xs, rfl, by simp [hl], fun j hj => ?_⟩
      cases j with
      | zero => exact rd
      | succ j =>
        have := hr j (by simpa using hj)
        rw [show k + (j + 1) = k + 1 + j by omega]
        simpa using this
theorem Ok_comp_at {m : Bool} {elt tg it : IE} {own : List Nat} {Q : Vl → Sto → Prop} (I : Nat → Sto → Prop) (R : Nat → PyData → Prop) {ds : List PyData} {s' : Sto} (hi : itr C it e s = .ok (.vals ds) s') (hl : ds.length ≤ 16777216) (h0 : I 0 s')
    (ht : ∀ j (h : j < ds.length) s, I j s → ∃ e1, setTgV tg (.d ds[j]) (wipe e own) = some e1 ∧ Ok (ev C elt e1 s) (fun v t => I (j + 1) t ∧ ∃ d, v = .d d ∧ R j d) nX)
    (hq : ∀ (xs : List PyData) (t : Sto), xs.length = ds.length → (∀ j (h : j < xs.length), R j xs[j]) → I ds.length t → if m = true then Q (.r t.length) (t ++ [some (.lst (xs.map Vl.d))]) else Q (.d (.list xs)) t) : Ok (ev C (.comp m elt tg it .nil own) e s) Q X := by
  show Ok ((itr C it e s).bind fun I s => (noex (cmI (turnF C elt tg .nil (wipe e own)) I s)).bind fun vs s => ofP (mkL m vs s)) Q X
  rw [hi]
  show Ok ((noex (cmL (turnF C elt tg .nil (wipe e own)) ds s')).bind fun vs s => ofP (mkL m vs s)) Q X
  have key := evs_at (turn := turnF C elt tg .nil (wipe e own)) (X := nX) I R (k := 0) h0 (ds := ds) fun j hj s i => by
    rw [Nat.zero_add] at i ⊢
    obtain ⟨e1, h1, h2⟩ := ht j hj s i
    unfold turnF
    rw [h1]
    show Ok ((Rs.ok true s).bind fun b s => if b = true then (ev C elt e1 s).bind fun x s => .ok (some x) s else .ok none s) _ _
    show Ok ((ev C elt e1 s).bind fun x s => .ok (some x) s) _ _
    rw [Ok_bind]
    exact h2.imp fun v t ⟨i, d, e, r⟩ => ⟨i, d, by rw [e], r⟩
  obtain ⟨vs, t, hv, hI, xs, rfl, hx, hr⟩ := key.ex
  rw [hv]
  show Ok (ofP (mkL m (xs.map Vl.d) t)) Q X
  have q := hq xs t hx (fun j h => by have := hr j h; rwa [Nat.zero_add] at this) (by rw [Nat.zero_add] at hI; exact hI)
  cases m with
  | false =>
    rw [mkL_data, if_pos (by omega)]
    rw [if_neg (by decide)] at q
    exact q
  | true =>
    rw [mkL_true, if_pos (by simp; omega)]
    rw [if_pos rfl] at q
    exact q
end
end SM

set_option maxHeartbeats 1000000
/-! plain: lists of lists of numbers, in the store, each in a place of its own. -/
namespace SM
open PySem
section
variable {C : Cal} {fu n p : Nat} {e : Sl} {s t v w : Sto} {X : XP} {P Q : List Int → Prop} {rs : List Nat} {f : Nat → List Int} {row : List Int}
def upd (f : Nat → List Int) (q : Nat) (row : List Int) : Nat → List Int := fun r => if r = q then row else f r
theorem upd_self {q : Nat} : upd f q row q = row := by simp [upd]
theorem upd_ne {q r : Nat} (h : r ≠ q) : upd f q row r = f r := by simp [upd, h]
structure Rw (P : List Int → Prop) (rs : List Nat) (f : Nat → List Int) (v : Sto) : Prop where
  at_ : ∀ r ∈ rs, listAt r v = some ((f r).map vI)
  ok : ∀ r ∈ rs, P (f r)
  nd : rs.Nodup
theorem listAt_same {j : Nat} (h : w[j]? = v[j]?) : listAt j w = listAt j v := by unfold listAt; rw [h]
theorem Rw.lt (h : Rw P rs f v) : ∀ r ∈ rs, r < v.length := fun r hr => listAt_lt (h.at_ r hr)
theorem Rw.nin (h : Rw P rs f v) : v.length ∉ rs := fun z => Nat.lt_irrefl _ (h.lt _ z)
theorem Rw.eq (h : Rw P rs f v) (e : ∀ r ∈ rs, w[r]? = v[r]?) : Rw P rs f w := ⟨fun r hr => by rw [listAt_same (e r hr)]; exact h.at_ r hr, h.ok, h.nd⟩
theorem Rw.app (h : Rw P rs f v) : Rw P rs f (v ++ w) := h.eq fun r hr => List.getElem?_append_left (h.lt r hr)
theorem Rw.nil : Rw P [] f v := ⟨fun _ h => (by cases h), fun _ h => (by cases h), List.nodup_nil⟩
theorem nodup_set : ∀ {rs : List Nat} {i q : Nat}, rs.Nodup → q ∉ rs → (rs.set i q).Nodup
  | [], i, q, _, _ => by simp
  | a :: rs, 0, q, h, hq => by
    simp only [List.set_cons_zero, List.nodup_cons, List.mem_cons, not_or] at *
    exact ⟨hq.2, h.2⟩
  | a :: rs, i + 1, q, h, hq => by
    simp only [List.set_cons_succ, List.nodup_cons, List.mem_cons, not_or] at *
    refine ⟨fun z => ?_, nodup_set h.2 hq.2⟩
    rcases List.mem_or_eq_of_mem_set z with z | z
    · exact h.1 z
    · exact hq.1 z.symm
/-- rows, some of them as they were, one new -/
theorem Rw.new {rs' : List Nat} (h : Rw P rs f v) (hp : P row) (nd : rs'.Nodup) (hm : ∀ r ∈ rs', r ∈ rs ∨ r = v.length) : Rw P rs' (upd f v.length row) (v ++ [some (.lst (row.map vI))]) := by
  have key : ∀ r ∈ rs', (r ∈ rs ∧ r ≠ v.length) ∨ r = v.length := fun r hr => by
    rcases hm r hr with h1 | h1
    · exact .inl ⟨h1, fun z => by have := h.lt r h1; omega⟩
    · exact .inr h1
  refine ⟨fun r hr => ?_, fun r hr => ?_, nd⟩
  · rcases key r hr with ⟨h1, h2⟩ | rfl
    · rw [upd_ne h2]
      exact (h.app (w := [some (.lst (row.map vI))])).at_ r h1
    · rw [upd_self]
      exact listAt_new
  · rcases key r hr with ⟨h1, h2⟩ | rfl
    · rw [upd_ne h2]
      exact h.ok r h1
    · rw [upd_self]
      exact hp
theorem Rw.add (h : Rw P rs f v) (hp : P row) : Rw P (rs ++ [v.length]) (upd f v.length row) (v ++ [some (.lst (row.map vI))]) :=
  h.new hp (List.nodup_append.mpr ⟨h.nd, by simp, fun a ha b hb => by simp at hb; subst hb; have := h.lt a ha; omega⟩) fun r hr => by
    rcases List.mem_append.mp hr with hr | hr
    · exact .inl hr
    · exact .inr (by simpa using hr)
theorem Rw.set (h : Rw P rs f v) (hp : P row) {i : Nat} : Rw P (rs.set i v.length) (upd f v.length row) (v ++ [some (.lst (row.map vI))]) :=
  h.new hp (nodup_set h.nd h.nin) fun r hr => List.mem_or_eq_of_mem_set hr
theorem Rw.put (h : Rw P rs f v) {r : Nat} (hr : r ∈ rs) (hp : P row) : Rw P rs (upd f r row) (putL r (row.map vI) v) := by
  refine ⟨fun q hq => ?_, fun q hq => ?_, h.nd⟩
  · by_cases e : q = r
    · subst e; rw [upd_self]; exact listAt_put (h.lt q hq)
    · rw [upd_ne e, listAt_put_ne e]; exact h.at_ q hq
  · by_cases e : q = r
    · subst e; rw [upd_self]; exact hp
    · rw [upd_ne e]; exact h.ok q hq
theorem Rw.putp (h : Rw P rs f v) {ws : List Vl} (hp : p ∉ rs) : Rw P rs f (putL p ws v) := h.eq fun r hr => by
  unfold putL
  rw [List.getElem?_set_ne (fun z => by subst z; exact hp hr)]
/-- a list of rows -/
structure Tb (P : List Int → Prop) (p : Nat) (rs : List Nat) (f : Nat → List Int) (v : Sto) : Prop where
  rw_ : Rw P rs f v
  hd : listAt p v = some (rs.map Vl.r)
  np : p ∉ rs
theorem Tb.plt (h : Tb P p rs f v) : p < v.length := listAt_lt h.hd
theorem Tb.eq (h : Tb P p rs f v) (e : ∀ r, r = p ∨ r ∈ rs → w[r]? = v[r]?) : Tb P p rs f w := ⟨h.rw_.eq fun r hr => e r (.inr hr), by rw [listAt_same (e p (.inl rfl))]; exact h.hd, h.np⟩
theorem Tb.app (h : Tb P p rs f v) : Tb P p rs f (v ++ w) := h.eq fun r hr => List.getElem?_append_left (by rcases hr with rfl | hr; exact h.plt; exact h.rw_.lt r hr)
theorem Tb.fr (h : Tb P p rs f v) (x : Fr n v w) (hp : n ≠ p) (hn : n ∉ rs) : Tb P p rs f w := h.eq fun r hr => x.2 r (by rcases hr with rfl | hr; exact fun z => hp z.symm; exact fun z => hn (z ▸ hr))
theorem Tb.mono (h : Tb P p rs f v) (hi : ∀ r, P r → Q r) : Tb Q p rs f v := ⟨⟨h.rw_.at_, fun r hr => hi _ (h.rw_.ok r hr), h.rw_.nd⟩, h.hd, h.np⟩
/-- a new row at the end -/
theorem Tb.add (h : Tb P p rs f v) (hp : P row) : Tb P p (rs ++ [v.length]) (upd f v.length row) (putL p (rs.map Vl.r ++ [.r v.length]) (v ++ [some (.lst (row.map vI))])) := by
  have pl := h.plt
  have np : p ∉ rs ++ [v.length] := by simp; exact ⟨h.np, by omega⟩
  refine ⟨(h.rw_.add hp).putp np, ?_, np⟩
  rw [listAt_put (by simp; omega)]
  simp
theorem Tb.set (h : Tb P p rs f v) (hp : P row) {i : Nat} : Tb P p (rs.set i v.length) (upd f v.length row) (putL p ((rs.map Vl.r).set i (.r v.length)) (v ++ [some (.lst (row.map vI))])) := by
  have pl := h.plt
  have np : p ∉ rs.set i v.length := fun z => by
    rcases List.mem_or_eq_of_mem_set z with z | z
    · exact h.np z
    · omega
  refine ⟨(h.rw_.set hp).putp np, ?_, np⟩
  rw [listAt_put (by simp; omega), List.map_set]
theorem Tb.put (h : Tb P p rs f v) {r : Nat} (hr : r ∈ rs) (hp : P row) : Tb P p rs (upd f r row) (putL r (row.map vI) v) := by
  refine ⟨h.rw_.put hr hp, ?_, h.np⟩
  rw [listAt_put_ne (j := p) (n := r) (fun z => h.np (by rw [z]; exact hr))]
  exact h.hd
theorem Rw.tb (h : Rw P rs f v) : Tb P v.length rs f (v ++ [some (.lst (rs.map Vl.r))]) := ⟨h.app, listAt_new, h.nin⟩
theorem Tb.atR (h : Tb P p rs f v) {i : Nat} (hi : i < rs.length) : L2.atI (rs.map Vl.r) (i : Int) = some (.r rs[i]) := by
  rw [atI_nat (by simpa using hi)]
  simp
theorem Rw.frz : ∀ {rs : List Nat} {v : Sto}, Rw P rs f v → ∃ t, frzL (rs.map Vl.r) v = some ((rs.map f).map (fun r => PyData.list (r.map .int)), t) ∧ t.length = v.length ∧ ∀ j, j ∉ rs → t[j]? = v[j]?
  | [], v, h => ⟨v, rfl, rfl, fun _ _ => rfl⟩
  | r :: rs, v, h => by
    have nd := List.nodup_cons.mp h.nd
    have h2 : Rw P rs f (v.set r none) := by
      have h3 : Rw P rs f v := ⟨fun q hq => h.at_ q (List.mem_cons_of_mem _ hq), fun q hq => h.ok q (List.mem_cons_of_mem _ hq), nd.2⟩
      exact h3.eq fun q hq => by rw [List.getElem?_set_ne (fun z => by subst z; exact nd.1 hq)]
    obtain ⟨t, e, l, a⟩ := h2.frz
    refine ⟨t, ?_, by simpa using l, fun j hj => ?_⟩
    · show (listAt r v).bind (fun vs => (allD vs).bind fun ds => (frzL (rs.map Vl.r) (v.set r none)).map fun p => (PyData.list ds :: p.1, p.2)) = _
      rw [h.at_ r List.mem_cons_self, Option.bind_some, allD_vI, Option.bind_some, e]
      rfl
    · simp only [List.mem_cons, not_or] at hj
      rw [a j hj.2, List.getElem?_set_ne (fun z => hj.1 z.symm)]
theorem Tb.frz (h : Tb P p rs f v) : ∃ t, frzV (.r p) v = some (.d (.list ((rs.map f).map (fun r => PyData.list (r.map .int)))), t) ∧ t.length = v.length ∧ ∀ j, j ≠ p → j ∉ rs → t[j]? = v[j]? := by
  obtain ⟨t, e, l, a⟩ := h.rw_.frz
  refine ⟨t.set p none, ?_, by simpa using l, fun j h1 h2 => ?_⟩
  · show (listAt p v).bind (fun vs => (frzL vs v).bind fun q => (listAt p q.2).map fun _ => (Vl.d (.list q.1), q.2.set p none)) = _
    rw [h.hd, Option.bind_some, e, Option.bind_some]
    have : listAt p t = some (rs.map Vl.r) := by rw [listAt_same (a p h.np)]; exact h.hd
    rw [this]
    rfl
  · rw [List.getElem?_set_ne (fun z => h1 z.symm), a j h2]
/-! ### comprehensions and loops over lists of the store -/
theorem cmR_pure {turn : Vl → Sto → Rs (Option Vl)} {xs : List PyData} (g : PyData → PyData) (h : listAt p s = some (xs.map Vl.d)) (ht : ∀ x ∈ xs, turn (.d x) s = .ok (some (.d (g x))) s) :
    ∀ k i, xs.length ≤ i + k → cmR turn p k i s = .ok (((xs.drop i).map g).map Vl.d) s
  | k, i, hk => by
    unfold cmR
    rw [h]
    simp only
    by_cases hi : i < xs.length
    · have e1 : (xs.map Vl.d)[i]? = some (.d xs[i]) := by simp [hi]
      rw [e1]
      simp only
      cases k with
      | zero => omega
      | succ k =>
        simp only [ht _ (List.getElem_mem hi), ok_bind, cmR_pure g h ht k (i + 1) (by omega)]
        rw [List.drop_eq_getElem_cons hi]
        rfl
    · have e1 : (xs.map Vl.d)[i]? = none := by simp; omega
      rw [e1]
      rw [List.drop_eq_nil_of_le (by omega)]
      rfl
/-- [elt for x in r], pure, r in the store -/
theorem comp_ref {m : Bool} {elt tg it : IE} {own : List Nat} {xs : List PyData} (g : PyData → PyData) (hi : itr C it e s = .ok (.ref p) s) (h : listAt p s = some (xs.map Vl.d))
    (ht : ∀ x ∈ xs, ∃ e1, setTgV tg (.d x) (wipe e own) = some e1 ∧ ev C elt e1 s = .ok (.d (g x)) s) : ev C (.comp m elt tg it .nil own) e s = ofP (mkL m ((xs.map g).map Vl.d) s) := by
  show ((itr C it e s).bind fun I s => (noex (cmI (turnF C elt tg .nil (wipe e own)) I s)).bind fun vs s => ofP (mkL m vs s)) = _
  rw [hi]
  show ((noex (cmR (turnF C elt tg .nil (wipe e own)) p (((listAt p s).map List.length).getD 0) 0 s)).bind fun vs s => ofP (mkL m vs s)) = _
  rw [cmR_pure g h (fun x hx => ?_) _ 0 (by rw [h]; simp)]
  · rfl
  · obtain ⟨e1, h1, h2⟩ := ht x hx
    unfold turnF
    rw [h1]
    show (ev C elt e1 s).bind _ = _
    rw [h2]
    rfl
theorem itr_r {a : IE} {vs : List Vl} (ha : ev C a e s = .ok (.r p) t) (h : listAt p t = some vs) : itr C (.itv a) e s = .ok (.ref p) t := by
  rw [itr_itv, ha, ok_bind]
  have : itrV (.r p) t = some (.ref p) := by
    show (listAt _ _).map _ = _
    rw [h]
    rfl
  rw [this]
  rfl
/-- turns over a list of the store that stays -/
theorem evs_ref {turn : Vl → Sto → Rs (Option Vl)} {vs : List Vl} (I : Nat → List Vl → Sto → Prop) (hI : ∀ i acc w, I i acc w → listAt p w = some vs)
    (step : ∀ i (h : i < vs.length) acc w, I i acc w → Ok (turn vs[i] w) (fun o t => ∃ x, o = some x ∧ I (i + 1) (acc ++ [x]) t) nX) : ∀ k i acc w, vs.length ≤ i + k → i ≤ vs.length → I i acc w → Ok (cmR turn p k i w) (fun xs t => I vs.length (acc ++ xs) t) nX
  | k, i, acc, w, hk, hi, h => by
    unfold cmR
    rw [hI i acc w h]
    simp only
    by_cases hl : i < vs.length
    · have e1 : vs[i]? = some vs[i] := by simp [hl]
      rw [e1]
      simp only
      cases k with
      | zero => omega
      | succ k =>
        rw [Ok_bind]
        refine (step i hl acc w h).imp fun o t ⟨x, e, h2⟩ => ?_
        subst e
        rw [Ok_bind]
        refine (evs_ref I hI step k (i + 1) (acc ++ [x]) t (by omega) (by omega) h2).imp fun xs u h3 => ?_
        show I vs.length (acc ++ x :: xs) u
        rw [List.append_assoc] at h3
        exact h3
    · have e1 : vs[i]? = none := by simp; omega
      rw [e1]
      have : i = vs.length := by omega
      subst this
      show I vs.length (acc ++ []) w
      rw [List.append_nil]
      exact h
/-- [elt for x in r], r in the store, a list that is changed later -/
theorem Ok_comp_ref {elt tg it : IE} {own : List Nat} {Q : Vl → Sto → Prop} {vs : List Vl} (I : Nat → List Vl → Sto → Prop) (hi : itr C it e s = .ok (.ref p) t) (hI : ∀ i acc w, I i acc w → listAt p w = some vs) (hl : vs.length ≤ 16777216) (h0 : I 0 [] t)
    (step : ∀ i (h : i < vs.length) acc w, I i acc w → ∃ e1, setTgV tg vs[i] (wipe e own) = some e1 ∧ Ok (ev C elt e1 w) (fun x t => I (i + 1) (acc ++ [x]) t) nX)
    (hn : ∀ xs u, I vs.length xs u → xs.length = vs.length)
    (hq : ∀ xs u, I vs.length xs u → Q (.r u.length) (u ++ [some (.lst xs)])) : Ok (ev C (.comp true elt tg it .nil own) e s) Q X := by
  show Ok ((itr C it e s).bind fun I s => (noex (cmI (turnF C elt tg .nil (wipe e own)) I s)).bind fun vs s => ofP (mkL true vs s)) Q X
  rw [hi]
  show Ok ((noex (cmR (turnF C elt tg .nil (wipe e own)) p (((listAt p t).map List.length).getD 0) 0 t)).bind fun vs s => ofP (mkL true vs s)) Q X
  have key := evs_ref (turn := turnF C elt tg .nil (wipe e own)) (p := p) I hI (fun i h acc w hw => by
    obtain ⟨e1, h1, h2⟩ := step i h acc w hw
    unfold turnF
    rw [h1]
    show Ok ((Rs.ok true w).bind fun b s => if b = true then (ev C elt e1 s).bind fun x s => .ok (some x) s else .ok none s) _ _
    show Ok ((ev C elt e1 w).bind fun x s => .ok (some x) s) _ _
    rw [Ok_bind]
    exact h2.imp fun x t i => ⟨x, rfl, i⟩) (((listAt p t).map List.length).getD 0) 0 [] t (by rw [hI 0 [] t h0]; simp) (Nat.zero_le _) h0
  obtain ⟨xs, u, hv, hx⟩ := key.ex
  rw [hv]
  show Ok (ofP (mkL true xs u)) Q X
  rw [List.nil_append] at hx
  rw [mkL_true, if_pos (by rw [hn xs u hx]; exact hl)]
  exact hq xs u hx
/-- a loop over a list of the store that stays -/
theorem Sw_goRef {t : Vl → Sl → Sto → Fl} {P : Pt} {vs : List Vl} (J : Nat → Sl → Sto → Prop) (hJ : ∀ j e s, J j e s → listAt p s = some vs) (step : ∀ j (h : j < vs.length) e s, J j e s → Sw (t vs[j] e s) ⟨J (j + 1), P.r, P.n, J (j + 1), P.x⟩) (last : ∀ e s, J vs.length e s → P.n e s) :
    ∀ k j {e : Sl} {s : Sto}, vs.length ≤ j + k → j ≤ vs.length → J j e s → Sw (goR t p k j e s) P
  | k, j, e, s, hk, hj, h => by
    unfold goR
    rw [hJ j e s h]
    simp only
    by_cases hl : j < vs.length
    · have e1 : vs[j]? = some vs[j] := by simp [hl]
      rw [e1]
      simp only
      cases k with
      | zero => omega
      | succ k =>
        simp only
        have st := step j hl e s h
        cases q : t vs[j] e s with
        | nx e2 s2 => rw [q] at st; exact Sw_goRef J hJ step last k (j + 1) (by omega) (by omega) st
        | ct e2 s2 => rw [q] at st; exact Sw_goRef J hJ step last k (j + 1) (by omega) (by omega) st
        | bk e2 s2 => rw [q] at st; exact st
        | rt v2 s2 => rw [q] at st; exact st
        | ex d v2 e2 s2 => rw [q] at st; exact st
        | no => rw [q] at st; exact st
    · have e1 : vs[j]? = none := by simp; omega
      rw [e1]
      have : j = vs.length := by omega
      subst this
      exact last e s h
/-- .. its statement -/
theorem Sw_for_ref {tg it : IE} {body : IS} {P : Pt} {vs : List Vl} (J : Nat → Sl → Sto → Prop) (hi : itr C it e s = .ok (.ref p) t) (hJ : ∀ j e s, J j e s → listAt p s = some vs) (h0 : J 0 e t)
    (step : ∀ j (h : j < vs.length) e s, J j e s → Sw (turnS C fu tg body vs[j] e s) ⟨J (j + 1), P.r, P.n, J (j + 1), P.x⟩) (last : ∀ e s, J vs.length e s → P.n e s) : Sw (exS C fu (.forr tg it body) e s) P := by
  rw [exS_for', hi]
  show Sw (goR (turnS C fu tg body) p (((listAt p t).map List.length).getD 0) 0 e t) P
  exact Sw_goRef J hJ step last _ 0 (by rw [hJ 0 e t h0]; simp) (Nat.zero_le _) h0
/-- two statements ahead -/
theorem Sw_two {a b r : IS} {P : Pt} {J : Sl → Sto → Prop} (h1 : Sw (exS C fu (.cons a (.cons b .nil)) e s) ⟨J, P.r, P.b, P.c, P.x⟩) (h2 : ∀ e s, J e s → Sw (exS C fu r e s) P) : Sw (exS C fu (.cons a (.cons b r)) e s) P := by
  rw [exS_cons] at h1 ⊢
  cases q : exS C fu a e s with
  | nx e2 s2 =>
    rw [q, thenF_nx, exS_cons] at h1
    rw [thenF_nx, exS_cons]
    cases q2 : exS C fu b e2 s2 with
    | nx e3 s3 => rw [q2, thenF_nx] at h1; rw [thenF_nx]; exact h2 _ _ h1
    | ct e3 s3 => rw [q2] at h1; exact h1
    | bk e3 s3 => rw [q2] at h1; exact h1
    | rt v3 s3 => rw [q2] at h1; exact h1
    | ex d v3 e3 s3 => rw [q2] at h1; exact h1
    | no => rw [q2] at h1; exact h1
  | ct e2 s2 => rw [q] at h1; exact h1
  | bk e2 s2 => rw [q] at h1; exact h1
  | rt v2 s2 => rw [q] at h1; exact h1
  | ex d v2 e2 s2 => rw [q] at h1; exact h1
  | no => rw [q] at h1; exact h1
end
end SM

set_option maxHeartbeats 1000000
/-! plain: mixes as fractions, brought to integers by a multiple of what stands below; the greatest sums. -/
namespace SM
open PySem
def wtF (L : Int) (fr : List (Int × Int)) : List Int := fr.map fun p => p.1 * (L / p.2)
def csum (ws : List Int) (M : List (List Int)) (j : Nat) : Int := ((ws.zip M).map fun p => p.1 * p.2.getD j 0).sum
def sumsF (ws : List Int) (M : List (List Int)) (n : Nat) : List Int := (List.range n).map fun j => csum ws M j
def mxF (l : List Int) : Int := (maxL l).getD 0
def cntF (l : List Int) : Nat := l.count (mxF l)
theorem maxL_mx : ∀ {l : List Int}, l ≠ [] → maxL l = some (mxF l)
  | [], h => absurd rfl h
  | x :: r, _ => by
    unfold mxF maxL
    cases maxL r <;> rfl
theorem csum_scale {c : Int} : ∀ {ws : List Int} {M : List (List Int)} {j : Nat}, csum (ws.map (· * c)) M j = csum ws M j * c
  | [], M, j => by simp [csum]
  | w :: ws, [], j => by simp [csum]
  | w :: ws, r :: M, j => by
    have ih := csum_scale (c := c) (ws := ws) (M := M) (j := j)
    unfold csum at ih ⊢
    simp only [List.map_cons, List.zip_cons_cons, List.sum_cons, ih, Int.add_mul]
    congr 1
    rw [Int.mul_assoc, Int.mul_comm c, ← Int.mul_assoc]
theorem sums_scale {c : Int} {ws : List Int} {M : List (List Int)} {n : Nat} : sumsF (ws.map (· * c)) M n = (sumsF ws M n).map (· * c) := by
  unfold sumsF
  rw [List.map_map]
  exact List.map_congr_left fun j _ => csum_scale
theorem maxL_scale {c : Int} (hc : 0 < c) : ∀ {l : List Int}, maxL (l.map (· * c)) = (maxL l).map (· * c)
  | [] => rfl
  | x :: r => by
    have ih := maxL_scale hc (l := r)
    simp only [List.map_cons, maxL, ih]
    cases maxL r with
    | none => rfl
    | some y =>
      simp only [Option.map_some]
      by_cases h : x < y
      · have : x * c < y * c := Int.mul_lt_mul_of_pos_right h hc
        simp [h, this]
      · have : ¬ x * c < y * c := fun z => h (Int.lt_of_mul_lt_mul_right z (Int.le_of_lt hc))
        simp [h, this]
theorem count_scale {c m : Int} (hc : 0 < c) : ∀ {l : List Int}, (l.map (· * c)).count (m * c) = l.count m
  | [] => rfl
  | x :: r => by
    have e : (x * c == m * c) = (x == m) := by
      by_cases h : x = m
      · subst h; simp
      · have : ¬ x * c = m * c := fun z => h (Int.eq_of_mul_eq_mul_right (by omega) z)
        rw [beq_eq_false_iff_ne.mpr this, beq_eq_false_iff_ne.mpr h]
    rw [List.map_cons, List.count_cons, List.count_cons, count_scale hc (l := r), e]
theorem cnt_scale {c : Int} (hc : 0 < c) {l : List Int} : cntF (l.map (· * c)) = cntF l := by
  have e : mxF (l.map (· * c)) = mxF l * c := by
    unfold mxF
    rw [maxL_scale hc]
    cases maxL l <;> simp
  unfold cntF
  rw [e]
  exact count_scale hc
/-! ### multiples of what stands below -/
def lcF : Int → List (Int × Int) → Int
  | a, [] => a
  | a, p :: r => lcF (Int.lcm a p.2) r
def prF : Int → List (Int × Int) → Int
  | a, [] => a
  | a, p :: r => prF (a * p.2) r
theorem lcF_dvd : ∀ {fr : List (Int × Int)} {a : Int}, a ∣ lcF a fr ∧ ∀ p ∈ fr, p.2 ∣ lcF a fr
  | [], a => ⟨Int.dvd_refl _, fun _ h => by cases h⟩
  | p :: r, a => by
    obtain ⟨h1, h2⟩ := lcF_dvd (fr := r) (a := Int.lcm a p.2)
    refine ⟨Int.dvd_trans (Int.dvd_lcm_left ..) h1, fun q hq => ?_⟩
    rcases List.mem_cons.mp hq with rfl | hq
    · exact Int.dvd_trans (Int.dvd_lcm_right ..) h1
    · exact h2 q hq
theorem prF_dvd : ∀ {fr : List (Int × Int)} {a : Int}, a ∣ prF a fr ∧ ∀ p ∈ fr, p.2 ∣ prF a fr
  | [], a => ⟨Int.dvd_refl _, fun _ h => by cases h⟩
  | p :: r, a => by
    obtain ⟨h1, h2⟩ := prF_dvd (fr := r) (a := a * p.2)
    refine ⟨Int.dvd_trans (Int.dvd_mul_right ..) h1, fun q hq => ?_⟩
    rcases List.mem_cons.mp hq with rfl | hq
    · exact Int.dvd_trans (Int.dvd_mul_left ..) h1
    · exact h2 q hq
theorem lcF_least {m : Int} : ∀ {fr : List (Int × Int)} {a : Int}, a ∣ m → (∀ p ∈ fr, p.2 ∣ m) → lcF a fr ∣ m
  | [], a, h, _ => h
  | p :: r, a, h, hp => lcF_least (fr := r) (a := Int.lcm a p.2) (Int.coe_lcm_dvd h (hp p List.mem_cons_self)) fun q hq => hp q (List.mem_cons_of_mem _ hq)
theorem prF_bd {d : Nat} : ∀ {fr : List (Int × Int)} {a : Int} {n : Nat}, (∀ p ∈ fr, 1 ≤ p.2 ∧ p.2.natAbs < 2 ^ d) → 1 ≤ a → a.natAbs < 2 ^ n → 1 ≤ prF a fr ∧ (prF a fr).natAbs < 2 ^ (n + d * fr.length)
  | [], a, n, _, h1, h2 => ⟨h1, by simpa [prF] using h2⟩
  | p :: r, a, n, hp, h1, h2 => by
    have h := hp p List.mem_cons_self
    have g := prF_bd (fr := r) (a := a * p.2) (n := n + d) (fun q hq => hp q (List.mem_cons_of_mem _ hq)) (Int.mul_pos (by omega) (by omega)) (by rw [Int.natAbs_mul, Nat.pow_add]; exact Nat.mul_lt_mul_of_lt_of_lt h2 h.2)
    refine ⟨g.1, ?_⟩
    rw [List.length_cons, Nat.mul_add, Nat.mul_one, show n + (d * r.length + d) = n + d + d * r.length by omega]
    exact g.2
theorem lcF_pos : ∀ {fr : List (Int × Int)} {a : Int}, (∀ p ∈ fr, 1 ≤ p.2) → 1 ≤ a → 1 ≤ lcF a fr
  | [], a, _, h => h
  | p :: r, a, hp, h => lcF_pos (fr := r) (a := Int.lcm a p.2) (fun q hq => hp q (List.mem_cons_of_mem _ hq)) (by
    have := hp p List.mem_cons_self
    have : 0 < Int.lcm a p.2 := Int.lcm_pos (by omega) (by omega)
    omega)
theorem wtF_scale {L c : Int} {fr : List (Int × Int)} (h : ∀ p ∈ fr, p.2 ∣ L) : wtF (L * c) fr = (wtF L fr).map (· * c) := by
  unfold wtF
  rw [List.map_map]
  refine List.map_congr_left fun p hp => ?_
  show p.1 * (L * c / p.2) = p.1 * (L / p.2) * c
  rw [Int.mul_comm L c, Int.mul_ediv_assoc c (h p hp), Int.mul_assoc, Int.mul_comm c]
/-- the same count of greatest sums by both multiples -/
theorem cnt_same {fr : List (Int × Int)} {M : List (List Int)} {n : Nat} (h : ∀ p ∈ fr, 1 ≤ p.2) : cntF (sumsF (wtF (prF 1 fr) fr) M n) = cntF (sumsF (wtF (lcF 1 fr) fr) M n) := by
  obtain ⟨c, hc⟩ := lcF_least (m := prF 1 fr) (fr := fr) (a := 1) (Int.one_dvd _) prF_dvd.2
  have l1 := lcF_pos (fr := fr) (a := 1) h (by decide)
  have p1 : 1 ≤ prF 1 fr := by
    have : ∀ {fr : List (Int × Int)} {a : Int}, (∀ p ∈ fr, 1 ≤ p.2) → 1 ≤ a → 1 ≤ prF a fr := by
      intro fr
      induction fr with
      | nil => exact fun _ h => h
      | cons p r ih => exact fun hp h => ih (fun q hq => hp q (List.mem_cons_of_mem _ hq)) (Int.mul_pos (by omega) (by have := hp p List.mem_cons_self; omega))
    exact this h (by decide)
  have c0 : 0 < c := by
    rcases Int.lt_trichotomy c 0 with z | z | z
    · have : lcF 1 fr * c < 0 := Int.mul_neg_of_pos_of_neg (by omega) z
      omega
    · subst z; simp at hc; omega
    · exact z
  rw [hc, wtF_scale lcF_dvd.2, sums_scale, cnt_scale c0]
theorem wtF_zero {L : Int} {fr : List (Int × Int)} (hL : 1 ≤ L) (h : ∀ p ∈ fr, 1 ≤ p.2 ∧ p.2 ∣ L ∧ 0 ≤ p.1) : (wtF L fr).count 0 + (fr.filter fun p => decide (0 < p.1)).length = fr.length := by
  induction fr with
  | nil => rfl
  | cons p r ih =>
    have ih := ih fun q hq => h q (List.mem_cons_of_mem _ hq)
    obtain ⟨h1, ⟨k, hk⟩, h3⟩ := h p List.mem_cons_self
    have e : L / p.2 = k := by rw [hk]; exact Int.mul_ediv_cancel_left _ (by omega)
    have k0 : 0 < k := by
      rcases Int.lt_trichotomy k 0 with z | z | z
      · have : p.2 * k < 0 := Int.mul_neg_of_pos_of_neg (by omega) z
        omega
      · subst z; simp at hk; omega
      · exact z
    unfold wtF at ih ⊢
    simp only [List.map_cons, List.count_cons, List.filter_cons, List.length_cons, e]
    by_cases z : 0 < p.1
    · have : ¬ p.1 * k = 0 := by
        have := Int.mul_pos z k0
        omega
      simp [z, this]
      omega
    · have z0 : p.1 = 0 := by omega
      simp [z0]
      omega
end SM

set_option maxHeartbeats 1000000
/-! plain: a deck that is drawn from: what is left, a mixed number below 2 ^ 100, the count. -/
namespace Law
open PySem SM
section
variable {n p : Nat} {s t u v w : Sto} {b b' : Int} {P Q : List Int → Prop} {rs : List Nat} {f : Nat → List Int} {row : List Int}
def Dk (n : Nat) (b : Int) (s : Sto) : Prop := ∃ a0 a1 c : Int, listAt n s = some [.d (.int a0), .d (.int a1), .d (.int c)] ∧ (0 ≤ c ∧ 0 ≤ a1 ∧ a1 < 2 ^ 100) ∧ c ≤ b
def inR (m : Int) (v : Vl) : Prop := ∃ i : Int, v = .d (.int i) ∧ 0 ≤ i ∧ i < m
theorem inR_mod (a : Int) {m : Int} (h : 1 ≤ m) : inR m (.d (.int (a % m))) := ⟨_, rfl, Int.emod_nonneg _ (by omega), Int.emod_lt_of_pos _ (by omega)⟩
def DrQ (n : Nat) (b m : Int) (s : Sto) (v : Vl) (t : Sto) : Prop := Fr n s t ∧ Dk n b t ∧ inR m v
theorem Dk.mono {b b' : Int} (h : Dk n b s) (hb : b ≤ b') : Dk n b' s := by
  obtain ⟨a0, a1, c, h1, h2, h3⟩ := h
  exact ⟨a0, a1, c, h1, h2, by omega⟩
/-- as s but for the deck, and for what was made behind it; the deck's count is at most b -/
structure Xd (n : Nat) (b : Int) (s v : Sto) : Prop where
  len : s.length ≤ v.length
  src : Dk n b v
  lt : n < s.length
  at_ : ∀ j, j < s.length → j ≠ n → v[j]? = s[j]?
theorem Dk.lt (h : Dk n b s) : n < s.length := by obtain ⟨_, _, _, h, _⟩ := h; exact listAt_lt h
theorem Xd.refl (h : Dk n b s) : Xd n b s s := ⟨Nat.le_refl _, h, h.lt, fun _ _ _ => rfl⟩
theorem Xd.fr (x : Xd n b s v) (f : Fr n v w) (d : Dk n b' w) : Xd n b' s w := ⟨by rw [f.1]; exact x.len, d, x.lt, fun j h1 h2 => (f.2 j h2).trans (x.at_ j h1 h2)⟩
theorem Xd.more (x : Xd n b s v) (h : b ≤ b') : Xd n b' s v := ⟨x.len, x.src.mono h, x.lt, x.at_⟩
theorem Xd.app (x : Xd n b s v) : Xd n b s (v ++ w) := by
  have hl := x.len
  have hn := x.lt
  obtain ⟨a0, a1, c, h, h1, h2⟩ := x.src
  refine ⟨by simp; omega, ⟨a0, a1, c, by rw [listAt_old (by omega)]; exact h, h1, h2⟩, hn, fun j h1 h2 => ?_⟩
  rw [List.getElem?_append_left (by omega)]
  exact x.at_ j h1 h2
theorem Xd.put (x : Xd n b s v) {p : Nat} {ws : List Vl} (hp : s.length ≤ p) : Xd n b s (putL p ws v) := by
  have hn := x.lt
  obtain ⟨a0, a1, c, h, h1, h2⟩ := x.src
  refine ⟨by simpa using x.len, ⟨a0, a1, c, by rw [listAt_put_ne (by omega)]; exact h, h1, h2⟩, hn, fun j h1 h2 => ?_⟩
  unfold putL
  rw [List.getElem?_set_ne (by omega)]
  exact x.at_ j h1 h2
theorem Xd.kill (x : Xd n b s v) {p : Nat} (hp : s.length ≤ p) : Xd n b s (List.set v p none) := by
  have hn := x.lt
  obtain ⟨a0, a1, c, h, h1, h2⟩ := x.src
  refine ⟨by simpa using x.len, ⟨a0, a1, c, ?_, h1, h2⟩, hn, fun j h1 h2 => ?_⟩
  · unfold listAt at h ⊢
    rw [List.getElem?_set_ne (by omega)]
    exact h
  · rw [List.getElem?_set_ne (by omega)]
    exact x.at_ j h1 h2
theorem Xd.take (x : Xd n b s v) : Fr n s (v.take s.length) ∧ Dk n b (v.take s.length) := by
  have hl := x.len
  have hn := x.lt
  obtain ⟨a0, a1, c, h, h1, h2⟩ := x.src
  refine ⟨⟨by simp; omega, fun j h2 => ?_⟩, ⟨a0, a1, c, ?_, h1, h2⟩⟩
  · by_cases hj : j < s.length
    · rw [List.getElem?_take_of_lt hj]
      exact x.at_ j hj h2
    · rw [List.getElem?_eq_none (by simp; omega), List.getElem?_eq_none (by omega)]
  · unfold listAt at h ⊢
    rw [List.getElem?_take_of_lt hn]
    exact h
theorem Xd.lv (x : Xd n b s v) {d : PyData} {Q : Vl → Sto → Prop} (q : Q (.d d) (v.take s.length)) : Lv s (.d d) v Q := by
  have c : Cut s (.d d) v := ⟨trivial, fun i hi => by
    by_cases hin : i = n
    · subst hin
      refine .inr fun o ho => ?_
      obtain ⟨a0, a1, c, h, _⟩ := x.src
      unfold listAt at h
      rw [ho] at h
      cases o with
      | none => trivial
      | some o =>
        cases o with
        | lst vs =>
          cases h
          intro w hw
          simp at hw
          rcases hw with rfl | rfl | rfl <;> trivial
    · exact .inl (x.at_ i hi hin)⟩
  intro s' _ h
  rw [h c]
  exact q
theorem Xd.eq (x : Xd n b s v) (hl : w.length = v.length) (e : ∀ j, j < s.length → w[j]? = v[j]?) : Xd n b s w := by
  have hn := x.lt
  obtain ⟨a0, a1, c, h, h1, h2⟩ := x.src
  refine ⟨by rw [hl]; exact x.len, ⟨a0, a1, c, ?_, h1, h2⟩, hn, fun j h1 h2 => (e j h1).trans (x.at_ j h1 h2)⟩
  rw [listAt_same (e n hn)]
  exact h
structure Tx (n : Nat) (b : Int) (s : Sto) (P : List Int → Prop) (p : Nat) (rs : List Nat) (f : Nat → List Int) (v : Sto) : Prop where
  x : Xd n b s v
  t : Tb P p rs f v
  pp : s.length ≤ p
  rr : ∀ r ∈ rs, s.length ≤ r
theorem Tx.fr (h : Tx n b s P p rs f v) (x : Fr n v w) (d : Dk n b' w) : Tx n b' s P p rs f w := by
  have hn := h.x.lt
  exact ⟨h.x.fr x d, h.t.fr x (by have := h.pp; omega) (fun z => by have := h.rr n z; omega), h.pp, h.rr⟩
theorem Tx.more (h : Tx n b s P p rs f v) (hb : b ≤ b') : Tx n b' s P p rs f v := ⟨h.x.more hb, h.t, h.pp, h.rr⟩
theorem Tx.app (h : Tx n b s P p rs f v) : Tx n b s P p rs f (v ++ w) := ⟨h.x.app, h.t.app, h.pp, h.rr⟩
theorem Tx.add (h : Tx n b s P p rs f v) (hp : P row) : Tx n b s P p (rs ++ [v.length]) (upd f v.length row) (putL p (rs.map Vl.r ++ [.r v.length]) (v ++ [some (.lst (row.map vI))])) :=
  ⟨h.x.app.put h.pp, h.t.add hp, h.pp, fun r hr => by
    rcases List.mem_append.mp hr with hr | hr
    · exact h.rr r hr
    · simp at hr; subst hr; exact h.x.len⟩
theorem Tx.set (h : Tx n b s P p rs f v) (hp : P row) {i : Nat} : Tx n b s P p (rs.set i v.length) (upd f v.length row) (putL p ((rs.map Vl.r).set i (.r v.length)) (v ++ [some (.lst (row.map vI))])) :=
  ⟨h.x.app.put h.pp, h.t.set hp, h.pp, fun r hr => by
    rcases List.mem_or_eq_of_mem_set hr with hr | rfl
    · exact h.rr r hr
    · exact h.x.len⟩
theorem Tx.put (h : Tx n b s P p rs f v) {r : Nat} (hr : r ∈ rs) (hp : P row) : Tx n b s P p rs (upd f r row) (putL r (row.map vI) v) :=
  ⟨h.x.put (h.rr r hr), h.t.put hr hp, h.pp, h.rr⟩
theorem Tx.mono (h : Tx n b s P p rs f v) (hi : ∀ r, P r → Q r) : Tx n b s Q p rs f v := ⟨h.x, h.t.mono hi, h.pp, h.rr⟩
theorem at_vI {r : List Int} {i : Nat} (h : i < r.length) : L2.atI (r.map vI) (i : Int) = some (vI (r.getD i 0)) := by rw [atI_nat (by simpa using h), SM.getD_lt h]; simp
theorem w_list_rm {vs : List Vl} {q : Nat} (h : listAt q s = some vs) (hl : vs.length ≤ 16777216) : biV true .list [.r q] s = some (.r s.length, s ++ [some (.lst vs)]) := by
  show (itemsV (.r q) s).bind (fun l => mkL true l s) = _
  show (listAt q s).bind (fun l => mkL true l s) = _
  rw [h, Option.bind_some, mkL_true, if_pos hl]
end
end Law

set_option maxHeartbeats 1000000
/-! plain: values that repr shows, of ints below 2 ^ 1000. -/
namespace SM
open PySem
mutual
def bI : PyData → Bool
  | .int i => decide (i.natAbs < 2 ^ 1000)
  | .tuple xs | .list xs => bIs xs
  | _ => true
def bIs : List PyData → Bool
  | [] => true
  | x :: xs => bI x && bIs xs
end
theorem bIs_all : ∀ {xs : List PyData}, bIs xs = true ↔ ∀ x ∈ xs, bI x = true
  | [] => by simp [bIs]
  | x :: xs => by simp [bIs, bIs_all (xs := xs)]
mutual
theorem plB_bI {b : Nat} (hb : b ≤ 1000) : ∀ {x : PyData}, plB b x = true → bI x = true
  | .int i, h => by
    simp only [plB, bI, decide_eq_true_eq] at h ⊢
    exact Nat.lt_of_lt_of_le h (Nat.pow_le_pow_right (by decide) hb)
  | .tuple xs, h => plBs_bI hb (xs := xs) h
theorem plBs_bI {b : Nat} (hb : b ≤ 1000) : ∀ {xs : List PyData}, plBs b xs = true → bIs xs = true
  | [], _ => rfl
  | x :: xs, h => by
    simp only [plBs, Bool.and_eq_true] at h
    simp only [bIs, plB_bI hb h.1, plBs_bI hb h.2]
    decide
end
structure Vp (N D : Nat) (x : PyData) : Prop where
  rp : Rp N D x
  bi : bI x = true
theorem Vp.mono {N D N' D' : Nat} {x : PyData} (h : Vp N D x) (hN : N ≤ N') (hD : D ≤ D') : Vp N' D' x := ⟨h.rp.mono hN hD, h.bi⟩
theorem Pl.vp {b N D : Nat} {x : PyData} (h : Pl b N D x) (hb : b ≤ 1000) : Vp N D x := ⟨h.rp (by omega), plB_bI hb h.pl⟩
def vpB (N D : Nat) (x : PyData) : Bool := rpB N D x && bI x
theorem vpB_vp {N D : Nat} {x : PyData} (h : vpB N D x = true) : Vp N D x := by
  simp only [vpB, Bool.and_eq_true] at h
  exact ⟨rpB_rp h.1, h.2⟩
/-- a tuple of plain things, one of which is another value -/
theorem Vp.in_ {b N D N' D' : Nat} {as bs : List PyData} {y : PyData} (hb : b ≤ 1000) (ha : Pl b N D (.tuple (as ++ bs))) (hy : Vp N' D' y) : Vp (N + N' + 1) (max D (D' + 1)) (.tuple (as ++ y :: bs)) := by
  have hp := plBs_all.mp ha.pl
  have h1 := plBs_ok (b := b) (by omega) (plBs_all.mpr fun z hz => hp z (List.mem_append_left bs hz))
  have h2 := plBs_ok (b := b) (by omega) (plBs_all.mpr fun z hz => hp z (List.mem_append_right as hz))
  have hbk : PyData.bulkAll (as ++ bs) ≤ N := ha.bk
  have hdp : PyData.depthAll (as ++ bs) + 1 ≤ D := ha.dp
  rw [bulk_app] at hbk
  rw [depth_app] at hdp
  have hyb := hy.rp.bk
  have hyd := hy.rp.dp
  refine ⟨⟨okBs_all.mpr fun z hz => ?_, ?_, ?_, ?_⟩, bIs_all.mpr fun z hz => ?_⟩
  · rcases List.mem_append.mp hz with h | h
    · exact okBs_all.mp h1.1 z h
    · rcases List.mem_cons.mp h with rfl | h
      · exact hy.rp.ok
      · exact okBs_all.mp h2.1 z h
  · show PyData.bulkAll _ ≤ _
    rw [bulk_app]
    simp only [PyData.bulkAll]
    omega
  · show PyData.depthAll _ + 1 ≤ _
    rw [depth_app]
    simp only [PyData.depthAll]
    omega
  · rcases hy.rp.hd with h | h
    · refine .inl (noDicts_all.mpr fun z hz => ?_)
      rcases List.mem_append.mp hz with h' | h'
      · exact noDicts_all.mp h1.2.1 z h'
      · rcases List.mem_cons.mp h' with rfl | h'
        · exact h
        · exact noDicts_all.mp h2.2.1 z h'
    · refine .inr (noLsts_all.mpr fun z hz => ?_)
      rcases List.mem_append.mp hz with h' | h'
      · exact noLsts_all.mp h1.2.2 z h'
      · rcases List.mem_cons.mp h' with rfl | h'
        · exact h
        · exact noLsts_all.mp h2.2.2 z h'
  · rcases List.mem_append.mp hz with h | h
    · exact plB_bI hb (hp z (List.mem_append_left bs h))
    · rcases List.mem_cons.mp h with rfl | h
      · exact hy.bi
      · exact plB_bI hb (hp z (List.mem_append_right as h))
theorem Vp.lst {b N D : Nat} {xs : List PyData} (h : Pl b N D (.tuple xs)) (hb : b ≤ 1000) : Vp N D (.list xs) := by
  have h1 := plB_ok (by omega) h.pl
  have h2 : bI (.tuple xs) = true := plB_bI hb h.pl
  exact ⟨⟨h1.1, h.bk, h.dp, .inl h1.2.1⟩, h2⟩
/-- a pair, the first part plain -/
theorem Vp.pair {b N D N' D' : Nat} {x y : PyData} (hb : b ≤ 1000) (hx : Pl b N D x) (hy : Vp N' D' y) : Vp (N + 1 + N' + 1) (max (D + 1) (D' + 1)) (.tuple [x, y]) := by
  have h := Pl.tup (b := b) (L := 1) (xs := [x]) (N := N) (D := D) (fun z hz => by simp at hz; subst hz; exact hx) (by simp)
  have h := Vp.in_ (as := [x]) (bs := []) hb (by simpa using h) hy
  exact h.mono (by omega) (by omega)
theorem Vp.fst {b N D N' D' : Nat} {x y : PyData} (hb : b ≤ 1000) (hx : Pl b N D x) (hy : Vp N' D' y) : Vp (N + 1 + N' + 1) (max (D + 1) (D' + 1)) (.tuple [y, x]) := by
  have h := Pl.tup (b := b) (L := 1) (xs := [x]) (N := N) (D := D) (fun z hz => by simp at hz; subst hz; exact hx) (by simp)
  have h := Vp.in_ (as := []) (bs := [x]) hb (by simpa using h) hy
  exact h.mono (by omega) (by omega)
end SM

set_option maxHeartbeats 1000000
/-! plain: comprehensions whose items are places, or over lists of the store. -/
namespace SM
open PySem
section
variable {C : Cal} {fu n p : Nat} {e : Sl} {s t v w : Sto} {X : XP}
theorem evs_acc {turn : Vl → Sto → Rs (Option Vl)} {ds : List PyData} (I : Nat → List Vl → Sto → Prop)
    (step : ∀ j (h : j < ds.length) acc w, I j acc w → Ok (turn (.d ds[j]) w) (fun o t => ∃ x, o = some x ∧ I (j + 1) (acc ++ [x]) t) nX) : ∀ k i acc w, ds.length = i + k → I i acc w → Ok (cmL turn (ds.drop i) w) (fun xs t => I ds.length (acc ++ xs) t) nX
  | 0, i, acc, w, hk, h => by
    rw [List.drop_eq_nil_of_le (by omega)]
    have : i = ds.length := by omega
    subst this
    show I ds.length (acc ++ []) w
    rw [List.append_nil]
    exact h
  | k + 1, i, acc, w, hk, h => by
    have hi : i < ds.length := by omega
    rw [List.drop_eq_getElem_cons hi]
    show Ok ((turn (.d ds[i]) w).bind fun o s => (cmL turn (ds.drop (i + 1)) s).bind fun r s => .ok (match o with | some v => v :: r | none => r) s) _ _
    rw [Ok_bind]
    refine (step i hi acc w h).imp fun o t ⟨x, e, h2⟩ => ?_
    subst e
    rw [Ok_bind]
    refine (evs_acc I step k (i + 1) (acc ++ [x]) t (by omega) h2).imp fun xs u h3 => ?_
    show I ds.length (acc ++ x :: xs) u
    rw [List.append_assoc] at h3
    exact h3
/-- [elt for x in ..], its items any values, a list that is changed later -/
theorem Ok_comp_acc {elt tg it : IE} {own : List Nat} {Q : Vl → Sto → Prop} {ds : List PyData} (I : Nat → List Vl → Sto → Prop) (hi : itr C it e s = .ok (.vals ds) t) (hl : ds.length ≤ 16777216) (h0 : I 0 [] t)
    (step : ∀ j (h : j < ds.length) acc w, I j acc w → ∃ e1, setTgV tg (.d ds[j]) (wipe e own) = some e1 ∧ Ok (ev C elt e1 w) (fun x t => I (j + 1) (acc ++ [x]) t) nX)
    (hn : ∀ xs u, I ds.length xs u → xs.length = ds.length)
    (hq : ∀ xs u, I ds.length xs u → Q (.r u.length) (u ++ [some (.lst xs)])) : Ok (ev C (.comp true elt tg it .nil own) e s) Q X := by
  show Ok ((itr C it e s).bind fun I s => (noex (cmI (turnF C elt tg .nil (wipe e own)) I s)).bind fun vs s => ofP (mkL true vs s)) Q X
  rw [hi]
  show Ok ((noex (cmL (turnF C elt tg .nil (wipe e own)) ds t)).bind fun vs s => ofP (mkL true vs s)) Q X
  have key := evs_acc (turn := turnF C elt tg .nil (wipe e own)) (ds := ds) I (fun i h acc w hw => by
    obtain ⟨e1, h1, h2⟩ := step i h acc w hw
    unfold turnF
    rw [h1]
    show Ok ((Rs.ok true w).bind fun b s => if b = true then (ev C elt e1 s).bind fun x s => .ok (some x) s else .ok none s) _ _
    show Ok ((ev C elt e1 w).bind fun x s => .ok (some x) s) _ _
    rw [Ok_bind]
    exact h2.imp fun x t i => ⟨x, rfl, i⟩) ds.length 0 [] t (by omega) h0
  rw [List.drop_zero] at key
  obtain ⟨xs, u, hv, hx⟩ := key.ex
  rw [hv]
  show Ok (ofP (mkL true xs u)) Q X
  rw [List.nil_append] at hx
  rw [mkL_true, if_pos (by rw [hn xs u hx]; exact hl)]
  exact hq xs u hx
/-- [elt for x in r], r in the store, its items data -/
theorem Ok_comp_refD {elt tg it : IE} {own : List Nat} {Q : Vl → Sto → Prop} {vs : List Vl} (I : Nat → Sto → Prop) (R : PyData → Prop) (hi : itr C it e s = .ok (.ref p) t) (hI : ∀ i w, I i w → listAt p w = some vs) (hl : vs.length ≤ 16777216) (h0 : I 0 t)
    (step : ∀ i (h : i < vs.length) w, I i w → ∃ e1, setTgV tg vs[i] (wipe e own) = some e1 ∧ Ok (ev C elt e1 w) (fun x t => I (i + 1) t ∧ ∃ d, x = .d d ∧ R d) nX)
    (hq : ∀ (xs : List PyData) u, xs.length = vs.length → (∀ x ∈ xs, R x) → I vs.length u → Q (.d (.list xs)) u) : Ok (ev C (.comp false elt tg it .nil own) e s) Q X := by
  show Ok ((itr C it e s).bind fun I s => (noex (cmI (turnF C elt tg .nil (wipe e own)) I s)).bind fun vs s => ofP (mkL false vs s)) Q X
  rw [hi]
  show Ok ((noex (cmR (turnF C elt tg .nil (wipe e own)) p (((listAt p t).map List.length).getD 0) 0 t)).bind fun vs s => ofP (mkL false vs s)) Q X
  have key := evs_ref (turn := turnF C elt tg .nil (wipe e own)) (p := p) (vs := vs) (fun i acc w => I i w ∧ ∃ ds : List PyData, acc = ds.map Vl.d ∧ ds.length = i ∧ ∀ x ∈ ds, R x) (fun i acc w h => hI i w h.1) (fun i h acc w ⟨hw, ds, ha, hd, hr⟩ => by
    obtain ⟨e1, h1, h2⟩ := step i h w hw
    unfold turnF
    rw [h1]
    show Ok ((Rs.ok true w).bind fun b s => if b = true then (ev C elt e1 s).bind fun x s => .ok (some x) s else .ok none s) _ _
    show Ok ((ev C elt e1 w).bind fun x s => .ok (some x) s) _ _
    rw [Ok_bind]
    exact h2.imp fun x t ⟨i2, d, e, r⟩ => ⟨x, rfl, i2, ds ++ [d], by rw [ha, e]; simp, by simp [hd], fun y hy => by
      rcases List.mem_append.mp hy with h | h
      · exact hr y h
      · simp at h; subst h; exact r⟩) (((listAt p t).map List.length).getD 0) 0 [] t (by rw [hI 0 t h0]; simp) (Nat.zero_le _) ⟨h0, [], rfl, rfl, fun _ h => (nomatch h)⟩
  obtain ⟨xs, u, hv, hx, ds, ha, hd, hr⟩ := key.ex
  rw [hv]
  show Ok (ofP (mkL false xs u)) Q X
  rw [List.nil_append] at ha
  subst ha
  rw [mkL_data, if_pos (by omega)]
  exact hq ds u hd hr hx
end
theorem inD_ints {x : Int} {is : List Int} : ∃ bb, inD (.int x) (is.map .int) = some bb := by
  have a : ∀ l : List Int, PyData.canLayAll0 (l.map .int) = true ∧ PyData.depthAll (l.map .int) = 0 := by
    intro l
    induction l with
    | nil => exact ⟨rfl, rfl⟩
    | cons y l ih =>
      refine ⟨?_, ?_⟩
      · show (PyData.canLay0 (.int y) && PyData.canLayAll0 (l.map .int)) = true
        rw [ih.1]
        rfl
      · show max (PyData.depth (.int y)) (PyData.depthAll (l.map .int)) = 0
        rw [ih.2]
        rfl
  have sh : SeqAt.shaped (.list (is.map .int)) = true := by
    show (PyData.canLay0 (.list (is.map .int)) && decide (PyData.depth (.list (is.map .int)) ≤ 64)) = true
    have h1 : PyData.canLay0 (.list (is.map .int)) = true := (a is).1
    have h2 : PyData.depth (.list (is.map .int)) = 0 + 1 := by show PyData.depthAll (is.map .int) + 1 = _; rw [(a is).2]
    rw [h1, h2]
    rfl
  unfold inD
  rw [if_pos ⟨rfl, sh⟩]
  exact ⟨_, rfl⟩
theorem ixN_ok {k : Nat} {i : Int} (h0 : -(k : Int) ≤ i) (h1 : i < k) : ∃ j, j < k ∧ L2.ixN k i = some j := by
  unfold L2.ixN
  by_cases h : 0 ≤ i
  · rw [if_pos h, if_pos (by omega)]
    exact ⟨i.toNat, by omega, rfl⟩
  · rw [if_neg h, if_pos (by omega)]
    exact ⟨_, by omega, rfl⟩
end SM

set_option maxHeartbeats 1000000
/-! plain: elimination in whole numbers: the divisions are exact, what the rows bring to 0 stays, and which columns are free. -/
namespace SM
open PySem
def sm : Nat → (Nat → Int) → Int
  | 0, _ => 0
  | r + 1, f => sm r f + f r
section
variable {r m n c : Nat} {f g : Nat → Int} {d p a : Int}
theorem sm_congr : ∀ {r : Nat}, (∀ i, i < r → f i = g i) → sm r f = sm r g
  | 0, _ => rfl
  | r + 1, h => by simp only [sm]; rw [sm_congr fun i hi => h i (by omega), h r (by omega)]
theorem sm_mul : ∀ {r : Nat}, a * sm r f = sm r fun i => a * f i
  | 0 => by simp [sm]
  | r + 1 => by simp only [sm]; rw [Int.mul_add, sm_mul]
theorem sm_add : ∀ {r : Nat}, sm r f + sm r g = sm r fun i => f i + g i
  | 0 => by simp [sm]
  | r + 1 => by
    simp only [sm]
    have := sm_add (r := r)
    omega
theorem sm_sub : ∀ {r : Nat}, sm r f - sm r g = sm r fun i => f i - g i
  | 0 => by simp [sm]
  | r + 1 => by
    simp only [sm]
    have := sm_sub (r := r)
    omega
theorem sm_zero : ∀ {r : Nat}, (∀ i, i < r → f i = 0) → sm r f = 0
  | 0, _ => rfl
  | r + 1, h => by simp only [sm]; rw [sm_zero fun i hi => h i (by omega), h r (by omega)]; rfl
theorem sm_dvd : ∀ {r : Nat}, (∀ i, i < r → d ∣ f i) → d ∣ sm r f
  | 0, _ => Int.dvd_zero d
  | r + 1, h => Int.dvd_add (sm_dvd fun i hi => h i (by omega)) (h r (by omega))
theorem sm_at {j : Nat} : ∀ {r : Nat}, j < r → (∀ i, i < r → i ≠ j → f i = 0) → sm r f = f j
  | 0, h, _ => absurd h (Nat.not_lt_zero _)
  | r + 1, h, hz => by
    simp only [sm]
    by_cases e : j = r
    · subst e
      rw [sm_zero fun i hi => hz i (by omega) (by omega)]
      omega
    · rw [sm_at (r := r) (by omega) fun i hi => hz i (by omega), hz r (by omega) (fun z => e z.symm)]
      omega
theorem sm_swap {h : Nat → Nat → Int} : ∀ {r : Nat}, (sm n fun x => sm r fun i => h i x) = sm r fun i => sm n fun x => h i x
  | 0 => by simp only [sm]; exact sm_zero fun _ _ => rfl
  | r + 1 => by
    simp only [sm]
    rw [← sm_swap (r := r), sm_add]
end
/-! ### the invariant -/
structure Ba (r m : Nat) (R A : Nat → Nat → Int) (d : Int) (pv : Nat → Nat) : Prop where
  d0 : d ≠ 0
  a : ∀ k, r ≤ k → k < m → ∀ x, R k x = d * A k x - sm r fun i => A k (pv i) * R i x
  p : ∀ i, i < r → ∀ j, j < r → R i (pv j) = if i = j then d else 0
  j : r ≤ 3 → ∀ i, i < r → ∀ j, j < r → ∀ x y, d ∣ R i x * R j y - R j x * R i y
section
variable {r m n c k : Nat} {R A : Nat → Nat → Int} {d : Int} {pv : Nat → Nat} {x y : Nat}
/-- a further row against one that has its pivot -/
theorem Ba.one (h : Ba r m R A d pv) (r3 : r ≤ 3) (hk : k < r) {q : Nat} (hq : r ≤ q) (hm : q < m) : d ∣ R q x * R k y - R k x * R q y := by
  have e : R q x * R k y - R k x * R q y = d * (A q x * R k y - R k x * A q y) - sm r fun i => A q (pv i) * (R i x * R k y - R k x * R i y) := by
    rw [h.a q hq hm x, h.a q hq hm y]
    have e1 : (sm r fun i => A q (pv i) * (R i x * R k y - R k x * R i y)) = R k y * (sm r fun i => A q (pv i) * R i x) - R k x * (sm r fun i => A q (pv i) * R i y) := by
      rw [sm_mul, sm_mul, sm_sub]
      exact sm_congr fun i _ => by grind
    rw [e1]
    grind
  rw [e]
  exact Int.dvd_sub (Int.dvd_mul_right ..) (sm_dvd fun i hi => Int.dvd_trans (h.j r3 i hi k hk x y) (Int.dvd_mul_left ..))
/-- two further rows -/
theorem Ba.two (h : Ba r m R A d pv) (r3 : r ≤ 3) {q : Nat} (hk : r ≤ k) (hkm : k < m) (hq : r ≤ q) (hm : q < m) : d ∣ R q c * R k x - R k c * R q x := by
  have e : R q c * R k x - R k c * R q x = d * (A q c * R k x - R k c * A q x) - sm r fun i => A q (pv i) * (R i c * R k x - R k c * R i x) := by
    rw [h.a q hq hm x, h.a q hq hm c]
    have e1 : (sm r fun i => A q (pv i) * (R i c * R k x - R k c * R i x)) = R k x * (sm r fun i => A q (pv i) * R i c) - R k c * (sm r fun i => A q (pv i) * R i x) := by
      rw [sm_mul, sm_mul, sm_sub]
      exact sm_congr fun i _ => by grind
    rw [e1]
    grind
  rw [e]
  refine Int.dvd_sub (Int.dvd_mul_right ..) (sm_dvd fun i hi => ?_)
  have := h.one r3 hi hk hkm (x := c) (y := x)
  have e2 : A q (pv i) * (R i c * R k x - R k c * R i x) = -(A q (pv i)) * (R k c * R i x - R i c * R k x) := by grind
  rw [e2]
  exact Int.dvd_trans this (Int.dvd_mul_left ..)
/-- the division is exact -/
theorem Ba.div (h : Ba r m R A d pv) (r3 : r ≤ 3) (hr : r < m) (hk : k < m) : d ∣ R r c * R k x - R k c * R r x := by
  by_cases z : k < r
  · have := h.one r3 z (Nat.le_refl r) hr (x := c) (y := x)
    exact this
  · exact h.two r3 (by omega) hk (Nat.le_refl r) hr
/-- the rows behind a step -/
def stepN (r : Nat) (R : Nat → Nat → Int) (d : Int) (c : Nat) : Nat → Nat → Int := fun k x => if k = r then R r x else (R r c * R k x - R k c * R r x).fdiv d
theorem stepN_eq (h : Ba r m R A d pv) (r3 : r ≤ 3) (hr : r < m) (hk : k < m) (hne : k ≠ r) : d * stepN r R d c k x = R r c * R k x - R k c * R r x := by
  unfold stepN
  rw [if_neg hne]
  obtain ⟨q, e⟩ := h.div r3 hr hk (c := c) (x := x)
  rw [e, Int.mul_fdiv_cancel_left q h.d0]
theorem stepN_r : stepN r R d c r x = R r x := by simp [stepN]
theorem Ba.rp (h : Ba r m R A d pv) {j : Nat} (hj : j < r) (hk : r ≤ k) (hkm : k < m) : R k (pv j) = 0 := by
  rw [h.a k hk hkm (pv j), sm_at hj fun i hi hne => by rw [h.p i hi j hj, if_neg hne, Int.mul_zero], h.p j hj j hj, if_pos rfl]
  grind
theorem Ba.step (h : Ba r m R A d pv) (r3 : r ≤ 3) (hr : r < m) (rm : m ≤ 4) (hp : R r c ≠ 0) : Ba (r + 1) m (stepN r R d c) A (R r c) (fun i => if i = r then c else pv i) := by
  have N : ∀ k, k < m → k ≠ r → ∀ x, d * stepN r R d c k x = R r c * R k x - R k c * R r x := fun k hk hne x => stepN_eq h r3 hr hk hne
  have Nr : ∀ x, stepN r R d c r x = R r x := fun x => stepN_r
  have can : ∀ {a b : Int}, d * a = d * b → a = b := fun e => Int.eq_of_mul_eq_mul_left h.d0 e
  generalize stepN r R d c = M at *
  refine ⟨hp, fun k hk hkm x => ?_, fun i hi j hj => ?_, fun r4 i hi j hj x y => ?_⟩
  · apply can
    rw [N k hkm (by omega) x]
    simp only [sm]
    have e1 : (sm r fun i => A k (if i = r then c else pv i) * M i x) = sm r fun i => A k (pv i) * M i x := sm_congr fun i hi => by rw [if_neg (by omega)]
    rw [e1]
    simp only [if_true]
    rw [Nr]
    have e2 : d * (sm r fun i => A k (pv i) * M i x) = R r c * (sm r fun i => A k (pv i) * R i x) - R r x * (sm r fun i => A k (pv i) * R i c) := by
      rw [sm_mul, sm_mul, sm_mul, sm_sub]
      refine sm_congr fun i hi => ?_
      have := N i (by omega) (by omega) x
      grind
    have h1 := h.a k (by omega) hkm x
    have h2 := h.a k (by omega) hkm c
    generalize (sm r fun i => A k (pv i) * R i x) = S at *
    generalize (sm r fun i => A k (pv i) * R i c) = S' at *
    generalize (sm r fun i => A k (pv i) * M i x) = S'' at *
    grind
  · by_cases z : i = r
    · subst z
      by_cases z2 : j = i
      · subst z2
        rw [if_pos rfl, if_pos rfl, Nr]
      · rw [if_neg z2, Nr, if_neg (Ne.symm z2)]
        exact h.rp (by omega) (Nat.le_refl _) hr
    · apply can
      rw [N i (by omega) z]
      by_cases z2 : j = r
      · subst z2
        rw [if_pos rfl, if_neg z]
        grind
      · rw [if_neg z2]
        have e1 := h.p i (by omega) j (by omega)
        have e2 := h.rp (k := r) (j := j) (by omega) (Nat.le_refl _) hr
        rw [e1, e2]
        by_cases z3 : i = j
        · rw [if_pos z3, if_pos z3]; grind
        · rw [if_neg z3, if_neg z3]; grind
  · by_cases zi : i = r
    · subst zi
      by_cases zj : j = i
      · subst zj
        rw [Int.sub_self]
        exact Int.dvd_zero _
      · obtain ⟨q, e⟩ := h.one r3 (k := j) (by omega) (Nat.le_refl i) hr (x := x) (y := y)
        refine ⟨q, can ?_⟩
        have e1 := N j (by omega) zj x
        have e2 := N j (by omega) zj y
        rw [Nr, Nr]
        grind
    · by_cases zj : j = r
      · subst zj
        obtain ⟨q, e⟩ := h.one r3 (k := i) (by omega) (Nat.le_refl j) hr (x := x) (y := y)
        refine ⟨-q, can ?_⟩
        have e1 := N i (by omega) zi x
        have e2 := N i (by omega) zi y
        rw [Nr, Nr]
        grind
      · by_cases ij : i = j
        · subst ij
          rw [Int.sub_self]
          exact Int.dvd_zero _
        · have r2 : r = 2 := by omega
          have hij : ∀ l, l < r → l = i ∨ l = j := fun l hl => by omega
          -- the minors of three rows
          have D3 : d * d ∣ R r c * (R i x * R j y - R j x * R i y) - R j c * (R i x * R r y - R r x * R i y) - R i c * (R r x * R j y - R j x * R r y) := by
            obtain ⟨q1, e1⟩ := h.j r3 i (by omega) j (by omega) x y
            obtain ⟨q2, e2⟩ := h.j r3 i (by omega) j (by omega) c x
            obtain ⟨q3, e3⟩ := h.j r3 i (by omega) j (by omega) c y
            have ac := h.a r (Nat.le_refl _) hr c
            have ax := h.a r (Nat.le_refl _) hr x
            have ay := h.a r (Nat.le_refl _) hr y
            have z : ∀ t, (sm r fun l => A r (pv l) * R l t) = A r (pv i) * R i t + A r (pv j) * R j t := fun t => by
              subst r2
              have : (i = 0 ∧ j = 1) ∨ (i = 1 ∧ j = 0) := by omega
              rcases this with ⟨rfl, rfl⟩ | ⟨rfl, rfl⟩
              · simp [sm]
              · simp [sm]
                omega
            rw [z] at ac ax ay
            refine ⟨A r c * q1 - A r x * q3 + A r y * q2, ?_⟩
            rw [ac, ax, ay]
            generalize A r (pv i) = u at *
            generalize A r (pv j) = w at *
            have : (d * A r c - (u * R i c + w * R j c)) * (R i x * R j y - R j x * R i y) - R j c * (R i x * (d * A r y - (u * R i y + w * R j y)) - (d * A r x - (u * R i x + w * R j x)) * R i y) - R i c * ((d * A r x - (u * R i x + w * R j x)) * R j y - R j x * (d * A r y - (u * R i y + w * R j y)))
              = d * (A r c * (R i x * R j y - R j x * R i y) - A r x * (R i c * R j y - R j c * R i y) + A r y * (R i c * R j x - R j c * R i x)) := by grind
            rw [this, e1, e2, e3]
            grind
          obtain ⟨q, e⟩ := D3
          refine ⟨q, can (can ?_)⟩
          have f1 := N i (by omega) zi x
          have f2 := N i (by omega) zi y
          have f3 := N j (by omega) zj x
          have f4 := N j (by omega) zj y
          have : d * (d * (M i x * M j y - M j x * M i y)) = (d * M i x) * (d * M j y) - (d * M j x) * (d * M i y) := by grind
          rw [this, f1, f2, f3, f4]
          have : (R r c * R i x - R i c * R r x) * (R r c * R j y - R j c * R r y) - (R r c * R j x - R j c * R r x) * (R r c * R i y - R i c * R r y) = R r c * (R r c * (R i x * R j y - R j x * R i y) - R j c * (R i x * R r y - R r x * R i y) - R i c * (R r x * R j y - R j x * R r y)) := by grind
          rw [this, e]
          grind
end
end SM

set_option maxHeartbeats 1000000
/-! plain: what rows bring to 0, and the free columns. -/
namespace SM
open PySem
section
variable {r m n c k : Nat} {R A B : Nat → Nat → Int} {d : Int} {pv : Nat → Nat} {x y : Nat} {v : Nat → Int}
def dv (n : Nat) (f v : Nat → Int) : Int := sm n fun x => f x * v x
def kn (m n : Nat) (R : Nat → Nat → Int) (v : Nat → Int) : Prop := ∀ k, k < m → dv n (R k) v = 0
def frC (m n : Nat) (A : Nat → Nat → Int) (c : Nat) : Prop := ∃ v, kn m n A v ∧ v c ≠ 0 ∧ ∀ x, c < x → v x = 0
def One (m n : Nat) (A : Nat → Nat → Int) : Prop := ∃ c, c < n ∧ frC m n A c ∧ ∀ x, x < n → frC m n A x → x = c
theorem frC_congr (h : ∀ v, kn m n A v ↔ kn m n B v) : frC m n A c ↔ frC m n B c :=
  ⟨fun ⟨v, a, b⟩ => ⟨v, (h v).mp a, b⟩, fun ⟨v, a, b⟩ => ⟨v, (h v).mpr a, b⟩⟩
theorem dv_lin {f g h : Nat → Int} {a b e : Int} (hx : ∀ x, x < n → e * h x = a * f x - b * g x) : e * dv n h v = a * dv n f v - b * dv n g v := by
  unfold dv
  rw [sm_mul, sm_mul, sm_mul, sm_sub]
  refine sm_congr fun x hx' => ?_
  have := hx x hx'
  grind
theorem kn_step (h : Ba r m R A d pv) (r3 : r ≤ 3) (hr : r < m) (hp : R r c ≠ 0) : kn m n (stepN r R d c) v ↔ kn m n R v := by
  have N : ∀ k, k < m → k ≠ r → d * dv n (stepN r R d c k) v = R r c * dv n (R k) v - R k c * dv n (R r) v := fun k hk hne => dv_lin fun x _ => stepN_eq h r3 hr hk hne
  have Nr : dv n (stepN r R d c r) v = dv n (R r) v := by
    unfold dv
    exact sm_congr fun x _ => by rw [stepN_r]
  refine ⟨fun q k hk => ?_, fun q k hk => ?_⟩
  · have qr := q r hr
    rw [Nr] at qr
    by_cases z : k = r
    · rw [z]; exact qr
    · have e := N k hk z
      rw [q k hk, qr, Int.mul_zero, Int.mul_zero, Int.sub_zero] at e
      rcases Int.mul_eq_zero.mp e.symm with h1 | h1
      · exact absurd h1 hp
      · exact h1
  · by_cases z : k = r
    · rw [z, Nr]; exact q r hr
    · have e := N k hk z
      rw [q k hk, q r hr, Int.mul_zero, Int.mul_zero, Int.sub_zero] at e
      rcases Int.mul_eq_zero.mp e with h1 | h1
      · exact absurd h1 h.d0
      · exact h1
/-- rows from r on have 0 in the columns below c -/
def zr (r m : Nat) (R : Nat → Nat → Int) (c : Nat) : Prop := ∀ k, r ≤ k → k < m → ∀ x, x < c → R k x = 0
theorem zr_step (h : Ba r m R A d pv) (r3 : r ≤ 3) (hr : r < m) (hz : zr r m R c) : zr (r + 1) m (stepN r R d c) (c + 1) := fun k hk hkm x hx => by
  have e := stepN_eq h r3 hr hkm (show k ≠ r by omega) (c := c) (x := x)
  have z : R r c * R k x - R k c * R r x = 0 := by
    by_cases q : x = c
    · subst q; grind
    · rw [hz k (by omega) hkm x (by omega), hz r (Nat.le_refl _) hr x (by omega)]; grind
  rw [z] at e
  rcases Int.mul_eq_zero.mp e with h1 | h1
  · exact absurd h1 h.d0
  · exact h1
/-- no pivot: the column is free -/
theorem fr_of (hp : ∀ i, i < r → ∀ j, j < r → R i (pv j) = if i = j then d else 0) (d0 : d ≠ 0) (hz : zr r m R (c + 1)) (hl : ∀ i, i < r → pv i < c) (hc : c < n) : frC m n R c := by
  refine ⟨fun x => (if x = c then d else 0) - sm r fun i => if pv i = x then R i c else 0, fun k hk => ?_, ?_, fun x hx => ?_⟩
  · unfold dv
    have e : (sm n fun x => R k x * ((if x = c then d else 0) - sm r fun i => if pv i = x then R i c else 0)) = R k c * d - sm r fun i => R k (pv i) * R i c := by
      have e1 : (sm n fun x => R k x * (if x = c then d else 0)) = R k c * d := by
        rw [sm_at hc fun i _ hne => by rw [if_neg hne, Int.mul_zero], if_pos rfl]
      have e2 : (sm n fun x => R k x * sm r fun i => if pv i = x then R i c else 0) = sm r fun i => R k (pv i) * R i c := by
        have : (sm n fun x => R k x * sm r fun i => if pv i = x then R i c else 0) = sm n fun x => sm r fun i => R k x * (if pv i = x then R i c else 0) := sm_congr fun x _ => sm_mul
        rw [this, sm_swap (h := fun i x => R k x * (if pv i = x then R i c else 0))]
        refine sm_congr fun i hi => ?_
        rw [sm_at (j := pv i) (by have := hl i hi; omega) fun x _ hne => by rw [if_neg (fun z => hne z.symm), Int.mul_zero], if_pos rfl]
      rw [← e1, ← e2, sm_sub]
      exact sm_congr fun x _ => by rw [Int.mul_sub]
    rw [e]
    by_cases z : k < r
    · rw [sm_at (j := k) z fun i hi hne => by rw [hp k z i hi, if_neg (fun q => hne q.symm), Int.zero_mul], hp k z k z, if_pos rfl]
      grind
    · rw [hz k (by omega) hk c (by omega), sm_zero fun i hi => by rw [hz k (by omega) hk (pv i) (by have := hl i hi; omega), Int.zero_mul]]
      simp
  · show (if c = c then d else 0) - (sm r fun i => if pv i = c then R i c else 0) ≠ 0
    rw [if_pos rfl, sm_zero fun i hi => if_neg (by have := hl i hi; omega), Int.sub_zero]
    exact d0
  · show (if x = c then d else 0) - (sm r fun i => if pv i = x then R i c else 0) = 0
    rw [if_neg (by omega), sm_zero fun i hi => if_neg (by have := hl i hi; omega)]
    rfl
/-- a pivot: it is not -/
theorem fr_not {q : Nat} (hz : ∀ x, x < c → R q x = 0) (hq : q < m) (hc : c < n) (hp : R q c ≠ 0) : ¬ frC m n R c := by
  rintro ⟨v, h1, h2, h3⟩
  have h := h1 q hq
  unfold dv at h
  rw [sm_at hc fun x _ hne => by
    by_cases z : x < c
    · rw [hz x z, Int.zero_mul]
    · rw [h3 x (by omega), Int.mul_zero]] at h
  rcases Int.mul_eq_zero.mp h with h | h
  · exact hp h
  · exact h2 h
/-! ### the state of the loop -/
structure Bs (m n c r : Nat) (R A0 : Nat → Nat → Int) (d : Int) (pv : Nat → Nat) : Prop where
  ba : ∃ A, Ba r m R A d pv
  rm : r ≤ m
  zr : zr r m R c
  lt : ∀ i, i < r → pv i < c
  kn : ∀ v, kn m n R v ↔ kn m n A0 v
  fr : ∀ x, x < c → (frC m n A0 x ↔ ∀ i, i < r → pv i ≠ x)
theorem Bs.start : Bs m n 0 0 A A 1 pv :=
  ⟨⟨A, by decide, fun k _ _ x => by simp [sm], fun i hi => absurd hi (Nat.not_lt_zero i), fun _ i hi => absurd hi (Nat.not_lt_zero i)⟩, Nat.zero_le _, fun _ _ _ x hx => absurd hx (Nat.not_lt_zero x), fun i hi => absurd hi (Nat.not_lt_zero i), fun _ => Iff.rfl, fun x hx => absurd hx (Nat.not_lt_zero x)⟩
theorem Bs.free (h : Bs m n c r R A d pv) (hc : c < n) (hz : ∀ k, r ≤ k → k < m → R k c = 0) : Bs m n (c + 1) r R A d pv ∧ frC m n A c := by
  have z2 : SM.zr r m R (c + 1) := fun k hk hkm x hx => by
    by_cases q : x = c
    · subst q; exact hz k hk hkm
    · exact h.zr k hk hkm x (by omega)
  obtain ⟨A1, b⟩ := h.ba
  have f : frC m n A c := (frC_congr h.kn).mp (fr_of b.p b.d0 z2 h.lt hc)
  refine ⟨⟨h.ba, h.rm, z2, fun i hi => by have := h.lt i hi; omega, h.kn, fun x hx => ?_⟩, f⟩
  by_cases q : x = c
  · subst q
    exact ⟨fun _ i hi => by have := h.lt i hi; omega, fun _ => f⟩
  · exact h.fr x (by omega)
theorem Bs.pivot (h : Bs m n c r R A d pv) (rm : m ≤ 4) (hr : r < m) (hc : c < n) (hp : R r c ≠ 0) : Bs m n (c + 1) (r + 1) (stepN r R d c) A (R r c) (fun i => if i = r then c else pv i) := by
  obtain ⟨A1, b⟩ := h.ba
  have nf : ¬ frC m n A c := fun z => fr_not (fun x hx => h.zr r (Nat.le_refl _) hr x hx) hr hc hp ((frC_congr h.kn).mpr z)
  refine ⟨⟨A1, b.step (by omega) hr rm hp⟩, by omega, zr_step b (by omega) hr h.zr, fun i hi => ?_, fun v => (kn_step b (by omega) hr hp).trans (h.kn v), fun x hx => ?_⟩
  · show (if i = r then c else pv i) < c + 1
    split
    · omega
    · have := h.lt i (by omega); omega
  · by_cases q : x = c
    · subst q
      refine ⟨fun z => absurd z nf, fun z => absurd (z r (by omega)) ?_⟩
      show ¬ (if r = r then x else pv r) ≠ x
      simp
    · rw [h.fr x (by omega)]
      refine ⟨fun z i hi => ?_, fun z i hi => ?_⟩
      · show (if i = r then c else pv i) ≠ x
        split
        · exact fun w => q w.symm
        · exact z i (by omega)
      · have := z i (by omega)
        simp only [show i ≠ r by omega, if_false] at this
        exact this
/-- two rows from r on exchanged -/
def swp (i j : Nat) (k : Nat) : Nat := if k = i then j else if k = j then i else k
theorem swp_swp {i j k : Nat} : swp i j (swp i j k) = k := by unfold swp; split <;> split <;> (try split) <;> omega
theorem Bs.swap (h : Bs m n c r R A d pv) {q : Nat} (hr : r < m) (hq : r ≤ q) (hm : q < m) : Bs m n c r (fun k => R (swp r q k)) A d pv := by
  obtain ⟨A1, b⟩ := h.ba
  have s1 : ∀ k, r ≤ k → k < m → r ≤ swp r q k ∧ swp r q k < m := fun k h1 h2 => by unfold swp; split; omega; split <;> omega
  have s0 : ∀ i, i < r → swp r q i = i := fun i hi => by unfold swp; rw [if_neg (by omega), if_neg (by omega)]
  have sm' : ∀ k, k < m → swp r q k < m := fun k hk => by unfold swp; split; omega; split <;> omega
  refine ⟨⟨fun k => A1 (swp r q k), b.d0, fun k hk hkm x => ?_, fun i hi j hj => ?_, fun r3 i hi j hj x y => ?_⟩, h.rm, fun k hk hkm x hx => ?_, h.lt, fun v => Iff.trans ⟨fun z k hk => ?_, fun z k hk => ?_⟩ (h.kn v), h.fr⟩
  · obtain ⟨a1, a2⟩ := s1 k hk hkm
    show R (swp r q k) x = d * A1 (swp r q k) x - sm r fun i => A1 (swp r q k) (pv i) * R (swp r q i) x
    rw [b.a _ a1 a2 x]
    congr 1
    exact sm_congr fun i hi => by rw [s0 i hi]
  · show R (swp r q i) (pv j) = _
    rw [s0 i hi]; exact b.p i hi j hj
  · show d ∣ R (swp r q i) x * R (swp r q j) y - R (swp r q j) x * R (swp r q i) y
    rw [s0 i hi, s0 j hj]; exact b.j r3 i hi j hj x y
  · obtain ⟨a1, a2⟩ := s1 k hk hkm
    exact h.zr _ a1 a2 x hx
  · have := z (swp r q k) (sm' k hk)
    simp only [swp_swp] at this
    exact this
  · exact z (swp r q k) (sm' k hk)
end
end SM

set_option maxHeartbeats 1000000
/-! plain: elimination by rows taken out and rows in lowest numbers. -/
namespace SM
open PySem
section
variable {r m n c k : Nat} {R A B : Nat → Nat → Int} {d : Int} {pv : Nat → Nat} {x y : Nat} {v : Nat → Int} {L D : List (List Int)} {hs : List Nat}
def prI : List Int → Int
  | [] => 1
  | a :: r => a * prI r
theorem prI_ne : ∀ {l : List Int}, (∀ a ∈ l, a ≠ 0) → prI l ≠ 0
  | [], _ => by decide
  | a :: r, h => Int.mul_ne_zero (h a List.mem_cons_self) (prI_ne fun b hb => h b (List.mem_cons_of_mem _ hb))
theorem prI_dvd : ∀ {l : List Int} {a : Int}, a ∈ l → a ∣ prI l
  | b :: r, a, h => by
    rcases List.mem_cons.mp h with rfl | h
    · exact Int.dvd_mul_right ..
    · exact Int.dvd_trans (prI_dvd h) (Int.dvd_mul_left ..)
theorem prI_erase : ∀ {l : List Int} {i : Nat} (h : i < l.length), prI l = l[i] * prI (l.eraseIdx i)
  | a :: r, 0, _ => rfl
  | a :: r, i + 1, h => by
    have := prI_erase (l := r) (i := i) (by simpa using h)
    simp only [List.eraseIdx_cons_succ, prI, List.getElem_cons_succ]
    rw [this]
    grind
theorem prI_bd {b : Nat} : ∀ {l : List Int}, (∀ a ∈ l, a.natAbs < 2 ^ b) → (prI l).natAbs ≤ 2 ^ (b * l.length)
  | [], _ => by simp [prI]
  | a :: r, h => by
    have h1 := h a List.mem_cons_self
    have h2 := prI_bd (l := r) fun x hx => h x (List.mem_cons_of_mem _ hx)
    simp only [prI, Int.natAbs_mul, List.length_cons]
    rw [Nat.mul_add, Nat.mul_one, Nat.add_comm, Nat.pow_add]
    exact Nat.mul_le_mul (by omega) h2
theorem prI_snoc : ∀ {l : List Int} {a : Int}, prI (l ++ [a]) = prI l * a
  | [], a => by simp [prI]
  | b :: r, a => by
    have := prI_snoc (l := r) (a := a)
    simp only [List.cons_append, prI]
    rw [this]
    grind
/-- no pivot, rows with pivots of their own: the column is free -/
theorem fr_of2 (p0 : ∀ i, i < r → R i (pv i) ≠ 0) (hp : ∀ i, i < r → ∀ j, j < r → i ≠ j → R i (pv j) = 0) (hz : zr r m R (c + 1)) (hl : ∀ i, i < r → pv i < c) (hc : c < n) : frC m n R c := by
  let l := (List.range r).map fun i => R i (pv i)
  have d0 : prI l ≠ 0 := prI_ne fun a ha => by
    obtain ⟨i, hi, rfl⟩ := List.mem_map.mp ha
    exact p0 i (List.mem_range.mp hi)
  have dv' : ∀ i, i < r → R i (pv i) ∣ prI l := fun i hi => prI_dvd (List.mem_map.mpr ⟨i, List.mem_range.mpr hi, rfl⟩)
  let e : Nat → Int := fun i => prI l / R i (pv i)
  have he : ∀ i, i < r → e i * R i (pv i) = prI l := fun i hi => Int.ediv_mul_cancel (dv' i hi)
  have e0 : ∀ i, i < r → e i ≠ 0 := fun i hi z => by
    have := he i hi
    rw [z, Int.zero_mul] at this
    exact d0 this.symm
  let R' : Nat → Nat → Int := fun k x => if k < r then e k * R k x else R k x
  have kk : ∀ v, kn m n R' v ↔ kn m n R v := fun v => by
    have f : ∀ k, dv n (R' k) v = if k < r then e k * dv n (R k) v else dv n (R k) v := fun k => by
      by_cases h : k < r
      · simp only [R', h, if_true]
        unfold dv
        rw [sm_mul]
        exact sm_congr fun x _ => by rw [Int.mul_assoc]
      · simp only [R', h, if_false]
    refine ⟨fun q k hk => ?_, fun q k hk => ?_⟩
    · have := q k hk
      rw [f k] at this
      split at this
      · rename_i h
        rcases Int.mul_eq_zero.mp this with z | z
        · exact absurd z (e0 k h)
        · exact z
      · exact this
    · rw [f k, q k hk]
      split
      · rw [Int.mul_zero]
      · rfl
  refine (frC_congr kk).mp (fr_of (r := r) (pv := pv) (d := prI l) (fun i hi j hj => ?_) d0 (fun k hk hkm x hx => ?_) hl hc)
  · simp only [R', hi, if_true]
    by_cases z : i = j
    · subst z; rw [if_pos rfl, he i hi]
    · rw [if_neg z, hp i hi j hj z, Int.mul_zero]
  · simp only [R', show ¬ k < r by omega, if_false]
    exact hz k hk hkm x hx
/-- the row tied to a list -/
def rf (row : List Int) : Nat → Int := fun x => row.getD x 0
def knL (n : Nat) (T : List (List Int)) (v : Nat → Int) : Prop := ∀ row ∈ T, dv n (rf row) v = 0
theorem knL_iff {T : List (List Int)} (h : T.length = m) : kn m n (gt T) v ↔ knL n T v := by
  refine ⟨fun q row hr => ?_, fun q k hk => ?_⟩
  · obtain ⟨k, hk, rfl⟩ := List.mem_iff_getElem.mp hr
    have := q k (by omega)
    have e : gt T k = rf T[k] := by funext x; unfold SM.gt rf; rw [SM.getD_lt (d := ([] : List Int)) hk]
    rwa [e] at this
  · have e : gt T k = rf T[k] := by funext x; unfold SM.gt rf; rw [SM.getD_lt (d := ([] : List Int)) (by omega)]
    rw [e]
    exact q _ (List.getElem_mem _)
/-- a cleared row -/
def Cl (n : Nat) (row lead : List Int) (c : Nat) (new : List Int) : Prop := new.length = n ∧ ∃ g : Int, 1 ≤ g ∧ ∀ x, x < n → g * rf new x = rf lead c * rf row x - rf row c * rf lead x
theorem Cl.dv {row lead new : List Int} (h : Cl n row lead c new) (h0 : rf lead c ≠ 0) (hl : dv n (rf lead) v = 0) : dv n (rf new) v = 0 ↔ dv n (rf row) v = 0 := by
  obtain ⟨_, g, g1, e⟩ := h
  have := dv_lin (v := v) e
  rw [hl, Int.mul_zero, Int.sub_zero] at this
  refine ⟨fun z => ?_, fun z => ?_⟩
  · rw [z, Int.mul_zero] at this
    rcases Int.mul_eq_zero.mp this.symm with h1 | h1
    · exact absurd h1 h0
    · exact h1
  · rw [z, Int.mul_zero] at this
    rcases Int.mul_eq_zero.mp this with h1 | h1
    · omega
    · exact h1
structure Lw (m n c : Nat) (A : Nat → Nat → Int) (L D : List (List Int)) (hs : List Nat) : Prop where
  ll : D.length + L.length = m
  lh : hs.length = D.length
  rl : ∀ row ∈ L, row.length = n
  rd : ∀ row ∈ D, row.length = n
  zl : ∀ row ∈ L, ∀ x, x < c → rf row x = 0
  lt : ∀ h ∈ hs, h < c
  p0 : ∀ i, i < D.length → gt D i (hs.getD i 0) ≠ 0
  pp : ∀ i, i < D.length → ∀ j, j < D.length → i ≠ j → gt D i (hs.getD j 0) = 0
  kn : ∀ v, knL n (D ++ L) v ↔ SM.kn m n A v
  fr : ∀ x, x < c → (frC m n A x ↔ x ∉ hs)
  bl : ∀ row ∈ L, ∀ x ∈ row, x.natAbs < 2 ^ (12 * 2 ^ D.length - 1)
  bd : ∀ row ∈ D, ∀ x ∈ row, x.natAbs < 2 ^ (12 * 2 ^ D.length - 13)
theorem Lw.start {T : List (List Int)} (hl : T.length = m) (hr : ∀ row ∈ T, row.length = n) (hb : ∀ row ∈ T, ∀ x ∈ row, x.natAbs < 2 ^ 11) : Lw m n 0 (gt T) T [] [] :=
  ⟨by simpa using hl, rfl, hr, fun _ h => (by cases h), fun _ _ x hx => absurd hx (Nat.not_lt_zero x), fun _ h => (by cases h), fun i hi => absurd hi (Nat.not_lt_zero i), fun i hi => absurd hi (Nat.not_lt_zero i), fun v => by rw [List.nil_append]; exact (knL_iff hl).symm, fun x hx => absurd hx (Nat.not_lt_zero x), hb, fun _ h => by cases h⟩
theorem gt_app1 {i : Nat} (h : i < D.length) : gt (D ++ L) i = gt D i := by
  funext x
  unfold SM.gt
  congr 1
  rw [List.getD_eq_getElem?_getD, List.getD_eq_getElem?_getD, List.getElem?_append_left h]
theorem getD_memN {i : Nat} (h : i < hs.length) : hs.getD i 0 ∈ hs := by
  rw [SM.getD_lt h]
  exact List.getElem_mem h
theorem gt_app2 (h : D.length ≤ k) (hk : k < D.length + L.length) : ∃ row ∈ L, gt (D ++ L) k = rf row := by
  refine ⟨L[k - D.length], List.getElem_mem _, ?_⟩
  funext x
  unfold SM.gt rf
  rw [SM.getD_lt (d := ([] : List Int)) (by simp; omega), List.getElem_append_right h]
theorem Lw.free (h : Lw m n c A L D hs) (hc : c < n) (hz : ∀ row ∈ L, rf row c = 0) : Lw m n (c + 1) A L D hs := by
  have z2 : ∀ row ∈ L, ∀ x, x < c + 1 → rf row x = 0 := fun row hr x hx => by
    by_cases q : x = c
    · subst q; exact hz row hr
    · exact h.zl row hr x (by omega)
  have lt' : ∀ i, i < D.length → hs.getD i 0 < c := fun i hi => h.lt _ (getD_memN (by rw [h.lh]; exact hi))
  have f : frC m n A c := by
    refine (frC_congr fun v => ?_).mp (fr_of2 (m := m) (r := D.length) (R := gt (D ++ L)) (pv := fun i => hs.getD i 0) (fun i hi => by rw [gt_app1 hi]; exact h.p0 i hi) (fun i hi j hj hne => by rw [gt_app1 hi]; exact h.pp i hi j hj hne) (fun k hk hkm x hx => ?_) lt' hc)
    · rw [knL_iff (by rw [List.length_append]; exact h.ll)]
      exact h.kn v
    · obtain ⟨row, hr, e⟩ := gt_app2 (D := D) (L := L) hk (by rw [h.ll]; exact hkm)
      rw [e]
      exact z2 row hr x hx
  refine ⟨h.ll, h.lh, h.rl, h.rd, z2, fun x hx => by have := h.lt x hx; omega, h.p0, h.pp, h.kn, fun x hx => ?_, h.bl, h.bd⟩
  by_cases q : x = c
  · subst q
    exact ⟨fun _ z => by have := h.lt x z; omega, fun _ => f⟩
  · exact h.fr x (by omega)
theorem Cl.bd {row lead new : List Int} {p q : Nat} (h : Cl n row lead c new) (hc : c < n) (hl : lead.length = n) (hr : row.length = n) (bl : ∀ x ∈ lead, x.natAbs < 2 ^ p) (br : ∀ x ∈ row, x.natAbs < 2 ^ q) : ∀ x ∈ new, x.natAbs < 2 ^ (p + q + 1) := fun x hx => by
  obtain ⟨ln, g, g1, e⟩ := h
  obtain ⟨j, hj, rfl⟩ := List.mem_iff_getElem.mp hx
  have ej := e j (by omega)
  have r1 : ∀ (l : List Int) (y : Nat), y < l.length → rf l y ∈ l := fun l y hy => by unfold rf; rw [SM.getD_lt hy]; exact List.getElem_mem _
  have rn : rf new j = new[j] := by unfold rf; rw [SM.getD_lt hj]
  rw [← rn]
  have a1 := bl _ (r1 lead c (by omega))
  have a2 := bl _ (r1 lead j (by omega))
  have a3 := br _ (r1 row c (by omega))
  have a4 := br _ (r1 row j (by omega))
  have m1 : (rf lead c * rf row j).natAbs < 2 ^ p * 2 ^ q := by rw [Int.natAbs_mul]; exact Nat.mul_lt_mul'' a1 a4
  have m2 : (rf row c * rf lead j).natAbs < 2 ^ p * 2 ^ q := by rw [Int.natAbs_mul, Nat.mul_comm]; exact Nat.mul_lt_mul'' a2 a3
  have e3 : (rf new j).natAbs ≤ (g * rf new j).natAbs := by
    rw [Int.natAbs_mul]
    exact Nat.le_mul_of_pos_left _ (by omega)
  rw [ej] at e3
  have := Int.natAbs_sub_le (rf lead c * rf row j) (rf row c * rf lead j)
  rw [Nat.pow_succ, Nat.pow_add]
  omega
theorem mem_erase {l : List (List Int)} {q : Nat} {row : List Int} (hq : q < l.length) : row ∈ l ↔ row = l[q] ∨ row ∈ l.eraseIdx q := by
  induction l generalizing q with
  | nil => simp at hq
  | cons a r ih =>
    cases q with
    | zero => simp
    | succ q =>
      have := ih (q := q) (by simpa using hq)
      simp only [List.mem_cons, List.eraseIdx_cons_succ, List.getElem_cons_succ, this]
      grind
theorem Lw.pivot (h : Lw m n c A L D hs) (hc : c < n) {q : Nat} (hq : q < L.length) (hp : rf L[q] c ≠ 0) {cl : List Int → List Int} (hcl : ∀ row, row.length = n → Cl n row L[q] c (cl row)) :
    Lw m n (c + 1) A ((L.eraseIdx q).map cl) (D.map cl ++ [L[q]]) (hs ++ [c]) := by
  have me := fun row => mem_erase (row := row) hq
  have inE : ∀ row ∈ L.eraseIdx q, row ∈ L := fun row hr => (me row).mpr (.inr hr)
  have ll := h.ll
  have lh := h.lh
  have hlead := List.getElem_mem hq
  generalize hld : L[q] = lead at *
  have ln := h.rl _ hlead
  have l0 := h.zl _ hlead
  have el : (L.eraseIdx q).length = L.length - 1 := by rw [List.length_eraseIdx]; simp [hq]
  have D1 : ∀ {i}, i < D.length → ∀ x, gt (D.map cl ++ [lead]) i x = rf (cl (D.getD i [])) x := fun {i} hi x => by
    rw [gt_app1 (by simpa using hi)]
    unfold SM.gt rf
    rw [SM.getD_lt (d := ([] : List Int)) (by simpa using hi), SM.getD_lt (d := ([] : List Int)) hi]
    simp
  have D2 : ∀ x, gt (D.map cl ++ [lead]) D.length x = rf lead x := fun x => by
    unfold SM.gt rf
    rw [SM.getD_lt (d := ([] : List Int)) (by simp)]
    simp
  have H1 : ∀ {i}, i < D.length → (hs ++ [c]).getD i 0 = hs.getD i 0 := fun {i} hi => by
    rw [List.getD_eq_getElem?_getD, List.getElem?_append_left (by omega), List.getD_eq_getElem?_getD]
  have H2 : (hs ++ [c]).getD D.length 0 = c := by
    rw [← lh, SM.getD_lt (by simp)]
    simp
  have lt' : ∀ i, i < D.length → hs.getD i 0 < c := fun i hi => h.lt _ (getD_memN (by omega))
  have cd : ∀ {i}, i < D.length → ∀ {y}, y < c → ∃ g : Int, 1 ≤ g ∧ g * rf (cl (D.getD i [])) y = rf lead c * gt D i y := fun {i} hi {y} hy => by
    have hm := SM.getD_mem (d := ([] : List Int)) hi
    obtain ⟨_, g, g1, e⟩ := hcl _ (h.rd _ hm)
    refine ⟨g, g1, ?_⟩
    rw [e y (by omega), l0 y hy, Int.mul_zero, Int.sub_zero]
    rfl
  have nf : ¬ frC m n A c := fun ⟨v, v1, v2, v3⟩ => by
    have := (h.kn v).mpr v1 lead (List.mem_append_right _ hlead)
    unfold dv at this
    rw [sm_at hc fun x _ hne => by
      by_cases z : x < c
      · rw [l0 x z, Int.zero_mul]
      · rw [v3 x (by omega), Int.mul_zero]] at this
    rcases Int.mul_eq_zero.mp this with z | z
    · exact hp z
    · exact v2 z
  have b1 := h.bl _ hlead
  have p1 : 1 ≤ 2 ^ D.length := Nat.pow_pos (by decide)
  refine ⟨by simp only [List.length_append, List.length_map, List.length_cons, List.length_nil, el]; omega, by simp; omega, fun row hr => ?_, fun row hr => ?_, fun row hr x hx => ?_, fun x hx => ?_, fun i hi => ?_, fun i hi j hj hne => ?_, fun v => Iff.trans ⟨fun z row hr => ?_, fun z row hr => ?_⟩ (h.kn v), fun x hx => ?_, fun row hr => ?_, fun row hr => ?_⟩
  · obtain ⟨r0, hr0, rfl⟩ := List.mem_map.mp hr
    exact (hcl r0 (h.rl _ (inE _ hr0))).1
  · rcases List.mem_append.mp hr with hr | hr
    · obtain ⟨r0, hr0, rfl⟩ := List.mem_map.mp hr
      exact (hcl r0 (h.rd _ hr0)).1
    · rw [List.mem_singleton.mp hr]; exact ln
  · obtain ⟨r0, hr0, rfl⟩ := List.mem_map.mp hr
    obtain ⟨_, g, g1, e⟩ := hcl r0 (h.rl _ (inE _ hr0))
    have := e x (by omega)
    have z : rf lead c * rf r0 x - rf r0 c * rf lead x = 0 := by
      by_cases q : x = c
      · subst q; grind
      · rw [h.zl r0 (inE _ hr0) x (by omega), l0 x (by omega)]; grind
    rw [z] at this
    rcases Int.mul_eq_zero.mp this with z | z
    · omega
    · exact z
  · rcases List.mem_append.mp hx with hx | hx
    · have := h.lt x hx; omega
    · rw [List.mem_singleton.mp hx]; omega
  · have hi : i < D.length + 1 := by simpa using hi
    by_cases z : i = D.length
    · subst z; rw [H2, D2]; exact hp
    · rw [H1 (by omega), D1 (by omega)]
      obtain ⟨g, g1, e⟩ := cd (i := i) (by omega) (lt' i (by omega))
      intro w
      rw [w, Int.mul_zero] at e
      rcases Int.mul_eq_zero.mp e.symm with z | z
      · exact hp z
      · exact h.p0 i (by omega) z
  · have hi : i < D.length + 1 := by simpa using hi
    have hj : j < D.length + 1 := by simpa using hj
    by_cases z : i = D.length
    · subst z; rw [D2, H1 (by omega)]; exact l0 _ (lt' j (by omega))
    · rw [D1 (by omega)]
      by_cases z2 : j = D.length
      · subst z2
        rw [H2]
        obtain ⟨_, g, g1, e⟩ := hcl _ (h.rd _ (SM.getD_mem (d := ([] : List Int)) (show i < D.length by omega)))
        have := e c hc
        rw [Int.mul_comm (rf lead c), Int.sub_self] at this
        rcases Int.mul_eq_zero.mp this with z | z
        · omega
        · exact z
      · rw [H1 (by omega)]
        obtain ⟨g, g1, e⟩ := cd (i := i) (by omega) (lt' j (by omega))
        rw [h.pp i (by omega) j (by omega) hne, Int.mul_zero] at e
        rcases Int.mul_eq_zero.mp e with z | z
        · omega
        · exact z
  · have zl := z lead (by simp)
    rcases List.mem_append.mp hr with hr | hr
    · exact ((hcl row (h.rd _ hr)).dv hp zl).mp (z _ (by simp; exact .inl ⟨row, hr, rfl⟩))
    · rcases (me row).mp hr with rfl | hr'
      · exact zl
      · exact ((hcl row (h.rl _ hr)).dv hp zl).mp (z _ (by simp; exact .inr (.inr ⟨row, hr', rfl⟩)))
  · have zl := z lead (List.mem_append_right _ hlead)
    rcases List.mem_append.mp hr with hr | hr
    · rcases List.mem_append.mp hr with hr | hr
      · obtain ⟨r0, hr0, rfl⟩ := List.mem_map.mp hr
        exact ((hcl r0 (h.rd _ hr0)).dv hp zl).mpr (z _ (List.mem_append_left _ hr0))
      · rw [List.mem_singleton.mp hr]; exact zl
    · obtain ⟨r0, hr0, rfl⟩ := List.mem_map.mp hr
      exact ((hcl r0 (h.rl _ (inE _ hr0))).dv hp zl).mpr (z _ (List.mem_append_right _ (inE _ hr0)))
  · by_cases q : x = c
    · subst q
      exact ⟨fun z => absurd z nf, fun z => absurd (by simp) z⟩
    · rw [h.fr x (by omega)]
      simp [q]
  · obtain ⟨r0, hr0, rfl⟩ := List.mem_map.mp hr
    have := (hcl r0 (h.rl _ (inE _ hr0))).bd hc ln (h.rl _ (inE _ hr0)) b1 (h.bl _ (inE _ hr0))
    have e : 12 * 2 ^ D.length - 1 + (12 * 2 ^ D.length - 1) + 1 = 12 * 2 ^ (D.map cl ++ [lead]).length - 1 := by
      simp only [List.length_append, List.length_map, List.length_cons, List.length_nil, Nat.pow_succ, Nat.zero_add]
      omega
    rwa [e] at this
  · have e1 : 2 ^ (D.map cl ++ [lead]).length = 2 ^ D.length * 2 := by simp [Nat.pow_succ]
    rw [e1]
    rcases List.mem_append.mp hr with hr | hr
    · obtain ⟨r0, hr0, rfl⟩ := List.mem_map.mp hr
      have := (hcl r0 (h.rd _ hr0)).bd hc ln (h.rd _ hr0) b1 (h.bd _ hr0)
      have p2 : 2 ≤ 2 ^ D.length := by
        have : D.length ≠ 0 := fun z => by rw [List.length_eq_zero_iff.mp z] at hr0; cases hr0
        obtain ⟨k, hk⟩ : ∃ k, D.length = k + 1 := ⟨D.length - 1, by omega⟩
        rw [hk, Nat.pow_succ]
        have : 1 ≤ 2 ^ k := Nat.pow_pos (by decide)
        omega
      have e : 12 * 2 ^ D.length - 1 + (12 * 2 ^ D.length - 13) + 1 = 12 * (2 ^ D.length * 2) - 13 := by omega
      rwa [e] at this
    · rw [List.mem_singleton.mp hr]
      intro x hx
      exact Nat.lt_of_lt_of_le (b1 x hx) (Nat.pow_le_pow_right (by decide) (by omega))
/-- at the end: the free columns -/
theorem Lw.one (h : Lw m n n A L D hs) : One m n A ↔ ((List.range n).filter fun x => decide (x ∉ hs)).length = 1 := by
  have mf : ∀ x, x ∈ (List.range n).filter (fun x => decide (x ∉ hs)) ↔ x < n ∧ x ∉ hs := fun x => by simp
  have nd : ((List.range n).filter fun x => decide (x ∉ hs)).Nodup := List.nodup_range.filter _
  generalize (List.range n).filter (fun x => decide (x ∉ hs)) = l at *
  refine ⟨fun ⟨x, hx, fx, ux⟩ => ?_, fun hl => ?_⟩
  · have hm : x ∈ l := (mf x).mpr ⟨hx, (h.fr x hx).mp fx⟩
    have al : ∀ y ∈ l, y = x := fun y hy => ux y ((mf y).mp hy).1 ((h.fr y ((mf y).mp hy).1).mpr ((mf y).mp hy).2)
    match l, nd, hm, al with
    | [], _, hm, _ => cases hm
    | [a], _, _, _ => rfl
    | a :: b :: r, nd, _, al =>
      have h1 := al a (by simp)
      have h2 := al b (by simp)
      rw [List.nodup_cons] at nd
      exact absurd (by rw [h1, h2]; simp) nd.1
  · match l, hl, mf with
    | [a], _, mf =>
      have ha := (mf a).mp (by simp)
      refine ⟨a, ha.1, (h.fr a ha.1).mpr ha.2, fun x hx fx => ?_⟩
      have := (mf x).mpr ⟨hx, (h.fr x hx).mp fx⟩
      simpa using this
end
end SM

set_option maxHeartbeats 0
/-! ### the law's defs, as gen.py printed them -/
namespace Law
open PySem SM
abbrev i_is_integer : Nat := 0
abbrev i_anew : Nat := 1
abbrev i_is_within : Nat := 2
abbrev i_is_fraction : Nat := 3
abbrev i_comes_to_one : Nat := 4
abbrev i_are_chances : Nat := 5
abbrev i_is_a_row : Nat := 6
abbrev i_is_a_table : Nat := 7
abbrev i_are_tables_like : Nat := 8
abbrev i_is_a_game : Nat := 9
abbrev i_is_a_side : Nat := 10
abbrev i_many_of : Nat := 11
abbrev i_is_a_mix : Nat := 12
abbrev i_need_game : Nat := 13
abbrev i_need_side : Nat := 14
abbrev i_need_mix : Nat := 15
abbrev i_paid : Nat := 16
abbrev i_scaled : Nat := 17
abbrev i_only_line : Nat := 18
abbrev i_differences : Nat := 19
abbrev i_labels_by : Nat := 20
abbrev i_labels_of : Nat := 21
abbrev i_is_corner_of : Nat := 22
abbrev i_need_asked : Nat := 23
abbrev i_labels : Nat := 24
abbrev i_is_corner : Nat := 25
abbrev i__law_well : Nat := 26
abbrev i__law_take : Nat := 27
abbrev i__law_frozen : Nat := 28
abbrev i__law_game : Nat := 29
abbrev i__law_pays : Nat := 30
abbrev i__law_gcd : Nat := 31
abbrev i__law_ratio : Nat := 32
abbrev i__law_cleared : Nat := 33
abbrev i__law_line : Nat := 34
abbrev i__law_lots : Nat := 35
abbrev i__law_before : Nat := 36
abbrev i__law_parted : Nat := 37
abbrev i__law_labels : Nat := 38
abbrev i__law_put : Nat := 39
abbrev i__law_spread : Nat := 40
abbrev i__law_corners : Nat := 41
abbrev i__law_alone : Nat := 42
abbrev i__law_drawn : Nat := 43
abbrev i__law_halves : Nat := 44
abbrev i__law_mean : Nat := 45
abbrev i__law_same : Nat := 46
abbrev i__law_told : Nat := 47
abbrev i__law_mixes : Nat := 48
abbrev i_law : Nat := 49
def n_is_integer : List Str := [("value" : PySem.Str)]
def b_is_integer : IS := (.cons (.ret (.and (.cons (.isi (.var 0) .int) (.cons (.not (.isi (.var 0) .bool)) .nil))))
  .nil)
def d_is_integer : Df := ⟨1, 1, b_is_integer⟩
def n_anew : List Str := [("value" : PySem.Str), ("part" : PySem.Str)]
def b_anew : IS := (.cons (.ite (.isi (.var 0) .list) (.cons (.ret (.comp false (.call i_anew (.cons (.var 1) .nil)) (.var 1) (.itv (.var 0)) .nil [1]))
    .nil) .nil)
  (.cons (.ite (.isi (.var 0) .tuple) (.cons (.ret (.bi false .tuple (.cons (.comp false (.call i_anew (.cons (.var 1) .nil)) (.var 1) (.itv (.var 0)) .nil [1]) .nil)))
    .nil) .nil)
  (.cons (.ret (.var 0))
  .nil)))
def d_anew : Df := ⟨1, 2, b_anew⟩
def n_is_within : List Str := [("value" : PySem.Str), ("least" : PySem.Str), ("most" : PySem.Str)]
def b_is_within : IS := (.cons (.ret (.and (.cons (.call i_is_integer (.cons (.var 0) .nil)) (.cons (.chain .le .le (.var 1) (.var 0) (.var 2)) .nil))))
  .nil)
def d_is_within : Df := ⟨3, 3, b_is_within⟩
def n_is_fraction : List Str := [("value" : PySem.Str)]
def b_is_fraction : IS := (.cons (.ite (.or (.cons (.not (.isi (.var 0) .tuple)) (.cons (.cmp .ne (.bi false .len (.cons (.var 0) .nil)) (.lit (.int 2))) (.cons (.not (.call i_is_integer (.cons (.idx (.var 0) (.lit (.int 0))) .nil))) (.cons (.not (.call i_is_integer (.cons (.idx (.var 0) (.lit (.int 1))) .nil))) .nil))))) (.cons (.ret (.lit (.bool false)))
    .nil) .nil)
  (.cons (.ret (.and (.cons (.cmp .ge (.idx (.var 0) (.lit (.int 1))) (.lit (.int 1))) (.cons (.cmp .eq (.bi false .gcd (.cons (.idx (.var 0) (.lit (.int 0))) (.cons (.idx (.var 0) (.lit (.int 1))) .nil))) (.lit (.int 1))) .nil))))
  .nil))
def d_is_fraction : Df := ⟨1, 1, b_is_fraction⟩
def n_comes_to_one : List Str := [("fractions" : PySem.Str), ("above" : PySem.Str), ("below" : PySem.Str), ("top" : PySem.Str), ("bottom" : PySem.Str)]
def b_comes_to_one : IS := (.cons (.asg (.tup (.cons (.var 1) (.cons (.var 2) .nil))) (.tup (.cons (.lit (.int 0)) (.cons (.lit (.int 1)) .nil))))
  (.cons (.forr (.tup (.cons (.var 3) (.cons (.var 4) .nil))) (.itv (.var 0)) (.cons (.par (.var 1) (.var 2) (.bop false .add (.bop false .mul (.var 1) (.var 4)) (.bop false .mul (.var 3) (.var 2))) (.bop false .mul (.var 2) (.var 4)))
    .nil))
  (.cons (.ret (.cmp .eq (.var 1) (.var 2)))
  .nil)))
def d_comes_to_one : Df := ⟨1, 5, b_comes_to_one⟩
def n_are_chances : List Str := [("value" : PySem.Str), ("many" : PySem.Str), ("part" : PySem.Str)]
def b_are_chances : IS := (.cons (.ite (.or (.cons (.not (.isi (.var 0) .tuple)) (.cons (.cmp .ne (.bi false .len (.cons (.var 0) .nil)) (.var 1)) (.cons (.not (.bi false .all (.cons (.comp false (.call i_is_fraction (.cons (.var 2) .nil)) (.var 2) (.itv (.var 0)) .nil [2]) .nil))) .nil)))) (.cons (.ret (.lit (.bool false)))
    .nil) .nil)
  (.cons (.ret (.and (.cons (.bi false .all (.cons (.comp false (.cmp .ge (.idx (.var 2) (.lit (.int 0))) (.lit (.int 0))) (.var 2) (.itv (.var 0)) .nil [2]) .nil)) (.cons (.call i_comes_to_one (.cons (.var 0) .nil)) .nil))))
  .nil))
def d_are_chances : Df := ⟨2, 3, b_are_chances⟩
def n_is_a_row : List Str := [("value" : PySem.Str), ("wide" : PySem.Str), ("number" : PySem.Str)]
def b_is_a_row : IS := (.cons (.ite (.or (.cons (.not (.isi (.var 0) .tuple)) (.cons (.cmp .ne (.bi false .len (.cons (.var 0) .nil)) (.var 1)) .nil))) (.cons (.ret (.lit (.bool false)))
    .nil) .nil)
  (.cons (.ret (.bi false .all (.cons (.comp false (.call i_is_within (.cons (.var 2) (.cons (.neg (.glob ("MOST_NUMBER" : PySem.Str) (.int 1000))) (.cons (.glob ("MOST_NUMBER" : PySem.Str) (.int 1000)) .nil)))) (.var 2) (.itv (.var 0)) .nil [2]) .nil)))
  .nil))
def d_is_a_row : Df := ⟨2, 3, b_is_a_row⟩
def n_is_a_table : List Str := [("value" : PySem.Str), ("row" : PySem.Str)]
def b_is_a_table : IS := (.cons (.ite (.or (.cons (.not (.isi (.var 0) .tuple)) (.cons (.not (.chain .le .le (.lit (.int 1)) (.bi false .len (.cons (.var 0) .nil)) (.glob ("MOST_CHOICES" : PySem.Str) (.int 5)))) (.cons (.not (.isi (.idx (.var 0) (.lit (.int 0))) .tuple)) .nil)))) (.cons (.ret (.lit (.bool false)))
    .nil) .nil)
  (.cons (.ret (.and (.cons (.chain .le .le (.lit (.int 1)) (.bi false .len (.cons (.idx (.var 0) (.lit (.int 0))) .nil)) (.glob ("MOST_CHOICES" : PySem.Str) (.int 5))) (.cons (.bi false .all (.cons (.comp false (.call i_is_a_row (.cons (.var 1) (.cons (.bi false .len (.cons (.idx (.var 0) (.lit (.int 0))) .nil)) .nil))) (.var 1) (.itv (.var 0)) .nil [1]) .nil)) .nil))))
  .nil))
def d_is_a_table : Df := ⟨1, 2, b_is_a_table⟩
def n_are_tables_like : List Str := [("value" : PySem.Str), ("rows" : PySem.Str), ("columns" : PySem.Str), ("table" : PySem.Str)]
def b_are_tables_like : IS := (.cons (.ite (.or (.cons (.not (.isi (.var 0) .tuple)) (.cons (.cmp .ne (.bi false .len (.cons (.var 0) .nil)) (.lit (.int 2))) (.cons (.not (.bi false .all (.cons (.comp false (.call i_is_a_table (.cons (.var 3) .nil)) (.var 3) (.itv (.var 0)) .nil [3]) .nil))) .nil)))) (.cons (.ret (.lit (.bool false)))
    .nil) .nil)
  (.cons (.ret (.bi false .all (.cons (.comp false (.and (.cons (.cmp .eq (.bi false .len (.cons (.var 3) .nil)) (.var 1)) (.cons (.cmp .eq (.bi false .len (.cons (.idx (.var 3) (.lit (.int 0))) .nil)) (.var 2)) .nil))) (.var 3) (.itv (.var 0)) .nil [3]) .nil)))
  .nil))
def d_are_tables_like : Df := ⟨3, 4, b_are_tables_like⟩
def n_is_a_game : List Str := [("value" : PySem.Str)]
def b_is_a_game : IS := (.cons (.ite (.or (.cons (.not (.isi (.var 0) .tuple)) (.cons (.cmp .ne (.bi false .len (.cons (.var 0) .nil)) (.lit (.int 2))) (.cons (.not (.call i_is_a_table (.cons (.idx (.var 0) (.lit (.int 0))) .nil))) .nil)))) (.cons (.ret (.lit (.bool false)))
    .nil) .nil)
  (.cons (.ret (.call i_are_tables_like (.cons (.var 0) (.cons (.bi false .len (.cons (.idx (.var 0) (.lit (.int 0))) .nil)) (.cons (.bi false .len (.cons (.idx (.idx (.var 0) (.lit (.int 0))) (.lit (.int 0))) .nil)) .nil)))))
  .nil))
def d_is_a_game : Df := ⟨1, 1, b_is_a_game⟩
def n_is_a_side : List Str := [("value" : PySem.Str)]
def b_is_a_side : IS := (.cons (.ret (.call i_is_within (.cons (.var 0) (.cons (.lit (.int 0)) (.cons (.lit (.int 1)) .nil)))))
  .nil)
def d_is_a_side : Df := ⟨1, 1, b_is_a_side⟩
def n_many_of : List Str := [("game" : PySem.Str), ("side" : PySem.Str)]
def b_many_of : IS := (.cons (.ret (.ite (.cmp .eq (.var 1) (.lit (.int 0))) (.bi false .len (.cons (.idx (.var 0) (.lit (.int 0))) .nil)) (.bi false .len (.cons (.idx (.idx (.var 0) (.lit (.int 0))) (.lit (.int 0))) .nil))))
  .nil)
def d_many_of : Df := ⟨2, 2, b_many_of⟩
def n_is_a_mix : List Str := [("game" : PySem.Str), ("side" : PySem.Str), ("value" : PySem.Str)]
def b_is_a_mix : IS := (.cons (.ret (.call i_are_chances (.cons (.var 2) (.cons (.call i_many_of (.cons (.var 0) (.cons (.var 1) .nil))) .nil))))
  .nil)
def d_is_a_mix : Df := ⟨3, 3, b_is_a_mix⟩
def n_need_game : List Str := [("game" : PySem.Str)]
def b_need_game : IS := (.cons (.ite (.not (.call i_is_a_game (.cons (.var 0) .nil))) (.cons .never
    .nil) .nil)
  .nil)
def d_need_game : Df := ⟨1, 1, b_need_game⟩
def n_need_side : List Str := [("side" : PySem.Str)]
def b_need_side : IS := (.cons (.ite (.not (.call i_is_a_side (.cons (.var 0) .nil))) (.cons .never
    .nil) .nil)
  .nil)
def d_need_side : Df := ⟨1, 1, b_need_side⟩
def n_need_mix : List Str := [("game" : PySem.Str), ("side" : PySem.Str), ("mix" : PySem.Str)]
def b_need_mix : IS := (.cons (.ite (.not (.call i_is_a_mix (.cons (.var 0) (.cons (.var 1) (.cons (.var 2) .nil))))) (.cons .never
    .nil) .nil)
  .nil)
def d_need_mix : Df := ⟨3, 3, b_need_mix⟩
def n_paid : List Str := [("game" : PySem.Str), ("side" : PySem.Str), ("choice" : PySem.Str), ("row" : PySem.Str)]
def b_paid : IS := (.cons (.ite (.cmp .eq (.var 1) (.lit (.int 0))) (.cons (.ret (.idx (.var 0) (.lit (.int 1))))
    .nil) .nil)
  (.cons (.ret (.bi false .tuple (.cons (.comp false (.bi false .tuple (.cons (.comp false (.idx (.var 3) (.var 2)) (.var 3) (.itv (.idx (.var 0) (.lit (.int 0)))) .nil [3]) .nil)) (.var 2) (.rng1 (.bi false .len (.cons (.idx (.idx (.var 0) (.lit (.int 0))) (.lit (.int 0))) .nil))) .nil [2]) .nil)))
  .nil))
def d_paid : Df := ⟨2, 4, b_paid⟩
def n_scaled : List Str := [("mix" : PySem.Str), ("below" : PySem.Str), ("fraction" : PySem.Str)]
def b_scaled : IS := (.cons (.asg (.var 1) (.lit (.int 1)))
  (.cons (.forr (.var 2) (.itv (.var 0)) (.cons (.asg (.var 1) (.bi false .lcm (.cons (.var 1) (.cons (.idx (.var 2) (.lit (.int 1))) .nil))))
    .nil))
  (.cons (.ret (.comp false (.bop false .mul (.idx (.var 2) (.lit (.int 0))) (.bop false .fdiv (.var 1) (.idx (.var 2) (.lit (.int 1))))) (.var 2) (.itv (.var 0)) .nil [2]))
  .nil)))
def d_scaled : Df := ⟨1, 3, b_scaled⟩
def n_only_line : List Str := [("rows" : PySem.Str), ("many" : PySem.Str), ("last" : PySem.Str), ("free" : PySem.Str), ("pivots" : PySem.Str), ("row" : PySem.Str), ("column" : PySem.Str), ("at" : PySem.Str), ("spot" : PySem.Str), ("lead" : PySem.Str), ("k" : PySem.Str), ("factor" : PySem.Str), ("one" : PySem.Str), ("other" : PySem.Str), ("found" : PySem.Str)]
def b_only_line : IS := (.cons (.ptup (.cons (.var 0) (.cons (.var 2) (.cons (.var 3) (.cons (.var 4) .nil)))) (.cons (.comp true (.bi false .list (.cons (.var 5) .nil)) (.var 5) (.itv (.var 0)) .nil [5]) (.cons (.lit (.int 1)) (.cons (.neg (.lit (.int 1))) (.cons (.lst true .nil) .nil)))))
  (.cons (.forr (.var 6) (.rng1 (.var 1)) (.cons (.par (.var 7) (.var 8) (.bi false .len (.cons (.var 4) .nil)) (.bi false .len (.cons (.var 4) .nil)))
    (.cons (.whil (.and (.cons (.cmp .lt (.var 8) (.bi false .len (.cons (.var 0) .nil))) (.cons (.cmp .eq (.idx (.idx (.var 0) (.var 8)) (.var 6)) (.lit (.int 0))) .nil))) (.cons (.aug 8 .add (.lit (.int 1)))
      .nil))
    (.cons (.ite (.cmp .lt (.var 8) (.bi false .len (.cons (.var 0) .nil))) (.cons (.ptup (.cons (.idx (.var 0) (.var 7)) (.cons (.idx (.var 0) (.var 8)) .nil)) (.cons (.idx (.var 0) (.var 8)) (.cons (.idx (.var 0) (.var 7)) .nil)))
      (.cons (.asg (.var 9) (.idx (.var 0) (.var 7)))
      (.cons (.forr (.var 10) (.rng1 (.bi false .len (.cons (.var 0) .nil))) (.cons (.ite (.cmp .ne (.var 10) (.var 7)) (.cons (.asg (.var 11) (.idx (.idx (.var 0) (.var 10)) (.var 6)))
          (.cons (.asg (.idx (.var 0) (.var 10)) (.comp false (.bop false .fdiv (.bop false .sub (.bop false .mul (.idx (.var 9) (.var 6)) (.var 12)) (.bop false .mul (.var 11) (.var 13))) (.var 2)) (.tup (.cons (.var 12) (.cons (.var 13) .nil))) (.zip (.idx (.var 0) (.var 10)) (.var 9)) .nil [12, 13]))
          .nil)) .nil)
        .nil))
      (.cons (.asg (.var 2) (.idx (.var 9) (.var 6)))
      (.cons (.expr (.me .append (.var 4) (.cons (.var 6) .nil)))
      .nil))))) (.cons (.ite (.cmp .ge (.var 3) (.lit (.int 0))) (.cons (.ret (.lit .none))
        .nil) (.cons (.asg (.var 3) (.var 6))
        .nil))
      .nil))
    .nil))))
  (.cons (.ite (.cmp .lt (.var 3) (.lit (.int 0))) (.cons (.ret (.lit .none))
    .nil) .nil)
  (.cons (.asg (.var 14) (.rep true (.cons (.lit (.int 0)) .nil) (.var 1)))
  (.cons (.asg (.idx (.var 14) (.var 3)) (.var 2))
  (.cons (.forr (.tup (.cons (.var 7) (.cons (.var 6) .nil))) (.enum (.frz (.var 4))) (.cons (.asg (.idx (.var 14) (.var 6)) (.neg (.idx (.idx (.var 0) (.var 7)) (.var 3))))
    .nil))
  (.cons (.ret (.frz (.var 14)))
  .nil)))))))
def d_only_line : Df := ⟨2, 15, b_only_line⟩
def n_differences : List Str := [("table" : PySem.Str), ("lot" : PySem.Str), ("spots" : PySem.Str), ("spot" : PySem.Str), ("choice" : PySem.Str)]
def b_differences : IS := (.cons (.ret (.comp false (.comp false (.bop false .sub (.idx (.idx (.var 0) (.var 4)) (.var 3)) (.idx (.idx (.var 0) (.var 4)) (.idx (.var 2) (.lit (.int 0))))) (.var 4) (.itv (.var 1)) .nil [4]) (.var 3) (.itv (.sli false (.var 2) (.cons (.lit (.int 1)) .nil) .nil)) .nil [3]))
  .nil)
def d_differences : Df := ⟨3, 5, b_differences⟩
def n_labels_by : List Str := [("table" : PySem.Str), ("side" : PySem.Str), ("weights" : PySem.Str), ("pays" : PySem.Str), ("spot" : PySem.Str), ("weight" : PySem.Str), ("row" : PySem.Str), ("most" : PySem.Str), ("idle" : PySem.Str), ("choice" : PySem.Str), ("full" : PySem.Str), ("number" : PySem.Str)]
def b_labels_by : IS := (.cons (.asg (.var 3) (.comp false (.bi false .sum (.cons (.comp false (.bop false .mul (.var 5) (.idx (.var 6) (.var 4))) (.tup (.cons (.var 5) (.cons (.var 6) .nil))) (.zip (.var 2) (.var 0)) .nil [5, 6]) .nil)) (.var 4) (.rng1 (.bi false .len (.cons (.idx (.var 0) (.lit (.int 0))) .nil))) .nil [4]))
  (.cons (.asg (.var 7) (.bi false .max (.cons (.var 3) .nil)))
  (.cons (.asg (.var 8) (.comp false (.tup (.cons (.var 1) (.cons (.var 9) .nil))) (.tup (.cons (.var 9) (.cons (.var 5) .nil))) (.enum (.var 2)) (.cons (.cmp .eq (.var 5) (.lit (.int 0))) .nil) [9, 5]))
  (.cons (.asg (.var 10) (.comp false (.tup (.cons (.bop false .sub (.lit (.int 1)) (.var 1)) (.cons (.var 4) .nil))) (.tup (.cons (.var 4) (.cons (.var 11) .nil))) (.enum (.var 3)) (.cons (.cmp .eq (.var 11) (.var 7)) .nil) [4, 11]))
  (.cons (.ret (.bi false .tuple (.cons (.bi false .sorted (.cons (.bop false .add (.var 8) (.var 10)) .nil)) .nil)))
  .nil)))))
def d_labels_by : Df := ⟨3, 12, b_labels_by⟩
def n_labels_of : List Str := [("game" : PySem.Str), ("side" : PySem.Str), ("mix" : PySem.Str)]
def b_labels_of : IS := (.cons (.ret (.call i_labels_by (.cons (.call i_paid (.cons (.var 0) (.cons (.var 1) .nil))) (.cons (.var 1) (.cons (.call i_scaled (.cons (.var 2) .nil)) .nil)))))
  .nil)
def d_labels_of : Df := ⟨3, 3, b_labels_of⟩
def n_is_corner_of : List Str := [("game" : PySem.Str), ("side" : PySem.Str), ("mix" : PySem.Str), ("lot" : PySem.Str), ("choice" : PySem.Str), ("fraction" : PySem.Str), ("spots" : PySem.Str), ("owner" : PySem.Str)]
def b_is_corner_of : IS := (.cons (.asg (.var 3) (.comp false (.var 4) (.tup (.cons (.var 4) (.cons (.var 5) .nil))) (.enum (.var 2)) (.cons (.cmp .gt (.idx (.var 5) (.lit (.int 0))) (.lit (.int 0))) .nil) [4, 5]))
  (.cons (.asg (.var 6) (.comp false (.var 4) (.tup (.cons (.var 7) (.cons (.var 4) .nil))) (.itv (.call i_labels_of (.cons (.var 0) (.cons (.var 1) (.cons (.var 2) .nil))))) (.cons (.cmp .ne (.var 7) (.var 1)) .nil) [7, 4]))
  (.cons (.ret (.cmp .isn (.call i_only_line (.cons (.call i_differences (.cons (.call i_paid (.cons (.var 0) (.cons (.var 1) .nil))) (.cons (.var 3) (.cons (.var 6) .nil)))) (.cons (.bi false .len (.cons (.var 3) .nil)) .nil))) (.lit .none)))
  .nil)))
def d_is_corner_of : Df := ⟨3, 8, b_is_corner_of⟩
def n_need_asked : List Str := [("game" : PySem.Str), ("side" : PySem.Str), ("mixes" : PySem.Str), ("mix" : PySem.Str)]
def b_need_asked : IS := (.cons (.expr (.call i_need_game (.cons (.var 0) .nil)))
  (.cons (.expr (.call i_need_side (.cons (.var 1) .nil)))
  (.cons (.forr (.var 3) (.itv (.var 2)) (.cons (.expr (.call i_need_mix (.cons (.var 0) (.cons (.var 1) (.cons (.var 3) .nil)))))
    .nil))
  .nil)))
def d_need_asked : Df := ⟨3, 4, b_need_asked⟩
def n_labels : List Str := [("game" : PySem.Str), ("side" : PySem.Str), ("mix" : PySem.Str)]
def b_labels : IS := (.cons (.expr (.call i_need_asked (.cons (.var 0) (.cons (.var 1) (.cons (.lst false (.cons (.var 2) .nil)) .nil)))))
  (.cons (.ret (.call i_labels_of (.cons (.var 0) (.cons (.var 1) (.cons (.var 2) .nil)))))
  .nil))
def d_labels : Df := ⟨3, 3, b_labels⟩
def n_is_corner : List Str := [("game" : PySem.Str), ("side" : PySem.Str), ("mix" : PySem.Str)]
def b_is_corner : IS := (.cons (.expr (.call i_need_asked (.cons (.var 0) (.cons (.var 1) (.cons (.lst false (.cons (.var 2) .nil)) .nil)))))
  (.cons (.ret (.call i_is_corner_of (.cons (.var 0) (.cons (.var 1) (.cons (.var 2) .nil)))))
  .nil))
def d_is_corner : Df := ⟨3, 3, b_is_corner⟩
def n__law_well : List Str := [("script" : PySem.Str), ("k" : PySem.Str), ("cell" : PySem.Str), ("total" : PySem.Str), ("other" : PySem.Str)]
def b__law_well : IS := (.cons (.asg (.var 2) (.bop false .add (.bop false .mul (.lit (.int 29)) (.var 1)) (.lit (.int 11))))
  (.cons (.ite (.cmp .lt (.var 1) (.bi false .len (.cons (.var 0) .nil))) (.cons (.asg (.var 2) (.idx (.var 0) (.var 1)))
    .nil) .nil)
  (.cons (.asg (.var 3) (.bop false .add (.bi false .len (.cons (.var 0) .nil)) (.lit (.int 1))))
  (.cons (.forr (.var 4) (.itv (.var 0)) (.cons (.asg (.var 3) (.bop false .mod (.bi false .int (.cons (.bop false .add (.bop false .mul (.var 3) (.lit (.int 6151))) (.bop false .mod (.bi false .int (.cons (.var 4) .nil)) (.bop false .add (.bop false .pow (.lit (.int 10)) (.lit (.int 19))) (.lit (.int 51))))) .nil)) (.bop false .add (.bop false .pow (.lit (.int 10)) (.lit (.int 27))) (.lit (.int 103)))))
    .nil))
  (.cons (.ret (.lst true (.cons (.bi false .max (.cons (.lit (.int 0)) (.cons (.bop false .sub (.var 2) (.bop false .pow (.lit (.int 10)) (.lit (.int 18)))) .nil))) (.cons (.bop false .mod (.bi false .int (.cons (.bop false .add (.bop false .add (.bop false .add (.bop false .mul (.bi false .abs (.cons (.var 2) .nil)) (.lit (.int 9241))) (.bop false .mul (.lit (.int 17)) (.var 3))) (.bi false .int (.cons (.cmp .lt (.var 2) (.lit (.int 0))) .nil))) (.bop false .mul (.lit (.int 3)) (.var 1))) .nil)) (.bop false .add (.bop false .pow (.lit (.int 10)) (.lit (.int 28))) (.lit (.int 331)))) (.cons (.lit (.int 0)) .nil)))))
  .nil)))))
def d__law_well : Df := ⟨2, 5, b__law_well⟩
def n__law_take : List Str := [("well" : PySem.Str), ("many" : PySem.Str), ("found" : PySem.Str), ("mixed" : PySem.Str)]
def b__law_take : IS := (.cons (.ite (.cmp .gt (.idx (.var 0) (.lit (.int 0))) (.lit (.int 0))) (.cons (.asg (.var 2) (.bop false .mod (.bi false .int (.cons (.idx (.var 0) (.lit (.int 0))) .nil)) (.var 1)))
    (.cons (.asg (.idx (.var 0) (.lit (.int 0))) (.bop false .fdiv (.idx (.var 0) (.lit (.int 0))) (.var 1)))
    (.cons (.ret (.var 2))
    .nil))) .nil)
  (.cons (.asg (.idx (.var 0) (.lit (.int 2))) (.bop false .add (.idx (.var 0) (.lit (.int 2))) (.lit (.int 1))))
  (.cons (.asg (.var 3) (.bop false .mod (.bi false .int (.cons (.bop false .add (.bop false .add (.idx (.var 0) (.lit (.int 1))) (.bop false .mul (.bop false .mul (.lit (.int 715225741)) (.idx (.var 0) (.lit (.int 2)))) (.idx (.var 0) (.lit (.int 2))))) (.bop false .mul (.lit (.int 39916801)) (.idx (.var 0) (.lit (.int 2))))) .nil)) (.bop false .add (.bop false .pow (.lit (.int 10)) (.lit (.int 28))) (.lit (.int 331)))))
  (.cons (.asg (.var 3) (.bop false .mod (.bi false .int (.cons (.bop false .add (.bop false .add (.bop false .mul (.bop false .mul (.var 3) (.var 3)) (.var 3)) (.bop false .mul (.lit (.int 7)) (.idx (.var 0) (.lit (.int 2))))) (.lit (.int 1))) .nil)) (.bop false .add (.bop false .pow (.lit (.int 10)) (.lit (.int 30))) (.lit (.int 57)))))
  (.cons (.ret (.bop false .mod (.bop false .fdiv (.bop false .mod (.bi false .int (.cons (.bop false .mul (.var 3) (.bop false .add (.var 3) (.lit (.int 91193)))) .nil)) (.bop false .add (.bop false .pow (.lit (.int 10)) (.lit (.int 31))) (.lit (.int 33)))) (.lit (.int 5003))) (.var 1)))
  .nil)))))
def d__law_take : Df := ⟨2, 4, b__law_take⟩
def n__law_frozen : List Str := [("tables" : PySem.Str), ("table" : PySem.Str), ("row" : PySem.Str)]
def b__law_frozen : IS := (.cons (.ret (.bi false .tuple (.cons (.comp false (.bi false .tuple (.cons (.comp false (.bi false .tuple (.cons (.var 2) .nil)) (.var 2) (.itv (.var 1)) .nil [2]) .nil)) (.var 1) (.itv (.var 0)) .nil [1]) .nil)))
  .nil)
def d__law_frozen : Df := ⟨1, 3, b__law_frozen⟩
def n__law_game : List Str := [("well" : PySem.Str), ("rows" : PySem.Str), ("columns" : PySem.Str), ("reach" : PySem.Str), ("found" : PySem.Str), ("table" : PySem.Str), ("row" : PySem.Str), ("column" : PySem.Str), ("turn" : PySem.Str), ("way" : PySem.Str), ("other" : PySem.Str), ("line" : PySem.Str)]
def b__law_game : IS := (.cons (.asg (.var 3) (.idx (.lst false (.cons (.lit (.int 2001)) (.cons (.lit (.int 2)) (.cons (.lit (.int 3)) (.cons (.lit (.int 5)) (.cons (.lit (.int 3)) (.cons (.lit (.int 41)) (.cons (.lit (.int 2)) .nil)))))))) (.call i__law_take (.cons (.var 0) (.cons (.lit (.int 7)) .nil)))))
  (.cons (.asg (.var 4) (.lst true .nil))
  (.cons (.forr (.var 5) (.rng1 (.lit (.int 2))) (.cons (.expr (.me .append (.var 4) (.cons (.comp true (.comp true (.bop false .sub (.call i__law_take (.cons (.var 0) (.cons (.var 3) .nil))) (.bop false .fdiv (.var 3) (.lit (.int 2)))) (.var 7) (.rng1 (.var 2)) .nil [7]) (.var 6) (.rng1 (.var 1)) .nil [6]) .nil)))
    .nil))
  (.cons (.forr (.var 8) (.rng1 (.call i__law_take (.cons (.var 0) (.cons (.lit (.int 4)) .nil)))) (.cons (.par (.var 5) (.var 9) (.idx (.var 4) (.call i__law_take (.cons (.var 0) (.cons (.lit (.int 2)) .nil)))) (.call i__law_take (.cons (.var 0) (.cons (.lit (.int 4)) .nil))))
    (.cons (.par (.var 6) (.var 7) (.call i__law_take (.cons (.var 0) (.cons (.var 1) .nil))) (.call i__law_take (.cons (.var 0) (.cons (.var 2) .nil))))
    (.cons (.ite (.cmp .eq (.var 9) (.lit (.int 0))) (.cons (.asg (.idx (.var 5) (.var 6)) (.bi true .list (.cons (.idx (.var 5) (.call i__law_take (.cons (.var 0) (.cons (.var 1) .nil)))) .nil)))
      .nil) .nil)
    (.cons (.ite (.cmp .eq (.var 9) (.lit (.int 1))) (.cons (.asg (.var 10) (.call i__law_take (.cons (.var 0) (.cons (.var 2) .nil))))
      (.cons (.forr (.var 11) (.itv (.var 5)) (.cons (.asg (.idx (.var 11) (.var 7)) (.idx (.var 11) (.var 10)))
        .nil))
      .nil)) .nil)
    (.cons (.ite (.cmp .eq (.var 9) (.lit (.int 2))) (.cons (.asg (.idx (.var 5) (.var 6)) (.rep true (.cons (.idx (.idx (.var 5) (.var 6)) (.var 7)) .nil) (.var 2)))
      .nil) .nil)
    (.cons (.ite (.cmp .eq (.var 9) (.lit (.int 3))) (.cons (.forr (.var 11) (.itv (.var 5)) (.cons (.asg (.idx (.var 11) (.var 7)) (.idx (.idx (.var 5) (.var 6)) (.var 7)))
        .nil))
      .nil) .nil)
    .nil)))))))
  (.cons (.ret (.call i__law_frozen (.cons (.var 4) .nil)))
  .nil)))))
def d__law_game : Df := ⟨3, 12, b__law_game⟩
def n__law_pays : List Str := [("game" : PySem.Str), ("side" : PySem.Str), ("row" : PySem.Str), ("choice" : PySem.Str)]
def b__law_pays : IS := (.cons (.ite (.cmp .eq (.var 1) (.lit (.int 0))) (.cons (.ret (.comp false (.bi false .list (.cons (.var 2) .nil)) (.var 2) (.itv (.idx (.var 0) (.lit (.int 1)))) .nil [2]))
    .nil) .nil)
  (.cons (.ret (.comp false (.comp false (.idx (.var 2) (.var 3)) (.var 2) (.itv (.idx (.var 0) (.lit (.int 0)))) .nil [2]) (.var 3) (.rng1 (.bi false .len (.cons (.idx (.idx (.var 0) (.lit (.int 0))) (.lit (.int 0))) .nil))) .nil [3]))
  .nil))
def d__law_pays : Df := ⟨2, 4, b__law_pays⟩
def n__law_gcd : List Str := [("one" : PySem.Str), ("other" : PySem.Str)]
def b__law_gcd : IS := (.cons (.whil (.cmp .ne (.var 1) (.lit (.int 0))) (.cons (.par (.var 0) (.var 1) (.var 1) (.bop false .mod (.bi false .int (.cons (.var 0) .nil)) (.var 1)))
    .nil))
  (.cons (.ret (.bi false .abs (.cons (.var 0) .nil)))
  .nil))
def d__law_gcd : Df := ⟨2, 2, b__law_gcd⟩
def n__law_ratio : List Str := [("above" : PySem.Str), ("below" : PySem.Str), ("common" : PySem.Str)]
def b__law_ratio : IS := (.cons (.asg (.var 2) (.call i__law_gcd (.cons (.var 0) (.cons (.var 1) .nil))))
  (.cons (.ite (.cmp .lt (.var 1) (.lit (.int 0))) (.cons (.asg (.var 2) (.neg (.var 2)))
    .nil) .nil)
  (.cons (.ret (.tup (.cons (.bop false .fdiv (.var 0) (.var 2)) (.cons (.bop false .fdiv (.var 1) (.var 2)) .nil))))
  .nil)))
def d__law_ratio : Df := ⟨2, 3, b__law_ratio⟩
def n__law_cleared : List Str := [("row" : PySem.Str), ("lead" : PySem.Str), ("column" : PySem.Str), ("found" : PySem.Str), ("at" : PySem.Str), ("common" : PySem.Str), ("number" : PySem.Str)]
def b__law_cleared : IS := (.cons (.asg (.var 3) (.comp false (.bop false .sub (.bop false .mul (.idx (.var 1) (.var 2)) (.idx (.var 0) (.var 4))) (.bop false .mul (.idx (.var 0) (.var 2)) (.idx (.var 1) (.var 4)))) (.var 4) (.rng1 (.bi false .len (.cons (.var 0) .nil))) .nil [4]))
  (.cons (.asg (.var 5) (.lit (.int 0)))
  (.cons (.forr (.var 6) (.itv (.var 3)) (.cons (.asg (.var 5) (.call i__law_gcd (.cons (.var 5) (.cons (.var 6) .nil))))
    .nil))
  (.cons (.ret (.comp false (.bop false .fdiv (.var 6) (.bi false .max (.cons (.lit (.int 1)) (.cons (.var 5) .nil)))) (.var 6) (.itv (.var 3)) .nil [6]))
  .nil))))
def d__law_cleared : Df := ⟨3, 7, b__law_cleared⟩
def n__law_line : List Str := [("rows" : PySem.Str), ("many" : PySem.Str), ("left" : PySem.Str), ("done" : PySem.Str), ("heads" : PySem.Str), ("row" : PySem.Str), ("column" : PySem.Str), ("spots" : PySem.Str), ("at" : PySem.Str), ("lead" : PySem.Str), ("free" : PySem.Str), ("found" : PySem.Str), ("product" : PySem.Str)]
def b__law_line : IS := (.cons (.ptup (.cons (.var 2) (.cons (.var 3) (.cons (.var 4) .nil))) (.cons (.comp true (.bi false .list (.cons (.var 5) .nil)) (.var 5) (.itv (.var 0)) .nil [5]) (.cons (.lst true .nil) (.cons (.lst true .nil) .nil))))
  (.cons (.forr (.var 6) (.rng1 (.var 1)) (.cons (.asg (.var 7) (.comp false (.var 8) (.var 8) (.rng1 (.bi false .len (.cons (.var 2) .nil))) (.cons (.cmp .ne (.idx (.idx (.var 2) (.var 8)) (.var 6)) (.lit (.int 0))) .nil) [8]))
    (.cons (.ite (.cmp .ne (.var 7) (.lst false .nil)) (.cons (.asg (.var 9) (.me .pop (.var 2) (.cons (.idx (.var 7) (.lit (.int 0))) .nil)))
      (.cons (.asg (.var 2) (.comp true (.call i__law_cleared (.cons (.var 5) (.cons (.var 9) (.cons (.var 6) .nil)))) (.var 5) (.itv (.var 2)) .nil [5]))
      (.cons (.asg (.var 3) (.comp true (.call i__law_cleared (.cons (.var 5) (.cons (.var 9) (.cons (.var 6) .nil)))) (.var 5) (.itv (.var 3)) .nil [5]))
      (.cons (.expr (.me .append (.var 3) (.cons (.var 9) .nil)))
      (.cons (.expr (.me .append (.var 4) (.cons (.var 6) .nil)))
      .nil))))) .nil)
    .nil)))
  (.cons (.asg (.var 10) (.comp false (.var 6) (.var 6) (.rng1 (.var 1)) (.cons (.cmp .nin (.var 6) (.var 4)) .nil) [6]))
  (.cons (.ite (.cmp .ne (.bi false .len (.cons (.var 10) .nil)) (.lit (.int 1))) (.cons (.ret (.lit .none))
    .nil) .nil)
  (.cons (.par (.var 11) (.var 12) (.rep true (.cons (.lit (.int 0)) .nil) (.var 1)) (.lit (.int 1)))
  (.cons (.forr (.var 8) (.rng1 (.bi false .len (.cons (.var 3) .nil))) (.cons (.asg (.var 12) (.bop false .mul (.var 12) (.idx (.idx (.var 3) (.var 8)) (.idx (.var 4) (.var 8)))))
    .nil))
  (.cons (.asg (.idx (.var 11) (.idx (.var 10) (.lit (.int 0)))) (.var 12))
  (.cons (.forr (.var 8) (.rng1 (.bi false .len (.cons (.var 3) .nil))) (.cons (.asg (.idx (.var 11) (.idx (.var 4) (.var 8))) (.bop false .mul (.neg (.idx (.idx (.var 3) (.var 8)) (.idx (.var 10) (.lit (.int 0))))) (.bop false .fdiv (.var 12) (.idx (.idx (.var 3) (.var 8)) (.idx (.var 4) (.var 8))))))
    .nil))
  (.cons (.ret (.frz (.var 11)))
  .nil)))))))))
def d__law_line : Df := ⟨2, 13, b__law_line⟩
def n__law_lots : List Str := [("many" : PySem.Str), ("found" : PySem.Str), ("choice" : PySem.Str), ("lot" : PySem.Str)]
def b__law_lots : IS := (.cons (.asg (.var 1) (.lst false (.cons (.tup .nil) .nil)))
  (.cons (.forr (.var 2) (.rng1 (.var 0)) (.cons (.asg (.var 1) (.bop false .add (.var 1) (.comp false (.bop false .add (.var 3) (.tup (.cons (.var 2) .nil))) (.var 3) (.itv (.var 1)) .nil [3])))
    .nil))
  (.cons (.ret (.sli false (.var 1) (.cons (.lit (.int 1)) .nil) .nil))
  .nil)))
def d__law_lots : Df := ⟨1, 4, b__law_lots⟩
def n__law_before : List Str := [("one" : PySem.Str), ("other" : PySem.Str), ("at" : PySem.Str), ("gap" : PySem.Str)]
def b__law_before : IS := (.cons (.forr (.var 2) (.rng1 (.bi false .len (.cons (.var 0) .nil))) (.cons (.asg (.var 3) (.bop false .sub (.bop false .mul (.idx (.idx (.var 0) (.var 2)) (.lit (.int 0))) (.idx (.idx (.var 1) (.var 2)) (.lit (.int 1)))) (.bop false .mul (.idx (.idx (.var 1) (.var 2)) (.lit (.int 0))) (.idx (.idx (.var 0) (.var 2)) (.lit (.int 1))))))
    (.cons (.ite (.cmp .ne (.var 3) (.lit (.int 0))) (.cons (.ret (.cmp .lt (.var 3) (.lit (.int 0))))
      .nil) .nil)
    .nil)))
  (.cons (.ret (.lit (.bool false)))
  .nil))
def d__law_before : Df := ⟨2, 4, b__law_before⟩
def n__law_parted : List Str := [("weights" : PySem.Str), ("weight" : PySem.Str)]
def b__law_parted : IS := (.cons (.ret (.bi false .tuple (.cons (.comp false (.call i__law_ratio (.cons (.var 1) (.cons (.bi false .sum (.cons (.var 0) .nil)) .nil))) (.var 1) (.itv (.var 0)) .nil [1]) .nil)))
  .nil)
def d__law_parted : Df := ⟨1, 2, b__law_parted⟩
def n__law_labels : List Str := [("game" : PySem.Str), ("side" : PySem.Str), ("mix" : PySem.Str), ("pays" : PySem.Str), ("below" : PySem.Str), ("part" : PySem.Str), ("weights" : PySem.Str), ("sums" : PySem.Str), ("spot" : PySem.Str), ("choice" : PySem.Str), ("found" : PySem.Str)]
def b__law_labels : IS := (.cons (.asg (.tup (.cons (.var 3) (.cons (.var 4) .nil))) (.tup (.cons (.call i__law_pays (.cons (.var 0) (.cons (.var 1) .nil))) (.cons (.lit (.int 1)) .nil))))
  (.cons (.forr (.var 5) (.itv (.var 2)) (.cons (.asg (.var 4) (.bop false .mul (.var 4) (.idx (.var 5) (.lit (.int 1)))))
    .nil))
  (.cons (.asg (.var 6) (.comp false (.bop false .mul (.idx (.var 5) (.lit (.int 0))) (.bop false .fdiv (.var 4) (.idx (.var 5) (.lit (.int 1))))) (.var 5) (.itv (.var 2)) .nil [5]))
  (.cons (.asg (.var 7) (.lst true .nil))
  (.cons (.forr (.var 8) (.rng1 (.bi false .len (.cons (.idx (.var 3) (.lit (.int 0))) .nil))) (.cons (.expr (.me .append (.var 7) (.cons (.bi false .sum (.cons (.comp false (.bop false .mul (.idx (.var 6) (.var 9)) (.idx (.idx (.var 3) (.var 9)) (.var 8))) (.var 9) (.rng1 (.bi false .len (.cons (.var 6) .nil))) .nil [9]) .nil)) .nil)))
    .nil))
  (.cons (.asg (.var 10) (.comp false (.tup (.cons (.var 1) (.cons (.var 9) .nil))) (.var 9) (.rng1 (.bi false .len (.cons (.var 6) .nil))) (.cons (.cmp .eq (.idx (.var 6) (.var 9)) (.lit (.int 0))) .nil) [9]))
  (.cons (.ret (.bi false .sorted (.cons (.bop false .add (.var 10) (.comp false (.tup (.cons (.bop false .sub (.lit (.int 1)) (.var 1)) (.cons (.var 8) .nil))) (.var 8) (.rng1 (.bi false .len (.cons (.var 7) .nil))) (.cons (.cmp .eq (.idx (.var 7) (.var 8)) (.bi false .max (.cons (.var 7) .nil))) .nil) [8])) .nil)))
  .nil)))))))
def d__law_labels : Df := ⟨3, 11, b__law_labels⟩
def n__law_put : List Str := [("found" : PySem.Str), ("mix" : PySem.Str), ("low" : PySem.Str), ("high" : PySem.Str), ("middle" : PySem.Str)]
def b__law_put : IS := (.cons (.par (.var 2) (.var 3) (.lit (.int 0)) (.bi false .len (.cons (.var 0) .nil)))
  (.cons (.whil (.cmp .lt (.var 2) (.var 3)) (.cons (.asg (.var 4) (.bop false .fdiv (.bop false .add (.var 2) (.var 3)) (.lit (.int 2))))
    (.cons (.ite (.call i__law_before (.cons (.idx (.var 0) (.var 4)) (.cons (.var 1) .nil))) (.cons (.asg (.var 2) (.bop false .add (.var 4) (.lit (.int 1))))
      .nil) (.cons (.asg (.var 3) (.var 4))
      .nil))
    .nil)))
  (.cons (.ite (.or (.cons (.cmp .eq (.var 2) (.bi false .len (.cons (.var 0) .nil))) (.cons (.cmp .ne (.idx (.var 0) (.var 2)) (.var 1)) .nil))) (.cons (.expr (.me .insert (.var 0) (.cons (.var 2) (.cons (.var 1) .nil))))
    .nil) .nil)
  .nil)))
def d__law_put : Df := ⟨2, 5, b__law_put⟩
def n__law_spread : List Str := [("line" : PySem.Str), ("lot" : PySem.Str), ("many" : PySem.Str), ("weights" : PySem.Str), ("at" : PySem.Str)]
def b__law_spread : IS := (.cons (.ite (.or (.cons (.cmp .is (.var 0) (.lit .none)) (.cons (.chain .le .le (.bi false .min (.cons (.var 0) .nil)) (.lit (.int 0)) (.bi false .max (.cons (.var 0) .nil))) .nil))) (.cons (.ret (.lit .none))
    .nil) .nil)
  (.cons (.asg (.var 3) (.rep true (.cons (.lit (.int 0)) .nil) (.var 2)))
  (.cons (.forr (.var 4) (.rng1 (.bi false .len (.cons (.var 1) .nil))) (.cons (.asg (.idx (.var 3) (.idx (.var 1) (.var 4))) (.bi false .abs (.cons (.idx (.var 0) (.var 4)) .nil)))
    .nil))
  (.cons (.ret (.call i__law_parted (.cons (.var 3) .nil)))
  .nil))))
def d__law_spread : Df := ⟨3, 5, b__law_spread⟩
def n__law_corners : List Str := [("game" : PySem.Str), ("side" : PySem.Str), ("pays" : PySem.Str), ("found" : PySem.Str), ("spots" : PySem.Str), ("lot" : PySem.Str), ("rows" : PySem.Str), ("spot" : PySem.Str), ("own" : PySem.Str), ("mix" : PySem.Str)]
def b__law_corners : IS := (.cons (.ptup (.cons (.var 2) (.cons (.var 3) .nil)) (.cons (.call i__law_pays (.cons (.var 0) (.cons (.var 1) .nil))) (.cons (.lst true .nil) .nil)))
  (.cons (.forr (.var 4) (.itv (.call i__law_lots (.cons (.bi false .len (.cons (.idx (.var 2) (.lit (.int 0))) .nil)) .nil))) (.cons (.forr (.var 5) (.itv (.call i__law_lots (.cons (.bi false .len (.cons (.var 2) .nil)) .nil))) (.cons (.ite (.cmp .eq (.bi false .len (.cons (.var 5) .nil)) (.bi false .len (.cons (.var 4) .nil))) (.cons (.asg (.var 6) (.comp false (.comp false (.bop false .sub (.idx (.idx (.var 2) (.var 8)) (.var 7)) (.idx (.idx (.var 2) (.var 8)) (.idx (.var 4) (.lit (.int 0))))) (.var 8) (.itv (.var 5)) .nil [8]) (.var 7) (.itv (.sli false (.var 4) (.cons (.lit (.int 1)) .nil) .nil)) .nil [7]))
        (.cons (.asg (.var 9) (.call i__law_spread (.cons (.call i__law_line (.cons (.var 6) (.cons (.bi false .len (.cons (.var 5) .nil)) .nil))) (.cons (.var 5) (.cons (.bi false .len (.cons (.var 2) .nil)) .nil)))))
        (.cons (.ite (.and (.cons (.cmp .isn (.var 9) (.lit .none)) (.cons (.cmp .inn (.tup (.cons (.bop false .sub (.lit (.int 1)) (.var 1)) (.cons (.idx (.var 4) (.lit (.int 0))) .nil))) (.call i__law_labels (.cons (.var 0) (.cons (.var 1) (.cons (.var 9) .nil))))) .nil))) (.cons (.expr (.call i__law_put (.cons (.var 3) (.cons (.var 9) .nil))))
          .nil) .nil)
        .nil))) .nil)
      .nil))
    .nil))
  (.cons (.ret (.frz (.var 3)))
  .nil)))
def d__law_corners : Df := ⟨2, 10, b__law_corners⟩
def n__law_alone : List Str := [("game" : PySem.Str), ("side" : PySem.Str), ("mix" : PySem.Str), ("pays" : PySem.Str), ("shown" : PySem.Str), ("lot" : PySem.Str), ("choice" : PySem.Str), ("spots" : PySem.Str), ("owner" : PySem.Str), ("rows" : PySem.Str), ("spot" : PySem.Str), ("own" : PySem.Str)]
def b__law_alone : IS := (.cons (.asg (.tup (.cons (.var 3) (.cons (.var 4) .nil))) (.tup (.cons (.call i__law_pays (.cons (.var 0) (.cons (.var 1) .nil))) (.cons (.call i__law_labels (.cons (.var 0) (.cons (.var 1) (.cons (.var 2) .nil)))) .nil))))
  (.cons (.asg (.var 5) (.comp false (.var 6) (.var 6) (.rng1 (.bi false .len (.cons (.var 2) .nil))) (.cons (.cmp .nin (.tup (.cons (.var 1) (.cons (.var 6) .nil))) (.var 4)) .nil) [6]))
  (.cons (.asg (.var 7) (.comp false (.var 6) (.tup (.cons (.var 8) (.cons (.var 6) .nil))) (.itv (.var 4)) (.cons (.cmp .ne (.var 8) (.var 1)) .nil) [8, 6]))
  (.cons (.asg (.var 9) (.comp false (.comp false (.bop false .sub (.idx (.idx (.var 3) (.var 11)) (.var 10)) (.idx (.idx (.var 3) (.var 11)) (.idx (.var 7) (.lit (.int 0))))) (.var 11) (.itv (.var 5)) .nil [11]) (.var 10) (.itv (.sli false (.var 7) (.cons (.lit (.int 1)) .nil) .nil)) .nil [10]))
  (.cons (.ret (.cmp .isn (.call i__law_line (.cons (.var 9) (.cons (.bi false .len (.cons (.var 5) .nil)) .nil))) (.lit .none)))
  .nil)))))
def d__law_alone : Df := ⟨3, 12, b__law_alone⟩
def n__law_drawn : List Str := [("well" : PySem.Str), ("many" : PySem.Str), ("reach" : PySem.Str), ("weights" : PySem.Str), ("choice" : PySem.Str), ("sure" : PySem.Str)]
def b__law_drawn : IS := (.cons (.asg (.var 2) (.idx (.lst false (.cons (.lit (.int 4)) (.cons (.lit (.int 12)) (.cons (.bop false .pow (.lit (.int 10)) (.lit (.int 30))) (.cons (.lit (.int 2)) (.cons (.lit (.int 1)) (.cons (.bop false .pow (.bop false .pow (.lit (.int 10)) (.lit (.int 59))) (.lit (.int 5))) .nil))))))) (.call i__law_take (.cons (.var 0) (.cons (.lit (.int 6)) .nil)))))
  (.cons (.asg (.var 3) (.comp true (.call i__law_take (.cons (.var 0) (.cons (.var 2) .nil))) (.var 4) (.rng1 (.var 1)) .nil [4]))
  (.cons (.asg (.var 5) (.call i__law_take (.cons (.var 0) (.cons (.var 1) .nil))))
  (.cons (.ite (.cmp .eq (.bi false .sum (.cons (.var 3) .nil)) (.lit (.int 0))) (.cons (.asg (.idx (.var 3) (.var 5)) (.lit (.int 1)))
    .nil) .nil)
  (.cons (.ret (.call i__law_parted (.cons (.var 3) .nil)))
  .nil)))))
def d__law_drawn : Df := ⟨2, 6, b__law_drawn⟩
def n__law_halves : List Str := [("well" : PySem.Str), ("many" : PySem.Str), ("cut" : PySem.Str), ("reach" : PySem.Str), ("found" : PySem.Str), ("size" : PySem.Str), ("weights" : PySem.Str), ("choice" : PySem.Str), ("weight" : PySem.Str)]
def b__law_halves : IS := (.cons (.asg (.tup (.cons (.var 2) (.cons (.var 3) (.cons (.var 4) .nil)))) (.tup (.cons (.bop false .add (.lit (.int 1)) (.call i__law_take (.cons (.var 0) (.cons (.bop false .sub (.var 1) (.lit (.int 1))) .nil)))) (.cons (.bop false .pow (.bop false .pow (.lit (.int 10)) (.lit (.int 59))) (.lit (.int 5))) (.cons (.lst false .nil) .nil)))))
  (.cons (.forr (.var 5) (.itv (.lst false (.cons (.var 2) (.cons (.bop false .sub (.var 1) (.var 2)) .nil)))) (.cons (.asg (.var 6) (.comp false (.bop false .add (.lit (.int 1)) (.call i__law_take (.cons (.var 0) (.cons (.var 3) .nil)))) (.var 7) (.rng1 (.var 5)) .nil [7]))
    (.cons (.asg (.var 4) (.bop false .add (.var 4) (.comp false (.call i__law_ratio (.cons (.var 8) (.cons (.bop false .mul (.lit (.int 2)) (.bi false .sum (.cons (.var 6) .nil))) .nil))) (.var 8) (.itv (.var 6)) .nil [8])))
    .nil)))
  (.cons (.ret (.bi false .tuple (.cons (.var 4) .nil)))
  .nil)))
def d__law_halves : Df := ⟨2, 9, b__law_halves⟩
def n__law_mean : List Str := [("mixes" : PySem.Str), ("weights" : PySem.Str), ("found" : PySem.Str), ("choice" : PySem.Str), ("above" : PySem.Str), ("below" : PySem.Str), ("at" : PySem.Str), ("part" : PySem.Str), ("weight" : PySem.Str)]
def b__law_mean : IS := (.cons (.asg (.var 2) (.lst true .nil))
  (.cons (.forr (.var 3) (.rng1 (.bi false .len (.cons (.idx (.var 0) (.lit (.int 0))) .nil))) (.cons (.asg (.tup (.cons (.var 4) (.cons (.var 5) .nil))) (.tup (.cons (.lit (.int 0)) (.cons (.lit (.int 1)) .nil))))
    (.cons (.forr (.var 6) (.rng1 (.bi false .len (.cons (.var 0) .nil))) (.cons (.par (.var 7) (.var 8) (.idx (.idx (.var 0) (.var 6)) (.var 3)) (.idx (.var 1) (.var 6)))
      (.cons (.asg (.var 4) (.bop false .add (.bop false .mul (.bop false .mul (.var 4) (.idx (.var 7) (.lit (.int 1)))) (.idx (.var 8) (.lit (.int 1)))) (.bop false .mul (.bop false .mul (.idx (.var 7) (.lit (.int 0))) (.idx (.var 8) (.lit (.int 0)))) (.var 5))))
      (.cons (.asg (.var 5) (.bop false .mul (.bop false .mul (.var 5) (.idx (.var 7) (.lit (.int 1)))) (.idx (.var 8) (.lit (.int 1)))))
      .nil))))
    (.cons (.expr (.me .append (.var 2) (.cons (.call i__law_ratio (.cons (.var 4) (.cons (.var 5) .nil))) .nil)))
    .nil))))
  (.cons (.ret (.bi false .tuple (.cons (.var 2) .nil)))
  .nil)))
def d__law_mean : Df := ⟨2, 9, b__law_mean⟩
def n__law_same : List Str := [("found" : PySem.Str), ("due" : PySem.Str), ("at" : PySem.Str)]
def b__law_same : IS := (.cons (.ite (.or (.cons (.isi (.var 1) .list) (.cons (.isi (.var 1) .tuple) .nil))) (.cons (.ite (.or (.cons (.cmp .ne (.isi (.var 0) .list) (.isi (.var 1) .list)) (.cons (.cmp .ne (.isi (.var 0) .tuple) (.isi (.var 1) .tuple)) .nil))) (.cons (.ret (.lit (.bool false)))
      .nil) .nil)
    (.cons (.ret (.and (.cons (.cmp .eq (.bi false .len (.cons (.var 0) .nil)) (.bi false .len (.cons (.var 1) .nil))) (.cons (.bi false .all (.cons (.comp false (.call i__law_same (.cons (.idx (.var 0) (.var 2)) (.cons (.idx (.var 1) (.var 2)) .nil))) (.var 2) (.rng1 (.bi false .len (.cons (.var 1) .nil))) .nil [2]) .nil)) .nil))))
    .nil)) .nil)
  (.cons (.ite (.isi (.var 1) .bool) (.cons (.ret (.and (.cons (.isi (.var 0) .bool) (.cons (.cmp .eq (.var 0) (.var 1)) .nil))))
    .nil) .nil)
  (.cons (.ite (.isi (.var 1) .int) (.cons (.ret (.and (.cons (.isi (.var 0) .int) (.cons (.not (.isi (.var 0) .bool)) (.cons (.cmp .eq (.var 0) (.var 1)) .nil)))))
    .nil) .nil)
  (.cons (.ret (.and (.cons (.cmp .is (.var 0) (.lit .none)) (.cons (.cmp .is (.var 1) (.lit .none)) .nil))))
  .nil))))
def d__law_same : Df := ⟨2, 3, b__law_same⟩
def n__law_told : List Str := [("game" : PySem.Str), ("side" : PySem.Str), ("mix" : PySem.Str), ("named" : PySem.Str)]
def b__law_told : IS := (.cons (.ite (.var 3) (.cons (.ret (.tup (.cons (.callk i_labels .nil (.cons (.var 2) (.cons (.var 0) (.cons (.var 1) .nil))) [("mix" : PySem.Str), ("game" : PySem.Str), ("side" : PySem.Str)] [1, 2, 0]) (.cons (.callk i_is_corner .nil (.cons (.var 1) (.cons (.var 2) (.cons (.var 0) .nil))) [("side" : PySem.Str), ("mix" : PySem.Str), ("game" : PySem.Str)] [2, 0, 1]) .nil))))
    .nil) .nil)
  (.cons (.ret (.tup (.cons (.call i_labels (.cons (.var 0) (.cons (.var 1) (.cons (.var 2) .nil)))) (.cons (.call i_is_corner (.cons (.var 0) (.cons (.var 1) (.cons (.var 2) .nil)))) .nil))))
  .nil))
def d__law_told : Df := ⟨4, 4, b__law_told⟩
def n__law_mixes : List Str := [("well" : PySem.Str), ("game" : PySem.Str), ("side" : PySem.Str), ("many" : PySem.Str), ("edge" : PySem.Str), ("found" : PySem.Str), ("turn" : PySem.Str), ("share" : PySem.Str), ("two" : PySem.Str)]
def b__law_mixes : IS := (.cons (.par (.var 4) (.var 5) (.call i__law_corners (.cons (.var 1) (.cons (.var 2) .nil))) (.comp true (.call i__law_drawn (.cons (.var 0) (.cons (.var 3) .nil))) (.var 6) (.rng1 (.lit (.int 4))) .nil [6]))
  (.cons (.forr (.var 6) (.rng1 (.lit (.int 5))) (.cons (.expr (.me .append (.var 5) (.cons (.idx (.var 4) (.call i__law_take (.cons (.var 0) (.cons (.bi false .len (.cons (.var 4) .nil)) .nil)))) .nil)))
    .nil))
  (.cons (.forr (.var 6) (.rng1 (.lit (.int 3))) (.cons (.asg (.var 7) (.bop false .add (.lit (.int 1)) (.call i__law_take (.cons (.var 0) (.cons (.lit (.int 9)) .nil)))))
    (.cons (.asg (.var 8) (.lst false (.cons (.idx (.var 4) (.call i__law_take (.cons (.var 0) (.cons (.bi false .len (.cons (.var 4) .nil)) .nil)))) (.cons (.idx (.var 4) (.call i__law_take (.cons (.var 0) (.cons (.bi false .len (.cons (.var 4) .nil)) .nil)))) .nil))))
    (.cons (.expr (.me .append (.var 5) (.cons (.call i__law_mean (.cons (.var 8) (.cons (.lst false (.cons (.call i__law_ratio (.cons (.var 7) (.cons (.lit (.int 10)) .nil))) (.cons (.call i__law_ratio (.cons (.bop false .sub (.lit (.int 10)) (.var 7)) (.cons (.lit (.int 10)) .nil))) .nil))) .nil))) .nil)))
    .nil))))
  (.cons (.ret (.ite (.cmp .eq (.var 3) (.lit (.int 1))) (.var 5) (.bop false .add (.var 5) (.lst false (.cons (.call i__law_halves (.cons (.var 0) (.cons (.var 3) .nil))) .nil)))))
  .nil))))
def d__law_mixes : Df := ⟨4, 9, b__law_mixes⟩
def n_law : List Str := [("script" : PySem.Str), ("k" : PySem.Str), ("well" : PySem.Str), ("rows" : PySem.Str), ("columns" : PySem.Str), ("side" : PySem.Str), ("games" : PySem.Str), ("mix" : PySem.Str), ("game" : PySem.Str), ("due" : PySem.Str)]
def b_law : IS := (.cons (.forr (.var 1) (.rng1 (.bi false .max (.cons (.lit (.int 1)) (.cons (.bi false .min (.cons (.lit (.int 2)) (.cons (.bi false .len (.cons (.var 0) .nil)) .nil))) .nil)))) (.cons (.asg (.var 2) (.call i__law_well (.cons (.var 0) (.cons (.var 1) .nil))))
    (.cons (.par3 3 4 5 (.bop false .add (.lit (.int 1)) (.call i__law_take (.cons (.var 2) (.cons (.lit (.int 5)) .nil)))) (.bop false .add (.lit (.int 1)) (.call i__law_take (.cons (.var 2) (.cons (.lit (.int 5)) .nil)))) (.call i__law_take (.cons (.var 2) (.cons (.lit (.int 2)) .nil))))
    (.cons (.asg (.var 6) (.lst false (.cons (.call i__law_game (.cons (.var 2) (.cons (.var 3) (.cons (.var 4) .nil)))) (.cons (.call i__law_game (.cons (.var 2) (.cons (.var 3) (.cons (.var 4) .nil)))) .nil))))
    (.cons (.forr (.var 7) (.itv (.call i__law_mixes (.cons (.var 2) (.cons (.idx (.var 6) (.lit (.int 0))) (.cons (.var 5) (.cons (.idx (.lst false (.cons (.var 3) (.cons (.var 4) .nil))) (.var 5)) .nil)))))) (.cons (.forr (.var 8) (.itv (.bop false .add (.var 6) (.sli false (.var 6) .nil (.cons (.lit (.int 1)) .nil)))) (.cons (.asg (.var 9) (.tup (.cons (.bi false .tuple (.cons (.call i__law_labels (.cons (.var 8) (.cons (.var 5) (.cons (.var 7) .nil)))) .nil)) (.cons (.call i__law_alone (.cons (.var 8) (.cons (.var 5) (.cons (.var 7) .nil)))) .nil))))
        (.cons (.ite (.not (.call i__law_same (.cons (.call i__law_told (.cons (.var 8) (.cons (.var 5) (.cons (.var 7) (.cons (.cmp .eq (.call i__law_take (.cons (.var 2) (.cons (.lit (.int 2)) .nil))) (.lit (.int 0))) .nil))))) (.cons (.var 9) .nil)))) (.cons (.ret (.lit (.bool false)))
          .nil) .nil)
        .nil)))
      .nil))
    .nil)))))
  (.cons (.ret (.lit (.bool true)))
  .nil))
def d_law : Df := ⟨1, 10, b_law⟩
def tab : List Df := [d_is_integer, d_anew, d_is_within, d_is_fraction, d_comes_to_one, d_are_chances, d_is_a_row, d_is_a_table, d_are_tables_like, d_is_a_game, d_is_a_side, d_many_of, d_is_a_mix, d_need_game, d_need_side, d_need_mix, d_paid, d_scaled, d_only_line, d_differences, d_labels_by, d_labels_of, d_is_corner_of, d_need_asked, d_labels, d_is_corner, d__law_well, d__law_take, d__law_frozen, d__law_game, d__law_pays, d__law_gcd, d__law_ratio, d__law_cleared, d__law_line, d__law_lots, d__law_before, d__law_parted, d__law_labels, d__law_put, d__law_spread, d__law_corners, d__law_alone, d__law_drawn, d__law_halves, d__law_mean, d__law_same, d__law_told, d__law_mixes, d_law]
end Law

set_option maxHeartbeats 1000000
namespace Law
open PySem SM
section
variable {fu k : Nat} {s : Sto}
def isInt : PyData → Bool
  | .int _ => true
  | _ => false
theorem is_integer_ok (x : PyData) : callI tab fu (k + 1) i_is_integer [.d x] s = .ok (.d (.bool (isInt x))) s := by
  cases x <;> exact leave_pure _ _
def isIn (lo hi : Int) : PyData → Bool
  | .int i => decide (lo ≤ i) && decide (i ≤ hi)
  | _ => false
theorem is_within_ok (x : PyData) (lo hi : Int) : callI tab fu (k + 2) i_is_within [.d x, .d (.int lo), .d (.int hi)] s = .ok (.d (.bool (isIn lo hi x))) s := by
  show leave s (exS (callI tab fu (k + 1)) fu b_is_within [some (.d x), some (.d (.int lo)), some (.d (.int hi))] s) = _
  have h : exS (callI tab fu (k + 1)) fu b_is_within [some (.d x), some (.d (.int lo)), some (.d (.int hi))] s = .rt (.d (.bool (isIn lo hi x))) s := by
    simp [b_is_within, evT_eq, is_integer_ok]
    cases x <;> simp [isInt, isIn, cmpV, ltI]
    rename_i i
    by_cases h : lo ≤ i <;> simp [h]
  rw [h, leave_pure]
def isRow (w : Nat) : PyData → Bool
  | .tuple xs => decide (xs.length = w) && xs.all (isIn (-1000) 1000)
  | _ => false
theorem is_a_row_ok (x : PyData) (w : Nat) (hw : w ≤ 16777216) : callI tab fu (k + 3) i_is_a_row [.d x, .d (.int w)] s = .ok (.d (.bool (isRow w x))) s := by
  show leave s (exS (callI tab fu (k + 2)) fu b_is_a_row [some (.d x), some (.d (.int w)), none] s) = _
  have h : exS (callI tab fu (k + 2)) fu b_is_a_row [some (.d x), some (.d (.int w)), none] s = .rt (.d (.bool (isRow w x))) s := by
    cases x <;> try (simp [b_is_a_row, evT_eq, isT, isRow]; done)
    rename_i xs
    by_cases hl : xs.length = w
    · have c : ev (callI tab fu (k + 2)) (.comp false (.call 2 (.cons (.var 2) (.cons (.neg (.glob ("MOST_NUMBER" : Str) (.int 1000))) (.cons (.glob ("MOST_NUMBER" : Str) (.int 1000)) .nil)))) (.var 2) (.itv (.var 0)) .nil [2]) [some (.d (.tuple xs)), some (.d (.int w)), none] s = .ok (.d (.list (xs.map fun x => .bool (isIn (-1000) 1000 x)))) s := by
        refine comp_map _ rfl (by omega) fun x _ => ⟨_, rfl, ?_⟩
        simp [wipe, is_within_ok]
      simp [b_is_a_row, evT_eq, isT, isRow, biV, lenV, itemsV, itemsD, cmpV, dataOf, eqD_int, hl, c, allV_map]
    · have hl' : ¬ ((xs.length : Int) = (w : Int)) := by omega
      simp [b_is_a_row, evT_eq, isT, isRow, biV, lenV, itemsV, itemsD, cmpV, dataOf, eqD_int, hl, hl']
  rw [h, leave_pure]
def isTab : PyData → Bool
  | .tuple (.tuple r :: rs) => decide (rs.length + 1 ≤ 5) && ((decide (1 ≤ r.length) && decide (r.length ≤ 5)) && (.tuple r :: rs).all (isRow r.length))
  | _ => false
theorem is_a_table_ok (x : PyData) : callI tab fu (k + 4) i_is_a_table [.d x] s = .ok (.d (.bool (isTab x))) s := by
  show leave s (exS (callI tab fu (k + 3)) fu b_is_a_table [some (.d x), none] s) = _
  have h : exS (callI tab fu (k + 3)) fu b_is_a_table [some (.d x), none] s = .rt (.d (.bool (isTab x))) s := by
    cases x <;> try (simp [b_is_a_table, evT_eq, isT, isTab]; done)
    rename_i xs
    cases xs with
    | nil => simp [b_is_a_table, evT_eq, isT, isTab, biV, lenV, itemsV, itemsD, cmpV, ltI]
    | cons y rs =>
      by_cases hl : rs.length + 1 ≤ 5
      · have h1 : (1:Int) ≤ (rs.length : Int) + 1 := by omega
        have h2 : (rs.length : Int) + 1 ≤ 5 := by omega
        cases y <;> try (simp [b_is_a_table, evT_eq, isT, isTab, biV, lenV, itemsV, itemsD, cmpV, ltI, hl, h1, h2, idx0]; done)
        rename_i r
        by_cases h3 : 1 ≤ r.length
        · have h4 : (1:Int) ≤ r.length := by omega
          by_cases h5 : r.length ≤ 5
          · have h6 : (r.length : Int) ≤ 5 := by omega
            have c : ev (callI tab fu (k + 3)) (.comp false (.call 6 (.cons (.var 1) (.cons (.bi false .len (.cons (.idx (.var 0) (.lit (.int 0))) .nil)) .nil))) (.var 1) (.itv (.var 0)) .nil [1]) [some (.d (.tuple (.tuple r :: rs))), none] s = .ok (.d (.list ((PyData.tuple r :: rs).map fun x => .bool (isRow r.length x)))) s := by
              refine comp_map _ rfl (by simp; omega) fun x _ => ⟨_, rfl, ?_⟩
              simp [wipe, idx0, biV, lenV, itemsV, itemsD, is_a_row_ok, show r.length ≤ 16777216 by omega]
            have av := allV_map (s := s) (isRow r.length) (PyData.tuple r :: rs)
            simp only [List.map_cons] at av
            simp [b_is_a_table, evT_eq, isT, isTab, biV, lenV, itemsV, itemsD, cmpV, ltI, hl, h1, h2, idx0, h3, h4, h5, h6, c, av]
          · have h6 : ¬ (r.length : Int) ≤ 5 := by omega
            simp [b_is_a_table, evT_eq, isT, isTab, biV, lenV, itemsV, itemsD, cmpV, ltI, hl, h1, h2, idx0, h3, h4, h5, h6]
        · have h4 : ¬ (1:Int) ≤ r.length := by omega
          simp [b_is_a_table, evT_eq, isT, isTab, biV, lenV, itemsV, itemsD, cmpV, ltI, hl, h1, h2, idx0, h3, h4]
      · have h1 : (1:Int) ≤ (rs.length : Int) + 1 := by omega
        have h2 : ¬ (rs.length : Int) + 1 ≤ 5 := by omega
        cases y <;> simp [b_is_a_table, evT_eq, isT, isTab, biV, lenV, itemsV, itemsD, cmpV, ltI, hl, h1, h2, idx0]
  rw [h, leave_pure]
def colN : PyData → Nat
  | .tuple (.tuple r :: _) => r.length
  | _ => 0
def rowN : PyData → Nat
  | .tuple rs => rs.length
  | _ => 0
theorem rowN_tup (rs : List PyData) : rowN (.tuple rs) = rs.length := rfl
theorem colN_tup (r rs : List PyData) : colN (.tuple (.tuple r :: rs)) = r.length := rfl
theorem isTab_inv {x : PyData} (h : isTab x = true) : ∃ r rs, x = .tuple (.tuple r :: rs) ∧ rs.length + 1 ≤ 5 ∧ 1 ≤ r.length ∧ r.length ≤ 5 ∧ ∀ y ∈ (PyData.tuple r :: rs), isRow r.length y = true := by
  unfold isTab at h
  split at h
  · rename_i r rs
    simp only [Bool.and_eq_true, decide_eq_true_eq, List.all_eq_true] at h
    exact ⟨r, rs, rfl, h.1, h.2.1.1, h.2.1.2, h.2.2⟩
  · cases h
end
section
variable {fu k : Nat} {s : Sto}
def isGame : PyData → Bool
  | .tuple [a, b] => isTab a && (isTab b && (decide (rowN b = rowN a) && decide (colN b = colN a)))
  | _ => false
theorem are_tables_like_ok (a b : PyData) (ha : isTab a = true) (n m : Nat) : callI tab fu (k + 5) i_are_tables_like [.d (.tuple [a, b]), .d (.int n), .d (.int m)] s =
    .ok (.d (.bool (isTab b && ((decide (rowN a = n) && decide (colN a = m)) && (decide (rowN b = n) && decide (colN b = m)))))) s := by
  show leave s (exS (callI tab fu (k + 4)) fu b_are_tables_like [some (.d (.tuple [a, b])), some (.d (.int n)), some (.d (.int m)), none] s) = _
  have h : exS (callI tab fu (k + 4)) fu b_are_tables_like [some (.d (.tuple [a, b])), some (.d (.int n)), some (.d (.int m)), none] s = .rt (.d (.bool (isTab b && ((decide (rowN a = n) && decide (colN a = m)) && (decide (rowN b = n) && decide (colN b = m)))))) s := by
    have c : ev (callI tab fu (k + 4)) (.comp false (.call 7 (.cons (.var 3) .nil)) (.var 3) (.itv (.var 0)) .nil [3]) [some (.d (.tuple [a, b])), some (.d (.int n)), some (.d (.int m)), none] s = .ok (.d (.list ([a, b].map fun x => .bool (isTab x)))) s := by
      refine comp_map _ rfl (by simp) fun x _ => ⟨_, rfl, ?_⟩
      simp [wipe, is_a_table_ok]
    have av := allV_map (s := s) isTab [a, b]
    simp only [List.map_cons, List.map_nil, ha] at av c
    cases hb : isTab b with
    | false =>
      simp only [hb] at av c
      simp [b_are_tables_like, evT_eq, isT, biV, lenV, itemsV, itemsD, cmpV, dataOf, eqD_int, c, av, ha, hb]
    | true =>
      obtain ⟨r, rs, rfl, h1, h2, h3, h4⟩ := isTab_inv ha
      obtain ⟨r', rs', rfl, g1, g2, g3, g4⟩ := isTab_inv hb
      have c2 : ev (callI tab fu (k + 4)) (.comp false (.and (.cons (.cmp .eq (.bi false .len (.cons (.var 3) .nil)) (.var 1)) (.cons (.cmp .eq (.bi false .len (.cons (.idx (.var 3) (.lit (.int 0))) .nil)) (.var 2)) .nil))) (.var 3) (.itv (.var 0)) .nil [3]) [some (.d (.tuple [.tuple (.tuple r :: rs), .tuple (.tuple r' :: rs')])), some (.d (.int n)), some (.d (.int m)), none] s =
          .ok (.d (.list ([PyData.tuple (.tuple r :: rs), .tuple (.tuple r' :: rs')].map fun x => .bool (decide (rowN x = n) && decide (colN x = m))))) s := by
        refine comp_map _ rfl (by simp) fun x hx => ⟨_, rfl, ?_⟩
        have hx : x = .tuple (.tuple r :: rs) ∨ x = .tuple (.tuple r' :: rs') := by simpa using hx
        have key : ∀ (r rs : List PyData), ev (callI tab fu (k + 4)) (.and (.cons (.cmp .eq (.bi false .len (.cons (.var 3) .nil)) (.var 1)) (.cons (.cmp .eq (.bi false .len (.cons (.idx (.var 3) (.lit (.int 0))) .nil)) (.var 2)) .nil))) [some (.d (.tuple [.tuple (.tuple r :: rs), .tuple (.tuple r' :: rs')])), some (.d (.int n)), some (.d (.int m)), some (.d (.tuple (.tuple r :: rs)))] s = .ok (.d (.bool (decide (rowN (.tuple (.tuple r :: rs)) = n) && decide (colN (.tuple (.tuple r :: rs)) = m)))) s := by
          intro r rs
          by_cases q : rs.length + 1 = n
          · have q' : (rs.length : Int) + 1 = n := by omega
            by_cases p : r.length = m
            · have p' : (r.length : Int) = m := by omega
              simp [evT_eq, biV, lenV, itemsV, itemsD, cmpV, dataOf, eqD_int, idx0, rowN, colN, q, q', p, p']
            · have p' : ¬ (r.length : Int) = m := by omega
              simp [evT_eq, biV, lenV, itemsV, itemsD, cmpV, dataOf, eqD_int, idx0, rowN, colN, q, q', p, p']
          · have q' : ¬ (rs.length : Int) + 1 = n := by omega
            simp [evT_eq, biV, lenV, itemsV, itemsD, cmpV, dataOf, eqD_int, idx0, rowN, colN, q, q']
        rcases hx with rfl | rfl
        · exact key r rs
        · exact key r' rs'
      have av2 := allV_map (s := s) (fun x => decide (rowN x = n) && decide (colN x = m)) [PyData.tuple (.tuple r :: rs), .tuple (.tuple r' :: rs')]
      simp only [List.map_cons, List.map_nil] at av2 c2
      simp only [hb] at av c
      simp [b_are_tables_like, evT_eq, isT, biV, lenV, itemsV, itemsD, cmpV, dataOf, eqD_int, c, av, ha, hb, c2, av2]
  rw [h, leave_pure]
theorem is_a_game_ok (x : PyData) : callI tab fu (k + 6) i_is_a_game [.d x] s = .ok (.d (.bool (isGame x))) s := by
  show leave s (exS (callI tab fu (k + 5)) fu b_is_a_game [some (.d x)] s) = _
  have h : exS (callI tab fu (k + 5)) fu b_is_a_game [some (.d x)] s = .rt (.d (.bool (isGame x))) s := by
    cases x <;> try (simp [b_is_a_game, evT_eq, isT, isGame]; done)
    rename_i xs
    cases xs with
    | nil => simp [b_is_a_game, evT_eq, isT, isGame, biV, lenV, itemsV, itemsD, cmpV, dataOf, eqD_int]
    | cons a xs =>
    cases xs with
    | nil => simp [b_is_a_game, evT_eq, isT, isGame, biV, lenV, itemsV, itemsD, cmpV, dataOf, eqD_int]
    | cons b xs =>
    cases xs with
    | cons c xs =>
      have h1 : ¬ ((xs.length : Int) + 1 + 1 + 1 = 2) := by omega
      simp [b_is_a_game, evT_eq, isT, isGame, biV, lenV, itemsV, itemsD, cmpV, dataOf, eqD_int, h1]
    | nil =>
      have ia : callI tab fu (k + 5) 7 [.d a] s = .ok (.d (.bool (isTab a))) s := is_a_table_ok (k := k + 1) a
      cases ha : isTab a with
      | false =>
        rw [ha] at ia
        simp [b_is_a_game, evT_eq, isT, isGame, biV, lenV, itemsV, itemsD, cmpV, dataOf, eqD_int, idx0, ia, ha]
      | true =>
        rw [ha] at ia
        obtain ⟨r, rs, rfl, h1, h2, h3, h4⟩ := isTab_inv ha
        have t := are_tables_like_ok (fu := fu) (k := k) (s := s) (.tuple (.tuple r :: rs)) b ha (rs.length + 1) r.length
        have e1 : ((rs.length + 1 : Nat) : Int) = (rs.length : Int) + 1 := by omega
        rw [e1] at t
        simp [rowN_tup, colN_tup] at t
        simp [b_is_a_game, evT_eq, isT, isGame, biV, lenV, itemsV, itemsD, cmpV, dataOf, eqD_int, idx0, ia, ha, t, rowN_tup, colN_tup]
        rfl
  rw [h, leave_pure]
end
section
variable {fu k : Nat} {s : Sto}
/-! ### fractions -/
def isFrac : PyData → Bool
  | .tuple [.int i, .int j] => decide (1 ≤ j) && decide (Int.gcd i j = 1)
  | _ => false
theorem is_fraction_ok (x : PyData) : callI tab fu (k + 2) i_is_fraction [.d x] s = .ok (.d (.bool (isFrac x))) s := by
  show leave s (exS (callI tab fu (k + 1)) fu b_is_fraction [some (.d x)] s) = _
  have h : exS (callI tab fu (k + 1)) fu b_is_fraction [some (.d x)] s = .rt (.d (.bool (isFrac x))) s := by
    cases x <;> try (simp [b_is_fraction, evT_eq, isT, isFrac]; done)
    rename_i xs
    cases xs with
    | nil => simp [b_is_fraction, evT_eq, isT, isFrac, biV, lenV, itemsV, itemsD, cmpV, dataOf, eqD_int]
    | cons a xs =>
    cases xs with
    | nil => simp [b_is_fraction, evT_eq, isT, isFrac, biV, lenV, itemsV, itemsD, cmpV, dataOf, eqD_int]
    | cons b xs =>
    cases xs with
    | cons c xs =>
      have h1 : ¬ ((xs.length : Int) + 1 + 1 + 1 = 2) := by omega
      simp [b_is_fraction, evT_eq, isT, isFrac, biV, lenV, itemsV, itemsD, cmpV, dataOf, eqD_int, h1]
    | nil =>
      have ia : ∀ y : PyData, callI tab fu (k + 1) 0 [.d y] s = .ok (.d (.bool (isInt y))) s := fun y => is_integer_ok y
      cases a <;> try (simp [b_is_fraction, evT_eq, isT, isFrac, biV, lenV, itemsV, itemsD, cmpV, dataOf, eqD_int, idx0, ia, isInt]; done)
      rename_i i
      cases b <;> try (simp [b_is_fraction, evT_eq, isT, isFrac, biV, lenV, itemsV, itemsD, cmpV, dataOf, eqD_int, idx0, idx1, ia, isInt]; done)
      rename_i j
      by_cases hj : 1 ≤ j
      · by_cases hg : Int.gcd i j = 1
        · simp [b_is_fraction, evT_eq, isT, isFrac, biV, lenV, itemsV, itemsD, cmpV, dataOf, eqD_int, idx0, idx1, ia, isInt, ltI, hj, gcdV, hg]
        · have hg' : ¬ (Int.gcd i j : Int) = 1 := by omega
          simp [b_is_fraction, evT_eq, isT, isFrac, biV, lenV, itemsV, itemsD, cmpV, dataOf, eqD_int, idx0, idx1, ia, isInt, ltI, hj, gcdV, hg, hg']
      · simp [b_is_fraction, evT_eq, isT, isFrac, biV, lenV, itemsV, itemsD, cmpV, dataOf, eqD_int, idx0, idx1, ia, isInt, ltI, hj]
  rw [h, leave_pure]
end
section
variable {fu k : Nat} {s : Sto}
def addF : Int × Int → List (Int × Int) → Int × Int
  | q, [] => q
  | (a, b), (i, j) :: r => addF (a * j + i * b, b * j) r
def co_b : IS := (.cons (.par (.var 1) (.var 2) (.bop false .add (.bop false .mul (.var 1) (.var 4)) (.bop false .mul (.var 3) (.var 2))) (.bop false .mul (.var 2) (.var 4))) .nil)
def co_t : IE := (.tup (.cons (.var 3) (.cons (.var 4) .nil)))
theorem log2_lt {x n : Nat} (h : x < 2 ^ n) (hn : 0 < n) : x.log2 < n := by
  by_cases h0 : x = 0
  · subst h0; simpa using hn
  · exact (Nat.log2_lt h0).mpr h
theorem mul_ok {x y : Int} {n : Nat} (hx : x.natAbs < 2 ^ n) (hy : y.natAbs < 2 ^ 2000) (hn : n < 900000) (h0 : 0 < n) : mulOk x y ∧ mulOk y x := by
  have h1 := log2_lt hx h0
  have h2 := log2_lt hy (by omega)
  exact ⟨.inr (.inr (by omega)), .inr (.inr (by omega))⟩
theorem co_loop {C : Cal} (v : Option Vl) : ∀ (fr : List (Int × Int)) (a b : Int) (n : Nat) (x y : Option Vl), (∀ p ∈ fr, p.1.natAbs < 2 ^ 2000 ∧ p.2.natAbs < 2 ^ 2000) → a.natAbs < 2 ^ n → b.natAbs < 2 ^ n → 0 < n → n + 2001 * fr.length < 900000 →
    ∃ x' y', goL (turnS C fu co_t co_b) (fr.map frD) [v, some (.d (.int a)), some (.d (.int b)), x, y] s = .nx [v, some (.d (.int (addF (a, b) fr).1)), some (.d (.int (addF (a, b) fr).2)), x', y'] s
  | [], a, b, n, x, y, _, _, _, _, _ => ⟨x, y, rfl⟩
  | (i, j) :: fr, a, b, n, x, y, hf, ha, hb, h0, hn => by
    obtain ⟨hi, hj⟩ := hf (i, j) List.mem_cons_self
    have hi : i.natAbs < 2 ^ 2000 := hi
    have hj : j.natAbs < 2 ^ 2000 := hj
    rw [List.length_cons] at hn
    have m1 := (mul_ok ha hj (by omega) h0).1
    have m2 := (mul_ok hb hi (by omega) h0).2
    have m3 := (mul_ok hb hj (by omega) h0).1
    have pw : (2 : Nat) ^ (n + 2001) = 2 ^ n * 2 ^ 2000 + 2 ^ n * 2 ^ 2000 := by rw [Nat.pow_add, Nat.pow_succ 2 2000]; omega
    have b1 : (a * j).natAbs < 2 ^ n * 2 ^ 2000 := by rw [Int.natAbs_mul]; exact Nat.mul_lt_mul_of_lt_of_lt ha hj
    have b2 : (i * b).natAbs < 2 ^ n * 2 ^ 2000 := by rw [Int.natAbs_mul, Nat.mul_comm]; exact Nat.mul_lt_mul_of_lt_of_lt hb hi
    have b3 : (b * j).natAbs < 2 ^ n * 2 ^ 2000 := by rw [Int.natAbs_mul]; exact Nat.mul_lt_mul_of_lt_of_lt hb hj
    have turn : turnS C fu co_t co_b (.d (frD (i, j))) [v, some (.d (.int a)), some (.d (.int b)), x, y] s = .nx [v, some (.d (.int (a * j + i * b))), some (.d (.int (b * j))), some (.d (.int i)), some (.d (.int j))] s := by
      simp [turnS, co_t, co_b, frD, setTgV, setTg, setTg.setTgs, binV_int, binI, m1, m2, m3]
    obtain ⟨x', y', ih⟩ := co_loop v fr (a * j + i * b) (b * j) (n + 2001) (some (.d (.int i))) (some (.d (.int j))) (fun p hp => hf p (List.mem_cons_of_mem _ hp)) (by rw [pw]; omega) (by rw [pw]; omega) (by omega) (by omega)
    refine ⟨x', y', ?_⟩
    show (match turnS C fu co_t co_b (.d (frD (i, j))) [v, some (.d (.int a)), some (.d (.int b)), x, y] s with
      | .nx e s => goL (turnS C fu co_t co_b) (fr.map frD) e s
      | .ct e s => goL (turnS C fu co_t co_b) (fr.map frD) e s
      | .bk e s => .nx e s
      | .rt v s => .rt v s
      | .ex c v e s => .ex c v e s
      | .no => .no) = _
    rw [turn]
    exact ih
def toOne (fr : List (Int × Int)) : Bool := decide ((addF (0, 1) fr).1 = (addF (0, 1) fr).2)
theorem comes_to_one_ok (fr : List (Int × Int)) (hf : ∀ p ∈ fr, p.1.natAbs < 2 ^ 2000 ∧ p.2.natAbs < 2 ^ 2000) (hl : fr.length ≤ 100) : callI tab fu (k + 1) i_comes_to_one [.d (.tuple (fr.map frD))] s = .ok (.d (.bool (toOne fr))) s := by
  show leave s (exS (callI tab fu k) fu b_comes_to_one [some (.d (.tuple (fr.map frD))), none, none, none, none] s) = _
  obtain ⟨x', y', loop⟩ := co_loop (fu := fu) (s := s) (C := callI tab fu k) (some (.d (.tuple (fr.map frD)))) fr 0 1 1 none none hf (by decide) (by decide) (by omega) (by omega)
  have it : itr (callI tab fu k) (.itv (.var 0)) [some (.d (.tuple (fr.map frD))), some (.d (.int 0)), some (.d (.int 1)), none, none] s = .ok (.vals (fr.map frD)) s := rfl
  have loopE := exS_for_vals (fu := fu) (tg := co_t) (body := co_b) it
  rw [loop] at loopE
  unfold co_t co_b at loopE
  have h : exS (callI tab fu k) fu b_comes_to_one [some (.d (.tuple (fr.map frD))), none, none, none, none] s = .rt (.d (.bool (toOne fr))) s := by
    simp [b_comes_to_one, allD, setTgV, setTg, setTg.setTgs, loopE, cmp_eq_int, toOne]
  rw [h, leave_pure]
def unD : PyData → Int × Int
  | .tuple [.int i, .int j] => (i, j)
  | _ => (0, 0)
theorem unD_eq {x : PyData} (h : isFrac x = true) : frD (unD x) = x := by
  unfold isFrac at h
  split at h
  · rfl
  · cases h
theorem unD_map : ∀ {xs : List PyData}, xs.all isFrac = true → (xs.map unD).map frD = xs
  | [], _ => rfl
  | x :: xs, h => by
    simp only [List.all_cons, Bool.and_eq_true] at h
    rw [List.map_cons, List.map_cons, unD_eq h.1, unD_map h.2]
def isMixN (n : Nat) : PyData → Bool
  | .tuple xs => decide (xs.length = n) && (xs.all isFrac && ((xs.all fun x => decide (0 ≤ (unD x).1)) && toOne (xs.map unD)))
  | _ => false
def FrBd (x : PyData) : Prop := ∀ xs, x = .tuple xs → ∀ y ∈ xs, (unD y).1.natAbs < 2 ^ 2000 ∧ (unD y).2.natAbs < 2 ^ 2000
theorem are_chances_ok (x : PyData) (n : Nat) (hn : n ≤ 100) (hb : FrBd x) : callI tab fu (k + 3) i_are_chances [.d x, .d (.int n)] s = .ok (.d (.bool (isMixN n x))) s := by
  show leave s (exS (callI tab fu (k + 2)) fu b_are_chances [some (.d x), some (.d (.int n)), none] s) = _
  have h : exS (callI tab fu (k + 2)) fu b_are_chances [some (.d x), some (.d (.int n)), none] s = .rt (.d (.bool (isMixN n x))) s := by
    cases x <;> try (simp [b_are_chances, evT_eq, isT, isMixN]; done)
    rename_i xs
    by_cases hl : xs.length = n
    case neg =>
      have hl' : ¬ (xs.length : Int) = n := by omega
      simp [b_are_chances, evT_eq, isT, isMixN, biV, lenV, itemsV, itemsD, cmp_ne_int, hl, hl']
    case pos =>
      have c : ev (callI tab fu (k + 2)) (.comp false (.call 3 (.cons (.var 2) .nil)) (.var 2) (.itv (.var 0)) .nil [2]) [some (.d (.tuple xs)), some (.d (.int n)), none] s = .ok (.d (.list (xs.map fun x => .bool (isFrac x)))) s := by
        refine comp_map _ rfl (by omega) fun x _ => ⟨_, rfl, ?_⟩
        simp [wipe, is_fraction_ok]
      cases ha : xs.all isFrac with
      | false =>
        have av := allV_map (s := s) isFrac xs
        rw [ha] at av
        simp [b_are_chances, evT_eq, isT, isMixN, biV, lenV, itemsV, itemsD, cmp_ne_int, hl, c, av, ha]
      | true =>
        have av := allV_map (s := s) isFrac xs
        rw [ha] at av
        have c2 : ev (callI tab fu (k + 2)) (.comp false (.cmp .ge (.idx (.var 2) (.lit (.int 0))) (.lit (.int 0))) (.var 2) (.itv (.var 0)) .nil [2]) [some (.d (.tuple xs)), some (.d (.int n)), none] s = .ok (.d (.list (xs.map fun x => .bool (decide (0 ≤ (unD x).1))))) s := by
          refine comp_map _ rfl (by omega) fun x hx => ⟨_, rfl, ?_⟩
          have e := unD_eq (List.all_eq_true.mp ha x hx)
          generalize hu : unD x = p at e
          obtain ⟨i, j⟩ := p
          subst e
          simp [wipe, frD, idx0, cmpV, ltI]
        have av2 := allV_map (s := s) (fun x => decide (0 ≤ (unD x).1)) xs
        have ct := comes_to_one_ok (fu := fu) (k := k + 1) (s := s) (xs.map unD) (fun p hp => by
          obtain ⟨y, hy, rfl⟩ := List.mem_map.mp hp
          exact hb xs rfl y hy) (by rw [List.length_map]; omega)
        rw [unD_map ha] at ct
        have ct : callI tab fu (k + 2) 4 [.d (.tuple xs)] s = .ok (.d (.bool (toOne (xs.map unD)))) s := ct
        cases hg : xs.all (fun x => decide (0 ≤ (unD x).1)) with
        | false =>
          rw [hg] at av2
          simp [b_are_chances, evT_eq, isT, isMixN, biV, lenV, itemsV, itemsD, cmp_ne_int, hl, c, av, ha, c2, av2, hg]
        | true =>
          rw [hg] at av2
          simp [b_are_chances, evT_eq, isT, isMixN, biV, lenV, itemsV, itemsD, cmp_ne_int, hl, c, av, ha, c2, av2, hg, ct]
  rw [h, leave_pure]
def manyN (g : PyData) (sd : Int) : Nat := match g with
  | .tuple (a :: _) => if sd = 0 then rowN a else colN a
  | _ => 0
theorem many_of_ok (a b : PyData) (ha : isTab a = true) (sd : Int) : callI tab fu (k + 1) i_many_of [.d (.tuple [a, b]), .d (.int sd)] s = .ok (.d (.int (manyN (.tuple [a, b]) sd))) s := by
  obtain ⟨r, rs, rfl, _, _, _, _⟩ := isTab_inv ha
  show leave s (exS (callI tab fu k) fu b_many_of [some (.d (.tuple [.tuple (.tuple r :: rs), b])), some (.d (.int sd))] s) = _
  have h : exS (callI tab fu k) fu b_many_of [some (.d (.tuple [.tuple (.tuple r :: rs), b])), some (.d (.int sd))] s = .rt (.d (.int (manyN (.tuple [.tuple (.tuple r :: rs), b]) sd))) s := by
    by_cases q : sd = 0
    · simp [b_many_of, evT_eq, biV, lenV, itemsV, itemsD, cmp_eq_int, idx0, manyN, rowN_tup, colN_tup, q]
    · simp [b_many_of, evT_eq, biV, lenV, itemsV, itemsD, cmp_eq_int, idx0, manyN, rowN_tup, colN_tup, q]
  rw [h, leave_pure]
theorem is_a_mix_ok (a b : PyData) (ha : isTab a = true) (sd : Int) (x : PyData) (hb : FrBd x) : callI tab fu (k + 4) i_is_a_mix [.d (.tuple [a, b]), .d (.int sd), .d x] s = .ok (.d (.bool (isMixN (manyN (.tuple [a, b]) sd) x))) s := by
  show leave s (exS (callI tab fu (k + 3)) fu b_is_a_mix [some (.d (.tuple [a, b])), some (.d (.int sd)), some (.d x)] s) = _
  have m := many_of_ok (fu := fu) (k := k + 2) (s := s) a b ha sd
  have hm : manyN (.tuple [a, b]) sd ≤ 100 := by
    obtain ⟨r, rs, rfl, _, _, _, _⟩ := isTab_inv ha
    simp only [manyN, rowN_tup, colN_tup, List.length_cons]
    split <;> omega
  have c := are_chances_ok (fu := fu) (k := k) (s := s) x _ hm hb
  have h : exS (callI tab fu (k + 3)) fu b_is_a_mix [some (.d (.tuple [a, b])), some (.d (.int sd)), some (.d x)] s = .rt (.d (.bool (isMixN (manyN (.tuple [a, b]) sd) x))) s := by
    simp [b_is_a_mix, m, c]
  rw [h, leave_pure]
end
section
variable {fu K n : Nat} {s t u : Sto}
theorem ints_of {P : Int → Prop} : ∀ {xs : List PyData}, (∀ x ∈ xs, ∃ i : Int, x = .int i ∧ P i) → ∃ is : List Int, xs = is.map .int ∧ ∀ i ∈ is, P i
  | [], _ => ⟨[], rfl, fun _ h => by cases h⟩
  | x :: xs, h => by
    obtain ⟨i, rfl, p⟩ := h x List.mem_cons_self
    obtain ⟨is, rfl, q⟩ := ints_of (xs := xs) fun y hy => h y (List.mem_cons_of_mem _ hy)
    refine ⟨i :: is, rfl, fun j hj => ?_⟩
    rcases List.mem_cons.mp hj with rfl | hj
    · exact p
    · exact q j hj
theorem sum_nn : ∀ {is : List Int}, (∀ i ∈ is, 0 ≤ i ∧ i < 2 ^ 1480) → 0 ≤ is.sum
  | [], _ => by simp
  | i :: is, h => by
    have h1 := h i List.mem_cons_self
    have h2 := sum_nn (is := is) fun j hj => h j (List.mem_cons_of_mem _ hj)
    simp only [List.sum_cons]
    omega
theorem sum_pos {is : List Int} (h : ∀ i ∈ is, 0 ≤ i ∧ i < 2 ^ 1480) {i : Int} (hi : i ∈ is) (h1 : 1 ≤ i) : 0 < is.sum := by
  induction is with
  | nil => cases hi
  | cons a is ih =>
    have ha := h a List.mem_cons_self
    have h2 := sum_nn (is := is) fun j hj => h j (List.mem_cons_of_mem _ hj)
    simp only [List.sum_cons]
    rcases List.mem_cons.mp hi with rfl | hi
    · omega
    · have := ih (fun j hj => h j (List.mem_cons_of_mem _ hj)) hi
      omega
end
section
variable {fu K n : Nat} {s t u : Sto}
theorem is_game0 (x : PyData) (hK : 6 ≤ K) : callI tab fu K i_is_a_game [.d x] s = .ok (.d (.bool (isGame x))) s := by
  obtain ⟨K, rfl⟩ : ∃ k, K = k + 6 := ⟨K - 6, by omega⟩
  exact is_a_game_ok x
theorem need_game_ok {g : PyData} (hg : isGame g = true) (hK : 7 ≤ K) : callI tab fu K i_need_game [.d g] s = .ok (.d .none) s := by
  obtain ⟨K, rfl⟩ : ∃ k, K = k + 1 := ⟨K - 1, by omega⟩
  refine Ok_one (Ok_call (F := d_need_game) rfl rfl ?_)
  have h := is_game0 (fu := fu) (s := s) g (show 6 ≤ K by omega)
  simp [d_need_game, b_need_game, evT_eq, h, hg]
  exact Lv_len rfl ⟨rfl, rfl⟩
end
section
variable {fu K n : Nat} {s t u : Sto}
/-! ### games, typed -/
theorem isIn_inv {lo hi : Int} {x : PyData} (h : isIn lo hi x = true) : ∃ i : Int, x = .int i ∧ lo ≤ i ∧ i ≤ hi := by
  cases x <;> try (simp [isIn] at h; done)
  rename_i i
  simp [isIn] at h
  exact ⟨i, rfl, h⟩
theorem row_typed {w : Nat} {x : PyData} (h : isRow w x = true) : ∃ r : List Int, x = rowD r ∧ rwOk w r := by
  cases x <;> try (simp [isRow] at h; done)
  rename_i xs
  simp only [isRow, Bool.and_eq_true, decide_eq_true_eq, List.all_eq_true] at h
  obtain ⟨is, rfl, hi⟩ := ints_of (P := inB) (xs := xs) fun x hx => isIn_inv (h.2 x hx)
  exact ⟨is, rfl, by simpa using h.1, hi⟩
theorem tab_typed {x : PyData} (h : isTab x = true) : ∃ A : List (List Int), x = tabD A ∧ 1 ≤ A.length ∧ A.length ≤ 5 ∧ 1 ≤ colN x ∧ colN x ≤ 5 ∧ (∀ r ∈ A, rwOk (colN x) r) ∧ rowN x = A.length := by
  obtain ⟨r, rs, rfl, h1, h2, h3, h4⟩ := isTab_inv h
  have key : ∀ ys : List PyData, (∀ y ∈ ys, isRow r.length y = true) → ∃ A : List (List Int), ys = A.map rowD ∧ ∀ q ∈ A, rwOk r.length q := by
    intro ys
    induction ys with
    | nil => intro _; exact ⟨[], rfl, fun _ h => by cases h⟩
    | cons y ys ih =>
      intro hy
      obtain ⟨q, e, hq⟩ := row_typed (hy y List.mem_cons_self)
      obtain ⟨A, eA, hA⟩ := ih fun z hz => hy z (List.mem_cons_of_mem _ hz)
      refine ⟨q :: A, by rw [e, eA]; rfl, fun z hz => ?_⟩
      rcases List.mem_cons.mp hz with rfl | hz
      · exact hq
      · exact hA z hz
  obtain ⟨A, e, hA⟩ := key _ h4
  have hl : rs.length + 1 = A.length := by have := congrArg List.length e; simpa using this
  exact ⟨A, by rw [e]; rfl, by omega, by omega, h2, h3, hA, by rw [rowN_tup]; simpa using hl⟩
end
section
variable {fu K n : Nat} {s t u : Sto}
theorem game_typed {g : PyData} (h : isGame g = true) : ∃ A B R C, g = gD A B ∧ Gv A B R C := by
  unfold isGame at h
  split at h
  · rename_i a b
    simp only [Bool.and_eq_true, decide_eq_true_eq] at h
    obtain ⟨A, rfl, a1, a2, a3, a4, a5, a6⟩ := tab_typed h.1
    obtain ⟨B, rfl, b1, b2, b3, b4, b5, b6⟩ := tab_typed h.2.1
    refine ⟨A, B, A.length, colN (tabD A), rfl, ⟨rfl, ?_, a5, ?_, a1, a2, a3, a4⟩⟩
    · rw [← a6, ← b6]; exact h.2.2.1
    · rw [← h.2.2.2]; exact b5
  · cases h
theorem isGame_of {A B : List (List Int)} {R C : Nat} (h : Gv A B R C) : isGame (gD A B) = true := by
  have tb : ∀ T : List (List Int), T.length = R → (∀ r ∈ T, rwOk C r) → isTab (tabD T) = true ∧ rowN (tabD T) = R ∧ colN (tabD T) = C := by
    intro T hl hr
    cases T with
    | nil => have := h.r1; simp at hl; omega
    | cons r T =>
      have h0 := hr r List.mem_cons_self
      refine ⟨?_, by simpa [tabD, rowN] using hl, by simpa [tabD, rowD, colN] using h0.1⟩
      show isTab (.tuple (.tuple (r.map .int) :: T.map rowD)) = true
      simp only [isTab, Bool.and_eq_true, decide_eq_true_eq, List.all_eq_true]
      have r5 := h.r5
      have c1 := h.c1
      have c5 := h.c5
      have h00 := h0.1
      refine ⟨by simp at hl ⊢; omega, ⟨by simp; omega, by simp; omega⟩, fun y hy => ?_⟩
      have hy : y ∈ (r :: T).map rowD := hy
      obtain ⟨q, hq, rfl⟩ := List.mem_map.mp hy
      have hq := hr q hq
      show isRow _ (.tuple (q.map .int)) = true
      simp only [isRow, Bool.and_eq_true, decide_eq_true_eq, List.all_eq_true]
      refine ⟨by simp; rw [hq.1, h00], fun z hz => ?_⟩
      obtain ⟨i, hi, rfl⟩ := List.mem_map.mp hz
      have := hq.2 i hi
      simp [isIn, this.1, this.2]
  obtain ⟨a1, a2, a3⟩ := tb A h.ra h.ca
  obtain ⟨b1, b2, b3⟩ := tb B h.rb h.cb
  simp [gD, isGame, a1, a2, a3, b1, b2, b3]
end
section
variable {fu K n : Nat} {s t u : Sto}
variable {A B : List (List Int)} {R C : Nat}
theorem many_ok {sd : Nat} (hK : 1 ≤ K) (g : Gv A B R C) (h2 : sd < 2) : callI tab fu K i_many_of [.d (gD A B), .d (.int sd)] s = .ok (.d (.int (mn R C sd))) s := by
  obtain ⟨K, rfl⟩ : ∃ k, K = k + 1 := ⟨K - 1, by omega⟩
  have h0 : (0 : Nat) < A.length := by have := g.ra; have := g.r1; omega
  have r0 : L2.atI (A.map rowD) 0 = some (rowD (A.getD 0 [])) := at_row h0
  have l0 := (g.ca _ (getD_mem (d := []) h0)).1
  refine Ok_one (Ok_call (F := d_many_of) rfl rfl ?_)
  have h2 : sd = 0 ∨ sd = 1 := by omega
  rcases h2 with rfl | rfl
  · simp [d_many_of, b_many_of, evT_eq, g.ra]
    exact Lv_len rfl ⟨rfl, rfl⟩
  · simp [-List.getD_eq_getElem?_getD, d_many_of, b_many_of, evT_eq, r0, l0]
    exact Lv_len rfl ⟨rfl, rfl⟩
end
end Law

set_option maxHeartbeats 1000000
namespace Law
open PySem SM
section
variable {fu K : Nat} {s t u : Sto} {T A : List (List Int)} {m n r c : Nat} {d : Int} {P : List Int}
theorem fdiv_ok {mf : Bool} {i j : Int} (h0 : j ≠ 0) (hl : j.natAbs.log2 < 9000) : binV mf .fdiv (.d (.int i)) (.d (.int j)) s = some (.d (.int (i.fdiv j)), s) := by
  rw [bin_fdiv]
  by_cases h : 0 < j
  · rw [if_pos ⟨h, hl⟩, Int.fdiv_eq_ediv_of_nonneg i (by omega)]
  · rw [if_neg (fun z => h z.1), if_pos ⟨by omega, hl⟩]
theorem getD_ge {α : Type} {l : List α} {i : Nat} {x : α} (h : l.length ≤ i) : l.getD i x = x := by
  rw [List.getD_eq_getElem?_getD, List.getElem?_eq_none h]
  rfl
/-- rows in a list of the store, the pivots in the next one -/
def oS (s : Sto) (T : List (List Int)) (P : List Int) : Sto := s ++ [some (.lst ((T.map lsD).map Vl.d)), some (.lst (P.map vI))]
theorem oS0 : listAt s.length (oS s T P) = some ((T.map lsD).map Vl.d) := by simp [oS, listAt]
theorem oS1 : listAt (s.length + 1) (oS s T P) = some (P.map vI) := by simp [oS, listAt]
theorem oS_put0 {T' : List (List Int)} : putL s.length ((T'.map lsD).map Vl.d) (oS s T P) = oS s T' P := by simp [oS, putL]
theorem oS_put1 {P' : List Int} : putL (s.length + 1) (P'.map vI) (oS s T P) = oS s T P' := by simp [oS, putL, List.set_append_right]
theorem oS_row {i : Nat} (h : i < T.length) : idxV (.r s.length) (.d (.int (i : Int))) (oS s T P) = some (.d (lsD (T.getD i [])), oS s T P) := by
  rw [idxV_r, oS0, Option.bind_some, atI_nat (by simpa using h), SM.getD_lt h]
  simp
theorem oS_set {i : Nat} {row : List Int} (h : i < T.length) : setV (.r s.length) (.d (.int (i : Int))) (.d (lsD row)) (oS s T P) = some (oS s (T.set i row) P) := by
  have ix : L2.ixN ((T.map lsD).map Vl.d).length (i : Int) = some i := ixN_nat (by simpa using h)
  rw [setV_r, oS0, Option.bind_some, ix, Option.map_some, ← oS_put0 (T' := T.set i row) (T := T)]
  simp [List.map_set]
theorem ls_at {row : List Int} {x : Nat} {q : Sto} (h : x < row.length) : idxV (.d (lsD row)) (.d (.int (x : Int))) q = some (.d (.int (row.getD x 0)), q) := by
  unfold lsD
  rw [idxV_l, at_int h]
  rfl
/-- rows of a shape -/
structure Sh (T : List (List Int)) (m n b : Nat) : Prop where
  len : T.length = m
  row : ∀ r ∈ T, r.length = n
  bd : ∀ r ∈ T, ∀ x ∈ r, x.natAbs < 2 ^ b
theorem gt_ge1 {k x : Nat} (h : T.length ≤ k) : gt T k x = 0 := by
  unfold SM.gt
  rw [getD_ge h]
  rfl
theorem gt_ge2 {k x : Nat} (h : (T.getD k []).length ≤ x) : gt T k x = 0 := by
  unfold SM.gt
  exact getD_ge h
theorem Sh.gt (h : Sh T m n c) {k x : Nat} : (gt T k x).natAbs < 2 ^ c := by
  by_cases hk : k < T.length
  · have hm := SM.getD_mem (d := []) hk
    by_cases hx : x < (T.getD k []).length
    · exact h.bd _ hm _ (SM.getD_mem hx)
    · rw [gt_ge2 (by omega)]
      exact Nat.pow_pos (by decide)
  · rw [gt_ge1 (by omega)]
    exact Nat.pow_pos (by decide)
/-- the new row -/
def nrow (T : List (List Int)) (r c : Nat) (d : Int) (k : Nat) : List Int := List.zipWith (fun a b => (gt T r c * a - gt T k c * b).fdiv d) (T.getD k []) (T.getD r [])
theorem nrow_at (h : Sh T m n c') (hr : r < m) {k : Nat} (hk : k < m) {x : Nat} : (nrow T r c d k).getD x 0 = (gt T r c * gt T k x - gt T k c * gt T r x).fdiv d := by
  have l1 := h.row _ (SM.getD_mem (d := []) (show k < T.length by rw [h.len]; exact hk))
  have l2 := h.row _ (SM.getD_mem (d := []) (show r < T.length by rw [h.len]; exact hr))
  unfold nrow
  by_cases hx : x < n
  · rw [List.getD_eq_getElem?_getD, List.getElem?_zipWith]
    have e1 : (T.getD k [])[x]? = some (gt T k x) := by
      unfold SM.gt
      rw [List.getD_eq_getElem?_getD (l := T.getD k [])]
      have : x < (T.getD k []).length := by omega
      rw [List.getElem?_eq_getElem this]
      rfl
    have e2 : (T.getD r [])[x]? = some (gt T r x) := by
      unfold SM.gt
      rw [List.getD_eq_getElem?_getD (l := T.getD r [])]
      have : x < (T.getD r []).length := by omega
      rw [List.getElem?_eq_getElem this]
      rfl
    rw [e1, e2]
    rfl
  · rw [getD_ge (by simp only [List.length_zipWith]; omega), gt_ge2 (T := T) (k := k) (x := x) (by omega), gt_ge2 (T := T) (k := r) (x := x) (by omega)]
    simp
/-- the rows, those below k done -/
def tK (T : List (List Int)) (r c : Nat) (d : Int) (k : Nat) : List (List Int) := (List.range T.length).map fun j => if j < k ∧ j ≠ r then nrow T r c d j else T.getD j []
theorem tK_len {k : Nat} : (tK T r c d k).length = T.length := by simp [tK]
theorem tK_0 : tK T r c d 0 = T := by
  apply List.ext_getElem
  · simp [tK]
  · intro i h1 h2
    simp [tK, h2]
theorem tK_get {k j : Nat} (hj : j < T.length) : (tK T r c d k).getD j [] = if j < k ∧ j ≠ r then nrow T r c d j else T.getD j [] := by
  rw [SM.getD_lt (by rw [tK_len]; exact hj)]
  simp [tK]
theorem tK_step {k : Nat} (hk : k < T.length) (hne : k ≠ r) : (tK T r c d k).set k (nrow T r c d k) = tK T r c d (k + 1) := by
  apply List.ext_getElem
  · simp [tK]
  · intro i h1 h2
    by_cases e : k = i
    · subst e
      simp [tK, hne]
    · rw [List.getElem_set_ne e]
      have : (i < k ∧ i ≠ r) ↔ (i < k + 1 ∧ i ≠ r) := by omega
      simp only [tK, List.getElem_map, List.getElem_range, this]
theorem tK_skip : tK T r c d r = tK T r c d (r + 1) := by
  unfold tK
  refine List.map_congr_left fun j _ => ?_
  have : (j < r ∧ j ≠ r) ↔ (j < r + 1 ∧ j ≠ r) := by omega
  simp only [this]
theorem tK_gt (h : Sh T m n c') (hr : r < m) : (gt (tK T r c d m)) = stepN r (gt T) d c := by
  funext k x
  unfold stepN
  by_cases hk : k < m
  · have e : gt (tK T r c d m) k x = (if k < m ∧ k ≠ r then nrow T r c d k else T.getD k []).getD x 0 := by
      unfold SM.gt
      rw [tK_get (by rw [h.len]; exact hk)]
    rw [e]
    by_cases z : k = r
    · subst z
      rw [if_neg (by simp), if_pos rfl]
      rfl
    · rw [if_pos ⟨hk, z⟩, if_neg z, nrow_at h hr hk]
  · have e1 : gt (tK T r c d m) k x = 0 := gt_ge1 (by rw [tK_len, h.len]; omega)
    have e2 : ∀ y, gt T k y = 0 := fun y => gt_ge1 (by rw [h.len]; omega)
    rw [e1, if_neg (by omega), e2, e2]
    simp
end
end Law

set_option maxHeartbeats 1000000
namespace Law
open PySem SM
section
variable {fu K : Nat} {s t u : Sto} {T A : List (List Int)} {m n r c q : Nat} {d : Int} {P : List Int} {pv : Nat → Nat} {fo : Option Nat}
/-- [elt for x in xs], pure, a new list of the store -/
theorem comp_onM {C : Cal} {e : Sl} {α : Type} {elt tg it : IE} {own : List Nat} {xs : List α} (g f : α → PyData) (hi : itr C it e s = .ok (.vals (xs.map g)) s) (hl : xs.length ≤ 16777216)
    (ht : ∀ a ∈ xs, ∃ e1, setTgV tg (.d (g a)) (wipe e own) = some e1 ∧ ev C elt e1 s = .ok (.d (f a)) s) : ev C (.comp true elt tg it .nil own) e s = .ok (.r s.length) (s ++ [some (.lst ((xs.map f).map Vl.d))]) := by
  have h := comp_on (C := C) (elt := elt) (tg := tg) (own := own) g f hi hl ht
  have hv : ev C (.comp false elt tg it .nil own) e s = ((itr C it e s).bind fun I s => (noex (cmI (turnF C elt tg .nil (wipe e own)) I s)).bind fun vs s => ofP (mkL false vs s)) := rfl
  have key : ∀ ys : List α, (∀ a ∈ ys, a ∈ xs) → cmL (turnF C elt tg .nil (wipe e own)) (ys.map g) s = .ok ((ys.map f).map Vl.d) s := by
    intro ys
    induction ys with
    | nil => intro _; rfl
    | cons a r ih =>
      intro hm
      obtain ⟨e1, h1, h2⟩ := ht a (hm a List.mem_cons_self)
      have tn : turnF C elt tg .nil (wipe e own) (.d (g a)) s = .ok (some (.d (f a))) s := by
        unfold turnF
        rw [h1]
        show (ev C elt e1 s).bind _ = _
        rw [h2]
        rfl
      show (turnF C elt tg .nil (wipe e own) (.d (g a)) s).bind _ = _
      rw [tn]
      show (cmL (turnF C elt tg .nil (wipe e own)) (r.map g) s).bind _ = _
      rw [ih fun x hx => hm x (List.mem_cons_of_mem _ hx)]
      rfl
  show ((itr C it e s).bind fun I s => (noex (cmI (turnF C elt tg .nil (wipe e own)) I s)).bind fun vs s => ofP (mkL true vs s)) = _
  rw [hi]
  show ((noex (cmL (turnF C elt tg .nil (wipe e own)) (xs.map g) s)).bind fun vs s => ofP (mkL true vs s)) = _
  rw [key xs fun _ h => h]
  show ofP (mkL true ((xs.map f).map Vl.d) s) = _
  rw [mkL_true, if_pos (by simpa using hl)]
  rfl
def bB (r : Nat) : Nat := 13 * 2 ^ r - 1
theorem bB_le {r : Nat} (h : r ≤ 4) : bB r ≤ 210 := by
  have : r = 0 ∨ r = 1 ∨ r = 2 ∨ r = 3 ∨ r = 4 := by omega
  rcases this with rfl | rfl | rfl | rfl | rfl <;> decide
theorem bB_s {r : Nat} : bB (r + 1) = bB r + bB r + 1 := by
  unfold bB
  have : 0 < 2 ^ r := Nat.pow_pos (by decide)
  rw [Nat.pow_succ]
  omega
def fvI : Option Nat → Int
  | none => -1
  | some f => (f : Int)
def foK (m n c : Nat) (A : Nat → Nat → Int) : Option Nat → Prop
  | none => ∀ x, x < c → ¬ frC m n A x
  | some f => f < c ∧ frC m n A f ∧ ∀ x, x < c → frC m n A x → x = f
/-- what stands ahead of column c -/
structure St (m n c : Nat) (A : Nat → Nat → Int) (T : List (List Int)) (r : Nat) (d : Int) (pv : Nat → Nat) (fo : Option Nat) : Prop where
  sh : Sh T m n (bB r)
  bs : Bs m n c r (gt T) A d pv
  dl : d.natAbs < 2 ^ bB r
  fo : foK m n c A fo
def pvL (pv : Nat → Nat) (r : Nat) : List Int := (List.range r).map fun i => (pv i : Int)
theorem pvL_len : (pvL pv r).length = r := by simp [pvL]
theorem pvL_step : pvL pv r ++ [(c : Int)] = pvL (fun i => if i = r then c else pv i) (r + 1) := by
  unfold pvL
  rw [List.range_succ, List.map_append]
  congr 1
  · refine List.map_congr_left fun i hi => ?_
    have := List.mem_range.mp hi
    simp [show i ≠ r by omega]
  · simp
/-- two rows exchanged -/
def swT (T : List (List Int)) (r q : Nat) : List (List Int) := (T.set r (T.getD q [])).set q (T.getD r [])
theorem swT_gt (hr : r < T.length) (hq : q < T.length) : gt (swT T r q) = fun k => gt T (swp r q k) := by
  funext k x
  unfold SM.gt swT swp
  congr 1
  rw [List.getD_eq_getElem?_getD, List.getElem?_set]
  by_cases h1 : q = k
  · subst h1
    rw [if_pos rfl, if_pos (by simpa using hq)]
    by_cases h2 : q = r
    · subst h2; simp
    · rw [if_neg h2, if_pos rfl]; rfl
  · rw [if_neg h1, List.getElem?_set]
    by_cases h2 : r = k
    · subst h2
      rw [if_pos rfl, if_pos hr, if_pos rfl]; rfl
    · rw [if_neg h2, if_neg (fun z => h2 z.symm), if_neg (fun z => h1 z.symm), ← List.getD_eq_getElem?_getD]
theorem swT_sh (h : Sh T m n c) (hr : r < m) (hq : q < m) : Sh (swT T r q) m n c := by
  have hm : ∀ x ∈ swT T r q, x ∈ T := fun x hx => by
    rcases List.mem_or_eq_of_mem_set hx with hx | rfl
    · rcases List.mem_or_eq_of_mem_set hx with hx | rfl
      · exact hx
      · exact SM.getD_mem (by rw [h.len]; exact hq)
    · exact SM.getD_mem (by rw [h.len]; exact hr)
  exact ⟨by simp [swT, h.len], fun x hx => h.row x (hm x hx), fun x hx => h.bd x (hm x hx)⟩
theorem nrow_len (h : Sh T m n c') (hr : r < m) {k : Nat} (hk : k < m) : (nrow T r c d k).length = n := by
  have l1 := h.row _ (SM.getD_mem (d := []) (show k < T.length by rw [h.len]; exact hk))
  have l2 := h.row _ (SM.getD_mem (d := []) (show r < T.length by rw [h.len]; exact hr))
  unfold nrow
  rw [List.length_zipWith, l1, l2]
  omega
theorem tK_sh (h : Sh T m n (bB r)) {A0 : Nat → Nat → Int} (hb : Ba r m (gt T) A0 d pv) (r3 : r ≤ 3) (hr : r < m) : Sh (tK T r c d m) m n (bB (r + 1)) := by
  have up : 2 ^ bB r ≤ 2 ^ bB (r + 1) := Nat.pow_le_pow_right (by decide) (by rw [bB_s]; omega)
  have row : ∀ k, k < m → ((tK T r c d m).getD k []).length = n := fun k hk => by
    rw [tK_get (by rw [h.len]; exact hk)]
    split
    · exact nrow_len h hr hk
    · exact h.row _ (SM.getD_mem (by rw [h.len]; exact hk))
  have hl : (tK T r c d m).length = m := by rw [tK_len, h.len]
  refine ⟨hl, fun x hx => ?_, fun x hx y hy => ?_⟩
  · obtain ⟨k, hk, rfl⟩ := List.mem_iff_getElem.mp hx
    have := row k (by omega)
    rwa [SM.getD_lt hk] at this
  · obtain ⟨k, hk, rfl⟩ := List.mem_iff_getElem.mp hx
    obtain ⟨j, hj, rfl⟩ := List.mem_iff_getElem.mp hy
    have e : gt (tK T r c d m) k j = (tK T r c d m)[k][j] := by
      unfold SM.gt
      rw [SM.getD_lt hk, SM.getD_lt hj]
    rw [← e, tK_gt h hr]
    by_cases z : k = r
    · rw [z, stepN_r]
      have := h.gt (k := r) (x := j)
      omega
    · have e2 := stepN_eq hb r3 hr (show k < m by omega) z (c := c) (x := j)
      have e3 : (stepN r (gt T) d c k j).natAbs ≤ (d * stepN r (gt T) d c k j).natAbs := by
        rw [Int.natAbs_mul]
        have := hb.d0
        exact Nat.le_mul_of_pos_left _ (by omega)
      rw [e2] at e3
      have b1 := h.gt (k := r) (x := c)
      have b2 := h.gt (k := k) (x := j)
      have b3 := h.gt (k := k) (x := c)
      have b4 := h.gt (k := r) (x := j)
      have m1 : (gt T r c * gt T k j).natAbs < 2 ^ bB r * 2 ^ bB r := by
        rw [Int.natAbs_mul]
        exact Nat.mul_lt_mul'' b1 b2
      have m2 : (gt T k c * gt T r j).natAbs < 2 ^ bB r * 2 ^ bB r := by
        rw [Int.natAbs_mul]
        exact Nat.mul_lt_mul'' b3 b4
      have : 2 ^ bB (r + 1) = 2 ^ bB r * 2 ^ bB r + 2 ^ bB r * 2 ^ bB r := by
        rw [bB_s, Nat.pow_succ, Nat.pow_add]
        omega
      rw [this]
      have := Int.natAbs_sub_le (gt T r c * gt T k j) (gt T k c * gt T r j)
      omega
/-- a pivot in row q -/
theorem St.piv (h : St m n c A' T r d pv fo) (m4 : m ≤ 4) (hc : c < n) (hr : r ≤ q) (hq : q < m) (hp : gt T q c ≠ 0) :
    St m n (c + 1) A' (tK (swT T r q) r c d m) (r + 1) (gt (swT T r q) r c) (fun i => if i = r then c else pv i) fo ∧ gt (swT T r q) r c = gt T q c := by
  have hl := h.sh.len
  have e : gt (swT T r q) r c = gt T q c := by
    rw [swT_gt (by omega) (by omega)]
    simp [swp]
  have s2 := swT_sh h.sh (show r < m by omega) hq
  have b2 : Bs m n c r (gt (swT T r q)) A' d pv := by
    rw [swT_gt (by omega) (by omega)]
    exact h.bs.swap (by omega) hr hq
  have hp2 : gt (swT T r q) r c ≠ 0 := by rw [e]; exact hp
  obtain ⟨A1, ba⟩ := b2.ba
  have nf : ¬ frC m n A' c := fun z => fr_not (fun x hx => b2.zr r (Nat.le_refl _) (by omega) x hx) (by omega) hc hp2 ((frC_congr b2.kn).mpr z)
  have b3 := b2.pivot m4 (by omega) hc hp2
  rw [← tK_gt s2 (by omega)] at b3
  refine ⟨⟨tK_sh s2 ba (by omega) (by omega), b3, ?_, ?_⟩, e⟩
  · have := s2.gt (k := r) (x := c)
    have up : 2 ^ bB r ≤ 2 ^ bB (r + 1) := Nat.pow_le_pow_right (by decide) (by rw [bB_s]; omega)
    omega
  · have f := h.fo
    cases fo with
    | none =>
      intro x hx
      by_cases z : x = c
      · rw [z]; exact nf
      · exact f x (by omega)
    | some g =>
      refine ⟨by have := f.1; omega, f.2.1, fun x hx fx => ?_⟩
      by_cases z : x = c
      · rw [z] at fx; exact absurd fx nf
      · exact f.2.2 x (by omega) fx
theorem St.fr1 (h : St m n c A' T r d pv none) (hc : c < n) (hz : ∀ k, r ≤ k → k < m → gt T k c = 0) : St m n (c + 1) A' T r d pv (some c) := by
  obtain ⟨b, f⟩ := h.bs.free hc hz
  refine ⟨h.sh, b, h.dl, by omega, f, fun x hx fx => ?_⟩
  by_cases z : x = c
  · exact z
  · exact absurd fx (h.fo x (by omega))
theorem St.fr2 {g : Nat} (h : St m n c A' T r d pv (some g)) (hc : c < n) (hz : ∀ k, r ≤ k → k < m → gt T k c = 0) : ¬ One m n A' := by
  obtain ⟨b, f⟩ := h.bs.free hc hz
  rintro ⟨x, hx, fx, ux⟩
  have h1 := ux c hc f
  have h2 := ux g (by have := h.fo.1; omega) h.fo.2.1
  have := h.fo.1
  omega
theorem St.last (h : St m n n A' T r d pv fo) : One m n A' ↔ fo ≠ none := by
  have f := h.fo
  cases fo with
  | none => exact ⟨fun ⟨x, hx, fx, _⟩ => absurd fx (f x hx), fun z => absurd rfl z⟩
  | some g => exact ⟨fun _ => by simp, fun _ => ⟨g, f.1, f.2.1, f.2.2⟩⟩
theorem St.start (hT : Sh T m n 12) : St m n 0 (gt T) T 0 1 pv none :=
  ⟨hT, Bs.start, by decide, fun x hx => absurd hx (Nat.not_lt_zero x)⟩
end
end Law

set_option maxHeartbeats 1000000
namespace Law
open PySem SM
section
variable {fu K : Nat} {s t u : Sto} {T A : List (List Int)} {m n r c q : Nat} {d : Int} {P : List Int} {pv : Nat → Nat} {fo : Option Nat}
def eL (p n : Nat) (d : Int) (fv : Int) (x6 x7 x8 x9 x10 x11 : Option Vl) : Sl := [some (.r p), some (.d (.int n)), some (.d (.int d)), some (.d (.int fv)), some (.r (p + 1)), none, x6, x7, x8, x9, x10, x11, none, none, none]
/-- ahead of a column -/
def JL (s : Sto) (m n : Nat) (A : Nat → Nat → Int) (c : Nat) (e : Sl) (t : Sto) : Prop := ∃ T r d pv fo x6 x7 x8 x9 x10 x11, St m n c A T r d pv fo ∧ e = eL s.length n d (fvI fo) x6 x7 x8 x9 x10 x11 ∧ t = oS s T (pvL pv r)
/-- the search for a row -/
def JQ (s : Sto) (n : Nat) (T : List (List Int)) (r : Nat) (d : Int) (pv : Nat → Nat) (fo : Option Nat) (c m : Nat) (x9 x10 x11 : Option Vl) (q : Nat) (e : Sl) (t : Sto) : Prop :=
  r ≤ q ∧ q ≤ m ∧ (∀ k, r ≤ k → k < q → gt T k c = 0) ∧ e = eL s.length n d (fvI fo) (some (.d (.int c))) (some (.d (.int r))) (some (.d (.int q))) x9 x10 x11 ∧ t = oS s T (pvL pv r)
def JQe (s : Sto) (n : Nat) (T : List (List Int)) (r : Nat) (d : Int) (pv : Nat → Nat) (fo : Option Nat) (c m : Nat) (x9 x10 x11 : Option Vl) (e : Sl) (t : Sto) : Prop :=
  ∃ q, JQ s n T r d pv fo c m x9 x10 x11 q e t ∧ (q < m → gt T q c ≠ 0)
def JK (s : Sto) (n : Nat) (T : List (List Int)) (r : Nat) (d : Int) (pv : Nat → Nat) (fo : Option Nat) (c q : Nat) (k : Nat) (e : Sl) (t : Sto) : Prop :=
  ∃ x10 x11, e = eL s.length n d (fvI fo) (some (.d (.int c))) (some (.d (.int r))) (some (.d (.int q))) (some (.d (lsD (T.getD r [])))) x10 x11 ∧ t = oS s (tK T r c d k) (pvL pv r)
theorem oS_idx {i : Nat} (h : i < T.length) : idxV (.r s.length) (.d (.int (i : Int))) (oS s T P) = some (.d (lsD (T.getD i [])), oS s T P) := oS_row h
theorem lenR0 {mf : Bool} : biV mf .len [.r s.length] (oS s T P) = some (.d (.int T.length), oS s T P) := by
  rw [w_len_r, oS0]
  simp
theorem lenR1 {mf : Bool} : biV mf .len [.r (s.length + 1)] (oS s T P) = some (.d (.int P.length), oS s T P) := by
  rw [w_len_r, oS1]
  simp
theorem while_ok {x6 x7 x8 x9 x10 x11 : Option Vl} {A0 : Nat → Nat → Int} (hf : 10 ≤ fu) (h : St m n c A0 T r d pv fo) (m4 : m ≤ 4) (hc : c < n) {P' : Pt} (hP : ∀ e t, JQe s n T r d pv fo c m x9 x10 x11 e t → P'.n e t) :
    Sw (exS (callI tab fu K) fu (.whil (.and (.cons (.cmp .lt (.var 8) (.bi false .len (.cons (.var 0) .nil))) (.cons (.cmp .eq (.idx (.idx (.var 0) (.var 8)) (.var 6)) (.lit (.int 0))) .nil))) (.cons (.aug 8 .add (.lit (.int 1)))
      .nil)) (eL s.length n d (fvI fo) (some (.d (.int c))) (some (.d (.int r))) (some (.d (.int r))) x9 x10 x11) (oS s T (pvL pv r))) P' := by
  rw [exS_whil]
  have hl := h.sh.len
  refine Sw_whL (fun l e t => ∃ q, l = m - q ∧ JQ s n T r d pv fo c m x9 x10 x11 q e t) (fun l e t ⟨q, hlq, h1, h2, h3, he, ht⟩ => ?_) fu (m - r) (by omega) ⟨r, rfl, Nat.le_refl _, h.bs.rm, fun k a b => by omega, rfl, rfl⟩
  subst he ht
  by_cases hq : q < m
  · have i1 := oS_idx (s := s) (T := T) (P := pvL pv r) (i := q) (by omega)
    have row := h.sh.row _ (SM.getD_mem (d := []) (show q < T.length by omega))
    have i2 := ls_at (row := T.getD q []) (x := c) (q := oS s T (pvL pv r)) (by omega)
    by_cases hz : gt T q c = 0
    · have hz' : (T.getD q []).getD c 0 = 0 := hz
      rw [hz'] at i2
      simp [-List.getD_eq_getElem?_getD, -idxV_r, -w_len_r, -setV_r, evT_eq, eL, lenR0, hl, hq, i1, i2, augF]
      refine ⟨m - (q + 1), by omega, q + 1, rfl, by omega, by omega, fun k a b => ?_, by simp [eL], rfl⟩
      by_cases z : k = q
      · rw [z]; exact hz
      · exact h3 k a (by omega)
    · have hz' : ¬ (T.getD q []).getD c 0 = 0 := hz
      simp [-List.getD_eq_getElem?_getD, -idxV_r, -w_len_r, -setV_r, evT_eq, eL, lenR0, hl, hq, i1, i2, hz']
      exact hP _ _ ⟨q, ⟨h1, h2, h3, rfl, rfl⟩, fun _ => hz⟩
  · simp [-List.getD_eq_getElem?_getD, -idxV_r, -w_len_r, -setV_r, evT_eq, eL, lenR0, hl, hq]
    exact hP _ _ ⟨q, ⟨h1, h2, h3, rfl, rfl⟩, fun z => absurd z hq⟩
theorem zw_zip {α β γ : Type} (f : α → β → γ) : ∀ (a : List α) (b : List β), List.zipWith f a b = (List.zip a b).map fun p => f p.1 p.2
  | [], _ => rfl
  | _ :: _, [] => rfl
  | x :: a, y :: b => by simp [List.zip]
theorem kloop_ok {A0 : Nat → Nat → Int} (x10 x11 : Option Vl) (hT : Sh T m n (bB r)) (hr : r < m) (m4 : m ≤ 4) (hc : c < n) (n5 : n ≤ 5) (d0 : d ≠ 0) (dl : d.natAbs < 2 ^ bB r) {P' : Pt} (hP : ∀ e t, JK s n T r d pv fo c q m e t → P'.n e t) :
    Sw (exS (callI tab fu K) fu (.forr (.var 10) (.rng1 (.bi false .len (.cons (.var 0) .nil))) (.cons (.ite (.cmp .ne (.var 10) (.var 7)) (.cons (.asg (.var 11) (.idx (.idx (.var 0) (.var 10)) (.var 6)))
          (.cons (.asg (.idx (.var 0) (.var 10)) (.comp false (.bop false .fdiv (.bop false .sub (.bop false .mul (.idx (.var 9) (.var 6)) (.var 12)) (.bop false .mul (.var 11) (.var 13))) (.var 2)) (.tup (.cons (.var 12) (.cons (.var 13) .nil))) (.zip (.idx (.var 0) (.var 10)) (.var 9)) .nil [12, 13]))
          .nil)) .nil)
        .nil)) (eL s.length n d (fvI fo) (some (.d (.int c))) (some (.d (.int r))) (some (.d (.int q))) (some (.d (lsD (T.getD r [])))) x10 x11) (oS s T (pvL pv r))) P' := by
  have hl := hT.len
  have rr := hT.row _ (SM.getD_mem (d := []) (show r < T.length by omega))
  have dl9 : d.natAbs.log2 < 9000 := log_lt (k := 210) (Nat.lt_of_lt_of_le dl (Nat.pow_le_pow_right (by decide) (bB_le (by omega)))) (by omega) (by omega)
  simp [-List.getD_eq_getElem?_getD, -idxV_r, -w_len_r, -setV_r, evT_eq, eL, lenR0, hl, show m ≤ 1000000 by omega]
  refine Sw_goR m (JK s n T r d pv fo c q) (fun k hk e t ⟨y10, y11, he, ht⟩ => ?_) hP ⟨x10, x11, rfl, by rw [tK_0]⟩
  subst he ht
  by_cases hkr : k = r
  · subst hkr
    simp [-List.getD_eq_getElem?_getD, -idxV_r, -w_len_r, -setV_r, evT_eq, eL, turnS_var]
    exact ⟨_, _, rfl, by rw [tK_skip]⟩
  · have gk : (tK T r c d k).getD k [] = T.getD k [] := by
      rw [tK_get (by omega), if_neg (by omega)]
    have i1 := oS_idx (s := s) (T := tK T r c d k) (P := pvL pv r) (i := k) (by rw [tK_len]; omega)
    rw [gk] at i1
    have rk := hT.row _ (SM.getD_mem (d := []) (show k < T.length by omega))
    have i2 := ls_at (row := T.getD k []) (x := c) (q := oS s (tK T r c d k) (pvL pv r)) (by omega)
    have i3 := ls_at (row := T.getD r []) (x := c) (q := oS s (tK T r c d k) (pvL pv r)) (by omega)
    have st := oS_set (s := s) (T := tK T r c d k) (P := pvL pv r) (i := k) (row := nrow T r c d k) (by rw [tK_len]; omega)
    rw [tK_step (by omega) hkr] at st
    have hkr' : ¬ (k : Int) = (r : Int) := by omega
    have cmp : ev (callI tab fu K) (.comp false (.bop false .fdiv (.bop false .sub (.bop false .mul (.idx (.var 9) (.var 6)) (.var 12)) (.bop false .mul (.var 11) (.var 13))) (.var 2)) (.tup (.cons (.var 12) (.cons (.var 13) .nil))) (.zip (.idx (.var 0) (.var 10)) (.var 9)) .nil [12, 13])
        (eL s.length n d (fvI fo) (some (.d (.int c))) (some (.d (.int r))) (some (.d (.int q))) (some (.d (lsD (T.getD r [])))) (some (.d (.int k))) (some (.d (.int (gt T k c))))) (oS s (tK T r c d k) (pvL pv r)) = .ok (.d (lsD (nrow T r c d k))) (oS s (tK T r c d k) (pvL pv r)) := by
      have e1 : lsD (nrow T r c d k) = .list ((List.zip (T.getD k []) (T.getD r [])).map fun p => .int ((gt T r c * p.1 - gt T k c * p.2).fdiv d)) := by
        unfold lsD nrow
        rw [zw_zip, List.map_map]
        rfl
      rw [e1]
      refine comp_on (fun p : Int × Int => PyData.tuple [.int p.1, .int p.2]) _ ?_ ?_ fun p hp => ⟨_, rfl, ?_⟩
      · simp [-List.getD_eq_getElem?_getD, -idxV_r, -w_len_r, -setV_r, evT_eq, eL, i1, lsD, zw_zip, List.zip_map]
      · rw [List.length_zip]
        omega
      · have i3' : idxV (.d (lsD (T.getD r []))) (.d (.int (c : Int))) (oS s (tK T r c d k) (pvL pv r)) = some (.d (.int (gt T r c)), oS s (tK T r c d k) (pvL pv r)) := i3
        obtain ⟨z1, z2⟩ := List.of_mem_zip (show (p.1, p.2) ∈ _ from hp)
        have bl := bB_le (show r ≤ 4 by omega)
        have o1 : mulOk (gt T r c) p.1 := mulOk_of hT.gt (hT.bd _ (SM.getD_mem (by omega)) _ z1) (by omega)
        have o2 : mulOk (gt T k c) p.2 := mulOk_of hT.gt (hT.bd _ (SM.getD_mem (by omega)) _ z2) (by omega)
        have fd := fun i : Int => fdiv_ok (s := oS s (tK T r c d k) (pvL pv r)) (mf := false) (i := i) d0 dl9
        simp [-List.getD_eq_getElem?_getD, -idxV_r, -w_len_r, -setV_r, -bin_fdiv, evT_eq, eL, wipe, i3', fd, o1, o2]
    have i2' : idxV (.d (lsD (T.getD k []))) (.d (.int (c : Int))) (oS s (tK T r c d k) (pvL pv r)) = some (.d (.int (gt T k c)), oS s (tK T r c d k) (pvL pv r)) := i2
    simp only [eL] at cmp
    simp [-List.getD_eq_getElem?_getD, -idxV_r, -w_len_r, -setV_r, evT_eq, eL, turnS_var, hkr', i1, i2', cmp, st]
    exact ⟨_, _, rfl, rfl⟩
end
end Law

set_option maxHeartbeats 1000000
namespace Law
open PySem SM
section
variable {fu K : Nat} {s t u : Sto} {T A : List (List Int)} {m n r c q : Nat} {d : Int} {P : List Int} {pv : Nat → Nat} {fo : Option Nat}
/-- what only_line tells -/
def OL (s : Sto) (m n : Nat) (A : Nat → Nat → Int) (v : Vl) (t : Sto) : Prop := t = s ∧ ((v = .d .none ∧ ¬ One m n A) ∨ (∃ xs, v = .d (.list xs) ∧ One m n A))
theorem oS_app {P : List Int} {x : PyData} : meV .append (.r (s.length + 1)) [.d (.int (c : Int))] (oS s T (pvL pv r)) = some (.d .none, oS s T (pvL pv r ++ [(c : Int)])) ∨ ¬ (r < 16777216) := by
  by_cases h : r < 16777216
  · left
    rw [app_r oS1 (by simpa [pvL] using h), ← oS_put1 (P := pvL pv r)]
    rw [show (pvL pv r).map vI ++ [Vl.d (.int (c : Int))] = (pvL pv r ++ [(c : Int)]).map vI by simp; rfl]
    rw [oS_put1, oS_put1]
  · exact .inr h
theorem col_ok {x6 x7 x8 x9 x10 x11 : Option Vl} {A0 : Nat → Nat → Int} (hf : 10 ≤ fu) (h : St m n c A0 T r d pv fo) (m4 : m ≤ 4) (hc : c < n) (n5 : n ≤ 5) {N : Sl → Sto → Prop} {X : Nat → Vl → Sl → Sto → Prop} {B : Sl → Sto → Prop} (hN : ∀ e t, JL s m n A0 (c + 1) e t → N e t) :
    Sw (exS (callI tab fu K) fu (.cons (.par (.var 7) (.var 8) (.bi false .len (.cons (.var 4) .nil)) (.bi false .len (.cons (.var 4) .nil)))
    (.cons (.whil (.and (.cons (.cmp .lt (.var 8) (.bi false .len (.cons (.var 0) .nil))) (.cons (.cmp .eq (.idx (.idx (.var 0) (.var 8)) (.var 6)) (.lit (.int 0))) .nil))) (.cons (.aug 8 .add (.lit (.int 1)))
      .nil))
    (.cons (.ite (.cmp .lt (.var 8) (.bi false .len (.cons (.var 0) .nil))) (.cons (.ptup (.cons (.idx (.var 0) (.var 7)) (.cons (.idx (.var 0) (.var 8)) .nil)) (.cons (.idx (.var 0) (.var 8)) (.cons (.idx (.var 0) (.var 7)) .nil)))
      (.cons (.asg (.var 9) (.idx (.var 0) (.var 7)))
      (.cons (.forr (.var 10) (.rng1 (.bi false .len (.cons (.var 0) .nil))) (.cons (.ite (.cmp .ne (.var 10) (.var 7)) (.cons (.asg (.var 11) (.idx (.idx (.var 0) (.var 10)) (.var 6)))
          (.cons (.asg (.idx (.var 0) (.var 10)) (.comp false (.bop false .fdiv (.bop false .sub (.bop false .mul (.idx (.var 9) (.var 6)) (.var 12)) (.bop false .mul (.var 11) (.var 13))) (.var 2)) (.tup (.cons (.var 12) (.cons (.var 13) .nil))) (.zip (.idx (.var 0) (.var 10)) (.var 9)) .nil [12, 13]))
          .nil)) .nil)
        .nil))
      (.cons (.asg (.var 2) (.idx (.var 9) (.var 6)))
      (.cons (.expr (.me .append (.var 4) (.cons (.var 6) .nil)))
      .nil))))) (.cons (.ite (.cmp .ge (.var 3) (.lit (.int 0))) (.cons (.ret (.lit .none))
        .nil) (.cons (.asg (.var 3) (.var 6))
        .nil))
      .nil))
    .nil))) (eL s.length n d (fvI fo) (some (.d (.int c))) x7 x8 x9 x10 x11) (oS s T (pvL pv r))) ⟨N, fun v t => Lv s v t (OL s m n A0), B, N, X⟩ := by
  have hl := h.sh.len
  have rm := h.bs.rm
  refine Sw_cut (fun e t => e = eL s.length n d (fvI fo) (some (.d (.int c))) (some (.d (.int r))) (some (.d (.int r))) x9 x10 x11 ∧ t = oS s T (pvL pv r)) ?_ fun e t ⟨he, ht⟩ => ?_
  · simp [-List.getD_eq_getElem?_getD, -idxV_r, -w_len_r, -setV_r, evT_eq, eL, lenR1, pvL_len]
  subst he ht
  refine Sw_cut (JQe s n T r d pv fo c m x9 x10 x11) (while_ok (x6 := none) (x7 := none) (x8 := none) hf h m4 hc fun e t z => z) fun e t ⟨q, ⟨h1, h2, h3, he, ht⟩, hnz⟩ => ?_
  subst he ht
  by_cases hq : q < m
  · have hp := hnz hq
    obtain ⟨s2, e2⟩ := h.piv m4 hc h1 hq hp
    have hT2 := swT_sh h.sh (show r < m by omega) hq
    have a1 := oS_idx (s := s) (T := T) (P := pvL pv r) (i := q) (by omega)
    have a2 := oS_idx (s := s) (T := T) (P := pvL pv r) (i := r) (by omega)
    have a3 := oS_set (s := s) (T := T) (P := pvL pv r) (i := r) (row := T.getD q []) (by omega)
    have a4 := oS_set (s := s) (T := T.set r (T.getD q [])) (P := pvL pv r) (i := q) (row := T.getD r []) (by rw [List.length_set]; omega)
    have a5 := oS_idx (s := s) (T := swT T r q) (P := pvL pv r) (i := r) (by have := hT2.len; omega)
    change setV _ _ _ _ = some (oS s (swT T r q) (pvL pv r)) at a4
    have l4 := ls_at (row := (swT T r q).getD r []) (x := c) (q := oS s (tK (swT T r q) r c d m) (pvL pv r)) (by have := hT2.row _ (SM.getD_mem (d := []) (show r < (swT T r q).length by have := hT2.len; omega)); omega)
    have l4' : idxV (.d (lsD ((swT T r q).getD r []))) (.d (.int (c : Int))) (oS s (tK (swT T r q) r c d m) (pvL pv r)) = some (.d (.int (gt (swT T r q) r c)), oS s (tK (swT T r q) r c d m) (pvL pv r)) := l4
    have ap := (oS_app (s := s) (T := tK (swT T r q) r c d m) (pv := pv) (r := r) (c := c) (P := []) (x := .none)).resolve_right (by omega)
    rw [pvL_step] at ap
    have br : ev (callI tab fu K) (.cmp .lt (.var 8) (.bi false .len (.cons (.var 0) .nil))) (eL s.length n d (fvI fo) (some (.d (.int c))) (some (.d (.int r))) (some (.d (.int q))) x9 x10 x11) (oS s T (pvL pv r)) = .ok (.d (.bool true)) (oS s T (pvL pv r)) := by
      simp [-List.getD_eq_getElem?_getD, -idxV_r, -w_len_r, -setV_r, evT_eq, eL, lenR0, hl, hq]
    refine Sw_cut N ?_ fun e t z => z
    rw [exS_ite, evT_eq, br]
    refine Sw_cut (fun e t => e = eL s.length n d (fvI fo) (some (.d (.int c))) (some (.d (.int r))) (some (.d (.int q))) x9 x10 x11 ∧ t = oS s (swT T r q) (pvL pv r)) ?_ fun e t ⟨he, ht⟩ => ?_
    · simp [-List.getD_eq_getElem?_getD, -idxV_r, -w_len_r, -setV_r, evT_eq, eL, a1, a2, a3, a4]
    subst he ht
    refine Sw_cut (fun e t => e = eL s.length n d (fvI fo) (some (.d (.int c))) (some (.d (.int r))) (some (.d (.int q))) (some (.d (lsD ((swT T r q).getD r [])))) x10 x11 ∧ t = oS s (swT T r q) (pvL pv r)) ?_ fun e t ⟨he, ht⟩ => ?_
    · simp [-List.getD_eq_getElem?_getD, -idxV_r, -w_len_r, -setV_r, evT_eq, eL, a5]
    subst he ht
    refine Sw_cut (JK s n (swT T r q) r d pv fo c q m) (kloop_ok (A0 := A0) x10 x11 hT2 (by omega) m4 hc n5 (by obtain ⟨_, b⟩ := h.bs.ba; exact b.d0) h.dl fun e t z => z) fun e t ⟨y10, y11, he, ht⟩ => ?_
    subst he ht
    simp [-List.getD_eq_getElem?_getD, -idxV_r, -w_len_r, -setV_r, evT_eq, eL, l4', ap, meR_r (oS1 (s := s) (T := tK (swT T r q) r c d m) (P := pvL pv r))]
    exact hN _ _ ⟨_, _, _, _, fo, _, _, _, _, _, _, s2, rfl, rfl⟩
  · have hqm : q = m := by omega
    subst hqm
    cases fo with
    | none =>
      have s2 := h.fr1 hc h3
      simp [-List.getD_eq_getElem?_getD, -idxV_r, -w_len_r, -setV_r, evT_eq, eL, lenR0, hl, fvI]
      exact hN _ _ ⟨T, r, d, pv, some c, _, _, _, _, _, _, s2, rfl, rfl⟩
    | some g =>
      have s2 := h.fr2 hc h3
      simp [-List.getD_eq_getElem?_getD, -idxV_r, -w_len_r, -setV_r, evT_eq, eL, lenR0, hl, fvI]
      exact Lv_app ⟨rfl, .inl ⟨rfl, s2⟩⟩
def oF (s : Sto) (T : List (List Int)) (fs : List Int) : Sto := s ++ [some (.lst ((T.map lsD).map Vl.d)), none, some (.lst (fs.map vI))]
theorem oF0 {fs : List Int} : listAt s.length (oF s T fs) = some ((T.map lsD).map Vl.d) := by simp [oF, listAt]
theorem oF2 {fs : List Int} : listAt (s.length + 2) (oF s T fs) = some (fs.map vI) := by simp [oF, listAt]
theorem oF_put {fs gs : List Int} : putL (s.length + 2) (gs.map vI) (oF s T fs) = oF s T gs := by simp [oF, putL, List.set_append_right]
theorem oF_row {i : Nat} {fs : List Int} (h : i < T.length) : idxV (.r s.length) (.d (.int (i : Int))) (oF s T fs) = some (.d (lsD (T.getD i [])), oF s T fs) := by
  rw [idxV_r, oF0, Option.bind_some, atI_nat (by simpa using h), SM.getD_lt h]
  simp
theorem oF_set {i : Nat} {x : Int} {fs : List Int} (h : i < fs.length) : setV (.r (s.length + 2)) (.d (.int (i : Int))) (.d (.int x)) (oF s T fs) = some (oF s T (fs.set i x)) := by
  have ix : L2.ixN (fs.map vI).length (i : Int) = some i := ixN_nat (by simpa using h)
  rw [setV_r, oF2, Option.bind_some, ix, Option.map_some, ← oF_put (fs := fs) (gs := fs.set i x)]
  simp [List.map_set]
  rfl
def JF (s : Sto) (n : Nat) (T : List (List Int)) (d : Int) (g : Nat) (j : Nat) (e : Sl) (t : Sto) : Prop := ∃ x6 x7 x8 x9 x10 x11 fs, fs.length = n ∧ e = [some (.r s.length), some (.d (.int n)), some (.d (.int d)), some (.d (.int g)), some (.r (s.length + 1)), none, x6, x7, x8, x9, x10, x11, none, none, some (.r (s.length + 2))] ∧ t = oF s T fs
theorem only_line_ok {A0 : List (List Int)} (hf : 10 ≤ fu) (hA : Sh A0 m n 12) (m4 : m ≤ 4) (n5 : n ≤ 5) : Ok (callI tab fu (K + 1) i_only_line [.d (.list (A0.map lsD)), .d (.int n)] s) (OL s m n (gt A0)) nX := by
  refine Ok_call (F := d_only_line) rfl rfl ?_
  simp only [d_only_line, b_only_line]
  have c0 : ev (callI tab fu K) (.comp true (.bi false .list (.cons (.var 5) .nil)) (.var 5) (.itv (.var 0)) .nil [5]) [some (.d (.list (A0.map lsD))), some (.d (.int n)), none, none, none, none, none, none, none, none, none, none, none, none, none] s = .ok (.r s.length) (s ++ [some (.lst ((A0.map lsD).map Vl.d))]) := by
    refine comp_onM lsD lsD (by simp) (by have := hA.len; omega) fun a ha => ⟨_, rfl, ?_⟩
    have := hA.row a ha
    simp [lsD, wipe, show a.length ≤ 16777216 by omega]
  refine Sw_cut (JL s m n (gt A0) 0) ?_ fun e t h => ?_
  · simp [c0, mkL_true]
    exact ⟨A0, 0, 1, fun _ => 0, none, _, _, _, _, _, _, St.start hA, rfl, by simp [oS, pvL]⟩
  refine Sw_cut (JL s m n (gt A0) n) ?_ fun e t h => ?_
  · obtain ⟨T, r, d, pv, fo, x6, x7, x8, x9, x10, x11, hs, he, ht⟩ := h
    subst he ht
    rw [exS_for_vals (ds := (List.range n).map fun j : Nat => PyData.int j) (s' := oS s T (pvL pv r)) (by simp [eL, show n ≤ 1000000 by omega])]
    refine Sw_goR n (JL s m n (gt A0)) (fun c hc e t h => ?_) (fun _ _ z => z) ⟨T, r, d, pv, fo, x6, x7, x8, x9, x10, x11, hs, rfl, rfl⟩
    obtain ⟨T, r, d, pv, fo, x6, x7, x8, x9, x10, x11, hs, he, ht⟩ := h
    subst he ht
    exact col_ok (x6 := none) hf hs m4 hc n5 fun _ _ z => z
  obtain ⟨T, r, d, pv, fo, x6, x7, x8, x9, x10, x11, hs, he, ht⟩ := h
  subst he ht
  have la := hs.last
  cases fo with
  | none =>
    simp [eL, evT_eq, fvI]
    exact Lv_app ⟨rfl, .inl ⟨rfl, fun z => la.mp z rfl⟩⟩
  | some g =>
    have on := la.mpr (by simp)
    have hg := hs.fo.1
    refine Sw_cut (fun e t => e = eL s.length n d g x6 x7 x8 x9 x10 x11 ∧ t = oS s T (pvL pv r)) ?_ fun e t ⟨he, ht⟩ => ?_
    · simp [eL, evT_eq, fvI, show ¬ ((g : Int) < 0) by omega]
    subst he ht
    refine Sw_cut (fun e t => e = [some (.r s.length), some (.d (.int n)), some (.d (.int d)), some (.d (.int g)), some (.r (s.length + 1)), none, x6, x7, x8, x9, x10, x11, none, none, some (.r (s.length + 2))] ∧ t = oS s T (pvL pv r) ++ [some (.lst ((List.replicate n 0).map vI))]) ?_ fun e t ⟨he, ht⟩ => ?_
    · simp [eL, evT_eq, mkL_true, show (n : Int) ≤ 1000 by omega, show n ≤ 16777216 by omega]
      exact ⟨by simp [oS], .inr rfl⟩
    subst he ht
    have ll := hs.sh.len
    have ww : oS s T (pvL pv r) ++ [some (Ob.lst ((List.replicate n 0).map vI))] = s ++ [some (Ob.lst ((T.map lsD).map Vl.d)), some (Ob.lst ((pvL pv r).map vI)), some (Ob.lst ((List.replicate n 0).map vI))] := by simp [oS]
    let w := fun fs : List Int => s ++ [some (Ob.lst ((T.map lsD).map Vl.d)), some (Ob.lst ((pvL pv r).map vI)), some (Ob.lst (fs.map vI))]
    have w2 : ∀ fs, listAt (s.length + 2) (w fs) = some (fs.map vI) := fun fs => by simp [w, listAt]
    have w1 : ∀ fs, listAt (s.length + 1) (w fs) = some (((pvL pv r).map .int).map Vl.d) := fun fs => by simp [w, listAt]; exact fun _ _ => rfl
    have wp : ∀ fs gs, putL (s.length + 2) (gs.map vI) (w fs) = w gs := fun fs gs => by simp [w, putL, List.set_append_right]
    have wf : ∀ fs, (w fs).set (s.length + 1) none = oF s T fs := fun fs => by simp [w, oF, List.set_append_right]
    rw [ww]
    show Sw (exS _ _ _ _ (w (List.replicate n 0))) _
    refine Sw_cut (fun e t => e = [some (.r s.length), some (.d (.int n)), some (.d (.int d)), some (.d (.int g)), some (.r (s.length + 1)), none, x6, x7, x8, x9, x10, x11, none, none, some (.r (s.length + 2))] ∧ ∃ fs : List Int, fs.length = n ∧ t = w fs) ?_ fun e t ⟨he, fs, hfl, ht⟩ => ?_
    · have ix : L2.ixN n (g : Int) = some g := ixN_nat hg
      simp [w2, ix]
      refine ⟨(List.replicate n 0).set g d, by simp, ?_⟩
      have := wp (List.replicate n 0) ((List.replicate n 0).set g d)
      rw [List.map_set] at this
      rw [← this]
      simp
      rfl
    subst he ht
    refine Sw_cut (JF s n T d g r) ?_ fun e t ⟨y6, y7, y8, y9, y10, y11, fs, hfl, he, ht⟩ => ?_
    · rw [exS_for_vals (ds := (pvL pv r).zipIdx.map fun p => PyData.tuple [.int p.2, .int p.1]) (s' := oF s T fs) (by simp [frz_r (w1 fs), wf, List.zipIdx_map])]
      refine Sw_goN (JF s n T d g) (fun j hj e t ⟨y6, y7, y8, y9, y10, y11, fs, hfl, he, ht⟩ => ?_) (fun _ _ z => by simpa [pvL] using z) ⟨_, _, _, _, _, _, fs, hfl, rfl, rfl⟩
      subst he ht
      have hj' : j < r := by simpa [pvL] using hj
      have pj : (pvL pv r)[j]'(by simpa [pvL] using hj') = (pv j : Int) := by simp [pvL]
      have hpv := hs.bs.lt j hj'
      have hrm := hs.bs.rm
      have i1 := oF_row (s := s) (T := T) (fs := fs) (i := j) (by omega)
      have i2 := ls_at (row := T.getD j []) (x := g) (q := oF s T fs) (by rw [hs.sh.row _ (SM.getD_mem (by omega))]; exact hg)
      have i3 := fun x => oF_set (s := s) (T := T) (fs := fs) (i := pv j) (x := x) (by omega)
      have hx : ((pvL pv r).zipIdx.map fun p => PyData.tuple [.int p.2, .int p.1])[j] = PyData.tuple [.int j, .int (pv j)] := by simp [pj]
      rw [hx, turnS_of rfl]
      simp [-List.getD_eq_getElem?_getD, -idxV_r, -w_len_r, -setV_r, i1, i2, i3]
      exact ⟨_, _, _, _, _, _, _, by simp; exact hfl, rfl, rfl⟩
    subst he ht
    have z0 : listAt (s.length + 2) (oF s T fs) = some ((fs.map PyData.int).map Vl.d) := by rw [oF2, List.map_map]; rfl
    simp [frz_r z0]
    have z : (oF s T fs).set (s.length + 2) none = s ++ [some (Ob.lst ((T.map lsD).map Vl.d)), none, none] := by simp [oF, List.set_append_right]
    rw [z]
    exact Lv_app ⟨rfl, .inr ⟨_, rfl, on⟩⟩
end
end Law

set_option maxHeartbeats 1000000
namespace Law
open PySem SM
section
variable {fu K : Nat} {s t u : Sto} {T A : List (List Int)} {m n r c q : Nat}
theorem gcd_stp {p q : Int} : Int.gcd q (p % q) = Int.gcd p q := by
  rw [Int.emod_def, Int.gcd_sub_mul_left_right, Int.gcd_comm]
theorem gcd_stpF {p q : Int} : Int.gcd q (p.fmod q) = Int.gcd p q := by
  rw [Int.fmod_def, Int.gcd_sub_mul_left_right, Int.gcd_comm]
def GcJ (a b : Int) (s : Sto) (m : Nat) (e : Sl) (v : Sto) : Prop := v = s ∧ ∃ p q : Int, e = [some (.d (.int p)), some (.d (.int q))] ∧ Int.gcd p q = Int.gcd a b ∧ q.natAbs = m
theorem lgcd_ok {a b : Int} (hK : 1 ≤ K) (hf : b.natAbs < fu) : callI tab fu K i__law_gcd [.d (.int a), .d (.int b)] s = .ok (.d (.int (Int.gcd a b))) s := by
  obtain ⟨K, rfl⟩ : ∃ k, K = k + 1 := ⟨K - 1, by omega⟩
  refine Ok_one (Ok_call (F := d__law_gcd) rfl rfl ?_)
  simp only [d__law_gcd, b__law_gcd]
  refine Sw_cut (fun e v => v = s ∧ ∃ p : Int, e = [some (.d (.int p)), some (.d (.int 0))] ∧ (p.natAbs : Int) = Int.gcd a b) ?_ fun e v ⟨hv, p, he, hp⟩ => ?_
  · rw [exS_whil]
    refine Sw_whL (GcJ a b s) (fun m e v ⟨hv, p, q, he, hg, hq⟩ => ?_) fu b.natAbs hf ⟨rfl, a, b, rfl, rfl, rfl⟩
    subst he hv
    by_cases h0 : q = 0
    · subst h0
      simp [evT_eq]
      rw [← hg]
      simp
    · by_cases hpos : 0 < q
      · simp [evT_eq, h0, hpos]
        have h1 := Int.emod_lt_of_pos p hpos
        have h2 := Int.emod_nonneg p h0
        exact ⟨(p % q).natAbs, by omega, rfl, q, p % q, rfl, by rw [gcd_stp, hg], rfl⟩
      · have hneg : q < 0 := by omega
        have f1 : q < p.fmod q := by
          have := Int.fmod_lt_of_pos (-p) (show 0 < -q by omega)
          rw [Int.neg_fmod_neg] at this
          omega
        have f2 : p.fmod q ≤ 0 := by
          have := Int.fmod_nonneg_of_pos (-p) (show 0 < -q by omega)
          rw [Int.neg_fmod_neg] at this
          omega
        simp [evT_eq, h0, hpos, hneg]
        exact ⟨(p.fmod q).natAbs, by omega, rfl, q, p.fmod q, rfl, by rw [gcd_stpF, hg], rfl⟩
  · subst he hv
    simp [hp]
    exact Lv_len rfl ⟨rfl, rfl⟩
def clE (row lead : List Int) (c : Nat) : List Int := (List.range row.length).map fun x => rf lead c * rf row x - rf row c * rf lead x
def gcdL : Int → List Int → Int
  | g, [] => g
  | g, x :: r => gcdL (Int.gcd g x) r
def clF (row lead : List Int) (c : Nat) : List Int := (clE row lead c).map fun x => x / max 1 (gcdL 0 (clE row lead c))
theorem gcdL_dvd : ∀ {l : List Int} {g : Int}, gcdL g l ∣ g ∧ ∀ x ∈ l, gcdL g l ∣ x
  | [], g => ⟨Int.dvd_refl g, fun _ h => by cases h⟩
  | y :: r, g => by
    obtain ⟨h1, h2⟩ := gcdL_dvd (l := r) (g := Int.gcd g y)
    refine ⟨Int.dvd_trans h1 (Int.gcd_dvd_left ..), fun x hx => ?_⟩
    rcases List.mem_cons.mp hx with rfl | hx
    · exact Int.dvd_trans h1 (Int.gcd_dvd_right ..)
    · exact h2 x hx
theorem gcdL_nn : ∀ {l : List Int} {g : Int}, 0 ≤ g → 0 ≤ gcdL g l
  | [], g, h => h
  | y :: r, g, h => gcdL_nn (l := r) (by omega)
theorem gcd_bd {g y : Int} {b : Nat} (hg : g.natAbs < 2 ^ b) (hy : y.natAbs < 2 ^ b) : (Int.gcd g y : Int).natAbs < 2 ^ b := by
  by_cases z : y = 0
  · subst z; simpa using hg
  · have := Nat.gcd_le_right g.natAbs (show 0 < y.natAbs by omega)
    show ((Nat.gcd g.natAbs y.natAbs : Nat) : Int).natAbs < _
    rw [Int.natAbs_natCast]
    omega
theorem gcdL_bd {b : Nat} : ∀ {l : List Int} {g : Int}, g.natAbs < 2 ^ b → (∀ x ∈ l, x.natAbs < 2 ^ b) → (gcdL g l).natAbs < 2 ^ b
  | [], g, h, _ => h
  | y :: r, g, h, h2 => gcdL_bd (l := r) (gcd_bd h (h2 y List.mem_cons_self)) fun x hx => h2 x (List.mem_cons_of_mem _ hx)
theorem clF_Cl {row lead : List Int} (h : row.length = n) : Cl n row lead c (clF row lead c) := by
  refine ⟨by simp [clF, clE, h], max 1 (gcdL 0 (clE row lead c)), by omega, fun x hx => ?_⟩
  have e : rf (clF row lead c) x = (rf lead c * rf row x - rf row c * rf lead x) / max 1 (gcdL 0 (clE row lead c)) := by
    have hx' : x < (clF row lead c).length := by simp [clF, clE]; omega
    show (clF row lead c).getD x 0 = _
    rw [SM.getD_lt hx']
    simp [clF, clE]
  rw [e]
  refine Int.mul_ediv_cancel' ?_
  by_cases z : gcdL 0 (clE row lead c) = 0
  · rw [z]
    exact Int.one_dvd _
  · have nn := gcdL_nn (l := clE row lead c) (Int.le_refl 0)
    rw [show max 1 (gcdL 0 (clE row lead c)) = gcdL 0 (clE row lead c) by omega]
    exact gcdL_dvd.2 _ (List.mem_map.mpr ⟨x, List.mem_range.mpr (by omega), rfl⟩)
theorem clE_bd {row lead : List Int} (hr : row.length = n) (hl : lead.length = n) (hc : c < n) (b1 : ∀ x ∈ row, x.natAbs < 2 ^ 400) (b2 : ∀ x ∈ lead, x.natAbs < 2 ^ 400) : ∀ x ∈ clE row lead c, x.natAbs < 2 ^ 801 := fun x hx => by
  obtain ⟨j, hj, rfl⟩ := List.mem_map.mp hx
  have hj := List.mem_range.mp hj
  have r1 : ∀ (l : List Int) (y : Nat), y < l.length → rf l y ∈ l := fun l y hy => by unfold rf; rw [SM.getD_lt hy]; exact List.getElem_mem _
  have a1 := b2 _ (r1 lead c (by omega))
  have a2 := b2 _ (r1 lead j (by omega))
  have a3 := b1 _ (r1 row c (by omega))
  have a4 := b1 _ (r1 row j (by omega))
  have m1 : (rf lead c * rf row j).natAbs < 2 ^ 400 * 2 ^ 400 := by rw [Int.natAbs_mul]; exact Nat.mul_lt_mul'' a1 a4
  have m2 : (rf row c * rf lead j).natAbs < 2 ^ 400 * 2 ^ 400 := by rw [Int.natAbs_mul]; exact Nat.mul_lt_mul'' a3 a2
  have := Int.natAbs_sub_le (rf lead c * rf row j) (rf row c * rf lead j)
  have e : (2 : Nat) ^ 801 = 2 ^ 400 * 2 ^ 400 + 2 ^ 400 * 2 ^ 400 := by decide +kernel
  omega
def JC (s : Sto) (a b : Vl) (c : Nat) (E : List Int) (l : List Int) (e : Sl) (t : Sto) : Prop := t = s ∧ ∃ (g : Int) (x6 : Option Vl), 0 ≤ g ∧ gcdL g l = gcdL 0 E ∧ (∀ x ∈ l, x ∈ E) ∧ e = [some a, some b, some (.d (.int c)), some (.d (lsD E)), none, some (.d (.int g)), x6]
theorem cleared_ok {row lead : List Int} (hK : 2 ≤ K) (hf : 2 ^ 2000 ≤ fu) (hr : row.length = n) (hl : lead.length = n) (hc : c < n) (n5 : n ≤ 5) (b1 : ∀ x ∈ row, x.natAbs < 2 ^ 400) (b2 : ∀ x ∈ lead, x.natAbs < 2 ^ 400) :
    callI tab fu K i__law_cleared [.d (lsD row), .d (lsD lead), .d (.int c)] s = .ok (.d (lsD (clF row lead c))) s := by
  obtain ⟨K, rfl⟩ : ∃ k, K = k + 1 := ⟨K - 1, by omega⟩
  have bE := clE_bd hr hl hc b1 b2
  have gb := gcdL_bd (l := clE row lead c) (g := 0) (b := 801) (by exact Nat.pow_pos (by decide)) bE
  refine Ok_one (Ok_call (F := d__law_cleared) rfl rfl ?_)
  simp only [d__law_cleared, b__law_cleared]
  have i1 := ls_at (row := lead) (x := c) (q := s) (by omega)
  have i2 := ls_at (row := row) (x := c) (q := s) (by omega)
  have c1 : ev (callI tab fu K) (.comp false (.bop false .sub (.bop false .mul (.idx (.var 1) (.var 2)) (.idx (.var 0) (.var 4))) (.bop false .mul (.idx (.var 0) (.var 2)) (.idx (.var 1) (.var 4)))) (.var 4) (.rng1 (.bi false .len (.cons (.var 0) .nil))) .nil [4])
      [some (.d (lsD row)), some (.d (lsD lead)), some (.d (.int c)), none, none, none, none] s = .ok (.d (lsD (clE row lead c))) s := by
    have e1 : lsD (clE row lead c) = .list ((List.range row.length).map fun x => .int (rf lead c * rf row x - rf row c * rf lead x)) := by
      unfold lsD clE
      rw [List.map_map]
      rfl
    rw [e1]
    refine comp_on (fun x : Nat => PyData.int x) _ ?_ (by simp; omega) fun x hx => ⟨_, rfl, ?_⟩
    · simp [lsD, show row.length ≤ 1000000 by omega]
    · have hx := List.mem_range.mp hx
      have i3 := ls_at (row := lead) (x := x) (q := s) (by omega)
      have i4 := ls_at (row := row) (x := x) (q := s) (by omega)
      have r1 : ∀ (l : List Int) (y : Nat), y < l.length → rf l y ∈ l := fun l y hy => by unfold rf; rw [SM.getD_lt hy]; exact List.getElem_mem _
      have o1 : mulOk (rf lead c) (rf row x) := mulOk_of (b2 _ (r1 _ _ (by omega))) (b1 _ (r1 _ _ (by omega))) (by omega)
      have o2 : mulOk (rf row c) (rf lead x) := mulOk_of (b1 _ (r1 _ _ (by omega))) (b2 _ (r1 _ _ (by omega))) (by omega)
      unfold rf at o1 o2
      simp [-List.getD_eq_getElem?_getD, wipe, i1, i2, i3, i4, o1, o2, rf]
  refine Sw_cut (fun e t => t = s ∧ e = [some (.d (lsD row)), some (.d (lsD lead)), some (.d (.int c)), some (.d (lsD (clE row lead c))), none, none, none]) ?_ fun e t ⟨ht, he⟩ => ?_
  · simp [c1]
  subst ht he
  refine Sw_cut (fun e u => u = t ∧ e = [some (.d (lsD row)), some (.d (lsD lead)), some (.d (.int c)), some (.d (lsD (clE row lead c))), none, some (.d (.int 0)), none]) ?_ fun e u ⟨hu, he⟩ => ?_
  · simp
  subst hu he
  refine Sw_cut (JC u (.d (lsD row)) (.d (lsD lead)) c (clE row lead c) []) ?_ fun e w ⟨hw, g, x6, _, hg, _, he⟩ => ?_
  · rw [exS_for_vals (ds := (clE row lead c).map .int) (s' := u) (by simp [lsD])]
    refine Sw_goM PyData.int (JC u (.d (lsD row)) (.d (lsD lead)) c (clE row lead c)) (fun x l e w ⟨hw, g, x6, g0, hg, hm, he⟩ => ?_) (fun _ _ z => z) ⟨rfl, 0, none, Int.le_refl 0, rfl, fun _ h => h, rfl⟩
    subst hw he
    have hx := bE x (hm x List.mem_cons_self)
    have hb : (2 : Nat) ^ 801 ≤ 2 ^ 2000 := Nat.pow_le_pow_right (by decide) (by decide)
    simp [turnS_var, lgcd_ok (K := K) (fu := fu) (a := g) (b := x) (by omega) (by omega)]
    exact ⟨rfl, _, _, by omega, hg, fun y hy => hm y (List.mem_cons_of_mem _ hy), rfl⟩
  subst hw he
  have hg : g = gcdL 0 (clE row lead c) := hg
  subst hg
  have c2 : ev (callI tab fu K) (.comp false (.bop false .fdiv (.var 6) (.bi false .max (.cons (.lit (.int 1)) (.cons (.var 5) .nil)))) (.var 6) (.itv (.var 3)) .nil [6])
      [some (.d (lsD row)), some (.d (lsD lead)), some (.d (.int c)), some (.d (lsD (clE row lead c))), none, some (.d (.int (gcdL 0 (clE row lead c)))), x6] w = .ok (.d (lsD (clF row lead c))) w := by
    have e1 : lsD (clF row lead c) = .list ((clE row lead c).map fun x => .int (x / max 1 (gcdL 0 (clE row lead c)))) := by
      unfold lsD clF
      rw [List.map_map]
      rfl
    rw [e1]
    refine comp_on PyData.int _ (by simp [lsD]) (by simp [clE]; omega) fun x hx => ⟨_, rfl, ?_⟩
    have m1 : 0 < max 1 (gcdL 0 (clE row lead c)) := by omega
    have p2 : (2 : Nat) ^ 802 = 2 ^ 801 * 2 := by decide +kernel
    have m2 : (max 1 (gcdL 0 (clE row lead c))).natAbs.log2 < 9000 := log_lt (k := 802) (by omega) (by omega) (by omega)
    simp [wipe, m1, m2]
  simp [c2]
  exact Lv_len rfl ⟨rfl, rfl⟩
end
end Law

set_option maxHeartbeats 1000000
namespace Law
open PySem SM
section
variable {fu K : Nat} {s t u : Sto} {T L D : List (List Int)} {hs : List Nat} {m n r c q : Nat} {pl pd ph : Nat} {A : Nat → Nat → Int}
theorem inD_int {x : Int} {is : List Int} : inD (.int x) (is.map .int) = some (decide (x ∈ is)) := by
  obtain ⟨bb, h⟩ := inD_ints (x := x) (is := is)
  rw [h]
  unfold inD at h
  split at h
  · rw [← h]
    rw [List.any_map]
    congr 1
    have e : ∀ l : List Int, (l.any ((fun z => PyData.eqv z (.int x)) ∘ PyData.int)) = decide (x ∈ l) := by
      intro l
      induction l with
      | nil => rfl
      | cons y l ih =>
        rw [List.any_cons, ih]
        show ((y == x) || decide (x ∈ l)) = _
        by_cases q : y = x
        · subst q; simp
        · have : ¬ x = y := fun z => q z.symm
          simp [q, this]
    exact e is
  · cases h
def hsD (hs : List Nat) : List PyData := hs.map fun h : Nat => PyData.int h
structure Ls (s t : Sto) (pl pd ph : Nat) (L D : List (List Int)) (hs : List Nat) : Prop where
  ln : s.length ≤ t.length
  ex : ∀ i, i < s.length → t[i]? = s[i]?
  gl : s.length ≤ pl
  gd : s.length ≤ pd
  gh : s.length ≤ ph
  n1 : pl ≠ pd
  n2 : pl ≠ ph
  n3 : pd ≠ ph
  l : listAt pl t = some ((L.map lsD).map Vl.d)
  d : listAt pd t = some ((D.map lsD).map Vl.d)
  h : listAt ph t = some ((hsD hs).map Vl.d)
theorem Ls.eq (x : Ls s t pl pd ph L D hs) {u : Sto} (hl : s.length ≤ u.length) (he : ∀ i, i < s.length → u[i]? = t[i]?) (e1 : u[pl]? = t[pl]?) (e2 : u[pd]? = t[pd]?) (e3 : u[ph]? = t[ph]?) : Ls s u pl pd ph L D hs :=
  ⟨hl, fun i hi => (he i hi).trans (x.ex i hi), x.gl, x.gd, x.gh, x.n1, x.n2, x.n3, by rw [listAt_same e1]; exact x.l, by rw [listAt_same e2]; exact x.d, by rw [listAt_same e3]; exact x.h⟩
theorem putL_ne {i : Nat} {vs : List Vl} {p : Nat} (h : i ≠ p) : (putL p vs t)[i]? = t[i]? := by
  unfold putL
  rw [List.getElem?_set_ne (Ne.symm h)]
theorem Ls.putl (x : Ls s t pl pd ph L D hs) {L' : List (List Int)} : Ls s (putL pl ((L'.map lsD).map Vl.d) t) pl pd ph L' D hs :=
  ⟨by rw [putL_length]; exact x.ln, fun i hi => (putL_ne (by have := x.gl; omega)).trans (x.ex i hi), x.gl, x.gd, x.gh, x.n1, x.n2, x.n3, listAt_put (listAt_lt x.l), by rw [listAt_same (putL_ne (Ne.symm x.n1))]; exact x.d, by rw [listAt_same (putL_ne (Ne.symm x.n2))]; exact x.h⟩
theorem Ls.putd (x : Ls s t pl pd ph L D hs) {D' : List (List Int)} : Ls s (putL pd ((D'.map lsD).map Vl.d) t) pl pd ph L D' hs :=
  ⟨by rw [putL_length]; exact x.ln, fun i hi => (putL_ne (by have := x.gd; omega)).trans (x.ex i hi), x.gl, x.gd, x.gh, x.n1, x.n2, x.n3, by rw [listAt_same (putL_ne x.n1)]; exact x.l, listAt_put (listAt_lt x.d), by rw [listAt_same (putL_ne (Ne.symm x.n3))]; exact x.h⟩
theorem Ls.puth (x : Ls s t pl pd ph L D hs) {hs' : List Nat} : Ls s (putL ph ((hsD hs').map Vl.d) t) pl pd ph L D hs' :=
  ⟨by rw [putL_length]; exact x.ln, fun i hi => (putL_ne (by have := x.gh; omega)).trans (x.ex i hi), x.gl, x.gd, x.gh, x.n1, x.n2, x.n3, by rw [listAt_same (putL_ne x.n2)]; exact x.l, by rw [listAt_same (putL_ne x.n3)]; exact x.d, listAt_put (listAt_lt x.h)⟩
theorem Ls.newl (x : Ls s t pl pd ph L D hs) {L' : List (List Int)} : Ls s (t ++ [some (.lst ((L'.map lsD).map Vl.d))]) t.length pd ph L' D hs := by
  have hd := listAt_lt x.d
  have hh := listAt_lt x.h
  have ln := x.ln
  exact ⟨by simp; omega, fun i hi => (List.getElem?_append_left (by omega)).trans (x.ex i hi), ln, x.gd, x.gh, by omega, by omega, x.n3, listAt_new, by rw [listAt_old hd]; exact x.d, by rw [listAt_old hh]; exact x.h⟩
theorem Ls.newd (x : Ls s t pl pd ph L D hs) {D' : List (List Int)} : Ls s (t ++ [some (.lst ((D'.map lsD).map Vl.d))]) pl t.length ph L D' hs := by
  have hl := listAt_lt x.l
  have hh := listAt_lt x.h
  have ln := x.ln
  exact ⟨by simp; omega, fun i hi => (List.getElem?_append_left (by omega)).trans (x.ex i hi), x.gl, ln, x.gh, by omega, x.n2, by omega, by rw [listAt_old hl]; exact x.l, listAt_new, by rw [listAt_old hh]; exact x.h⟩
theorem rows_at {p i : Nat} (h : listAt p t = some ((T.map lsD).map Vl.d)) (hi : i < T.length) : idxV (.r p) (.d (.int (i : Int))) t = some (.d (lsD (T.getD i [])), t) := by
  rw [idxV_r, h, Option.bind_some, atI_nat (by simpa using hi), SM.getD_lt hi]
  simp
theorem hs_at {p i : Nat} (h : listAt p t = some ((hsD hs).map Vl.d)) (hi : i < hs.length) : idxV (.r p) (.d (.int (i : Int))) t = some (.d (.int (hs.getD i 0)), t) := by
  rw [idxV_r, h, Option.bind_some, atI_nat (by simpa [hsD] using hi), SM.getD_lt hi]
  simp [hsD]
theorem len_at {p : Nat} {mf : Bool} {xs : List PyData} (h : listAt p t = some (xs.map Vl.d)) : biV mf .len [.r p] t = some (.d (.int xs.length), t) := by
  rw [w_len_r, h]
  simp
theorem eraseIdx_mapE {α β : Type} (f : α → β) : ∀ (l : List α) (i : Nat), (l.map f).eraseIdx i = (l.eraseIdx i).map f
  | [], _ => rfl
  | _ :: _, 0 => rfl
  | a :: r, i + 1 => by simp [eraseIdx_mapE f r i]
theorem pop_at {p i : Nat} (h : listAt p t = some ((T.map lsD).map Vl.d)) (hi : i < T.length) (hb : i < 16777216) : meV .pop (.r p) [.d (.int (i : Int))] t = some (.d (lsD (T.getD i [])), putL p (((T.eraseIdx i).map lsD).map Vl.d) t) := by
  show (listAt p t).bind _ = _
  rw [h, Option.bind_some, if_pos ⟨by omega, by omega⟩]
  rw [Int.toNat_natCast, List.getElem?_map, List.getElem?_map, List.getElem?_eq_getElem hi, SM.getD_lt hi]
  simp [eraseIdx_mapE]
def unI : PyData → Int
  | .int i => i
  | _ => 0
def unL : PyData → List Int
  | .list xs => xs.map unI
  | _ => []
theorem unL_ls {r : List Int} : unL (lsD r) = r := by
  show (r.map PyData.int).map unI = r
  rw [List.map_map]
  exact List.map_id r
/-- a list of rows of the store, each cleared: a new one -/
theorem comp_rows {C : Cal} {e : Sl} {elt tg it : IE} {own : List Nat} {p : Nat} (f : List Int → List Int) (hi : itr C it e t = .ok (.ref p) t) (h : listAt p t = some ((T.map lsD).map Vl.d)) (hl : T.length ≤ 1000)
    (ht : ∀ r ∈ T, ∃ e1, setTgV tg (.d (lsD r)) (wipe e own) = some e1 ∧ ev C elt e1 t = .ok (.d (lsD (f r))) t) : ev C (.comp true elt tg it .nil own) e t = .ok (.r t.length) (t ++ [some (.lst (((T.map f).map lsD).map Vl.d))]) := by
  rw [comp_ref (fun d => lsD (f (unL d))) hi h fun x hx => ?_]
  · rw [mkL_true, if_pos (by simp; omega)]
    have e1 : ((T.map lsD).map fun d => lsD (f (unL d))) = (T.map f).map lsD := by
      rw [List.map_map, List.map_map]
      exact List.map_congr_left fun r _ => by show lsD (f (unL (lsD r))) = _; rw [unL_ls]; rfl
    rw [e1]
    rfl
  · obtain ⟨r, hr, rfl⟩ := List.mem_map.mp hx
    obtain ⟨e1, a, b⟩ := ht r hr
    exact ⟨e1, a, by rw [unL_ls]; exact b⟩
def eW (T : List (List Int)) (n pl pd ph : Nat) (x6 x7 x9 : Option Vl) : Sl := [some (.d (.list (T.map lsD))), some (.d (.int n)), some (.r pl), some (.r pd), some (.r ph), none, x6, x7, none, x9, none, none, none]
def JW (s : Sto) (T : List (List Int)) (m n : Nat) (A : Nat → Nat → Int) (c : Nat) (e : Sl) (t : Sto) : Prop := ∃ L D hs pl pd ph x6 x7 x9, Lw m n c A L D hs ∧ Ls s t pl pd ph L D hs ∧ e = eW T n pl pd ph x6 x7 x9
theorem filter_cons {p : Nat → Bool} {k : Nat} (h : (List.range k).filter p ≠ []) : ∃ q r, (List.range k).filter p = q :: r ∧ q < k ∧ p q = true := by
  match e : (List.range k).filter p, h with
  | q :: r, _ =>
    have : q ∈ (List.range k).filter p := by rw [e]; simp
    have := List.mem_filter.mp this
    exact ⟨q, r, rfl, by simpa using this.1, this.2⟩
theorem lcol_ok {x6 x7 x9 : Option Vl} (hK : 2 ≤ K) (hf : 2 ^ 2000 ≤ fu) (h : Lw m n c A L D hs) (l : Ls s t pl pd ph L D hs) (m4 : m ≤ 4) (hc : c < n) (n5 : n ≤ 5) {P' : Pt} (hP : ∀ e t, JW s T m n A (c + 1) e t → P'.n e t) :
    Sw (exS (callI tab fu K) fu (.cons (.asg (.var 7) (.comp false (.var 8) (.var 8) (.rng1 (.bi false .len (.cons (.var 2) .nil))) (.cons (.cmp .ne (.idx (.idx (.var 2) (.var 8)) (.var 6)) (.lit (.int 0))) .nil) [8]))
    (.cons (.ite (.cmp .ne (.var 7) (.lst false .nil)) (.cons (.asg (.var 9) (.me .pop (.var 2) (.cons (.idx (.var 7) (.lit (.int 0))) .nil)))
      (.cons (.asg (.var 2) (.comp true (.call i__law_cleared (.cons (.var 5) (.cons (.var 9) (.cons (.var 6) .nil)))) (.var 5) (.itv (.var 2)) .nil [5]))
      (.cons (.asg (.var 3) (.comp true (.call i__law_cleared (.cons (.var 5) (.cons (.var 9) (.cons (.var 6) .nil)))) (.var 5) (.itv (.var 3)) .nil [5]))
      (.cons (.expr (.me .append (.var 3) (.cons (.var 9) .nil)))
      (.cons (.expr (.me .append (.var 4) (.cons (.var 6) .nil)))
      .nil))))) .nil)
    .nil)) (eW T n pl pd ph (some (.d (.int c))) x7 x9) t) P' := by
  have ll := h.ll
  have c1 : ev (callI tab fu K) (.comp false (.var 8) (.var 8) (.rng1 (.bi false .len (.cons (.var 2) .nil))) (.cons (.cmp .ne (.idx (.idx (.var 2) (.var 8)) (.var 6)) (.lit (.int 0))) .nil) [8]) (eW T n pl pd ph (some (.d (.int c))) x7 x9) t
      = .ok (.d (.list (((List.range L.length).filter fun q => decide (gt L q c ≠ 0)).map fun q : Nat => PyData.int q))) t := by
    refine filter_on (fun q : Nat => PyData.int q) (fun q : Nat => PyData.int q) _ ?_ (by simp; omega) fun q hq => ⟨_, rfl, ?_, fun _ => ?_⟩
    · simp [-w_len_r, eW, len_at l.l, show L.length ≤ 1000000 by omega]
    · have hq := List.mem_range.mp hq
      have rl := h.rl _ (SM.getD_mem (d := []) hq)
      have i1 := rows_at l.l hq
      have i2 : idxV (.d (lsD (L.getD q []))) (.d (.int (c : Int))) t = some (.d (.int (gt L q c)), t) := ls_at (row := L.getD q []) (x := c) (q := t) (by omega)
      simp [-List.getD_eq_getElem?_getD, -idxV_r, evT_eq, eW, wipe, i1, i2]
    · simp [eW, wipe]
  refine Sw_cut (fun e u => u = t ∧ e = eW T n pl pd ph (some (.d (.int c))) (some (.d (.list (((List.range L.length).filter fun q => decide (gt L q c ≠ 0)).map fun q : Nat => PyData.int q)))) x9) ?_ fun e u ⟨hu, he⟩ => ?_
  · simp only [eW] at c1 ⊢
    simp only [exS_asgv, c1]
    simp
  subst hu he
  by_cases hz : (List.range L.length).filter (fun q => decide (gt L q c ≠ 0)) = []
  · have h2 := h.free hc fun row hr => by
      obtain ⟨k, hk, rfl⟩ := List.mem_iff_getElem.mp hr
      have := List.filter_eq_nil_iff.mp hz k (List.mem_range.mpr hk)
      have e : gt L k c = rf L[k] c := by unfold SM.gt rf; rw [SM.getD_lt (d := ([] : List Int)) hk]
      rw [e] at this
      simpa using this
    rw [hz]
    simp [evT_eq, eW, c_ne_nil]
    exact hP _ _ ⟨L, D, hs, pl, pd, ph, _, _, _, h2, l, rfl⟩
  · obtain ⟨q, rs, e1, hq, hp⟩ := filter_cons hz
    have hp : gt L q c ≠ 0 := by simpa using hp
    have eg : gt L q c = rf L[q] c := by unfold SM.gt rf; rw [SM.getD_lt (d := ([] : List Int)) hq]
    rw [eg] at hp
    rw [e1]
    have eq : L.getD q [] = L[q] := SM.getD_lt hq
    have rq := h.rl _ (List.getElem_mem hq)
    have bb : ∀ a : Nat, a ≤ 400 → ∀ x : Int, x.natAbs < 2 ^ a → x.natAbs < 2 ^ 400 := fun a ha x hx => Nat.lt_of_lt_of_le hx (Nat.pow_le_pow_right (by decide) ha)
    have p4 : 2 ^ D.length ≤ 2 ^ 4 := Nat.pow_le_pow_right (by decide) (by omega)
    have bl : ∀ row ∈ L, ∀ x ∈ row, x.natAbs < 2 ^ 400 := fun row hr x hx => bb _ (by omega) x (h.bl row hr x hx)
    have bd : ∀ row ∈ D, ∀ x ∈ row, x.natAbs < 2 ^ 400 := fun row hr x hx => bb _ (by omega) x (h.bd row hr x hx)
    have br : ev (callI tab fu K) (.cmp .ne (.var 7) (.lst false .nil)) (eW T n pl pd ph (some (.d (.int c))) (some (.d (.list ((q :: rs).map fun q : Nat => PyData.int q)))) x9) u = .ok (.d (.bool true)) u := by
      simp [eW, c_ne_nil]
    refine Sw_cut P'.n ?_ fun e t z => z
    rw [exS_ite, evT_eq, br]
    have inE : ∀ row ∈ L.eraseIdx q, row ∈ L := fun row hr => (mem_erase hq).mpr (.inr hr)
    have l1 := l.putl (L' := L.eraseIdx q)
    refine Sw_cut (fun e w => w = putL pl (((L.eraseIdx q).map lsD).map Vl.d) u ∧ e = eW T n pl pd ph (some (.d (.int c))) (some (.d (.list ((q :: rs).map fun q : Nat => PyData.int q)))) (some (.d (lsD L[q])))) ?_ fun e w ⟨hw, he⟩ => ?_
    · have := pop_at l.l hq (by omega)
      rw [eq] at this
      simp [-List.getD_eq_getElem?_getD, eW, meR_r l.l, this]
    subst he
    rw [← hw] at l1
    clear hw
    have c2 : ev (callI tab fu K) (.comp true (.call i__law_cleared (.cons (.var 5) (.cons (.var 9) (.cons (.var 6) .nil)))) (.var 5) (.itv (.var 2)) .nil [5]) (eW T n pl pd ph (some (.d (.int c))) (some (.d (.list ((q :: rs).map fun q : Nat => PyData.int q)))) (some (.d (lsD L[q])))) w
        = .ok (.r w.length) (w ++ [some (.lst ((((L.eraseIdx q).map fun r => clF r L[q] c).map lsD).map Vl.d))]) := by
      refine comp_rows _ (itr_r (by simp [eW]) l1.l) l1.l (by rw [List.length_eraseIdx]; split <;> omega) fun r hr => ⟨_, rfl, ?_⟩
      have := cleared_ok (fu := fu) (K := K) (s := w) (row := r) (lead := L[q]) hK hf (h.rl _ (inE r hr)) rq hc n5 (bl _ (inE r hr)) (bl _ (List.getElem_mem hq))
      simp [eW, wipe, this]
    have l2 := l1.newl (L' := (L.eraseIdx q).map fun r => clF r L[q] c)
    refine Sw_cut (fun e v => v = w ++ [some (.lst ((((L.eraseIdx q).map fun r => clF r L[q] c).map lsD).map Vl.d))] ∧ e = eW T n w.length pd ph (some (.d (.int c))) (some (.d (.list ((q :: rs).map fun q : Nat => PyData.int q)))) (some (.d (lsD L[q])))) ?_ fun e v ⟨hv, he⟩ => ?_
    · simp only [eW] at c2 ⊢
      simp only [exS_asgv, c2]
      simp
    subst he
    rw [← hv] at l2
    clear hv
    have c3 : ev (callI tab fu K) (.comp true (.call i__law_cleared (.cons (.var 5) (.cons (.var 9) (.cons (.var 6) .nil)))) (.var 5) (.itv (.var 3)) .nil [5]) (eW T n w.length pd ph (some (.d (.int c))) (some (.d (.list ((q :: rs).map fun q : Nat => PyData.int q)))) (some (.d (lsD L[q])))) v
        = .ok (.r v.length) (v ++ [some (.lst (((D.map fun r => clF r L[q] c).map lsD).map Vl.d))]) := by
      refine comp_rows _ (itr_r (by simp [eW]) l2.d) l2.d (by omega) fun r hr => ⟨_, rfl, ?_⟩
      have := cleared_ok (fu := fu) (K := K) (s := v) (row := r) (lead := L[q]) hK hf (h.rd _ hr) rq hc n5 (bd _ hr) (bl _ (List.getElem_mem hq))
      simp [eW, wipe, this]
    have l3 := l2.newd (D' := D.map fun r => clF r L[q] c)
    refine Sw_cut (fun e x => x = v ++ [some (.lst (((D.map fun r => clF r L[q] c).map lsD).map Vl.d))] ∧ e = eW T n w.length v.length ph (some (.d (.int c))) (some (.d (.list ((q :: rs).map fun q : Nat => PyData.int q)))) (some (.d (lsD L[q])))) ?_ fun e x ⟨hx, he⟩ => ?_
    · simp only [eW] at c3 ⊢
      simp only [exS_asgv, c3]
      simp
    subst he
    rw [← hx] at l3
    clear hx
    have l4 := l3.putd (D' := (D.map fun r => clF r L[q] c) ++ [L[q]])
    refine Sw_cut (fun e y => y = putL v.length ((((D.map fun r => clF r L[q] c) ++ [L[q]]).map lsD).map Vl.d) x ∧ e = eW T n w.length v.length ph (some (.d (.int c))) (some (.d (.list ((q :: rs).map fun q : Nat => PyData.int q)))) (some (.d (lsD L[q])))) ?_ fun e y ⟨hy, he⟩ => ?_
    · have ap := app_r (v := .d (lsD L[q])) l3.d (by simp; omega)
      simp [eW, meR_r l3.d, ap]
    subst he
    rw [← hy] at l4
    clear hy
    have l5 := l4.puth (hs' := hs ++ [c])
    have ap := app_r (v := .d (.int (c : Int))) l4.h (by have := h.lh; simp [hsD]; omega)
    have e5 : (hsD hs).map Vl.d ++ [Vl.d (.int (c : Int))] = (hsD (hs ++ [c])).map Vl.d := by simp [hsD]
    rw [e5] at ap
    have h2 := h.pivot hc hq hp (cl := fun r => clF r L[q] c) fun row hr => clF_Cl hr
    simp [eW, meR_r l4.h, ap]
    exact hP _ _ ⟨_, _, _, _, _, _, _, _, _, h2, l5, rfl⟩
end
end Law

set_option maxHeartbeats 1000000
namespace Law
open PySem SM
section
variable {fu K : Nat} {s t u : Sto} {T L D : List (List Int)} {hs : List Nat} {m n r c q f : Nat} {pl pd ph : Nat} {A : Nat → Nat → Int}
/-- what _law_line tells -/
def LL (s : Sto) (m n : Nat) (A : Nat → Nat → Int) (v : Vl) (t : Sto) : Prop := t = s ∧ ((v = .d .none ∧ ¬ One m n A) ∨ (∃ xs : List Int, v = .d (lsD xs) ∧ xs.length = n ∧ (∀ x ∈ xs, x.natAbs ≤ 2 ^ 716) ∧ (m = 0 → n = 1 → xs = [1]) ∧ One m n A))
def pvs (D : List (List Int)) (hs : List Nat) (j : Nat) : List Int := (List.range j).map fun i => gt D i (hs.getD i 0)
theorem pvs_s {j : Nat} : prI (pvs D hs (j + 1)) = prI (pvs D hs j) * gt D j (hs.getD j 0) := by
  unfold pvs
  rw [List.range_succ, List.map_append]
  exact prI_snoc
theorem lw_gtb (h : Lw m n c A L D hs) {i x : Nat} (hi : i < D.length) : (gt D i x).natAbs < 2 ^ (12 * 2 ^ D.length - 13) := by
  have hm := SM.getD_mem (d := ([] : List Int)) hi
  unfold SM.gt
  by_cases hx : x < (D.getD i []).length
  · exact h.bd _ hm _ (SM.getD_mem hx)
  · rw [getD_ge (by omega)]
    exact Nat.pow_pos (by decide)
theorem pvs_bd (h : Lw m n c A L D hs) {j : Nat} (hj : j ≤ D.length) : (prI (pvs D hs j)).natAbs ≤ 2 ^ ((12 * 2 ^ D.length - 13) * j) := by
  have := prI_bd (b := 12 * 2 ^ D.length - 13) (l := pvs D hs j) fun a ha => by
    obtain ⟨i, hi, rfl⟩ := List.mem_map.mp ha
    exact lw_gtb h (by have := List.mem_range.mp hi; omega)
  rwa [show (pvs D hs j).length = j by simp [pvs]] at this
theorem rb {r : Nat} (h : r ≤ 4) : (12 * 2 ^ r - 13) * r ≤ 716 ∧ 12 * 2 ^ r - 13 ≤ 179 := by
  have : r = 0 ∨ r = 1 ∨ r = 2 ∨ r = 3 ∨ r = 4 := by omega
  rcases this with rfl | rfl | rfl | rfl | rfl <;> decide
/-- a number told for a head -/
theorem val_bd (h : Lw m n c A L D hs) (m4 : m ≤ 4) {j : Nat} (hj : j < D.length) : (-gt D j f * (prI (pvs D hs D.length)).fdiv (gt D j (hs.getD j 0))).natAbs ≤ 2 ^ 716 := by
  have hl : (pvs D hs D.length).length = D.length := by simp [pvs]
  have e := prI_erase (l := pvs D hs D.length) (i := j) (by omega)
  have pj : (pvs D hs D.length)[j]'(by omega) = gt D j (hs.getD j 0) := by simp [pvs]
  rw [pj] at e
  rw [e, Int.mul_fdiv_cancel_left _ (h.p0 j hj), Int.natAbs_mul, Int.natAbs_neg]
  have b1 := lw_gtb h hj (x := f)
  have b2 := prI_bd (b := 12 * 2 ^ D.length - 13) (l := (pvs D hs D.length).eraseIdx j) fun a ha => by
    obtain ⟨i, hi, rfl⟩ := List.mem_map.mp (List.mem_of_mem_eraseIdx ha)
    exact lw_gtb h (by have := List.mem_range.mp hi; omega)
  rw [List.length_eraseIdx, hl, if_pos hj] at b2
  have b3 := (rb (show D.length ≤ 4 by have := h.ll; omega)).1
  refine Nat.le_trans (Nat.mul_le_mul (Nat.le_of_lt b1) b2) ?_
  rw [← Nat.pow_add]
  refine Nat.pow_le_pow_right (by decide) ?_
  have : (12 * 2 ^ D.length - 13) + (12 * 2 ^ D.length - 13) * (D.length - 1) = (12 * 2 ^ D.length - 13) * D.length := by
    obtain ⟨k, hk⟩ : ∃ k, D.length = k + 1 := ⟨D.length - 1, by omega⟩
    rw [hk, Nat.add_sub_cancel, Nat.mul_add, Nat.mul_one, Nat.add_comm]
  omega
theorem Ls.app (x : Ls s t pl pd ph L D hs) {w : Sto} : Ls s (t ++ w) pl pd ph L D hs :=
  x.eq (by have := x.ln; simp; omega) (fun i hi => List.getElem?_append_left (by have := x.ln; omega)) (List.getElem?_append_left (listAt_lt x.l)) (List.getElem?_append_left (listAt_lt x.d)) (List.getElem?_append_left (listAt_lt x.h))
def eF (T : List (List Int)) (n pl pd ph f p : Nat) (P : Int) (x6 x7 x8 x9 : Option Vl) : Sl := [some (.d (.list (T.map lsD))), some (.d (.int n)), some (.r pl), some (.r pd), some (.r ph), none, x6, x7, x8, x9, some (.d (.list [.int f])), some (.r p), some (.d (.int P))]
def JP (T : List (List Int)) (n pl pd ph f : Nat) (t u : Sto) (D : List (List Int)) (hs : List Nat) (x6 x7 x9 : Option Vl) (j : Nat) (e : Sl) (w : Sto) : Prop := w = u ∧ ∃ x8, e = eF T n pl pd ph f t.length (prI (pvs D hs j)) x6 x7 x8 x9
def JF2 (T : List (List Int)) (m n pl pd ph f : Nat) (t : Sto) (P : Int) (x6 x7 x9 : Option Vl) (j : Nat) (e : Sl) (w : Sto) : Prop := ∃ x8 fs, fs.length = n ∧ (∀ x ∈ fs, x.natAbs ≤ 2 ^ 716) ∧ (m = 0 → n = 1 → fs = [(1 : Int)]) ∧ e = eF T n pl pd ph f t.length P x6 x7 x8 x9 ∧ w = t ++ [some (.lst (fs.map vI))]
theorem new_set {i : Nat} {x : Int} {fs : List Int} (h : i < fs.length) : setV (.r t.length) (.d (.int (i : Int))) (.d (.int x)) (t ++ [some (.lst (fs.map vI))]) = some (t ++ [some (.lst ((fs.set i x).map vI))]) := by
  have ix : L2.ixN (fs.map vI).length (i : Int) = some i := ixN_nat (by simpa using h)
  rw [setV_r, listAt_new, Option.bind_some, ix, Option.map_some, putL_new]
  simp [List.map_set]
  rfl
theorem lline_ok {T : List (List Int)} (hK : 3 ≤ K) (hf : 2 ^ 2000 ≤ fu) (hl : T.length = m) (hr : ∀ row ∈ T, row.length = n) (hb : ∀ row ∈ T, ∀ x ∈ row, x.natAbs < 2 ^ 11) (m4 : m ≤ 4) (n5 : n ≤ 5) :
    Ok (callI tab fu K i__law_line [.d (.list (T.map lsD)), .d (.int n)] s) (LL s m n (gt T)) nX := by
  obtain ⟨K, rfl⟩ : ∃ k, K = k + 1 := ⟨K - 1, by omega⟩
  refine Ok_call (F := d__law_line) rfl rfl ?_
  simp only [d__law_line, b__law_line]
  have c0 : ev (callI tab fu K) (.comp true (.bi false .list (.cons (.var 5) .nil)) (.var 5) (.itv (.var 0)) .nil [5]) [some (.d (.list (T.map lsD))), some (.d (.int n)), none, none, none, none, none, none, none, none, none, none, none] s = .ok (.r s.length) (s ++ [some (.lst ((T.map lsD).map Vl.d))]) := by
    refine comp_onM lsD lsD (by simp) (by omega) fun a ha => ⟨_, rfl, ?_⟩
    have := hr a ha
    simp [lsD, wipe, show a.length ≤ 16777216 by omega]
  refine Sw_cut (JW s T m n (gt T) 0) ?_ fun e t h => ?_
  · simp [c0, mkL_true]
    refine ⟨T, [], [], s.length, s.length + 1, s.length + 2, _, _, _, Lw.start hl hr hb, ⟨by simp, fun i hi => by simp [List.getElem?_append_left hi], by omega, by omega, by omega, by omega, by omega, by omega, by simp [listAt], by simp [listAt], by simp [listAt, hsD]⟩, rfl⟩
  refine Sw_cut (JW s T m n (gt T) n) ?_ fun e t h => ?_
  · obtain ⟨L, D, hs, pl, pd, ph, x6, x7, x9, h, l, he⟩ := h
    subst he
    rw [exS_for_vals (ds := (List.range n).map fun j : Nat => PyData.int j) (s' := t) (by simp [eW, show n ≤ 1000000 by omega])]
    refine Sw_goR n (JW s T m n (gt T)) (fun c hc e t h => ?_) (fun _ _ z => z) ⟨L, D, hs, pl, pd, ph, x6, x7, x9, h, l, rfl⟩
    obtain ⟨L, D, hs, pl, pd, ph, x6, x7, x9, h, l, he⟩ := h
    subst he
    exact lcol_ok (x6 := none) (by omega) hf h l m4 hc n5 fun _ _ z => z
  obtain ⟨L, D, hs, pl, pd, ph, x6, x7, x9, h, l, he⟩ := h
  subst he
  have ll := h.ll
  have lh := h.lh
  have c4 : ev (callI tab fu K) (.comp false (.var 6) (.var 6) (.rng1 (.var 1)) (.cons (.cmp .nin (.var 6) (.var 4)) .nil) [6]) (eW T n pl pd ph x6 x7 x9) t
      = .ok (.d (.list (((List.range n).filter fun x => decide (x ∉ hs)).map fun q : Nat => PyData.int q))) t := by
    refine filter_on (fun q : Nat => PyData.int q) (fun q : Nat => PyData.int q) _ ?_ (by simp; omega) fun q hq => ⟨_, rfl, ?_, fun _ => ?_⟩
    · simp [eW, show n ≤ 1000000 by omega]
    · have e1 : cmpV .nin (.d (.int (q : Int))) (.r ph) t = some (decide (q ∉ hs)) := by
        show ((some (PyData.int (q : Int))).bind fun a => (dataV (.r ph) t).bind fun l => inD a l).map (!·) = _
        have e2 : dataV (.r ph) t = some (hsD hs) := by
          show (listAt ph t).bind allD = _
          rw [l.h, Option.bind_some, allD_map]
        have e3 : hsD hs = (hs.map fun h : Nat => (h : Int)).map .int := by simp [hsD]
        rw [e2, e3, Option.bind_some, Option.bind_some, inD_int]
        simp
        exact ⟨fun ⟨a, h, e⟩ => by have : a = q := by omega
                                   exact this ▸ h, fun h => ⟨q, h, rfl⟩⟩
      simp [eW, wipe, evT_eq, e1]
    · simp [eW, wipe]
  refine Sw_cut (fun e u => u = t ∧ e = [some (.d (.list (T.map lsD))), some (.d (.int n)), some (.r pl), some (.r pd), some (.r ph), none, x6, x7, none, x9, some (.d (.list (((List.range n).filter fun x => decide (x ∉ hs)).map fun q : Nat => PyData.int q))), none, none]) ?_ fun e u ⟨hu, he⟩ => ?_
  · simp only [eW] at c4 ⊢
    simp only [exS_asgv, c4]
    simp
  subst hu he
  have one := h.one
  have mf : ∀ x, x ∈ (List.range n).filter (fun x => decide (x ∉ hs)) → x < n := fun x hx => by simpa using (List.mem_filter.mp hx).1
  generalize (List.range n).filter (fun x => decide (x ∉ hs)) = fr at *
  have cut : ∀ {x : PyData}, (x = .none ∧ ¬ One m n (gt T)) ∨ (∃ xs : List Int, x = lsD xs ∧ xs.length = n ∧ (∀ x ∈ xs, x.natAbs ≤ 2 ^ 716) ∧ (m = 0 → n = 1 → xs = [1]) ∧ One m n (gt T)) → ∀ {w : Sto}, w.length ≥ s.length → (∀ i, i < s.length → w[i]? = s[i]?) → Lv s (.d x) w (LL s m n (gt T)) := fun {x} hx {w} hw he => by
    have e : w = s ++ w.drop s.length := by
      have h1 : w.take s.length = s := by
        apply List.ext_getElem?
        intro i
        by_cases hi : i < s.length
        · rw [List.getElem?_take_of_lt hi, he i hi]
        · rw [List.getElem?_eq_none (by simp; omega), List.getElem?_eq_none (by omega)]
      conv => lhs; rw [← List.take_append_drop s.length w, h1]
    rw [e]
    refine Lv_app ⟨rfl, ?_⟩
    rcases hx with ⟨rfl, h⟩ | ⟨xs, rfl, h⟩
    · exact .inl ⟨rfl, h⟩
    · exact .inr ⟨xs, rfl, h⟩
  by_cases h1 : fr.length = 1
  · have on := one.mpr h1
    obtain ⟨f, rfl⟩ : ∃ f, fr = [f] := by
      match fr, h1 with
      | [f], _ => exact ⟨f, rfl⟩
    have hfn : f < n := mf f (by simp)
    have b4 := rb (show D.length ≤ 4 by omega)
    refine Sw_cut (fun e w => w = u ∧ e = [some (.d (.list (T.map lsD))), some (.d (.int n)), some (.r pl), some (.r pd), some (.r ph), none, x6, x7, none, x9, some (.d (.list [.int f])), none, none]) ?_ fun e w ⟨hw, he⟩ => ?_
    · simp [evT_eq, cmpV, dataOf, eqD_int]
    subst hw he
    refine Sw_cut (fun e v => v = w ++ [some (.lst ((List.replicate n 0).map vI))] ∧ e = eF T n pl pd ph f w.length 1 x6 x7 none x9) ?_ fun e v ⟨hv, he⟩ => ?_
    · simp [mkL_true, show (n : Int) ≤ 1000 by omega, show n ≤ 16777216 by omega]
      exact ⟨.inr rfl, rfl⟩
    subst hv he
    have l1 := l.app (w := [some (.lst ((List.replicate n 0).map vI))])
    obtain ⟨W, hW⟩ : ∃ W, W = w ++ [some (.lst ((List.replicate n 0).map vI))] := ⟨_, rfl⟩
    rw [← hW] at l1 ⊢
    refine Sw_cut (JP T n pl pd ph f w W D hs x6 x7 x9 D.length) ?_ fun e v ⟨hv, x8, he⟩ => ?_
    · rw [exS_for_vals (ds := (List.range D.length).map fun j : Nat => PyData.int j) (s' := W) (by simp [-w_len_r, eF, len_at l1.d, show D.length ≤ 1000000 by omega])]
      refine Sw_goR D.length (JP T n pl pd ph f w W D hs x6 x7 x9) (fun j hj e v ⟨hv, x8, he⟩ => ?_) (fun _ _ z => z) ⟨rfl, none, rfl⟩
      subst hv he
      have i1 := rows_at l1.d hj
      have i2 := hs_at l1.h (show j < hs.length by omega)
      have hjl : hs.getD j 0 < n := h.lt _ (getD_memN (by omega))
      have i3 : idxV (.d (lsD (D.getD j []))) (.d (.int ((hs.getD j 0 : Nat) : Int))) v = some (.d (.int (gt D j (hs.getD j 0))), v) := ls_at (by rw [h.rd _ (SM.getD_mem hj)]; exact hjl)
      have o1 : mulOk (prI (pvs D hs j)) (gt D j (hs.getD j 0)) := mulOk_of (k := 717) (Nat.lt_of_le_of_lt (pvs_bd h (by omega)) (Nat.pow_lt_pow_right (by decide) (by have := Nat.mul_le_mul_left (12 * 2 ^ D.length - 13) (show j ≤ D.length by omega); omega))) (lw_gtb h hj) (by omega)
      simp [-List.getD_eq_getElem?_getD, -idxV_r, turnS_var, eF, i1, i2, i3, o1]
      exact ⟨rfl, _, by rw [pvs_s]; rfl⟩
    rw [hW] at hv
    subst hv he
    have pb := pvs_bd h (Nat.le_refl D.length)
    refine Sw_cut (JF2 T m n pl pd ph f w (prI (pvs D hs D.length)) x6 x7 x9 0) ?_ fun e v ⟨x8, fs, hfl, hfb, hf1, he, hv⟩ => ?_
    · have st := new_set (t := w) (fs := List.replicate n 0) (i := f) (x := prI (pvs D hs D.length)) (by simpa using hfn)
      simp only [List.map_replicate] at st
      simp [-setV_r, eF, st]
      refine ⟨_, (List.replicate n 0).set f (prI (pvs D hs D.length)), by simp, fun x hx => ?_, fun m0 n1 => ?_, rfl, by simp⟩
      · rcases List.mem_or_eq_of_mem_set hx with hx | rfl
        · rw [(List.mem_replicate.mp hx).2]
          exact Nat.zero_le _
        · exact Nat.le_trans pb (Nat.pow_le_pow_right (by decide) b4.1)
      · have d0 : D.length = 0 := by omega
        have f0 : f = 0 := by omega
        rw [d0, f0, n1]
        rfl
    subst hv he
    refine Sw_cut (JF2 T m n pl pd ph f w (prI (pvs D hs D.length)) x6 x7 x9 D.length) ?_ fun e v ⟨x8, fs, hfl, hfb, hf1, he, hv⟩ => ?_
    · have l2 := l.app (w := [some (.lst (fs.map vI))])
      rw [exS_for_vals (ds := (List.range D.length).map fun j : Nat => PyData.int j) (s' := w ++ [some (.lst (fs.map vI))]) (by simp [-w_len_r, eF, len_at l2.d, show D.length ≤ 1000000 by omega])]
      refine Sw_goR D.length (JF2 T m n pl pd ph f w (prI (pvs D hs D.length)) x6 x7 x9) (fun j hj e v ⟨x8, fs, hfl, hfb, hf1, he, hv⟩ => ?_) (fun _ _ z => z) ⟨_, fs, hfl, hfb, hf1, rfl, rfl⟩
      subst hv he
      have l3 := l.app (w := [some (.lst (fs.map vI))])
      have i1 := rows_at l3.d hj
      have i2 := hs_at l3.h (show j < hs.length by omega)
      have hjl : hs.getD j 0 < n := h.lt _ (getD_memN (by omega))
      have st := fun x => new_set (t := w) (fs := fs) (i := hs.getD j 0) (x := x) (by omega)
      have rl : (D.getD j []).length = n := h.rd _ (SM.getD_mem hj)
      have vb := val_bd h m4 hj (f := f)
      obtain ⟨V, hV⟩ : ∃ V, V = w ++ [some (Ob.lst (fs.map vI))] := ⟨_, rfl⟩
      rw [← hV] at i1 i2 l3 ⊢
      simp only [← hV] at st
      have i3 : idxV (.d (lsD (D.getD j []))) (.d (.int ((hs.getD j 0 : Nat) : Int))) V = some (.d (.int (gt D j (hs.getD j 0))), V) := ls_at (by omega)
      have i4 : idxV (.d (lsD (D.getD j []))) (.d (.int (f : Int))) V = some (.d (.int (gt D j f)), V) := ls_at (by omega)
      have g1 := lw_gtb h hj (x := hs.getD j 0)
      have g2 := lw_gtb h hj (x := f)
      have fd := fun i : Int => fdiv_ok (s := V) (mf := false) (i := i) (h.p0 j hj) (log_lt (k := 200) (Nat.lt_of_lt_of_le g1 (Nat.pow_le_pow_right (by decide) (by omega))) (by omega) (by omega))
      have e0 := prI_erase (l := pvs D hs D.length) (i := j) (by simp [pvs]; exact hj)
      have pj : (pvs D hs D.length)[j]'(by simp [pvs]; exact hj) = gt D j (hs.getD j 0) := by simp [pvs]
      have qb : ((prI (pvs D hs D.length)).fdiv (gt D j (hs.getD j 0))).natAbs ≤ 2 ^ 716 := by
        rw [pj] at e0
        rw [e0, Int.mul_fdiv_cancel_left _ (h.p0 j hj)]
        have : (prI ((pvs D hs D.length).eraseIdx j)).natAbs ≤ (prI (pvs D hs D.length)).natAbs := by
          rw [e0, Int.natAbs_mul]
          exact Nat.le_mul_of_pos_left _ (by have := h.p0 j hj; omega)
        exact Nat.le_trans this (Nat.le_trans pb (Nat.pow_le_pow_right (by decide) b4.1))
      have o1 : mulOk (-gt D j f) ((prI (pvs D hs D.length)).fdiv (gt D j (hs.getD j 0))) := mulOk_of (k := 12 * 2 ^ D.length - 13) (l := 717) (by rw [Int.natAbs_neg]; exact g2) (Nat.lt_of_le_of_lt qb (Nat.pow_lt_pow_right (by decide) (by omega))) (by omega)
      simp [-List.getD_eq_getElem?_getD, -idxV_r, -setV_r, -bin_fdiv, turnS_var, eF, i1, i2, i3, i4, fd, o1, st, idx0]
      refine ⟨_, fs.set (hs.getD j 0) (-gt D j f * (prI (pvs D hs D.length)).fdiv (gt D j (hs.getD j 0))), by rw [List.length_set]; exact hfl, fun x hx => ?_, fun m0 => by omega, rfl, by rw [List.map_set]⟩
      rcases List.mem_or_eq_of_mem_set hx with hx | rfl
      · exact hfb x hx
      · simpa using vb
    subst hv he
    have z0 : listAt w.length (w ++ [some (Ob.lst (fs.map vI))]) = some ((fs.map PyData.int).map Vl.d) := by rw [listAt_new, List.map_map]; rfl
    simp [eF, frz_r z0]
    have ln := l.ln
    exact cut (x := lsD fs) (.inr ⟨fs, rfl, hfl, hfb, hf1, on⟩) (by simp; omega) fun i hi => by
      rw [← l.ex i hi]
      simp [List.getElem?_append_left (show i < w.length by omega)]
  · have on : ¬ One m n (gt T) := fun z => h1 (one.mp z)
    have h1' : ¬ ((fr.length : Int) = 1) := by omega
    simp [evT_eq, cmpV, dataOf, eqD_int, h1']
    exact cut (.inl ⟨rfl, on⟩) l.ln l.ex
end
end Law

set_option maxHeartbeats 1000000
namespace Law
open PySem SM
section
variable {fu K n : Nat} {s t u : Sto} {A B M : List (List Int)} {R C m c : Nat} {ws : List Int} {fr : List (Int × Int)}
theorem zip_rows (g : List Int → PyData) : ∀ {ws : List Int} {M : List (List Int)}, List.zipWith (fun u v => PyData.tuple [u, v]) (ws.map .int) (M.map g) = (ws.zip M).map fun p => PyData.tuple [.int p.1, g p.2]
  | [], _ => rfl
  | _ :: _, [] => rfl
  | w :: ws, r :: M => by simp [zip_rows g (ws := ws) (M := M)]
theorem enum_ints (ws : List Int) : ((ws.map PyData.int).zipIdx.map fun p => PyData.tuple [.int p.2, p.1]) = ws.zipIdx.map fun p => PyData.tuple [.int p.2, .int p.1] := by
  rw [List.zipIdx_map, List.map_map]
  rfl
theorem count_zip (a : Int) : ∀ (ws : List Int) (k : Nat), ((ws.zipIdx k).filter fun p => decide (p.1 = a)).length = ws.count a
  | [], k => rfl
  | w :: ws, k => by
    have ih := count_zip a ws (k + 1)
    rw [List.zipIdx_cons, List.filter_cons, List.count_cons]
    by_cases h : w = a
    · simp [h, ih]
    · simp [h, ih]
theorem sorted_pairs {ds : List PyData} (h : ∀ d ∈ ds, pairB d = true) (hl : ds.length < 64) (h0 : ds ≠ []) : biV false .sorted [.d (.list ds)] s = some (.d (.list (sortP ds)), s) := by
  have hn : ints? ds = none := by
    cases ds with
    | nil => exact absurd rfl h0
    | cons d r =>
      obtain ⟨i, j, rfl, _⟩ := pairB_inv (h d List.mem_cons_self)
      rfl
  show (dataL (.d (.list ds)) s).bind _ = _
  have hd : dataL (.d (.list ds)) s = some ds := allD_map ds
  rw [hd, Option.bind_some, hn]
  show (if ds.length < 64 ∧ ds.all pairB = true then mkL false ((sortP ds).map Vl.d) s else none) = _
  have hp : (sortP ds).length = ds.length := (List.mergeSort_perm _ _).length_eq
  rw [if_pos ⟨hl, List.all_eq_true.mpr h⟩, mkL_data, if_pos (by omega)]
/-- the table of pays over the choices of one side -/
structure Mt (M : List (List Int)) (m n : Nat) : Prop where
  len : M.length = m
  rw_ : ∀ r ∈ M, rwOk n r
  m1 : 1 ≤ m
  m5 : m ≤ 5
  n1 : 1 ≤ n
  n5 : n ≤ 5
theorem sums_len : (sumsF ws M n).length = n := by simp [sumsF]
theorem zip_ev {Ca : Cal} {e : Sl} {j : Nat} {tg : IE} {own : List Nat} {elt it : IE} (g : List Int → PyData) (h : Mt M m n) (hj : j < n)
    (hi : itr Ca it e s = .ok (.vals ((ws.zip M).map fun p => PyData.tuple [.int p.1, g p.2])) s)
    (ht : ∀ (w : Int) (r : List Int), rwOk n r → ∃ e1, setTgV tg (.d (.tuple [.int w, g r])) (wipe e own) = some e1 ∧ ev Ca elt e1 s = .ok (.d (.int (w * r.getD j 0))) s) :
    ev Ca (.bi false .sum (.cons (.comp false elt tg it .nil own) .nil)) e s = .ok (.d (.int (csum ws M j))) s := by
  have c : ev Ca (.comp false elt tg it .nil own) e s = .ok (.d (.list (((ws.zip M).map fun p => p.1 * p.2.getD j 0).map .int))) s := by
    rw [List.map_map]
    refine comp_on (fun p : Int × List Int => PyData.tuple [.int p.1, g p.2]) _ hi (by have := h.len; have := h.m5; simp; omega) fun p hp => ?_
    exact ht p.1 p.2 (h.rw_ _ (List.of_mem_zip hp).2)
  simp only [ev_bi, evs_cons, evs_nil, c, ok_bind, w_sum, ofP_some]
  rfl
def ownL (sd : Int) (ws : List Int) : List PyData := (ws.zipIdx.filter fun p => decide (p.1 = 0)).map fun p => .tuple [.int sd, .int p.2]
def bstL (sd : Int) (l : List Int) : List PyData := (l.zipIdx.filter fun p => decide (p.1 = mxF l)).map fun p => .tuple [.int (1 - sd), .int p.2]
theorem mxF_mem {l : List Int} (h : l ≠ []) : mxF l ∈ l := (maxL_ok (maxL_mx h)).1
theorem labels_by_ok {sd : Nat} (hK : 1 ≤ K) (h : Mt M m n) (h2 : sd < 2) (hw : ws.length = m) : callI tab fu K i_labels_by [.d (tabD M), .d (.int sd), .d (.list (ws.map .int))] s = .ok (.d (.tuple (sortP (ownL sd ws ++ bstL sd (sumsF ws M n))))) s := by
  obtain ⟨K, rfl⟩ : ∃ k, K = k + 1 := ⟨K - 1, by omega⟩
  have m1 := h.m1
  have m5 := h.m5
  have n1 := h.n1
  have n5 := h.n5
  have hl := h.len
  have r0 : L2.atI (M.map rowD) 0 = some (rowD (M.getD 0 [])) := at_row (i := 0) (by omega)
  have l0 := (h.rw_ _ (SM.getD_mem (d := []) (show 0 < M.length by omega))).1
  have hne : sumsF ws M n ≠ [] := fun z => by have := sums_len (ws := ws) (M := M) (n := n); rw [z] at this; simp at this; omega
  have mx := maxL_mx hne
  have c1 : ev (callI tab fu K) (.comp false (.bi false .sum (.cons (.comp false (.bop false .mul (.var 5) (.idx (.var 6) (.var 4))) (.tup (.cons (.var 5) (.cons (.var 6) .nil))) (.zip (.var 2) (.var 0)) .nil [5, 6]) .nil)) (.var 4) (.rng1 (.bi false .len (.cons (.idx (.var 0) (.lit (.int 0))) .nil))) .nil [4]) [some (.d (tabD M)), some (.d (.int sd)), some (.d (.list (ws.map .int))), none, none, none, none, none, none, none, none, none] s = .ok (.d (.list ((sumsF ws M n).map .int))) s := by
    unfold sumsF
    rw [List.map_map]
    refine comp_on (fun j : Nat => PyData.int j) _ ?_ (by simp; omega) fun j hj => ⟨_, rfl, ?_⟩
    · have := rng1_ok (C := callI tab fu K) (a := .bi false .len (.cons (.idx (.var 0) (.lit (.int 0))) .nil)) (e := [some (.d (tabD M)), some (.d (.int sd)), some (.d (.list (ws.map .int))), none, none, none, none, none, none, none, none, none]) (s := s) (t := s) (k := n) (by simp [-List.getD_eq_getElem?_getD, r0, l0]) (by omega) (by omega)
      simpa using this
    · have hj : j < n := by simpa using hj
      refine zip_ev rowD h hj ?_ fun w r hr => ⟨_, rfl, ?_⟩
      · simp [wipe, zipV, tabD, zip_rows rowD]
      · have a := at_int (r := r) (i := j) (by rw [hr.1]; exact hj)
        have mo : mulOk w (r.getD j 0) := mulOk_r (by
          have := gt_abs (hr.2 _ (SM.getD_mem (i := j) (d := 0) (by rw [hr.1]; exact hj)))
          omega)
        simp [-List.getD_eq_getElem?_getD, wipe, setTg, setTg.setTgs, a, mo]
  refine Ok_one (Ok_call (F := d_labels_by) rfl rfl ?_)
  simp only [d_labels_by, b_labels_by]
  refine Sw_cut (fun e t => t = s ∧ e = [some (.d (tabD M)), some (.d (.int sd)), some (.d (.list (ws.map .int))), some (.d (.list ((sumsF ws M n).map .int))), none, none, none, none, none, none, none, none]) ?_ fun e t ⟨ht, he⟩ => ?_
  · simp [-List.map_map, c1]
  subst he ht
  refine Sw_cut (fun e u => u = t ∧ e = [some (.d (tabD M)), some (.d (.int sd)), some (.d (.list (ws.map .int))), some (.d (.list ((sumsF ws M n).map .int))), none, none, none, some (.d (.int (mxF (sumsF ws M n)))), none, none, none, none]) ?_ fun e u ⟨hu, he⟩ => ?_
  · simp [-List.map_map, mx]
  subst he hu
  refine Sw_cut (fun e t => t = u ∧ e = [some (.d (tabD M)), some (.d (.int sd)), some (.d (.list (ws.map .int))), some (.d (.list ((sumsF ws M n).map .int))), none, none, none, some (.d (.int (mxF (sumsF ws M n)))), some (.d (.list (ownL sd ws))), none, none, none]) ?_ fun e t ⟨ht, he⟩ => ?_
  · have c2 : ev (callI tab fu K) (.comp false (.tup (.cons (.var 1) (.cons (.var 9) .nil))) (.tup (.cons (.var 9) (.cons (.var 5) .nil))) (.enum (.var 2)) (.cons (.cmp .eq (.var 5) (.lit (.int 0))) .nil) [9, 5]) [some (.d (tabD M)), some (.d (.int sd)), some (.d (.list (ws.map .int))), some (.d (.list ((sumsF ws M n).map .int))), none, none, none, some (.d (.int (mxF (sumsF ws M n)))), none, none, none, none] u = .ok (.d (.list (ownL sd ws))) u := by
      refine filter_on (fun p : Int × Nat => PyData.tuple [.int p.2, .int p.1]) _ (fun p => decide (p.1 = 0)) ?_ (by simp; omega) fun p hp => ⟨_, rfl, ?_, fun _ => ?_⟩
      · simp only [itr_enum, ev_var, List.getElem?_cons_succ, List.getElem?_cons_zero, varR_some, ok_bind, enum_l, enum_ints, ofO_some]
      · simp [wipe, setTg, setTg.setTgs, evT_eq]
      · simp [wipe, setTg, setTg.setTgs]
    simp [-List.map_map, c2]
  subst he ht
  refine Sw_cut (fun e u => u = t ∧ e = [some (.d (tabD M)), some (.d (.int sd)), some (.d (.list (ws.map .int))), some (.d (.list ((sumsF ws M n).map .int))), none, none, none, some (.d (.int (mxF (sumsF ws M n)))), some (.d (.list (ownL sd ws))), none, some (.d (.list (bstL sd (sumsF ws M n)))), none]) ?_ fun e u ⟨hu, he⟩ => ?_
  · have c2 : ev (callI tab fu K) (.comp false (.tup (.cons (.bop false .sub (.lit (.int 1)) (.var 1)) (.cons (.var 4) .nil))) (.tup (.cons (.var 4) (.cons (.var 11) .nil))) (.enum (.var 3)) (.cons (.cmp .eq (.var 11) (.var 7)) .nil) [4, 11]) [some (.d (tabD M)), some (.d (.int sd)), some (.d (.list (ws.map .int))), some (.d (.list ((sumsF ws M n).map .int))), none, none, none, some (.d (.int (mxF (sumsF ws M n)))), some (.d (.list (ownL sd ws))), none, none, none] t = .ok (.d (.list (bstL sd (sumsF ws M n)))) t := by
      refine filter_on (fun p : Int × Nat => PyData.tuple [.int p.2, .int p.1]) _ (fun p => decide (p.1 = mxF (sumsF ws M n))) ?_ (by simp [sumsF]; omega) fun p hp => ⟨_, rfl, ?_, fun _ => ?_⟩
      · simp only [itr_enum, ev_var, List.getElem?_cons_succ, List.getElem?_cons_zero, varR_some, ok_bind, enum_l, enum_ints, ofO_some]
      · simp [wipe, setTg, setTg.setTgs, evT_eq]
      · simp [wipe, setTg, setTg.setTgs]
    simp [-List.map_map, c2]
  subst he hu
  have hl1 : (ownL sd ws).length ≤ 5 := by
    have := List.length_filter_le (fun p : Int × Nat => decide (p.1 = 0)) ws.zipIdx
    simp only [List.length_zipIdx] at this
    simp only [ownL, List.length_map]
    omega
  have hl2 : (bstL sd (sumsF ws M n)).length ≤ 5 := by
    have := List.length_filter_le (fun p : Int × Nat => decide (p.1 = mxF (sumsF ws M n))) (sumsF ws M n).zipIdx
    simp only [List.length_zipIdx, sums_len] at this
    simp only [bstL, List.length_map]
    omega
  have hl3 : bstL sd (sumsF ws M n) ≠ [] := fun z => by
    have e := count_zip (mxF (sumsF ws M n)) (sumsF ws M n) 0
    have e2 : (bstL sd (sumsF ws M n)).length = 0 := by rw [z]; rfl
    simp only [bstL, List.length_map] at e2
    rw [e2] at e
    have := List.count_pos_iff.mpr (mxF_mem hne)
    omega
  have pr : ∀ d ∈ ownL sd ws ++ bstL sd (sumsF ws M n), pairB d = true := fun d hd => by
    rcases List.mem_append.mp hd with hd | hd
    · obtain ⟨p, hp, rfl⟩ := List.mem_map.mp hd
      have := List.snd_lt_of_mem_zipIdx ((List.mem_filter.mp hp).1)
      simp [pairB]
      omega
    · obtain ⟨p, hp, rfl⟩ := List.mem_map.mp hd
      have := List.snd_lt_of_mem_zipIdx ((List.mem_filter.mp hp).1)
      have e := sums_len (ws := ws) (M := M) (n := n)
      simp [pairB]
      omega
  have so := sorted_pairs (s := u) pr (by simp; omega) (by simp [hl3])
  simp [so, show (ownL sd ws).length + (bstL sd (sumsF ws M n)).length ≤ 16777216 by omega]
  exact Lv_len rfl ⟨rfl, rfl⟩
end
end Law

set_option maxHeartbeats 1000000
namespace Law
open PySem SM
section
variable {fu K n : Nat} {s t u : Sto} {A B M : List (List Int)} {R C m c : Nat} {ws : List Int} {fr : List (Int × Int)}
def pm (A B : List (List Int)) (C sd : Nat) : List (List Int) := if sd = 0 then B else trp A C
theorem trp_ok (hl : A.length = R) (hr : ∀ r ∈ A, rwOk C r) : ∀ r ∈ trp A C, rwOk R r := fun r hx => by
  obtain ⟨j, hj, rfl⟩ := List.mem_map.mp hx
  have hj : j < C := by simpa using hj
  refine ⟨by simpa using hl, fun x hx => ?_⟩
  obtain ⟨q, hq, rfl⟩ := List.mem_map.mp hx
  exact (hr q hq).2 _ (SM.getD_mem (by rw [(hr q hq).1]; exact hj))
theorem pm_ok {sd : Nat} (g : Gv A B R C) (h2 : sd < 2) : Mt (pm A B C sd) (mn R C sd) (mn R C (1 - sd)) := by
  have h2 : sd = 0 ∨ sd = 1 := by omega
  rcases h2 with rfl | rfl
  · exact ⟨g.rb, g.cb, g.r1, g.r5, g.c1, g.c5⟩
  · exact ⟨by simp [pm, trp], trp_ok g.ra g.ca, g.c1, g.c5, g.r1, g.r5⟩
theorem trp_ev {Ca : Cal} {e : Sl} {r3 r2 : Nat} {it : IE} (g : List Int → PyData) (hr : ∀ r ∈ A, rwOk C r) (hl : A.length ≤ 5) {j : Nat} (hj : j < C) (hi : itr Ca it e s = .ok (.vals (A.map g)) s) {elt tg : IE} {own : List Nat}
    (ht : ∀ r, rwOk C r → ∃ e1, setTgV tg (.d (g r)) (wipe e own) = some e1 ∧ ev Ca elt e1 s = .ok (.d (.int (r.getD j 0))) s) :
    ev Ca (.comp false elt tg it .nil own) e s = .ok (.d (.list ((A.map fun r => r.getD j 0).map .int))) s := by
  rw [List.map_map]
  exact comp_on g _ hi (by omega) fun r hr' => ht r (hr r hr')
theorem paid_ok {sd : Nat} (hK : 1 ≤ K) (g : Gv A B R C) (h2 : sd < 2) : callI tab fu K i_paid [.d (gD A B), .d (.int sd)] s = .ok (.d (tabD (pm A B C sd))) s := by
  obtain ⟨K, rfl⟩ : ∃ k, K = k + 1 := ⟨K - 1, by omega⟩
  have h2 : sd = 0 ∨ sd = 1 := by omega
  have hl := g.ra
  have r1 := g.r1
  have r5 := g.r5
  have c5 := g.c5
  have r0 : L2.atI (A.map rowD) 0 = some (rowD (A.getD 0 [])) := at_row (i := 0) (by omega)
  have l0 := (g.ca _ (SM.getD_mem (d := []) (show 0 < A.length by omega))).1
  refine Ok_one (Ok_call (F := d_paid) rfl rfl ?_)
  simp only [d_paid, b_paid]
  rcases h2 with rfl | rfl
  · simp [evT_eq]
    exact Lv_len rfl ⟨rfl, rfl⟩
  · have cmp : ev (callI tab fu K) (.comp false (.bi false .tuple (.cons (.comp false (.idx (.var 3) (.var 2)) (.var 3) (.itv (.idx (.var 0) (.lit (.int 0)))) .nil [3]) .nil)) (.var 2) (.rng1 (.bi false .len (.cons (.idx (.idx (.var 0) (.lit (.int 0))) (.lit (.int 0))) .nil))) .nil [2]) [some (.d (gD A B)), some (.d (.int 1)), none, none] s = .ok (.d (.list ((trp A C).map rowD))) s := by
      unfold trp
      rw [List.map_map]
      refine comp_on (fun j : Nat => PyData.int j) _ ?_ (by simp; omega) fun j hj => ⟨_, rfl, ?_⟩
      · have := rng1_ok (C := callI tab fu K) (a := .bi false .len (.cons (.idx (.idx (.var 0) (.lit (.int 0))) (.lit (.int 0))) .nil)) (e := [some (.d (gD A B)), some (.d (.int 1)), none, none]) (s := s) (t := s) (k := C) (by simp [-List.getD_eq_getElem?_getD, r0, l0]) (by omega) (by omega)
        simpa using this
      · have hj : j < C := by simpa using hj
        have c := trp_ev (Ca := callI tab fu K) (s := s) (r3 := 0) (r2 := 0) (e := [some (.d (gD A B)), some (.d (.int 1)), some (.d (.int j)), none]) (it := .itv (.idx (.var 0) (.lit (.int 0)))) (elt := .idx (.var 3) (.var 2)) (tg := .var 3) (own := [3]) rowD g.ca (by omega) hj (by simp) fun r hr => ⟨_, rfl, by
          have a := at_int (r := r) (i := j) (by rw [hr.1]; exact hj)
          simp [-List.getD_eq_getElem?_getD, wipe, a]⟩
        simp [-List.map_map, -List.getD_eq_getElem?_getD, wipe, c]
        rfl
    simp [-List.map_map, evT_eq, cmp]
    exact Lv_len rfl ⟨rfl, rfl⟩
/-- fractions, not too long -/
structure Fb (fr : List (Int × Int)) (m : Nat) : Prop where
  len : fr.length = m
  m5 : m ≤ 5
  p1 : ∀ p ∈ fr, 1 ≤ p.2
  sd : ∃ S : Int, 1 ≤ S ∧ S.natAbs < 2 ^ 2000 ∧ ∀ p ∈ fr, p.2 ∣ S
  n0 : ∀ p ∈ fr, 0 ≤ p.1
  n2 : ∀ p ∈ fr, p.1.natAbs < 2 ^ 2000
theorem Fb.p2 (h : Fb fr m) : ∀ p ∈ fr, p.2.natAbs < 2 ^ 2000 := fun p hp => by
  obtain ⟨S, s1, s2, s3⟩ := h.sd
  have := Int.le_of_dvd (by omega) (s3 p hp)
  have := h.p1 p hp
  omega
theorem Fb.pr (h : Fb fr m) : 1 ≤ prF 1 fr ∧ (prF 1 fr).natAbs < 2 ^ 10001 := by
  have g := prF_bd (d := 2000) (fr := fr) (a := 1) (n := 1) (fun p hp => ⟨h.p1 p hp, h.p2 p hp⟩) (by decide) (by decide)
  refine ⟨g.1, Nat.lt_of_lt_of_le g.2 (Nat.pow_le_pow_right (by decide) ?_)⟩
  have := h.len
  have := h.m5
  omega
theorem Fb.lc (h : Fb fr m) : 1 ≤ lcF 1 fr ∧ (lcF 1 fr).natAbs < 2 ^ 2000 := by
  have l1 := lcF_pos (fr := fr) (a := 1) h.p1 (by decide)
  obtain ⟨S, s1, s2, s3⟩ := h.sd
  have d := lcF_least (m := S) (fr := fr) (a := 1) (Int.one_dvd _) s3
  have := Int.le_of_dvd (by omega) d
  exact ⟨l1, by omega⟩
theorem wt_ev {Ca : Cal} {L : Int} {z : Option Vl} (h : Fb fr m) (hL : L.natAbs < 2 ^ 10001) :
    ev Ca (.comp false (.bop false .mul (.idx (.var 2) (.lit (.int 0))) (.bop false .fdiv (.var 1) (.idx (.var 2) (.lit (.int 1))))) (.var 2) (.itv (.var 0)) .nil [2]) [some (.d (.tuple (fr.map frD))), some (.d (.int L)), z] s = .ok (.d (.list ((wtF L fr).map .int))) s := by
  unfold wtF
  rw [List.map_map]
  refine comp_on frD _ (itv_t rfl) (by have := h.len; have := h.m5; omega) fun p hp => ⟨_, rfl, ?_⟩
  have p1 := h.p1 p hp
  have p2 := h.p2 p hp
  have l9 : p.2.natAbs.log2 < 9000 := Nat.lt_trans ((Nat.log2_lt (by omega)).mpr p2) (by decide)
  have hd : (L / p.2).natAbs < 2 ^ 10001 := Nat.lt_of_le_of_lt (Int.natAbs_ediv_le_natAbs L p.2) hL
  have mo : mulOk p.1 (L / p.2) := mulOk_of (h.n2 p hp) hd (by omega)
  have p0 : 0 < p.2 := by omega
  simp [wipe, frD, l9, p0, mo]
theorem scaled_ok (hK : 1 ≤ K) (h : Fb fr m) : callI tab fu K i_scaled [.d (.tuple (fr.map frD))] s = .ok (.d (.list ((wtF (lcF 1 fr) fr).map .int))) s := by
  obtain ⟨K, rfl⟩ : ∃ k, K = k + 1 := ⟨K - 1, by omega⟩
  refine Ok_one (Ok_call (F := d_scaled) rfl rfl ?_)
  simp only [d_scaled, b_scaled]
  refine Sw_cut (fun e v => v = s ∧ e = [some (.d (.tuple (fr.map frD))), some (.d (.int 1)), none]) (by simp) fun e v ⟨hv, he⟩ => ?_
  subst he hv
  refine Sw_cut (fun e t => t = v ∧ ∃ z, e = [some (.d (.tuple (fr.map frD))), some (.d (.int (lcF 1 fr))), z]) ?_ fun e t ⟨ht, z, he⟩ => ?_
  · rw [exS_for_vals (itv_t rfl)]
    refine Sw_goM frD (fun r e t => t = v ∧ ∃ (a : Int) (z : Option Vl), lcF a r = lcF 1 fr ∧ 1 ≤ a ∧ (∀ p ∈ r, p ∈ fr) ∧ e = [some (.d (.tuple (fr.map frD))), some (.d (.int a)), z]) (fun p r e t ⟨ht, a, z, ha, a1, hm, he⟩ => ?_) (fun e t h => ?fin) ⟨rfl, 1, none, rfl, by decide, fun _ h => h, rfl⟩
    case fin =>
      obtain ⟨ht, a, z, ha, a1, hm, he⟩ := h
      exact ⟨ht, z, by rw [← ha]; exact he⟩
    subst he ht
    rw [turnS_var]
    have hp := hm p List.mem_cons_self
    have p1 := h.p1 p hp
    have p2 := h.p2 p hp
    have l6 : p.2.natAbs.log2 < 6000 := Nat.lt_trans ((Nat.log2_lt (by omega)).mpr p2) (by decide)
    have ad : a ∣ lcF 1 fr := by rw [← ha]; exact lcF_dvd.1
    have al := Int.le_of_dvd (by have := h.lc.1; omega) ad
    have a6 : a.natAbs.log2 < 6000 := Nat.lt_trans ((Nat.log2_lt (by omega)).mpr (Nat.lt_of_le_of_lt (show a.natAbs ≤ (lcF 1 fr).natAbs by omega) h.lc.2)) (by decide)
    have w : ∀ q, biV false .lcm [.d (.int a), .d (.int p.2)] q = some (.d (.int (Int.lcm a p.2)), q) := fun q => by
      show (if a.natAbs.log2 < 6000 ∧ p.2.natAbs.log2 < 6000 then some (Vl.d (.int (Int.lcm a p.2)), q) else none) = _
      rw [if_pos ⟨a6, l6⟩]
    have lp : 0 < Int.lcm a p.2 := Int.lcm_pos (by omega) (by omega)
    simp [frD, w]
    exact ⟨Int.lcm a p.2, ha, by omega, fun q r hq => hm (q, r) (List.mem_cons_of_mem _ hq), rfl⟩
  subst he ht
  have c := wt_ev (Ca := callI tab fu K) (s := t) (z := z) h (Nat.lt_of_lt_of_le h.lc.2 (Nat.pow_le_pow_right (by decide) (by decide)))
  simp [-List.map_map, c]
  exact Lv_len rfl ⟨rfl, rfl⟩
theorem labels_of_ok {sd : Nat} (hK : 2 ≤ K) (g : Gv A B R C) (h2 : sd < 2) (h : Fb fr (mn R C sd)) : callI tab fu K i_labels_of [.d (gD A B), .d (.int sd), .d (.tuple (fr.map frD))] s = .ok (.d (.tuple (sortP (ownL sd (wtF (lcF 1 fr) fr) ++ bstL sd (sumsF (wtF (lcF 1 fr) fr) (pm A B C sd) (mn R C (1 - sd))))))) s := by
  obtain ⟨K, rfl⟩ : ∃ k, K = k + 1 := ⟨K - 1, by omega⟩
  have p := paid_ok (fu := fu) (K := K) (s := s) (by omega) g h2
  have sc := scaled_ok (fu := fu) (K := K) (s := s) (by omega) h
  have l := labels_by_ok (fu := fu) (K := K) (s := s) (ws := wtF (lcF 1 fr) fr) (by omega) (pm_ok g h2) h2 (by simp [wtF, h.len])
  refine Ok_one (Ok_call (F := d_labels_of) rfl rfl ?_)
  simp [-List.map_map, d_labels_of, b_labels_of, p, sc, l]
  exact Lv_len rfl ⟨rfl, rfl⟩
theorem labels_len {sd : Nat} {l : List Int} : (sortP (ownL sd ws ++ bstL sd l)).length = ws.count 0 + cntF l := by
  have hp : (sortP (ownL sd ws ++ bstL sd l)).length = (ownL sd ws ++ bstL sd l).length := (List.mergeSort_perm _ _).length_eq
  rw [hp, List.length_append]
  simp only [ownL, bstL, List.length_map]
  rw [count_zip 0 ws 0, count_zip (mxF l) l 0]
  rfl
end
end Law

set_option maxHeartbeats 1000000
namespace Law
open PySem SM
section
variable {fu K : Nat} {s t u : Sto} {A B : List (List Int)} {m n R C c : Nat} {ws : List Int}
/-- weights of a mix -/
structure Wq (ws : List Int) (c : Nat) : Prop where
  len : ws.length = c
  c5 : c ≤ 5
  nn : ∀ w ∈ ws, 0 ≤ w
  pos : 0 < ws.sum
  lt : ws.sum.natAbs < 2 ^ 2000
theorem le_sum : ∀ {is : List Int}, (∀ i ∈ is, 0 ≤ i) → 0 ≤ is.sum ∧ ∀ x ∈ is, x ≤ is.sum
  | [], _ => ⟨by simp, fun _ h => by cases h⟩
  | a :: r, h => by
    obtain ⟨h1, h2⟩ := le_sum (is := r) fun i hi => h i (List.mem_cons_of_mem _ hi)
    have ha := h a List.mem_cons_self
    refine ⟨by simp; omega, fun x hx => ?_⟩
    rw [List.sum_cons]
    rcases List.mem_cons.mp hx with rfl | hx
    · omega
    · have := h2 x hx; omega
theorem Wq.mem (h : Wq ws c) {p : Int × Int} (hp : p ∈ frs ws) : ∃ w ∈ ws, p = frO w ws.sum := by
  obtain ⟨w, hw, rfl⟩ := List.mem_map.mp hp
  exact ⟨w, hw, rfl⟩
theorem Wq.fb (h : Wq ws c) : Fb (frs ws) c := by
  refine ⟨by simp [frs, h.len], h.c5, fun p hp => ?_, ⟨ws.sum, by have := h.pos; omega, h.lt, fun p hp => ?_⟩, fun p hp => ?_, fun p hp => ?_⟩
  all_goals obtain ⟨w, hw, rfl⟩ := h.mem hp
  · exact frO_pos h.pos
  · exact frO_dvd h.pos
  · exact frO_nn h.pos (h.nn w hw)
  · have h1 := frO_abs (w := w) h.pos
    have h2 := (le_sum h.nn).2 w hw
    have h3 := h.nn w hw
    have := h.lt
    omega
theorem addF_frs {S : Int} (hS : 0 < S) : ∀ (is : List Int) (a b σ : Int), a * S = b * σ → (addF (a, b) (is.map fun w => frO w S)).1 * S = (addF (a, b) (is.map fun w => frO w S)).2 * (σ + is.sum)
  | [], a, b, σ, h => by simpa [addF] using h
  | w :: is, a, b, σ, h => by
    have cr := frO_cross (w := w) hS
    rw [List.map_cons, List.sum_cons, ← Int.add_assoc]
    show (addF (a * (frO w S).2 + (frO w S).1 * b, b * (frO w S).2) (is.map fun w => frO w S)).1 * S = _
    refine addF_frs hS is _ _ (σ + w) ?_
    generalize (frO w S).1 = i at *
    generalize (frO w S).2 = j at *
    rw [Int.add_mul, Int.mul_add]
    congr 1
    · calc a * j * S = a * S * j := by ac_rfl
        _ = b * j * σ := by rw [h]; ac_rfl
    · calc i * b * S = i * S * b := by ac_rfl
        _ = b * j * w := by rw [cr]; ac_rfl
theorem addF_pos : ∀ (ps : List (Int × Int)) (a b : Int), 0 < b → (∀ p ∈ ps, 1 ≤ p.2) → 0 < (addF (a, b) ps).2
  | [], _, _, h, _ => h
  | (i, j) :: r, a, b, h, hp => addF_pos r _ _ (Int.mul_pos h (by have := hp (i, j) List.mem_cons_self; simp at this; omega)) fun q hq => hp q (List.mem_cons_of_mem _ hq)
theorem toOne_frs (h : Wq ws c) : toOne (frs ws) = true := by
  have h1 := addF_frs h.pos ws 0 1 0 (by simp)
  rw [Int.zero_add] at h1
  exact decide_eq_true (Int.eq_of_mul_eq_mul_right (a := ws.sum) (by have := h.pos; omega) h1)
theorem unD_frD (p : Int × Int) : unD (frD p) = p := rfl
theorem isMix_of (h : Wq ws c) : isMixN c (mixD ws) = true := by
  show (decide (((frs ws).map frD).length = c) && (((frs ws).map frD).all isFrac && ((((frs ws).map frD).all fun x => decide (0 ≤ (unD x).1)) && toOne (((frs ws).map frD).map unD)))) = true
  have e : ((frs ws).map frD).map unD = frs ws := by rw [List.map_map]; simp [Function.comp_def, unD_frD]
  rw [e, toOne_frs h]
  simp only [Bool.and_eq_true, decide_eq_true_eq, List.all_eq_true, Bool.and_true]
  refine ⟨by simp [frs, h.len], fun x hx => ?_, fun x hx => ?_⟩
  · obtain ⟨p, hp, rfl⟩ := List.mem_map.mp hx
    obtain ⟨w, hw, rfl⟩ := h.mem hp
    show (decide (1 ≤ (frO w ws.sum).2) && decide (Int.gcd (frO w ws.sum).1 (frO w ws.sum).2 = 1)) = true
    rw [decide_eq_true (frO_pos h.pos), decide_eq_true (frO_gcd h.pos)]
    rfl
  · obtain ⟨p, hp, rfl⟩ := List.mem_map.mp hx
    exact h.fb.n0 p hp
theorem frBd_of (h : Wq ws c) : FrBd (mixD ws) := by
  intro xs e y hy
  have e : (frs ws).map frD = xs := by injection e
  subst e
  obtain ⟨p, hp, rfl⟩ := List.mem_map.mp hy
  exact ⟨h.fb.n2 p hp, h.fb.p2 p hp⟩
theorem need_side_ok {i : Int} (hi : i = 0 ∨ i = 1) (hK : 4 ≤ K) : callI tab fu K i_need_side [.d (.int i)] s = .ok (.d .none) s := by
  obtain ⟨K, rfl⟩ : ∃ k, K = k + 4 := ⟨K - 4, by omega⟩
  have h : callI tab fu (K + 3) i_is_a_side [.d (.int i)] s = .ok (.d (.bool true)) s := by
    refine Ok_one (Ok_call (F := d_is_a_side) rfl rfl ?_)
    have := is_within_ok (fu := fu) (k := K) (s := s) (.int i) 0 1
    have e : isIn 0 1 (.int i) = true := by rcases hi with rfl | rfl <;> rfl
    rw [e] at this
    simp [d_is_a_side, b_is_a_side, this]
    exact Lv_len rfl ⟨rfl, rfl⟩
  refine Ok_one (Ok_call (F := d_need_side) rfl rfl ?_)
  simp [d_need_side, b_need_side, evT_eq, h]
  exact Lv_len rfl ⟨rfl, rfl⟩
theorem is_mix_ok {sd : Nat} (hK : 4 ≤ K) (g : Gv A B R C) (h2 : sd < 2) (h : Wq ws (mn R C sd)) : callI tab fu K i_is_a_mix [.d (gD A B), .d (.int sd), .d (mixD ws)] s = .ok (.d (.bool true)) s := by
  obtain ⟨K, rfl⟩ : ∃ k, K = k + 1 := ⟨K - 1, by omega⟩
  obtain ⟨K, rfl⟩ : ∃ k, K = k + 3 := ⟨K - 3, by omega⟩
  have hm := many_ok (fu := fu) (K := K + 3) (s := s) (by omega) g h2
  have c5 := h.c5
  have c := are_chances_ok (fu := fu) (k := K) (s := s) (mixD ws) (mn R C sd) (by omega) (frBd_of h)
  rw [isMix_of h] at c
  refine Ok_one (Ok_call (F := d_is_a_mix) rfl rfl ?_)
  simp [d_is_a_mix, b_is_a_mix, hm, c]
  exact Lv_len rfl ⟨rfl, rfl⟩
theorem need_mix_ok {sd : Nat} (hK : 5 ≤ K) (g : Gv A B R C) (h2 : sd < 2) (h : Wq ws (mn R C sd)) : callI tab fu K i_need_mix [.d (gD A B), .d (.int sd), .d (mixD ws)] s = .ok (.d .none) s := by
  obtain ⟨K, rfl⟩ : ∃ k, K = k + 1 := ⟨K - 1, by omega⟩
  have hm := is_mix_ok (fu := fu) (K := K) (s := s) (by omega) g h2 h
  refine Ok_one (Ok_call (F := d_need_mix) rfl rfl ?_)
  simp [d_need_mix, b_need_mix, evT_eq, hm]
  exact Lv_len rfl ⟨rfl, rfl⟩
theorem need_asked_ok {sd : Nat} (hK : 8 ≤ K) (g : Gv A B R C) (h2 : sd < 2) (h : Wq ws (mn R C sd)) : callI tab fu K i_need_asked [.d (gD A B), .d (.int sd), .d (.list [mixD ws])] s = .ok (.d .none) s := by
  obtain ⟨K, rfl⟩ : ∃ k, K = k + 1 := ⟨K - 1, by omega⟩
  have h1 := need_game_ok (fu := fu) (K := K) (s := s) (isGame_of g) (by omega)
  have h3 := need_side_ok (fu := fu) (K := K) (s := s) (i := (sd : Int)) (by omega) (by omega)
  have h4 := need_mix_ok (fu := fu) (K := K) (s := s) (by omega) g h2 h
  refine Ok_one (Ok_call (F := d_need_asked) rfl rfl ?_)
  simp [d_need_asked, b_need_asked, h1, h3]
  rw [Sw_step, turnS_var]
  simp [h4, goL]
  exact Lv_len rfl ⟨rfl, rfl⟩
def LSp (sd : Int) (ws : List Int) (M : List (List Int)) (n : Nat) : List PyData := sortP (ownL sd ws ++ bstL sd (sumsF ws M n))
theorem labels_ok {sd : Nat} (hK : 9 ≤ K) (g : Gv A B R C) (h2 : sd < 2) (h : Wq ws (mn R C sd)) : callI tab fu K i_labels [.d (gD A B), .d (.int sd), .d (mixD ws)] s = .ok (.d (.tuple (LSp sd (wtF (lcF 1 (frs ws)) (frs ws)) (pm A B C sd) (mn R C (1 - sd))))) s := by
  obtain ⟨K, rfl⟩ : ∃ k, K = k + 1 := ⟨K - 1, by omega⟩
  have h1 := need_asked_ok (fu := fu) (K := K) (s := s) (by omega) g h2 h
  have h3 := labels_of_ok (fu := fu) (K := K) (s := s) (by omega) g h2 h.fb
  refine Ok_one (Ok_call (F := d_labels) rfl rfl ?_)
  have h3' : callI tab fu K i_labels_of [.d (gD A B), .d (.int sd), .d (mixD ws)] s = .ok (.d (.tuple (LSp sd (wtF (lcF 1 (frs ws)) (frs ws)) (pm A B C sd) (mn R C (1 - sd))))) s := h3
  simp [d_labels, b_labels, h1, h3']
  exact Lv_len rfl ⟨rfl, rfl⟩
/-- the labels by another multiple of the weights -/
theorem own_scale {x sd : Int} (hx : 0 < x) : ownL sd (ws.map (· * x)) = ownL sd ws := by
  unfold ownL
  have : ∀ (l : List Int) (k : Nat), (((l.map (· * x)).zipIdx k).filter fun p => decide (p.1 = 0)).map (fun p => PyData.tuple [.int sd, .int p.2]) = ((l.zipIdx k).filter fun p => decide (p.1 = 0)).map fun p => PyData.tuple [.int sd, .int p.2] := by
    intro l
    induction l with
    | nil => intro k; rfl
    | cons a r ih =>
      intro k
      have e : (a * x = 0) ↔ a = 0 := ⟨fun z => by rcases Int.mul_eq_zero.mp z with h | h; exact h; omega, fun z => by rw [z, Int.zero_mul]⟩
      simp only [List.map_cons, List.zipIdx_cons, List.filter_cons]
      by_cases z : a = 0
      · simp [z, ih]
      · simp [z, e, ih]
  exact this ws 0
theorem mxF_scale {x : Int} (hx : 0 < x) {l : List Int} (h : l ≠ []) : mxF (l.map (· * x)) = mxF l * x := by
  unfold mxF
  rw [maxL_scale hx, maxL_mx h]
  rfl
theorem bst_scale {x sd : Int} (hx : 0 < x) {l : List Int} (hl : l ≠ []) : bstL sd (l.map (· * x)) = bstL sd l := by
  unfold bstL
  rw [mxF_scale hx hl]
  have : ∀ (M : Int) (l : List Int) (k : Nat), (((l.map (· * x)).zipIdx k).filter fun p => decide (p.1 = M * x)).map (fun p => PyData.tuple [.int (1 - sd), .int p.2]) = ((l.zipIdx k).filter fun p => decide (p.1 = M)).map fun p => PyData.tuple [.int (1 - sd), .int p.2] := by
    intro M l
    induction l with
    | nil => intro k; rfl
    | cons a r ih =>
      intro k
      have e : (a * x = M * x) ↔ a = M := ⟨fun z => Int.eq_of_mul_eq_mul_right (by omega) z, fun z => by rw [z]⟩
      simp only [List.map_cons, List.zipIdx_cons, List.filter_cons]
      by_cases z : a = M
      · simp [z, ih]
      · simp [z, e, ih]
  exact this _ l 0
theorem LSp_same {fr : List (Int × Int)} {sd : Int} {M : List (List Int)} (h : ∀ p ∈ fr, 1 ≤ p.2) (hn : 1 ≤ n) : LSp sd (wtF (prF 1 fr) fr) M n = LSp sd (wtF (lcF 1 fr) fr) M n := by
  obtain ⟨c, hc⟩ := lcF_least (m := prF 1 fr) (fr := fr) (a := 1) (Int.one_dvd _) prF_dvd.2
  have l1 := lcF_pos (fr := fr) (a := 1) h (by decide)
  have p1 : 1 ≤ prF 1 fr := by
    have : ∀ {fr : List (Int × Int)} {a : Int}, (∀ p ∈ fr, 1 ≤ p.2) → 1 ≤ a → 1 ≤ prF a fr := by
      intro fr
      induction fr with
      | nil => exact fun _ h => h
      | cons p r ih => exact fun hp h => ih (fun q hq => hp q (List.mem_cons_of_mem _ hq)) (Int.mul_pos (by omega) (by have := hp p List.mem_cons_self; omega))
    exact this h (by decide)
  have c0 : 0 < c := by
    rcases Int.lt_trichotomy c 0 with z | z | z
    · have : lcF 1 fr * c < 0 := Int.mul_neg_of_pos_of_neg (by omega) z
      omega
    · subst z; simp at hc; omega
    · exact z
  unfold LSp
  rw [hc, wtF_scale lcF_dvd.2, sums_scale, own_scale c0, bst_scale c0 (fun z => by have := congrArg List.length z; simp [sumsF] at this; omega)]
end
end Law

set_option maxHeartbeats 1000000
namespace Law
open PySem SM
section
variable {fu K : Nat} {s t u : Sto} {A B M : List (List Int)} {m n R C c : Nat} {ws l : List Int} {sd : Nat}
def pD (p : Nat × Nat) : PyData := .tuple [.int p.1, .int p.2]
def unN : PyData → Nat
  | .int i => i.toNat
  | _ => 0
def unP : PyData → Nat × Nat
  | .tuple [a, b] => (unN a, unN b)
  | _ => (0, 0)
theorem unP_pD (p : Nat × Nat) : unP (pD p) = p := rfl
def prs (sd : Nat) (ws l : List Int) : List (Nat × Nat) := (ws.zipIdx.filter fun p => decide (p.1 = 0)).map (fun p => (sd, p.2)) ++ (l.zipIdx.filter fun p => decide (p.1 = mxF l)).map fun p => (1 - sd, p.2)
theorem prs_eq (h2 : sd < 2) : ownL sd ws ++ bstL sd l = (prs sd ws l).map pD := by
  unfold ownL bstL prs
  rw [List.map_append, List.map_map, List.map_map]
  have e : (1 - (sd : Int)) = ((1 - sd : Nat) : Int) := by omega
  rw [e]
  rfl
/-- the labels as pairs -/
def psL (sd : Nat) (ws l : List Int) : List (Nat × Nat) := (sortP ((prs sd ws l).map pD)).map unP
theorem ps_eq (h2 : sd < 2) : sortP (ownL sd ws ++ bstL sd l) = (psL sd ws l).map pD := by
  rw [prs_eq h2]
  unfold psL
  rw [List.map_map]
  have : ∀ d ∈ sortP ((prs sd ws l).map pD), (pD ∘ unP) d = d := fun d hd => by
    have hm : d ∈ (prs sd ws l).map pD := (List.mergeSort_perm _ _).mem_iff.mp hd
    obtain ⟨p, _, rfl⟩ := List.mem_map.mp hm
    rfl
  exact ((List.map_congr_left this).trans (List.map_id _)).symm
theorem ps_perm : (psL sd ws l).Perm (prs sd ws l) := by
  have := (List.mergeSort_perm ((prs sd ws l).map pD) fun a b => decide (kD a ≤ kD b)).map unP
  rw [List.map_map] at this
  have e : (prs sd ws l).map (unP ∘ pD) = prs sd ws l := List.map_id _
  rw [e] at this
  exact this
theorem zip_mem {l : List Int} {x : Int} {k : Nat} : (x, k) ∈ l.zipIdx ↔ k < l.length ∧ l.getD k 0 = x := by
  rw [List.mem_zipIdx_iff_getElem?]
  by_cases h : k < l.length
  · rw [List.getElem?_eq_getElem h, SM.getD_lt h]
    simp [h]
  · rw [List.getElem?_eq_none (by omega)]
    simp [h]
theorem ps_own (h2 : sd < 2) {k : Nat} : (sd, k) ∈ psL sd ws l ↔ k < ws.length ∧ ws.getD k 0 = 0 := by
  rw [ps_perm.mem_iff]
  unfold prs
  rw [List.mem_append]
  refine ⟨fun h => ?_, fun ⟨h1, h3⟩ => .inl (List.mem_map.mpr ⟨(0, k), List.mem_filter.mpr ⟨zip_mem.mpr ⟨h1, h3⟩, by simp⟩, rfl⟩)⟩
  rcases h with h | h
  · obtain ⟨p, hp, e⟩ := List.mem_map.mp h
    obtain ⟨h1, h3⟩ := List.mem_filter.mp hp
    injection e with _ e
    subst e
    have := zip_mem.mp (show (p.1, p.2) ∈ ws.zipIdx from h1)
    exact ⟨this.1, by rw [this.2]; simpa using h3⟩
  · obtain ⟨p, hp, e⟩ := List.mem_map.mp h
    injection e with e _
    omega
theorem ps_oth (h2 : sd < 2) {k : Nat} : (1 - sd, k) ∈ psL sd ws l ↔ k < l.length ∧ l.getD k 0 = mxF l := by
  rw [ps_perm.mem_iff]
  unfold prs
  rw [List.mem_append]
  refine ⟨fun h => ?_, fun ⟨h1, h3⟩ => .inr (List.mem_map.mpr ⟨(mxF l, k), List.mem_filter.mpr ⟨zip_mem.mpr ⟨h1, h3⟩, by simp⟩, rfl⟩)⟩
  rcases h with h | h
  · obtain ⟨p, hp, e⟩ := List.mem_map.mp h
    injection e with e _
    omega
  · obtain ⟨p, hp, e⟩ := List.mem_map.mp h
    obtain ⟨h1, h3⟩ := List.mem_filter.mp hp
    injection e with _ e
    subst e
    have := zip_mem.mp (show (p.1, p.2) ∈ l.zipIdx from h1)
    exact ⟨this.1, by rw [this.2]; simpa using h3⟩
theorem ps_fst (h2 : sd < 2) {p : Nat × Nat} (h : p ∈ psL sd ws l) : p.1 = sd ∨ p.1 = 1 - sd := by
  rw [ps_perm.mem_iff] at h
  unfold prs at h
  rcases List.mem_append.mp h with h | h
  · obtain ⟨q, _, rfl⟩ := List.mem_map.mp h; exact .inl rfl
  · obtain ⟨q, _, rfl⟩ := List.mem_map.mp h; exact .inr rfl
/-- the best choices of the other side -/
def spL (sd : Nat) (ws l : List Int) : List Nat := ((psL sd ws l).filter fun p => decide (p.1 ≠ sd)).map fun p => p.2
theorem sp_mem (h2 : sd < 2) {k : Nat} : k ∈ spL sd ws l ↔ k < l.length ∧ l.getD k 0 = mxF l := by
  rw [← ps_oth (sd := sd) (ws := ws) h2]
  unfold spL
  refine ⟨fun h => ?_, fun h => List.mem_map.mpr ⟨_, List.mem_filter.mpr ⟨h, by simp; omega⟩, rfl⟩⟩
  obtain ⟨p, hp, e⟩ := List.mem_map.mp h
  obtain ⟨h1, h3⟩ := List.mem_filter.mp hp
  have h4 : p.1 ≠ sd := by simpa using h3
  have h5 := (ps_fst h2 h1).resolve_left h4
  rw [← e, ← h5]
  exact h1
theorem sp_len (h2 : sd < 2) : (spL sd ws l).length ≤ l.length := by
  have e : (spL sd ws l).length = (((prs sd ws l).filter fun p => decide (p.1 ≠ sd)).map fun p => p.2).length := (ps_perm.filter _ |>.map _).length_eq
  rw [e, List.length_map]
  unfold prs
  rw [List.filter_append]
  have z : ((ws.zipIdx.filter fun p => decide (p.1 = 0)).map fun p => (sd, p.2)).filter (fun p => decide (p.1 ≠ sd)) = [] := by
    rw [List.filter_eq_nil_iff]
    intro p hp
    obtain ⟨q, _, rfl⟩ := List.mem_map.mp hp
    simp
  rw [z, List.nil_append]
  refine Nat.le_trans (List.length_filter_le _ _) ?_
  rw [List.length_map]
  refine Nat.le_trans (List.length_filter_le _ _) ?_
  simp
theorem sp_ne (h2 : sd < 2) (hl : l ≠ []) : spL sd ws l ≠ [] := fun z => by
  have hm := mxF_mem hl
  obtain ⟨k, hk, e⟩ := List.mem_iff_getElem.mp hm
  have : k ∈ spL sd ws l := (sp_mem h2).mpr ⟨hk, by rw [SM.getD_lt hk]; exact e⟩
  rw [z] at this
  cases this
theorem inD_pairs {p : Nat × Nat} {ps : List (Nat × Nat)} : inD (pD p) (ps.map pD) = some (decide (p ∈ ps)) := by
  have a : ∀ l : List (Nat × Nat), PyData.canLayAll0 (l.map pD) = true ∧ PyData.depthAll (l.map pD) ≤ 1 := by
    intro l
    induction l with
    | nil => exact ⟨rfl, Nat.zero_le _⟩
    | cons y l ih =>
      refine ⟨?_, ?_⟩
      · show (PyData.canLay0 (pD y) && PyData.canLayAll0 (l.map pD)) = true
        rw [ih.1]
        rfl
      · show max (PyData.depth (pD y)) (PyData.depthAll (l.map pD)) ≤ 1
        have : PyData.depth (pD y) = 1 := rfl
        omega
  have sh : SeqAt.shaped (.list (ps.map pD)) = true := by
    show (PyData.canLay0 (.list (ps.map pD)) && decide (PyData.depth (.list (ps.map pD)) ≤ 64)) = true
    have h1 : PyData.canLay0 (.list (ps.map pD)) = true := (a ps).1
    have h2 : PyData.depth (.list (ps.map pD)) ≤ 64 := by
      show PyData.depthAll (ps.map pD) + 1 ≤ 64
      have := (a ps).2
      omega
    rw [h1, decide_eq_true h2]
    rfl
  unfold inD
  rw [if_pos ⟨rfl, sh⟩, List.any_map]
  congr 1
  have e : ∀ l : List (Nat × Nat), (l.any ((fun z => PyData.eqv z (pD p)) ∘ pD)) = decide (p ∈ l) := by
    intro l
    induction l with
    | nil => rfl
    | cons y l ih =>
      rw [List.any_cons, ih]
      show ((((y.1 : Int) == (p.1 : Int)) && (((y.2 : Int) == (p.2 : Int)) && true)) || decide (p ∈ l)) = _
      by_cases q : y = p
      · subst q; simp
      · have : ¬ p = y := fun z => q z.symm
        have : ¬ ((y.1 : Int) = p.1 ∧ (y.2 : Int) = p.2) := fun z => q (Prod.ext (by omega) (by omega))
        by_cases z1 : (y.1 : Int) = p.1
        · have z2 : ¬ (y.2 : Int) = p.2 := fun z => this ⟨z1, z⟩
          simp [*]
        · simp [*]
  exact e ps
/-- the rows that are asked -/
def DM (M : List (List Int)) (lot sp : List Nat) : List (List Int) := sp.tail.map fun j => lot.map fun k => gt M k j - gt M k (sp.getD 0 0)
theorem DM_sh (h : Mt M m n) {lot sp : List Nat} (hl : ∀ k ∈ lot, k < m) (hs : ∀ j ∈ sp, j < n) (h0 : sp ≠ []) : (DM M lot sp).length = sp.length - 1 ∧ (∀ row ∈ DM M lot sp, row.length = lot.length) ∧ ∀ row ∈ DM M lot sp, ∀ x ∈ row, x.natAbs < 2 ^ 11 := by
  refine ⟨by simp [DM], fun row hr => ?_, fun row hr x hx => ?_⟩
  · obtain ⟨j, hj, rfl⟩ := List.mem_map.mp hr
    simp
  · obtain ⟨j, hj, rfl⟩ := List.mem_map.mp hr
    obtain ⟨k, hk, rfl⟩ := List.mem_map.mp hx
    have s0 : sp.getD 0 0 ∈ sp := by
      have : 0 < sp.length := List.length_pos_iff.mpr h0
      rw [SM.getD_lt this]
      exact List.getElem_mem _
    have a1 := gt_abs (gt_in h.rw_ (show k < M.length by rw [h.len]; exact hl k hk) (hs j (List.mem_of_mem_tail hj)))
    have a2 := gt_abs (gt_in h.rw_ (show k < M.length by rw [h.len]; exact hl k hk) (hs _ s0))
    omega
theorem nats_eq (l : List Nat) : (l.map fun k : Nat => PyData.int k) = l.map fun k : Nat => PyData.int k := rfl
theorem differences_ok {lot sp : List Nat} (hK : 1 ≤ K) (h : Mt M m n) (hl : ∀ k ∈ lot, k < m) (hs : ∀ j ∈ sp, j < n) (h0 : sp ≠ []) (l5 : lot.length ≤ 5) (s5 : sp.length ≤ 5) :
    callI tab fu K i_differences [.d (tabD M), .d (.list (lot.map fun k : Nat => PyData.int k)), .d (.list (sp.map fun k : Nat => PyData.int k))] s = .ok (.d (.list ((DM M lot sp).map lsD))) s := by
  obtain ⟨K, rfl⟩ : ∃ k, K = k + 1 := ⟨K - 1, by omega⟩
  have hM := h.len
  have p0 : 0 < sp.length := List.length_pos_iff.mpr h0
  have s0 : sp.getD 0 0 ∈ sp := by
    rw [SM.getD_lt p0]
    exact List.getElem_mem _
  have i0 : L2.atI (sp.map fun k : Nat => PyData.int k) 0 = some (.int ((sp.getD 0 0 : Nat) : Int)) := by
    have := atI_nat (vs := sp.map fun k : Nat => PyData.int k) (i := 0) (by simpa using p0)
    rw [SM.getD_lt p0]
    simpa using this
  have cmp : ev (callI tab fu K) (.comp false (.comp false (.bop false .sub (.idx (.idx (.var 0) (.var 4)) (.var 3)) (.idx (.idx (.var 0) (.var 4)) (.idx (.var 2) (.lit (.int 0))))) (.var 4) (.itv (.var 1)) .nil [4]) (.var 3) (.itv (.sli false (.var 2) (.cons (.lit (.int 1)) .nil) .nil)) .nil [3])
      [some (.d (tabD M)), some (.d (.list (lot.map fun k : Nat => PyData.int k))), some (.d (.list (sp.map fun k : Nat => PyData.int k))), none, none] s = .ok (.d (.list ((DM M lot sp).map lsD))) s := by
    unfold DM
    rw [List.map_map]
    refine comp_on (fun k : Nat => PyData.int k) _ ?_ (by simp; omega) fun j hj => ⟨_, rfl, ?_⟩
    · have := cut_from (sp.map fun k : Nat => PyData.int k) (i := 1) (by decide)
      simp [this, show sp.length - 1 ≤ 16777216 by omega]
    · have hj := hs j (List.mem_of_mem_tail hj)
      have e1 : lsD (lot.map fun k => gt M k j - gt M k (sp.getD 0 0)) = .list (lot.map fun k => .int (gt M k j - gt M k (sp.getD 0 0))) := by
        unfold lsD
        rw [List.map_map]
        rfl
      show _ = Rs.ok (Vl.d (lsD (lot.map fun k => gt M k j - gt M k (sp.getD 0 0)))) s
      rw [e1]
      refine comp_on (fun k : Nat => PyData.int k) _ (by simp [wipe]) (by omega) fun k hk => ⟨_, rfl, ?_⟩
      have hk := hl k hk
      have r := at_row (A := M) (i := k) (by omega)
      have rl := (h.rw_ _ (SM.getD_mem (d := []) (show k < M.length by omega))).1
      have a1 := at_int (r := M.getD k []) (i := j) (by omega)
      have a2 := at_int (r := M.getD k []) (i := sp.getD 0 0) (by have := hs _ s0; omega)
      simp [-List.getD_eq_getElem?_getD, wipe, tabD, rowD, r, a1, a2, i0]
      rfl
  refine Ok_one (Ok_call (F := d_differences) rfl rfl ?_)
  simp only [d_differences, b_differences]
  simp [-List.map_map, cmp]
  exact Lv_len rfl ⟨rfl, rfl⟩
end
end Law

set_option maxHeartbeats 1000000
namespace Law
open PySem SM
section
variable {fu K : Nat} {s t u : Sto} {A B M : List (List Int)} {m n R C c : Nat} {ws l : List Int} {sd : Nat} {fr : List (Int × Int)}
open Classical in
noncomputable def oneB (m n : Nat) (A : Nat → Nat → Int) : Bool := decide (One m n A)
theorem oneB_t {A : Nat → Nat → Int} : oneB m n A = true ↔ One m n A := by simp [oneB]
theorem oneB_f {A : Nat → Nat → Int} : oneB m n A = false ↔ ¬ One m n A := by simp [oneB]
def lotF (fr : List (Int × Int)) : List Nat := (List.range fr.length).filter fun k => decide (0 < (fr.getD k (0, 1)).1)
theorem lot_lt {k : Nat} (h : k ∈ lotF fr) : k < fr.length := by
  have := (List.mem_filter.mp h).1
  simpa using this
theorem lot_len : (lotF fr).length ≤ fr.length := by
  have := List.length_filter_le (fun k => decide (0 < (fr.getD k (0, 1)).1)) (List.range fr.length)
  simpa [lotF] using this
def wsF (fr : List (Int × Int)) : List Int := wtF (lcF 1 fr) fr
def smF (A B : List (List Int)) (R C sd : Nat) (fr : List (Int × Int)) : List Int := sumsF (wsF fr) (pm A B C sd) (mn R C (1 - sd))
def spF (A B : List (List Int)) (R C sd : Nat) (fr : List (Int × Int)) : List Nat := spL sd (wsF fr) (smF A B R C sd fr)
noncomputable def crn (A B : List (List Int)) (R C sd : Nat) (fr : List (Int × Int)) : Bool := oneB ((spF A B R C sd fr).length - 1) (lotF fr).length (gt (DM (pm A B C sd) (lotF fr) (spF A B R C sd fr)))
structure SpOk (A B : List (List Int)) (R C sd : Nat) (fr : List (Int × Int)) : Prop where
  lt : ∀ j ∈ spF A B R C sd fr, j < mn R C (1 - sd)
  ne : spF A B R C sd fr ≠ []
  l5 : (spF A B R C sd fr).length ≤ 5
theorem spOk (g : Gv A B R C) (h2 : sd < 2) : SpOk A B R C sd fr := by
  have p := pm_ok g h2
  have ls : (smF A B R C sd fr).length = mn R C (1 - sd) := sums_len
  refine ⟨fun j hj => ?_, sp_ne h2 fun z => ?_, ?_⟩
  · have := ((sp_mem h2).mp hj).1
    omega
  · rw [z] at ls
    have := p.n1
    simp at ls
    omega
  · have := sp_len (ws := wsF fr) (l := smF A B R C sd fr) h2
    have := p.n5
    unfold spF
    omega
theorem spots_ev {C' : Cal} {e : Sl} {it : IE} {own : List Nat} {ps : List (Nat × Nat)} (hl : ps.length ≤ 1000) (hi : itr C' it e s = .ok (.vals (ps.map pD)) s) {a b sv : Nat}
    (ht : ∀ p : Nat × Nat, ∃ e1, setTgV (.tup (.cons (.var a) (.cons (.var b) .nil))) (.d (pD p)) (wipe e own) = some e1 ∧ e1[a]? = some (some (.d (.int p.1))) ∧ e1[b]? = some (some (.d (.int p.2))) ∧ e1[sv]? = some (some (.d (.int sd)))) :
    ev C' (.comp false (.var b) (.tup (.cons (.var a) (.cons (.var b) .nil))) it (.cons (.cmp .ne (.var a) (.var sv)) .nil) own) e s = .ok (.d (.list (((ps.filter fun p => decide (p.1 ≠ sd)).map fun p => p.2).map fun k : Nat => PyData.int k))) s := by
  rw [List.map_map]
  refine filter_on pD (fun p => PyData.int p.2) (fun p => decide (p.1 ≠ sd)) hi (by omega) fun p hp => ?_
  obtain ⟨e1, h1, h2, h3, h4⟩ := ht p
  refine ⟨e1, h1, ?_, fun _ => ?_⟩
  · by_cases z : p.1 = sd
    · simp [evT_eq, h2, h4, z, cmpV, dataOf, eqD_int]
    · have : ¬ (p.1 : Int) = sd := by omega
      simp [evT_eq, h2, h4, z, this, cmpV, dataOf, eqD_int]
  · simp [h3]
theorem is_corner_of_ok (hK : 4 ≤ K) (hf : 10 ≤ fu) (g : Gv A B R C) (h2 : sd < 2) (h : Fb fr (mn R C sd)) : callI tab fu K i_is_corner_of [.d (gD A B), .d (.int sd), .d (.tuple (fr.map frD))] s = .ok (.d (.bool (crn A B R C sd fr))) s := by
  obtain ⟨K, rfl⟩ : ∃ k, K = k + 1 := ⟨K - 1, by omega⟩
  have p := paid_ok (fu := fu) (K := K) (s := s) (by omega) g h2
  have lo := labels_of_ok (fu := fu) (K := K) (s := s) (by omega) g h2 h
  have fl := h.len
  have m5 := h.m5
  have so := spOk (fr := fr) g h2
  have ps : sortP (ownL sd (wsF fr) ++ bstL sd (smF A B R C sd fr)) = (psL sd (wsF fr) (smF A B R C sd fr)).map pD := ps_eq h2
  have lo' : callI tab fu K i_labels_of [.d (gD A B), .d (.int sd), .d (.tuple (fr.map frD))] s = .ok (.d (.tuple ((psL sd (wsF fr) (smF A B R C sd fr)).map pD))) s := by
    rw [← ps]; exact lo
  have pl : (psL sd (wsF fr) (smF A B R C sd fr)).length ≤ 1000 := by
    have e := labels_len (ws := wsF fr) (sd := sd) (l := smF A B R C sd fr)
    rw [ps, List.length_map] at e
    have h1 := List.count_le_length (a := 0) (l := wsF fr)
    have h3 : cntF (smF A B R C sd fr) ≤ (smF A B R C sd fr).length := List.count_le_length
    have h4 : (smF A B R C sd fr).length = mn R C (1 - sd) := sums_len
    have h5 := (pm_ok g h2).n5
    have h6 : (wsF fr).length = fr.length := by simp [wsF, wtF]
    omega
  refine Ok_one (Ok_call (F := d_is_corner_of) rfl rfl ?_)
  simp only [d_is_corner_of, b_is_corner_of]
  refine Sw_cut (fun e t => t = s ∧ e = [some (.d (gD A B)), some (.d (.int sd)), some (.d (.tuple (fr.map frD))), some (.d (.list ((lotF fr).map fun k : Nat => PyData.int k))), none, none, none, none]) ?_ fun e t ⟨ht, he⟩ => ?_
  · have c1 : ev (callI tab fu K) (.comp false (.var 4) (.tup (.cons (.var 4) (.cons (.var 5) .nil))) (.enum (.var 2)) (.cons (.cmp .gt (.idx (.var 5) (.lit (.int 0))) (.lit (.int 0))) .nil) [4, 5]) [some (.d (gD A B)), some (.d (.int sd)), some (.d (.tuple (fr.map frD))), none, none, none, none, none] s = .ok (.d (.list ((lotF fr).map fun k : Nat => PyData.int k))) s := by
      unfold lotF
      refine filter_on (fun k : Nat => PyData.tuple [.int k, frD (fr.getD k (0, 1))]) (fun k : Nat => PyData.int k) _ ?_ (by simp; omega) fun k hk => ⟨_, rfl, ?_, fun _ => ?_⟩
      · have e1 : (fr.map frD).zipIdx.map (fun p => PyData.tuple [.int p.2, p.1]) = (List.range fr.length).map fun k : Nat => PyData.tuple [.int k, frD (fr.getD k (0, 1))] := by
          rw [List.zipIdx_map, List.map_map, zipIdx_range (0, 1)]
          rfl
        rw [← e1]
        simp
        rfl
      · simp [wipe, evT_eq, frD, idx0]
      · simp [wipe]
    simp [-List.map_map, c1]
  subst ht he
  refine Sw_cut (fun e u => u = t ∧ e = [some (.d (gD A B)), some (.d (.int sd)), some (.d (.tuple (fr.map frD))), some (.d (.list ((lotF fr).map fun k : Nat => PyData.int k))), none, none, some (.d (.list ((spF A B R C sd fr).map fun k : Nat => PyData.int k))), none]) ?_ fun e u ⟨hu, he⟩ => ?_
  · have c2 := spots_ev (C' := callI tab fu K) (e := [some (.d (gD A B)), some (.d (.int sd)), some (.d (.tuple (fr.map frD))), some (.d (.list ((lotF fr).map fun k : Nat => PyData.int k))), none, none, none, none]) (it := .itv (.call i_labels_of (.cons (.var 0) (.cons (.var 1) (.cons (.var 2) .nil))))) (own := [7, 4]) (sd := sd) (s := t) (a := 7) (b := 4) (sv := 1) pl (by simp [-List.map_map, lo']) fun p => ⟨_, rfl, by simp [wipe], by simp [wipe], by simp [wipe]⟩
    simp only [exS_asgv, c2]
    simp [spF, spL]
  subst hu he
  have hlot : ∀ k ∈ lotF fr, k < mn R C sd := fun k hk => by have := lot_lt hk; omega
  have df := differences_ok (fu := fu) (K := K) (s := u) (by omega) (pm_ok g h2) hlot so.lt so.ne (by have := lot_len (fr := fr); omega) so.l5
  obtain ⟨d1, d2, d3⟩ := DM_sh (pm_ok g h2) hlot so.lt so.ne
  have ol := only_line_ok (fu := fu) (K := K - 1) (s := u) hf (A0 := DM (pm A B C sd) (lotF fr) (spF A B R C sd fr)) (m := (spF A B R C sd fr).length - 1) (n := (lotF fr).length) ⟨d1, d2, fun r hr x hx => Nat.lt_trans (d3 r hr x hx) (by decide)⟩ (by have := so.l5; omega) (by have := lot_len (fr := fr); omega)
  rw [show K - 1 + 1 = K by omega] at ol
  obtain ⟨v, w, e1, hw, hv⟩ := ol.ex
  subst hw
  rcases hv with ⟨rfl, no⟩ | ⟨xs, rfl, on⟩
  · have c0 : crn A B R C sd fr = false := oneB_f.mpr no
    simp [-List.map_map, p, df, e1, c0, cmpV, noneV]
    exact Lv_len rfl ⟨rfl, rfl⟩
  · have c1 : crn A B R C sd fr = true := oneB_t.mpr on
    simp [-List.map_map, p, df, e1, c1, cmpV, noneV]
    exact Lv_len rfl ⟨rfl, rfl⟩
theorem is_corner_ok (hK : 9 ≤ K) (hf : 10 ≤ fu) (g : Gv A B R C) (h2 : sd < 2) (h : Wq ws (mn R C sd)) : callI tab fu K i_is_corner [.d (gD A B), .d (.int sd), .d (mixD ws)] s = .ok (.d (.bool (crn A B R C sd (frs ws)))) s := by
  obtain ⟨K, rfl⟩ : ∃ k, K = k + 1 := ⟨K - 1, by omega⟩
  have h1 := need_asked_ok (fu := fu) (K := K) (s := s) (by omega) g h2 h
  have h3 := is_corner_of_ok (fu := fu) (K := K) (s := s) (by omega) hf g h2 h.fb
  have h3' : callI tab fu K i_is_corner_of [.d (gD A B), .d (.int sd), .d (mixD ws)] s = .ok (.d (.bool (crn A B R C sd (frs ws)))) s := h3
  refine Ok_one (Ok_call (F := d_is_corner) rfl rfl ?_)
  simp [d_is_corner, b_is_corner, h1, h3']
  exact Lv_len rfl ⟨rfl, rfl⟩
end
end Law

set_option maxHeartbeats 1000000
namespace Law
open PySem SM
section
variable {fu K : Nat} {s t u : Sto} {A B M : List (List Int)} {m n R C c : Nat} {ws l : List Int} {sd : Nat} {fr : List (Int × Int)}
theorem w_max_r {is : List Int} {p : Nat} {mf : Bool} (h : listAt p s = some (is.map vI)) (h0 : is ≠ []) : biV mf .max [.r p] s = some (.d (.int (mxF is)), s) := by
  show ((dataV (.r p) s).bind ints?).bind _ = _
  have h : dataV (.r p) s = some (is.map .int) := by
    show (listAt p s).bind allD = _
    rw [h]
    exact allD_vI _
  rw [h]
  show (ints? (is.map .int)).bind _ = _
  rw [w_ints, Option.bind_some, maxL_mx h0]
  rfl
theorem zip_filter {α : Type} {l : List Int} (p : Int × Nat → Bool) (f : Int × Nat → α) : (l.zipIdx.filter p).map f = ((List.range l.length).filter fun k => p (l.getD k 0, k)).map fun k => f (l.getD k 0, k) := by
  have e : l.zipIdx = (List.range l.length).map fun k => (l.getD k 0, k) := by
    have := zipIdx_range (0 : Int) (fun p : Int × Nat => p) l
    rwa [List.map_id'] at this
  rw [e, List.filter_map, List.map_map]
  rfl
theorem pays_ok {sd : Nat} (hK : 1 ≤ K) (g : Gv A B R C) (h2 : sd < 2) : callI tab fu K i__law_pays [.d (gD A B), .d (.int sd)] s = .ok (.d (.list ((pm A B C sd).map lsD))) s := by
  obtain ⟨K, rfl⟩ : ∃ k, K = k + 1 := ⟨K - 1, by omega⟩
  have h2 : sd = 0 ∨ sd = 1 := by omega
  have hl := g.ra
  have hb := g.rb
  have r1 := g.r1
  have r5 := g.r5
  have c5 := g.c5
  have r0 : L2.atI (A.map rowD) 0 = some (rowD (A.getD 0 [])) := at_row (i := 0) (by omega)
  have l0 := (g.ca _ (SM.getD_mem (d := []) (show 0 < A.length by omega))).1
  refine Ok_one (Ok_call (F := d__law_pays) rfl rfl ?_)
  simp only [d__law_pays, b__law_pays]
  rcases h2 with rfl | rfl
  · have cmp : ev (callI tab fu K) (.comp false (.bi false .list (.cons (.var 2) .nil)) (.var 2) (.itv (.idx (.var 0) (.lit (.int 1)))) .nil [2]) [some (.d (gD A B)), some (.d (.int 0)), none, none] s = .ok (.d (.list (B.map lsD))) s := by
      refine comp_on rowD _ (by simp) (by omega) fun r hr => ⟨_, rfl, ?_⟩
      have := (g.cb r hr).1
      simp [wipe, rowD, lsD, show r.length ≤ 16777216 by omega]
    simp [-List.map_map, evT_eq, cmp]
    exact Lv_len rfl ⟨rfl, rfl⟩
  · have cmp : ev (callI tab fu K) (.comp false (.comp false (.idx (.var 2) (.var 3)) (.var 2) (.itv (.idx (.var 0) (.lit (.int 0)))) .nil [2]) (.var 3) (.rng1 (.bi false .len (.cons (.idx (.idx (.var 0) (.lit (.int 0))) (.lit (.int 0))) .nil))) .nil [3]) [some (.d (gD A B)), some (.d (.int 1)), none, none] s = .ok (.d (.list ((trp A C).map lsD))) s := by
      unfold trp
      rw [List.map_map]
      refine comp_on (fun j : Nat => PyData.int j) _ ?_ (by simp; omega) fun j hj => ⟨_, rfl, ?_⟩
      · have := rng1_ok (C := callI tab fu K) (a := .bi false .len (.cons (.idx (.idx (.var 0) (.lit (.int 0))) (.lit (.int 0))) .nil)) (e := [some (.d (gD A B)), some (.d (.int 1)), none, none]) (s := s) (t := s) (k := C) (by simp [-List.getD_eq_getElem?_getD, r0, l0]) (by omega) (by omega)
        simpa using this
      · have hj : j < C := by simpa using hj
        have c := trp_ev (Ca := callI tab fu K) (s := s) (r3 := 0) (r2 := 0) (e := [some (.d (gD A B)), some (.d (.int 1)), none, some (.d (.int j))]) (it := .itv (.idx (.var 0) (.lit (.int 0)))) (elt := .idx (.var 2) (.var 3)) (tg := .var 2) (own := [2]) rowD g.ca (by omega) hj (by simp) fun r hr => ⟨_, rfl, by
          have a := at_int (r := r) (i := j) (by rw [hr.1]; exact hj)
          simp [-List.getD_eq_getElem?_getD, wipe, a]⟩
        simp [-List.map_map, -List.getD_eq_getElem?_getD, wipe, c]
        rfl
    simp [-List.map_map, evT_eq, cmp]
    exact Lv_len rfl ⟨rfl, rfl⟩
theorem csum_range (hM : M.length = m) (hw : ws.length = m) {j : Nat} : csum ws M j = ((List.range m).map fun k => ws.getD k 0 * gt M k j).sum := by
  unfold csum
  congr 1
  subst hM
  induction M generalizing ws with
  | nil =>
    have : ws = [] := List.eq_nil_of_length_eq_zero (by simpa using hw)
    subst this
    rfl
  | cons r M ih =>
    cases ws with
    | nil => simp at hw
    | cons w ws =>
      rw [List.length_cons, List.range_succ_eq_map, List.map_cons, List.map_map]
      simp only [List.zip_cons_cons, List.map_cons]
      rw [ih (by simpa using hw)]
      rfl
def LbJ (A B : List (List Int)) (sd : Nat) (fr : List (Int × Int)) (M : List (List Int)) (L : Int) (s : Sto) (j : Nat) (e : Sl) (v : Sto) : Prop := ∃ x5 x8, v = s ++ [some (.lst ((sumsF (wtF L fr) M j).map vI))] ∧ e = [some (.d (gD A B)), some (.d (.int sd)), some (.d (.tuple (fr.map frD))), some (.d (.list (M.map lsD))), some (.d (.int L)), x5, some (.d (.list ((wtF L fr).map .int))), some (.r s.length), x8, none, none]
theorem llabels_ok (hK : 2 ≤ K) (g : Gv A B R C) (h2 : sd < 2) (h : Fb fr (mn R C sd)) : callI tab fu K i__law_labels [.d (gD A B), .d (.int sd), .d (.tuple (fr.map frD))] s = .ok (.d (.list (LSp sd (wtF (prF 1 fr) fr) (pm A B C sd) (mn R C (1 - sd))))) s := by
  obtain ⟨K, rfl⟩ : ∃ k, K = k + 1 := ⟨K - 1, by omega⟩
  have py := pays_ok (fu := fu) (K := K) (s := s) (by omega) g h2
  have mt := pm_ok g h2
  have lf := h.len
  have m5 := h.m5
  generalize pm A B C sd = M at *
  generalize hm : mn R C sd = m at *
  generalize hn : mn R C (1 - sd) = n at *
  have lM := mt.len
  have n5 := mt.n5
  have n1 := mt.n1
  have m1 := mt.m1
  obtain ⟨L, hL⟩ : ∃ L, L = prF 1 fr := ⟨_, rfl⟩
  rw [← hL]
  have Lb := h.pr
  rw [← hL] at Lb
  have lw : (wtF L fr).length = m := by simp [wtF, lf]
  refine Ok_one (Ok_call (F := d__law_labels) rfl rfl ?_)
  simp only [d__law_labels, b__law_labels]
  refine Sw_cut (fun e t => t = s ∧ e = [some (.d (gD A B)), some (.d (.int sd)), some (.d (.tuple (fr.map frD))), some (.d (.list (M.map lsD))), some (.d (.int 1)), none, none, none, none, none, none]) ?_ fun e t ⟨ht, he⟩ => ?_
  · simp [-List.map_map, py]
    rw [Sw_tgF]
    exact ⟨_, rfl, rfl, rfl⟩
  subst ht he
  refine Sw_cut (fun e u => u = t ∧ ∃ x5, e = [some (.d (gD A B)), some (.d (.int sd)), some (.d (.tuple (fr.map frD))), some (.d (.list (M.map lsD))), some (.d (.int L)), x5, none, none, none, none, none]) ?_ fun e u ⟨hu, x5, he⟩ => ?_
  · rw [exS_for_vals (itv_t rfl)]
    refine Sw_goM frD (fun r e u => u = t ∧ ∃ (a : Int) (x5 : Option Vl), prF a r = prF 1 fr ∧ (∀ p ∈ r, p ∈ fr) ∧ e = [some (.d (gD A B)), some (.d (.int sd)), some (.d (.tuple (fr.map frD))), some (.d (.list (M.map lsD))), some (.d (.int a)), x5, none, none, none, none, none]) (fun p r e u ⟨hu, a, x5, ha, hm, he⟩ => ?_) (fun e u h => ?fin) ⟨rfl, 1, none, rfl, fun _ h => h, rfl⟩
    case fin =>
      obtain ⟨hu, a, x5, ha, hm, he⟩ := h
      exact ⟨hu, x5, by rw [hL, ← ha]; exact he⟩
    subst he hu
    rw [turnS_var]
    have hp := hm p List.mem_cons_self
    have ad : a ∣ L := by rw [hL, ← ha]; exact prF_dvd.1
    have al := Nat.le_of_dvd (show 0 < L.natAbs by omega) (Int.natAbs_dvd_natAbs.mpr ad)
    have mo : mulOk a p.2 := mulOk_of (Nat.lt_of_le_of_lt al Lb.2) (h.p2 p hp) (by omega)
    simp [frD, idx0, mo]
    exact ⟨ha, fun q r hq => hm (q, r) (List.mem_cons_of_mem _ hq)⟩
  subst hu he
  have c3 : ev (callI tab fu K) (.comp false (.bop false .mul (.idx (.var 5) (.lit (.int 0))) (.bop false .fdiv (.var 4) (.idx (.var 5) (.lit (.int 1))))) (.var 5) (.itv (.var 2)) .nil [5]) [some (.d (gD A B)), some (.d (.int sd)), some (.d (.tuple (fr.map frD))), some (.d (.list (M.map lsD))), some (.d (.int L)), x5, none, none, none, none, none] u = .ok (.d (.list ((wtF L fr).map .int))) u := by
    unfold wtF
    rw [List.map_map]
    refine comp_on frD _ (itv_t rfl) (by omega) fun p hp => ⟨_, rfl, ?_⟩
    have p1 := h.p1 p hp
    have p2 := h.p2 p hp
    have l9 : p.2.natAbs.log2 < 9000 := log_lt p2 (by omega) (by omega)
    have hd : (L / p.2).natAbs < 2 ^ 10001 := Nat.lt_of_le_of_lt (Int.natAbs_ediv_le_natAbs L p.2) Lb.2
    have mo : mulOk p.1 (L / p.2) := mulOk_of (h.n2 p hp) hd (by omega)
    have p0 : 0 < p.2 := by omega
    simp [wipe, frD, l9, p0, mo]
  refine Sw_cut (fun e v => v = u ∧ ∃ x5, e = [some (.d (gD A B)), some (.d (.int sd)), some (.d (.tuple (fr.map frD))), some (.d (.list (M.map lsD))), some (.d (.int L)), x5, some (.d (.list ((wtF L fr).map .int))), none, none, none, none]) ?_ fun e v ⟨hv, x5, he⟩ => ?_
  · simp [-List.map_map, c3]
  subst hv he
  refine Sw_cut (LbJ A B sd fr M L v 0) ?_ fun e w ⟨y5, y8, hw, he⟩ => ?_
  · simp [-List.map_map, mkL_true]
    exact ⟨_, _, rfl, rfl⟩
  have a0 : L2.atI (M.map lsD) 0 = some (lsD (M.getD 0 [])) := by
    rw [show (0 : Int) = ((0 : Nat) : Int) by rfl, atI_nat (i := 0) (by simp; omega), SM.getD_lt (show 0 < M.length by omega)]; simp
  have l0 := (mt.rw_ _ (SM.getD_mem (d := []) (show 0 < M.length by omega))).1
  have lenl : ∀ q, biV false .len [.d (lsD (M.getD 0 []))] q = some (.d (.int n), q) := fun q => by unfold lsD; rw [w_len_l]; simp only [List.length_map, l0]
  refine Sw_cut (LbJ A B sd fr M L v n) ?_ fun e x ⟨z5, z8, hx, hex⟩ => ?_
  · subst he hw
    have rg := rng1_ok (C := callI tab fu K) (a := .bi false .len (.cons (.idx (.var 3) (.lit (.int 0))) .nil)) (e := [some (.d (gD A B)), some (.d (.int sd)), some (.d (.tuple (fr.map frD))), some (.d (.list (M.map lsD))), some (.d (.int L)), y5, some (.d (.list ((wtF L fr).map .int))), some (.r v.length), y8, none, none]) (s := v ++ [some (.lst ((sumsF (wtF L fr) M 0).map vI))]) (t := v ++ [some (.lst ((sumsF (wtF L fr) M 0).map vI))]) (k := n) (by simp [-List.map_map, -List.getD_eq_getElem?_getD, a0, lenl]) (by omega) (by omega)
    rw [Int.toNat_natCast] at rg
    rw [exS_for_vals rg]
    refine Sw_goR n (LbJ A B sd fr M L v) (fun j hj e x ⟨z5, z8, hx, he⟩ => ?_) (fun e v h => h) ⟨_, _, rfl, rfl⟩
    subst he hx
    rw [turnS_var]
    have c : ∀ q, ev (callI tab fu K) (.bi false .sum (.cons (.comp false (.bop false .mul (.idx (.var 6) (.var 9)) (.idx (.idx (.var 3) (.var 9)) (.var 8))) (.var 9) (.rng1 (.bi false .len (.cons (.var 6) .nil))) .nil [9]) .nil)) [some (.d (gD A B)), some (.d (.int sd)), some (.d (.tuple (fr.map frD))), some (.d (.list (M.map lsD))), some (.d (.int L)), z5, some (.d (.list ((wtF L fr).map .int))), some (.r v.length), some (.d (.int j)), none, none] q = .ok (.d (.int (csum (wtF L fr) M j))) q := fun q => by
      have cc : ev (callI tab fu K) (.comp false (.bop false .mul (.idx (.var 6) (.var 9)) (.idx (.idx (.var 3) (.var 9)) (.var 8))) (.var 9) (.rng1 (.bi false .len (.cons (.var 6) .nil))) .nil [9]) [some (.d (gD A B)), some (.d (.int sd)), some (.d (.tuple (fr.map frD))), some (.d (.list (M.map lsD))), some (.d (.int L)), z5, some (.d (.list ((wtF L fr).map .int))), some (.r v.length), some (.d (.int j)), none, none] q
          = .ok (.d (.list (((List.range m).map fun k => (wtF L fr).getD k 0 * gt M k j).map .int))) q := by
        rw [List.map_map]
        refine comp_on (fun k : Nat => PyData.int k) _ ?_ (by simp; omega) fun k hk => ⟨_, rfl, ?_⟩
        · simp [lw, show m ≤ 1000000 by omega]
        · have hk := List.mem_range.mp hk
          have a1 := at_int (r := wtF L fr) (i := k) (by omega)
          have a2 : L2.atI (M.map lsD) (k : Int) = some (lsD (M.getD k [])) := by
            rw [atI_nat (i := k) (by simp; omega), SM.getD_lt (show k < M.length by omega)]; simp
          have rk := mt.rw_ _ (SM.getD_mem (d := []) (show k < M.length by omega))
          have a3 := ls_at (row := M.getD k []) (x := j) (q := q) (by rw [rk.1]; exact hj)
          have mo : mulOk ((wtF L fr).getD k 0) ((M.getD k []).getD j 0) := mulOk_r (by
            have := gt_abs (rk.2 _ (SM.getD_mem (i := j) (d := 0) (by rw [rk.1]; exact hj)))
            omega)
          simp [-List.getD_eq_getElem?_getD, wipe, a1, a2, a3, mo]
          rfl
      simp only [ev_bi, evs_cons, evs_nil, cc, ok_bind, w_sum, ofP_some]
      rw [csum_range lM lw]
    have ap := app_new (s := v) (vs := (sumsF (wtF L fr) M j).map vI) (v := .d (.int (csum (wtF L fr) M j))) (by simp [sumsF]; omega)
    simp only [exS_cons, exS_expr', ev_me, ev_var, List.set_cons_succ, List.set_cons_zero, List.getElem?_cons_succ, List.getElem?_cons_zero, varR_some, ok_bind, meR_new, evs_cons, evs_nil, c, ap, ofP_some, bindF_ok, exS_nil, thenF_nx]
    refine ⟨_, _, ?_, rfl⟩
    have e : sumsF (wtF L fr) M (j + 1) = sumsF (wtF L fr) M j ++ [csum (wtF L fr) M j] := by unfold sumsF; rw [List.range_succ, List.map_append]; rfl
    rw [e, List.map_append]
    rfl
  subst hx hex
  have hne : sumsF (wtF L fr) M n ≠ [] := fun z => by have := sums_len (ws := wtF L fr) (M := M) (n := n); rw [z] at this; simp at this; omega
  have sl := sums_len (ws := wtF L fr) (M := M) (n := n)
  obtain ⟨V, hV⟩ : ∃ V, V = v ++ [some (Ob.lst ((sumsF (wtF L fr) M n).map vI))] := ⟨_, rfl⟩
  have lV : listAt v.length V = some ((sumsF (wtF L fr) M n).map vI) := by rw [hV]; exact listAt_new
  rw [← hV]
  refine Sw_cut (fun e x => x = V ∧ e = [some (.d (gD A B)), some (.d (.int sd)), some (.d (.tuple (fr.map frD))), some (.d (.list (M.map lsD))), some (.d (.int L)), z5, some (.d (.list ((wtF L fr).map .int))), some (.r v.length), z8, none, some (.d (.list (ownL sd (wtF L fr))))]) ?_ fun e x ⟨hx, he⟩ => ?_
  · have c4 : ev (callI tab fu K) (.comp false (.tup (.cons (.var 1) (.cons (.var 9) .nil))) (.var 9) (.rng1 (.bi false .len (.cons (.var 6) .nil))) (.cons (.cmp .eq (.idx (.var 6) (.var 9)) (.lit (.int 0))) .nil) [9]) [some (.d (gD A B)), some (.d (.int sd)), some (.d (.tuple (fr.map frD))), some (.d (.list (M.map lsD))), some (.d (.int L)), z5, some (.d (.list ((wtF L fr).map .int))), some (.r v.length), z8, none, none] V = .ok (.d (.list (ownL sd (wtF L fr)))) V := by
      unfold ownL
      rw [zip_filter, lw]
      refine filter_on (fun k : Nat => PyData.int k) _ _ ?_ (by simp; omega) fun k hk => ⟨_, rfl, ?_, fun _ => ?_⟩
      · simp [lw, show m ≤ 1000000 by omega]
      · have hk := List.mem_range.mp hk
        have a1 := at_int (r := wtF L fr) (i := k) (by omega)
        simp [-List.getD_eq_getElem?_getD, wipe, a1, evT_eq, cmpV, dataOf, eqD_int]
      · simp [wipe]
    simp [-List.map_map, c4]
  subst hx he
  have c5 : ev (callI tab fu K) (.comp false (.tup (.cons (.bop false .sub (.lit (.int 1)) (.var 1)) (.cons (.var 8) .nil))) (.var 8) (.rng1 (.bi false .len (.cons (.var 7) .nil))) (.cons (.cmp .eq (.idx (.var 7) (.var 8)) (.bi false .max (.cons (.var 7) .nil))) .nil) [8]) [some (.d (gD A B)), some (.d (.int sd)), some (.d (.tuple (fr.map frD))), some (.d (.list (M.map lsD))), some (.d (.int L)), z5, some (.d (.list ((wtF L fr).map .int))), some (.r v.length), z8, none, some (.d (.list (ownL sd (wtF L fr))))] x = .ok (.d (.list (bstL sd (sumsF (wtF L fr) M n)))) x := by
    unfold bstL
    rw [zip_filter, sl]
    refine filter_on (fun k : Nat => PyData.int k) _ _ ?_ (by simp; omega) fun k hk => ⟨_, rfl, ?_, fun _ => ?_⟩
    · rw [vI_map] at lV
      have := len_at (mf := false) lV
      simp only [List.length_map, sl] at this
      simp [-w_len_r, this, show n ≤ 1000000 by omega]
    · have hk := List.mem_range.mp hk
      have a1 : idxV (.r v.length) (.d (.int (k : Int))) x = some (.d (.int ((sumsF (wtF L fr) M n).getD k 0)), x) := by
        rw [idxV_r, lV, Option.bind_some, atI_nat (by simpa [sl] using hk), SM.getD_lt (by omega)]
        simp
        rfl
      have a2 := w_max_r (mf := false) lV hne
      simp [-List.getD_eq_getElem?_getD, -idxV_r, wipe, a1, a2, evT_eq, cmpV, dataOf, eqD_int]
    · simp [wipe]
  have hl1 : (ownL sd (wtF L fr)).length ≤ 5 := by
    have := List.length_filter_le (fun p : Int × Nat => decide (p.1 = 0)) (wtF L fr).zipIdx
    simp only [List.length_zipIdx] at this
    simp only [ownL, List.length_map]
    omega
  have hl2 : (bstL sd (sumsF (wtF L fr) M n)).length ≤ 5 := by
    have := List.length_filter_le (fun p : Int × Nat => decide (p.1 = mxF (sumsF (wtF L fr) M n))) (sumsF (wtF L fr) M n).zipIdx
    simp only [List.length_zipIdx, sl] at this
    simp only [bstL, List.length_map]
    omega
  have hl3 : bstL sd (sumsF (wtF L fr) M n) ≠ [] := fun z => by
    have e := count_zip (mxF (sumsF (wtF L fr) M n)) (sumsF (wtF L fr) M n) 0
    have e2 : (bstL sd (sumsF (wtF L fr) M n)).length = 0 := by rw [z]; rfl
    simp only [bstL, List.length_map] at e2
    rw [e2] at e
    have := List.count_pos_iff.mpr (mxF_mem hne)
    omega
  have pr : ∀ d ∈ ownL sd (wtF L fr) ++ bstL sd (sumsF (wtF L fr) M n), pairB d = true := fun d hd => by
    rcases List.mem_append.mp hd with hd | hd
    · obtain ⟨p, hp, rfl⟩ := List.mem_map.mp hd
      have := List.snd_lt_of_mem_zipIdx ((List.mem_filter.mp hp).1)
      simp [pairB]
      omega
    · obtain ⟨p, hp, rfl⟩ := List.mem_map.mp hd
      have := List.snd_lt_of_mem_zipIdx ((List.mem_filter.mp hp).1)
      simp [pairB]
      omega
  have so := sorted_pairs (s := x) pr (by simp; omega) (by simp [hl3])
  simp [-List.map_map, c5, so, show (ownL sd (wtF L fr)).length + (bstL sd (sumsF (wtF L fr) M n)).length ≤ 16777216 by omega]
  rw [hV]
  exact Lv_app ⟨rfl, rfl⟩
end
end Law

set_option maxHeartbeats 1000000
namespace Law
open PySem SM
section
variable {fu K : Nat} {s t u : Sto} {A B M : List (List Int)} {m n R C c : Nat} {ws l : List Int} {sd : Nat} {fr : List (Int × Int)} {lot sp : List Nat}
/-- the rows, as the law makes them -/
theorem lrows_ev {Ca : Cal} {e : Sl} {v0 v1 v2 v3 v4 : Nat} {o1 o2 : List Nat} (h : Mt M m n) (hl : ∀ k ∈ lot, k < m) (hs : ∀ j ∈ sp, j < n) (h0 : sp ≠ []) (l5 : lot.length ≤ 5) (s5 : sp.length ≤ 5)
    (q1 : e[v2]? = some (some (.d (.list (sp.map fun k : Nat => PyData.int k)))))
    (q2 : ∀ j : Nat, ((wipe e o1).set v3 (some (.d (.int j))))[v1]? = some (some (.d (.list (lot.map fun k : Nat => PyData.int k)))))
    (q3 : ∀ j k : Nat, ((wipe ((wipe e o1).set v3 (some (.d (.int j)))) o2).set v4 (some (.d (.int k))))[v0]? = some (some (.d (.list (M.map lsD)))) ∧ ((wipe ((wipe e o1).set v3 (some (.d (.int j)))) o2).set v4 (some (.d (.int k))))[v4]? = some (some (.d (.int k))) ∧ ((wipe ((wipe e o1).set v3 (some (.d (.int j)))) o2).set v4 (some (.d (.int k))))[v3]? = some (some (.d (.int j))) ∧ ((wipe ((wipe e o1).set v3 (some (.d (.int j)))) o2).set v4 (some (.d (.int k))))[v2]? = some (some (.d (.list (sp.map fun k : Nat => PyData.int k))))) :
    ev Ca (.comp false (.comp false (.bop false .sub (.idx (.idx (.var v0) (.var v4)) (.var v3)) (.idx (.idx (.var v0) (.var v4)) (.idx (.var v2) (.lit (.int 0))))) (.var v4) (.itv (.var v1)) .nil o2) (.var v3) (.itv (.sli false (.var v2) (.cons (.lit (.int 1)) .nil) .nil)) .nil o1) e s = .ok (.d (.list ((DM M lot sp).map lsD))) s := by
  have hM := h.len
  have p0 : 0 < sp.length := List.length_pos_iff.mpr h0
  have s0 : sp.getD 0 0 ∈ sp := by
    rw [SM.getD_lt p0]
    exact List.getElem_mem _
  have i0 : L2.atI (sp.map fun k : Nat => PyData.int k) 0 = some (.int ((sp.getD 0 0 : Nat) : Int)) := by
    have := atI_nat (vs := sp.map fun k : Nat => PyData.int k) (i := 0) (by simpa using p0)
    rw [SM.getD_lt p0]
    simpa using this
  unfold DM
  rw [List.map_map]
  refine comp_on (fun k : Nat => PyData.int k) _ ?_ (by simp; omega) fun j hj => ⟨_, rfl, ?_⟩
  · have := cut_from (sp.map fun k : Nat => PyData.int k) (i := 1) (by decide)
    simp [q1, this, show sp.length - 1 ≤ 16777216 by omega]
  · have hj := hs j (List.mem_of_mem_tail hj)
    have e1 : lsD (lot.map fun k => gt M k j - gt M k (sp.getD 0 0)) = .list (lot.map fun k => .int (gt M k j - gt M k (sp.getD 0 0))) := by
      unfold lsD
      rw [List.map_map]
      rfl
    show _ = Rs.ok (Vl.d (lsD (lot.map fun k => gt M k j - gt M k (sp.getD 0 0)))) s
    rw [e1]
    refine comp_on (fun k : Nat => PyData.int k) _ (by simp [q2]) (by omega) fun k hk => ⟨_, rfl, ?_⟩
    have hk := hl k hk
    obtain ⟨b1, b2, b3, b4⟩ := q3 j k
    have a2 : L2.atI (M.map lsD) (k : Int) = some (lsD (M.getD k [])) := by
      rw [atI_nat (i := k) (by simp; omega), SM.getD_lt (show k < M.length by omega)]; simp
    have rl := (h.rw_ _ (SM.getD_mem (d := []) (show k < M.length by omega))).1
    have a3 := ls_at (row := M.getD k []) (x := j) (q := s) (by omega)
    have a4 := ls_at (row := M.getD k []) (x := sp.getD 0 0) (q := s) (by have := hs _ s0; omega)
    simp [-List.getD_eq_getElem?_getD, b1, b2, b3, b4, a2, a3, a4, i0]
    rfl
theorem wt_at {L : Int} {k : Nat} (hk : k < fr.length) : (wtF L fr).getD k 0 = (fr.getD k (0, 1)).1 * (L / (fr.getD k (0, 1)).2) := by
  rw [SM.getD_lt (by simpa [wtF] using hk), SM.getD_lt hk]
  simp [wtF]
theorem ws_zero (h : Fb fr m) {k : Nat} (hk : k < fr.length) : (wsF fr).getD k 0 = 0 ↔ ¬ 0 < (fr.getD k (0, 1)).1 := by
  unfold wsF
  rw [wt_at hk]
  have hm := SM.getD_mem (d := ((0 : Int), (1 : Int))) hk
  have n0 := h.n0 _ hm
  have p1 := h.p1 _ hm
  have l1 := h.lc.1
  have dv : (fr.getD k (0, 1)).2 ∣ lcF 1 fr := lcF_dvd.2 _ hm
  have q1 : 1 ≤ lcF 1 fr / (fr.getD k (0, 1)).2 := by
    obtain ⟨z, hz⟩ := dv
    rw [hz, Int.mul_ediv_cancel_left _ (by omega)]
    rcases Int.lt_or_le 0 z with h | h
    · omega
    · have : (fr.getD k (0, 1)).2 * z ≤ 0 := Int.mul_nonpos_of_nonneg_of_nonpos (by omega) h
      omega
  refine ⟨fun z => ?_, fun z => ?_⟩
  · rcases Int.mul_eq_zero.mp z with h | h <;> omega
  · rw [show (fr.getD k (0, 1)).1 = 0 by omega, Int.zero_mul]
theorem lalone_ok (hK : 4 ≤ K) (hf : 2 ^ 2000 ≤ fu) (g : Gv A B R C) (h2 : sd < 2) (h : Fb fr (mn R C sd)) : callI tab fu K i__law_alone [.d (gD A B), .d (.int sd), .d (.tuple (fr.map frD))] s = .ok (.d (.bool (crn A B R C sd fr))) s := by
  obtain ⟨K, rfl⟩ : ∃ k, K = k + 1 := ⟨K - 1, by omega⟩
  have py := pays_ok (fu := fu) (K := K) (s := s) (by omega) g h2
  have lb := llabels_ok (fu := fu) (K := K) (s := s) (by omega) g h2 h
  have mt := pm_ok g h2
  rw [LSp_same h.p1 mt.n1] at lb
  have fl := h.len
  have m5 := h.m5
  have so := spOk (fr := fr) g h2
  have ps : sortP (ownL sd (wsF fr) ++ bstL sd (smF A B R C sd fr)) = (psL sd (wsF fr) (smF A B R C sd fr)).map pD := ps_eq h2
  have lb' : callI tab fu K i__law_labels [.d (gD A B), .d (.int sd), .d (.tuple (fr.map frD))] s = .ok (.d (.list ((psL sd (wsF fr) (smF A B R C sd fr)).map pD))) s := by
    rw [← ps]; exact lb
  have lw : (wsF fr).length = fr.length := by simp [wsF, wtF]
  have pl : (psL sd (wsF fr) (smF A B R C sd fr)).length ≤ 1000 := by
    have e := labels_len (ws := wsF fr) (sd := sd) (l := smF A B R C sd fr)
    rw [ps, List.length_map] at e
    have h1 := List.count_le_length (a := 0) (l := wsF fr)
    have h3 : cntF (smF A B R C sd fr) ≤ (smF A B R C sd fr).length := List.count_le_length
    have h4 : (smF A B R C sd fr).length = mn R C (1 - sd) := sums_len
    have h5 := mt.n5
    omega
  have po : ∀ k, k < fr.length → ((sd, k) ∈ psL sd (wsF fr) (smF A B R C sd fr) ↔ ¬ 0 < (fr.getD k (0, 1)).1) := fun k hk => by
    rw [ps_own h2, ws_zero h hk]
    exact ⟨fun z => z.2, fun z => ⟨by omega, z⟩⟩
  have hspf : ((psL sd (wsF fr) (smF A B R C sd fr)).filter fun p => decide (p.1 ≠ sd)).map (fun p => p.2) = spF A B R C sd fr := rfl
  generalize psL sd (wsF fr) (smF A B R C sd fr) = PS at *
  refine Ok_one (Ok_call (F := d__law_alone) rfl rfl ?_)
  simp only [d__law_alone, b__law_alone]
  refine Sw_cut (fun e t => t = s ∧ e = [some (.d (gD A B)), some (.d (.int sd)), some (.d (.tuple (fr.map frD))), some (.d (.list ((pm A B C sd).map lsD))), some (.d (.list (PS.map pD))), none, none, none, none, none, none, none]) ?_ fun e t ⟨ht, he⟩ => ?_
  · simp [-List.map_map, py, lb']
    rw [Sw_tgF]
    exact ⟨_, rfl, rfl, rfl⟩
  subst ht he
  refine Sw_cut (fun e u => u = t ∧ e = [some (.d (gD A B)), some (.d (.int sd)), some (.d (.tuple (fr.map frD))), some (.d (.list ((pm A B C sd).map lsD))), some (.d (.list (PS.map pD))), some (.d (.list ((lotF fr).map fun k : Nat => PyData.int k))), none, none, none, none, none, none]) ?_ fun e u ⟨hu, he⟩ => ?_
  · have c1 : ev (callI tab fu K) (.comp false (.var 6) (.var 6) (.rng1 (.bi false .len (.cons (.var 2) .nil))) (.cons (.cmp .nin (.tup (.cons (.var 1) (.cons (.var 6) .nil))) (.var 4)) .nil) [6]) [some (.d (gD A B)), some (.d (.int sd)), some (.d (.tuple (fr.map frD))), some (.d (.list ((pm A B C sd).map lsD))), some (.d (.list (PS.map pD))), none, none, none, none, none, none, none] t = .ok (.d (.list ((lotF fr).map fun k : Nat => PyData.int k))) t := by
      unfold lotF
      refine filter_on (fun k : Nat => PyData.int k) (fun k : Nat => PyData.int k) _ ?_ (by simp; omega) fun k hk => ⟨_, rfl, ?_, fun _ => ?_⟩
      · simp [show fr.length ≤ 1000000 by omega]
      · have hk := List.mem_range.mp hk
        have e1 : cmpV .nin (.d (pD (sd, k))) (.d (.list (PS.map pD))) t = some (decide (0 < (fr.getD k (0, 1)).1)) := by
          show ((some (pD (sd, k))).bind fun a => (dataV (.d (.list (PS.map pD))) t).bind fun l => inD a l).map (!·) = _
          have e2 : dataV (.d (.list (PS.map pD))) t = some (PS.map pD) := allD_map _
          rw [e2, Option.bind_some, Option.bind_some, inD_pairs]
          have := po k hk
          by_cases z : 0 < (fr.getD k (0, 1)).1
          · have z2 : ¬ (sd, k) ∈ PS := fun w => this.mp w z
            simp only [z2, z, decide_true, decide_false]
            rfl
          · have z2 : (sd, k) ∈ PS := this.mpr z
            simp only [z2, z, decide_true, decide_false]
            rfl
        simp only [pD] at e1
        simp [-List.getD_eq_getElem?_getD, wipe, evT_eq, e1]
      · simp [wipe]
    simp [-List.map_map, c1]
  subst hu he
  refine Sw_cut (fun e t => t = u ∧ e = [some (.d (gD A B)), some (.d (.int sd)), some (.d (.tuple (fr.map frD))), some (.d (.list ((pm A B C sd).map lsD))), some (.d (.list (PS.map pD))), some (.d (.list ((lotF fr).map fun k : Nat => PyData.int k))), none, some (.d (.list ((spF A B R C sd fr).map fun k : Nat => PyData.int k))), none, none, none, none]) ?_ fun e t ⟨ht, he⟩ => ?_
  · have c2 := spots_ev (C' := callI tab fu K) (e := [some (.d (gD A B)), some (.d (.int sd)), some (.d (.tuple (fr.map frD))), some (.d (.list ((pm A B C sd).map lsD))), some (.d (.list (PS.map pD))), some (.d (.list ((lotF fr).map fun k : Nat => PyData.int k))), none, none, none, none, none, none]) (it := .itv (.var 4)) (own := [8, 6]) (sd := sd) (s := u) (a := 8) (b := 6) (sv := 1) pl (by simp [-List.map_map]) fun p => ⟨_, rfl, by simp [wipe], by simp [wipe], by simp [wipe]⟩
    rw [hspf] at c2
    simp only [exS_asgv, c2]
    simp
  subst ht he
  have hlot : ∀ k ∈ lotF fr, k < mn R C sd := fun k hk => by have := lot_lt hk; omega
  have ll5 : (lotF fr).length ≤ 5 := by have := lot_len (fr := fr); omega
  have c3 := lrows_ev (Ca := callI tab fu K) (s := t) (e := [some (.d (gD A B)), some (.d (.int sd)), some (.d (.tuple (fr.map frD))), some (.d (.list ((pm A B C sd).map lsD))), some (.d (.list (PS.map pD))), some (.d (.list ((lotF fr).map fun k : Nat => PyData.int k))), none, some (.d (.list ((spF A B R C sd fr).map fun k : Nat => PyData.int k))), none, none, none, none]) (v0 := 3) (v1 := 5) (v2 := 7) (v3 := 10) (v4 := 11) (o1 := [10]) (o2 := [11]) mt hlot so.lt so.ne ll5 so.l5 (by simp) (fun j => by simp [wipe]) fun j k => ⟨by simp [wipe], by simp [wipe], by simp [wipe], by simp [wipe]⟩
  refine Sw_cut (fun e u => u = t ∧ e = [some (.d (gD A B)), some (.d (.int sd)), some (.d (.tuple (fr.map frD))), some (.d (.list ((pm A B C sd).map lsD))), some (.d (.list (PS.map pD))), some (.d (.list ((lotF fr).map fun k : Nat => PyData.int k))), none, some (.d (.list ((spF A B R C sd fr).map fun k : Nat => PyData.int k))), none, some (.d (.list ((DM (pm A B C sd) (lotF fr) (spF A B R C sd fr)).map lsD))), none, none]) ?_ fun e u ⟨hu, he⟩ => ?_
  · simp only [exS_asgv, c3]
    simp
  subst hu he
  obtain ⟨d1, d2, d3⟩ := DM_sh mt hlot so.lt so.ne
  have ol := lline_ok (fu := fu) (K := K) (s := u) (by omega) hf d1 d2 d3 (by have := so.l5; omega) ll5
  obtain ⟨v, w, e1, hw, hv⟩ := ol.ex
  subst hw
  rcases hv with ⟨rfl, no⟩ | ⟨xs, rfl, _, _, _, on⟩
  · have c0 : crn A B R C sd fr = false := oneB_f.mpr no
    simp [-List.map_map, e1, c0, cmpV, noneV]
    exact Lv_len rfl ⟨rfl, rfl⟩
  · have c1 : crn A B R C sd fr = true := oneB_t.mpr on
    simp [-List.map_map, e1, c1, cmpV, noneV, lsD]
    exact Lv_len rfl ⟨rfl, rfl⟩
end
end Law

set_option maxHeartbeats 1000000
namespace Law
open PySem SM
section
variable {fu K : Nat} {s t u : Sto} {m n R C c p : Nat} {ws l : List Int} {sd : Nat} {fr gr : List (Int × Int)}
theorem lratio_ok {a b : Int} (hK : 2 ≤ K) (hf : 2 ^ 2000 ≤ fu) (hb : 1 ≤ b) (hl : b.natAbs < 2 ^ 2000) : callI tab fu K i__law_ratio [.d (.int a), .d (.int b)] s = .ok (.d (frD (frO a b))) s := by
  obtain ⟨K, rfl⟩ : ∃ k, K = k + 1 := ⟨K - 1, by omega⟩
  have hg := lgcd_ok (fu := fu) (K := K) (s := s) (a := a) (b := b) (by omega) (by omega)
  have g1 := gcd_pos (w := a) (show 0 < b by omega)
  have gb : (Int.gcd a b : Int) ≤ b := Int.le_of_dvd (by omega) (Int.gcd_dvd_right ..)
  have gl : (Int.gcd a b : Int).natAbs.log2 < 9000 := log_lt (k := 2000) (by omega) (by omega) (by omega)
  have g0' : 0 < Int.gcd a b := by omega
  have gl' : (Int.gcd a b).log2 < 9000 := by simpa using gl
  have nb : ¬ b < 0 := by omega
  refine Ok_one (Ok_call (F := d__law_ratio) rfl rfl ?_)
  simp [d__law_ratio, b__law_ratio, evT_eq, hg, g0', gl', nb]
  exact Lv_len rfl ⟨rfl, rfl⟩
theorem lparted_ok (hK : 3 ≤ K) (hf : 2 ^ 2000 ≤ fu) (h : Wq ws c) (hp : listAt p s = some (ws.map vI)) : callI tab fu K i__law_parted [.r p] s = .ok (.d (mixD ws)) s := by
  obtain ⟨K, rfl⟩ : ∃ k, K = k + 1 := ⟨K - 1, by omega⟩
  have hs := h.pos
  have sm := w_sum_r (m := false) hp
  have hp' := hp
  rw [vI_map] at hp'
  have c5 := h.c5
  have hl := h.len
  have cmp : ev (callI tab fu K) (.comp false (.call i__law_ratio (.cons (.var 1) (.cons (.bi false .sum (.cons (.var 0) .nil)) .nil))) (.var 1) (.itv (.var 0)) .nil [1]) [some (.r p), none] s = .ok (.d (.list ((frs ws).map frD))) s := by
    rw [comp_ref (fun d => frD (frO (unI d) ws.sum)) (itr_r (by simp) hp) hp' fun x hx => ?_]
    · have e1 : ((ws.map PyData.int).map fun d => frD (frO (unI d) ws.sum)) = (frs ws).map frD := by
        unfold frs
        rw [List.map_map, List.map_map]
        rfl
      rw [e1, mkL_data, if_pos (by simp [frs]; omega)]
      rfl
    · obtain ⟨w, hw, rfl⟩ := List.mem_map.mp hx
      refine ⟨_, rfl, ?_⟩
      have := lratio_ok (fu := fu) (K := K) (s := s) (a := w) (b := ws.sum) (by omega) hf (by omega) h.lt
      simp [wipe, sm, this]
      rfl
  refine Ok_one (Ok_call (F := d__law_parted) rfl rfl ?_)
  simp only [d__law_parted, b__law_parted]
  simp [-List.map_map, cmp]
  exact Lv_len rfl ⟨rfl, rfl⟩
/-! ### all lots -/
def ltD (l : List Nat) : PyData := .tuple (l.map fun k : Nat => PyData.int k)
def lotsA : Nat → List (List Nat)
  | 0 => [[]]
  | k + 1 => lotsA k ++ (lotsA k).map (· ++ [k])
theorem lotsA_len : ∀ k, (lotsA k).length = 2 ^ k
  | 0 => rfl
  | k + 1 => by simp [lotsA, lotsA_len k, Nat.pow_succ]; omega
def lots (k : Nat) : List (List Nat) := (lotsA k).tail
theorem lots_ok {k : Nat} (hk : k ≤ 5) : (∀ l ∈ lots k, l ≠ [] ∧ l.length ≤ 5 ∧ ∀ x ∈ l, x < k) ∧ (∀ i, i < k → [i] ∈ lots k) ∧ (lots k).length ≤ 31 := by
  have : k = 0 ∨ k = 1 ∨ k = 2 ∨ k = 3 ∨ k = 4 ∨ k = 5 := by omega
  rcases this with rfl | rfl | rfl | rfl | rfl | rfl <;> exact ⟨by decide, by decide, by decide⟩
theorem llots_ok (hK : 1 ≤ K) (h5 : m ≤ 5) : callI tab fu K i__law_lots [.d (.int m)] s = .ok (.d (.list ((lots m).map ltD))) s := by
  obtain ⟨K, rfl⟩ : ∃ k, K = k + 1 := ⟨K - 1, by omega⟩
  refine Ok_one (Ok_call (F := d__law_lots) rfl rfl ?_)
  simp only [d__law_lots, b__law_lots]
  refine Sw_cut (fun e t => t = s ∧ e = [some (.d (.int m)), some (.d (.list ((lotsA 0).map ltD))), none, none]) ?_ fun e t ⟨ht, he⟩ => ?_
  · simp [lotsA, ltD, mkL_f, allD]
  subst ht he
  refine Sw_cut (fun e u => u = t ∧ ∃ x2, e = [some (.d (.int m)), some (.d (.list ((lotsA m).map ltD))), x2, none]) ?_ fun e u ⟨hu, x2, he⟩ => ?_
  · rw [exS_for_vals (ds := (List.range m).map fun j : Nat => PyData.int j) (s' := t) (by simp [show m ≤ 1000000 by omega])]
    refine Sw_goR m (fun k e u => u = t ∧ ∃ x2, e = [some (.d (.int m)), some (.d (.list ((lotsA k).map ltD))), x2, none]) (fun k hk e u ⟨hu, x2, he⟩ => ?_) (fun _ _ z => z) ⟨rfl, none, rfl⟩
    subst hu he
    have l1 := lotsA_len k
    have l2 : 2 ^ k ≤ 2 ^ 5 := Nat.pow_le_pow_right (by decide) (by omega)
    have cmp : ev (callI tab fu K) (.comp false (.bop false .add (.var 3) (.tup (.cons (.var 2) .nil))) (.var 3) (.itv (.var 1)) .nil [3]) [some (.d (.int m)), some (.d (.list ((lotsA k).map ltD))), some (.d (.int k)), none] u = .ok (.d (.list (((lotsA k).map (· ++ [k])).map ltD))) u := by
      rw [List.map_map]
      refine comp_on ltD _ (by simp) (by omega) fun l hl => ⟨_, rfl, ?_⟩
      have : l.length ≤ 100 := by
        have a : ∀ k, ∀ l ∈ lotsA k, l.length ≤ k := fun k => by
          induction k with
          | zero => intro l hl; simp [lotsA] at hl; subst hl; simp
          | succ k ih =>
            intro l hl
            rcases List.mem_append.mp hl with hl | hl
            · exact Nat.le_succ_of_le (ih l hl)
            · obtain ⟨l', hl', rfl⟩ := List.mem_map.mp hl
              have := ih l' hl'
              simp; omega
        have := a k l hl
        omega
      simp [wipe, ltD, show l.length + 1 ≤ 16777216 by omega]
    have e1 : (lotsA k).map ltD ++ ((lotsA k).map (· ++ [k])).map ltD = (lotsA (k + 1)).map ltD := by simp [lotsA]
    simp only [turnS_var, List.set_cons_succ, List.set_cons_zero]
    simp only [exS_cons, exS_asgv, ev_bop, ev_var, List.getElem?_cons_succ, List.getElem?_cons_zero, varR_some, ok_bind, cmp]
    have ad : binV false .add (.d (.list ((lotsA k).map ltD))) (.d (.list (((lotsA k).map (· ++ [k])).map ltD))) u = some (.d (.list ((lotsA (k + 1)).map ltD)), u) := by
      show mkL false (((lotsA k).map ltD).map Vl.d ++ (((lotsA k).map (· ++ [k])).map ltD).map Vl.d) u = _
      rw [← List.map_append, e1, mkL_data, if_pos (by rw [List.length_map, lotsA_len]; have : 2 ^ (k + 1) ≤ 2 ^ 5 := Nat.pow_le_pow_right (by decide) (by omega); omega)]
    rw [ad]
    simp
  subst hu he
  have cf := cut_from ((lotsA m).map ltD) (i := 1) (by decide)
  have l1 := lotsA_len m
  have l2 : 2 ^ m ≤ 2 ^ 5 := Nat.pow_le_pow_right (by decide) (by omega)
  simp [cf, lots, l1, show 2 ^ m - 1 ≤ 16777216 by omega]
  exact Lv_len rfl ⟨rfl, rfl⟩
/-! ### one mix ahead of another -/
def BfJ (a b : Vl) (s : Sto) (e : Sl) (t : Sto) : Prop := t = s ∧ ∃ x2 x3, e = [some a, some b, x2, x3]
theorem lbefore_ok (hK : 1 ≤ K) (h : Fb fr m) (h' : Fb gr m) : Ok (callI tab fu K i__law_before [.d (.tuple (fr.map frD)), .d (.tuple (gr.map frD))] s) (fun v t => t = s ∧ ∃ b, v = .d (.bool b)) nX := by
  obtain ⟨K, rfl⟩ : ∃ k, K = k + 1 := ⟨K - 1, by omega⟩
  have m5 := h.m5
  have l1 := h.len
  have l2 := h'.len
  refine Ok_call (F := d__law_before) rfl rfl ?_
  simp only [d__law_before, b__law_before]
  refine Sw_cut (BfJ (.d (.tuple (fr.map frD))) (.d (.tuple (gr.map frD))) s) ?_ fun e t ⟨ht, x2, x3, he⟩ => ?_
  · rw [exS_for_vals (ds := (List.range m).map fun j : Nat => PyData.int j) (s' := s) (by simp [l1, show m ≤ 1000000 by omega])]
    refine Sw_goR m (fun _ => BfJ (.d (.tuple (fr.map frD))) (.d (.tuple (gr.map frD))) s) (fun j hj e t ⟨ht, x2, x3, he⟩ => ?_) (fun _ _ z => z) ⟨rfl, _, _, rfl⟩
    subst ht he
    have a1 : L2.atI (fr.map frD) (j : Int) = some (frD (fr.getD j (0, 1))) := by
      rw [atI_nat (i := j) (by simp; omega), SM.getD_lt (show j < fr.length by omega)]; simp
    have a2 : L2.atI (gr.map frD) (j : Int) = some (frD (gr.getD j (0, 1))) := by
      rw [atI_nat (i := j) (by simp; omega), SM.getD_lt (show j < gr.length by omega)]; simp
    have m1 := SM.getD_mem (d := ((0 : Int), (1 : Int))) (show j < fr.length by omega)
    have m2 := SM.getD_mem (d := ((0 : Int), (1 : Int))) (show j < gr.length by omega)
    have o1 : mulOk (fr.getD j (0, 1)).1 (gr.getD j (0, 1)).2 := mulOk_of (h.n2 _ m1) (h'.p2 _ m2) (by omega)
    have o2 : mulOk (gr.getD j (0, 1)).1 (fr.getD j (0, 1)).2 := mulOk_of (h'.n2 _ m2) (h.p2 _ m1) (by omega)
    generalize fr.getD j (0, 1) = f1 at *
    generalize gr.getD j (0, 1) = g1 at *
    by_cases z : f1.1 * g1.2 - g1.1 * f1.2 = 0
    · simp [turnS_var, a1, a2, frD, idx0, idx1, o1, o2, z, evT_eq]
      exact ⟨rfl, _, _, rfl⟩
    · simp [turnS_var, a1, a2, frD, idx0, idx1, o1, o2, z, evT_eq]
      exact Lv_len rfl ⟨rfl, by cases decide (f1.1 * g1.2 - g1.1 * f1.2 < 0) <;> simp⟩
  subst ht he
  simp
  exact Lv_len rfl ⟨rfl, .inl rfl⟩
end
end Law

set_option maxHeartbeats 1000000
namespace Law
open PySem SM
section
variable {fu K : Nat} {s t u : Sto} {m n R C c p : Nat} {ws l : List Int} {sd : Nat} {fr gr : List (Int × Int)} {A B : List (List Int)}
/-- weights of a corner -/
structure Wc (ws : List Int) (c : Nat) : Prop where
  len : ws.length = c
  c5 : c ≤ 5
  nn : ∀ w ∈ ws, 0 ≤ w
  pos : 0 < ws.sum
  lt : ws.sum.natAbs < 2 ^ 720
theorem Wc.q (h : Wc ws c) : Wq ws c := ⟨h.len, h.c5, h.nn, h.pos, Nat.lt_of_lt_of_le h.lt (Nat.pow_le_pow_right (by decide) (by decide))⟩
def CX (m : Nat) (d : PyData) : Prop := ∃ ws, d = mixD ws ∧ Wc ws m
theorem eqD_mix {fr gr : List (Int × Int)} : ∃ b, eqD (.tuple (fr.map frD)) (.tuple (gr.map frD)) = some b := by
  have a : ∀ l : List (Int × Int), PyData.canLayAll0 (l.map frD) = true ∧ PyData.depthAll (l.map frD) ≤ 1 := by
    intro l
    induction l with
    | nil => exact ⟨rfl, Nat.zero_le _⟩
    | cons y l ih =>
      refine ⟨?_, ?_⟩
      · show (PyData.canLay0 (frD y) && PyData.canLayAll0 (l.map frD)) = true
        rw [ih.1]
        rfl
      · show max (PyData.depth (frD y)) (PyData.depthAll (l.map frD)) ≤ 1
        have : PyData.depth (frD y) = 1 := rfl
        omega
  have sh : ∀ l : List (Int × Int), SeqAt.shaped (.tuple (l.map frD)) = true := fun l => by
    show (PyData.canLay0 (.tuple (l.map frD)) && decide (PyData.depth (.tuple (l.map frD)) ≤ 64)) = true
    have h1 : PyData.canLay0 (.tuple (l.map frD)) = true := (a l).1
    have h2 : PyData.depth (.tuple (l.map frD)) ≤ 64 := by
      show PyData.depthAll (l.map frD) + 1 ≤ 64
      have := (a l).2
      omega
    rw [h1, decide_eq_true h2]
    rfl
  show ∃ b, (if SeqAt.shaped (.tuple (fr.map frD)) = true ∧ SeqAt.shaped (.tuple (gr.map frD)) = true then some (PyData.eqv (.tuple (fr.map frD)) (.tuple (gr.map frD))) else none) = some b
  rw [if_pos ⟨sh fr, sh gr⟩]
  exact ⟨_, rfl⟩
def PuQ (s : Sto) (p m k : Nat) (v : Vl) (t : Sto) : Prop := Fr p s t ∧ ∃ xs : List PyData, listAt p t = some (xs.map Vl.d) ∧ (∀ x ∈ xs, CX m x) ∧ xs.length ≤ k ∧ xs ≠ []
def PuJ (s : Sto) (p k : Nat) (b : Vl) (lo hi : Nat) (e : Sl) (t : Sto) : Prop := t = s ∧ lo ≤ hi ∧ hi ≤ k ∧ ∃ x4, e = [some (.r p), some b, some (.d (.int lo)), some (.d (.int hi)), x4]
theorem lput_ok {xs : List PyData} {k : Nat} (hK : 2 ≤ K) (hf : 2000 ≤ fu) (hx : ∀ x ∈ xs, CX m x) (hl : listAt p s = some (xs.map Vl.d)) (hk : xs.length ≤ k) (k1 : k ≤ 1000) (h : Wc ws m) : Ok (callI tab fu K i__law_put [.r p, .d (mixD ws)] s) (PuQ s p m (k + 1)) nX := by
  obtain ⟨K, rfl⟩ : ∃ k, K = k + 1 := ⟨K - 1, by omega⟩
  have at_ : ∀ j, j < xs.length → idxV (.r p) (.d (.int (j : Int))) s = some (.d (xs.getD j .none), s) := fun j hj => by
    rw [idxV_r, hl, Option.bind_some, atI_nat (by simpa using hj), SM.getD_lt hj]
    simp
  have ln : ∀ mf, biV mf .len [.r p] s = some (.d (.int xs.length), s) := fun mf => len_at hl
  refine Ok_call (F := d__law_put) rfl rfl ?_
  simp only [d__law_put, b__law_put]
  refine Sw_cut (PuJ s p xs.length (.d (mixD ws)) 0 xs.length) ?_ fun e t hJ => ?_
  · simp [-w_len_r, ln]
    exact ⟨rfl, by omega, Nat.le_refl _, _, rfl⟩
  refine Sw_cut (fun e t => ∃ lo hi, hi ≤ lo ∧ PuJ s p xs.length (.d (mixD ws)) lo hi e t) ?_ fun e t ⟨lo, hi, hlh, ht, h1, h2, x4, he⟩ => ?_
  · rw [exS_whil]
    refine Sw_whL (fun l e t => ∃ lo hi, l = hi - lo ∧ PuJ s p xs.length (.d (mixD ws)) lo hi e t) (fun l e t ⟨lo, hi, hl', ht, h1, h2, x4, he⟩ => ?_) fu xs.length (by omega) ⟨0, xs.length, rfl, hJ⟩
    subst ht he
    by_cases hlt : lo < hi
    · obtain ⟨mid, hm⟩ : ∃ mid : Nat, mid = (lo + hi) / 2 := ⟨_, rfl⟩
      have e1 : ((lo : Int) + (hi : Int)) / 2 = (mid : Int) := by omega
      have hmid : mid < xs.length := by omega
      obtain ⟨us, hu, hw⟩ := hx _ (SM.getD_mem (d := PyData.none) hmid)
      have b := lbefore_ok (fu := fu) (K := K) (s := t) (by omega) hw.q.fb h.q.fb
      obtain ⟨v, w, b1, hw', bb, hb⟩ := b.ex
      subst hw' hb
      have a := at_ mid hmid
      rw [hu] at a
      have b1' : callI tab fu K i__law_before [.d (mixD us), .d (mixD ws)] w = .ok (.d (.bool bb)) w := b1
      cases bb with
      | true =>
        simp [-idxV_r, evT_eq, hlt, e1, a, b1']
        exact ⟨_, by omega, mid + 1, hi, rfl, rfl, by omega, h2, some (.d (.int mid)), by simp⟩
      | false =>
        simp [-idxV_r, evT_eq, hlt, e1, a, b1']
        exact ⟨_, by omega, lo, mid, rfl, rfl, by omega, by omega, _, rfl⟩
    · simp [evT_eq, hlt]
      exact ⟨lo, hi, by omega, rfl, h1, h2, _, rfl⟩
  have hlo : lo ≤ xs.length := by omega
  subst ht he
  have ins : meV .insert (.r p) [.d (.int (lo : Int)), .d (mixD ws)] t = some (.d .none, putL p ((xs.take lo ++ mixD ws :: xs.drop lo).map Vl.d) t) := by
    show (listAt p t).bind _ = _
    rw [hl, Option.bind_some, if_pos ⟨by omega, by simp; omega, by simp; omega⟩]
    rw [Int.toNat_natCast]
    simp
  have done : PuQ t p m (k + 1) (.d .none) (putL p ((xs.take lo ++ mixD ws :: xs.drop lo).map Vl.d) t) := by
    refine ⟨⟨putL_length, fun r hr => putL_ne hr⟩, _, listAt_put (listAt_lt hl), fun x hx' => ?_, by simp; omega, by simp⟩
    rcases List.mem_append.mp hx' with hx' | hx'
    · exact hx _ (List.mem_of_mem_take hx')
    · rcases List.mem_cons.mp hx' with rfl | hx'
      · exact ⟨ws, rfl, h⟩
      · exact hx _ (List.mem_of_mem_drop hx')
  by_cases hq : lo = xs.length
  · have hq' : (lo : Int) = (xs.length : Int) := by omega
    simp [-w_len_r, evT_eq, ln, hq', cmpV, dataOf, eqD_int]
    rw [← hq']
    simp [meR_r hl, ins]
    exact Lv_len putL_length (by simpa using done)
  · have hq' : ¬ (lo : Int) = (xs.length : Int) := by omega
    have hlo' : lo < xs.length := by omega
    obtain ⟨us, hu, hw⟩ := hx _ (SM.getD_mem (d := PyData.none) hlo')
    have a := at_ lo hlo'
    rw [hu] at a
    obtain ⟨bb, hb⟩ := eqD_mix (fr := frs us) (gr := frs ws)
    have hb' : eqD (mixD us) (mixD ws) = some bb := hb
    have cm : cmpV .ne (.d (mixD us)) (.d (mixD ws)) t = some (!bb) := by
      show (eqD (mixD us) (mixD ws)).map (!·) = _
      rw [hb']
      rfl
    have cl : cmpV .eq (.d (.int (lo : Int))) (.d (.int (xs.length : Int))) t = some false := by
      simp [cmpV, dataOf, eqD_int, hq']
    cases bb with
    | false =>
      simp [-w_len_r, -idxV_r, evT_eq, ln, cl, a, cm, meR_r hl, ins]
      exact Lv_len putL_length (by simpa using done)
    | true =>
      simp [-w_len_r, -idxV_r, evT_eq, ln, cl, a, cm]
      exact Lv_len rfl ⟨⟨rfl, fun _ _ => rfl⟩, xs, hl, hx, by omega, fun z => by rw [z] at hlo'; simp at hlo'⟩
/-! ### a line spread -/
def wsS (xs : List Int) (lot : List Nat) (many j : Nat) : List Int := (List.range j).foldl (fun w a => w.set (lot.getD a 0) ((xs.getD a 0).natAbs : Int)) (List.replicate many 0)
theorem wsS_s {xs : List Int} {lot : List Nat} {many j : Nat} : wsS xs lot many (j + 1) = (wsS xs lot many j).set (lot.getD j 0) ((xs.getD j 0).natAbs : Int) := by
  unfold wsS
  rw [List.range_succ, List.foldl_append]
  rfl
theorem wsS_len {xs : List Int} {lot : List Nat} {many : Nat} : ∀ {j}, (wsS xs lot many j).length = many
  | 0 => by simp [wsS]
  | j + 1 => by rw [wsS_s, List.length_set]; exact wsS_len
theorem sum_le_n {b : Int} : ∀ {l : List Int}, (∀ x ∈ l, x ≤ b) → l.sum ≤ l.length * b
  | [], _ => by simp
  | a :: r, h => by
    have h1 := h a List.mem_cons_self
    have h2 := sum_le_n (l := r) fun x hx => h x (List.mem_cons_of_mem _ hx)
    rw [List.sum_cons, List.length_cons]
    have : ((r.length + 1 : Nat) : Int) * b = r.length * b + b := by rw [Int.natCast_add, Int.add_mul]; simp
    omega
theorem mem_set' {l : List Int} {i : Nat} {a : Int} (h : i < l.length) : a ∈ l.set i a := List.mem_iff_getElem.mpr ⟨i, by simpa using h, by simp⟩
theorem wsS_ok {xs : List Int} {lot : List Nat} {many : Nat} (m5 : many ≤ 5) (hb : ∀ x ∈ xs, x.natAbs ≤ 2 ^ 716) (h0 : ∀ x ∈ xs, x ≠ 0) (hl : lot.length = xs.length) (hm : ∀ k ∈ lot, k < many) (hne : lot ≠ []) : Wc (wsS xs lot many lot.length) many := by
  have rg : ∀ j, j ≤ lot.length → (∀ w ∈ wsS xs lot many j, 0 ≤ w ∧ w ≤ 2 ^ 716) ∧ (1 ≤ j → ∃ w ∈ wsS xs lot many j, 1 ≤ w) := by
    intro j
    induction j with
    | zero =>
      intro _
      refine ⟨fun w hw => ?_, fun z => by omega⟩
      have : w = 0 := by simp [wsS] at hw; exact hw.2
      subst this
      exact ⟨by decide, Int.le_of_lt (Int.pow_pos (by decide))⟩
    | succ j ih =>
      intro hj
      obtain ⟨i1, i2⟩ := ih (by omega)
      have hx := SM.getD_mem (d := (0 : Int)) (show j < xs.length by omega)
      have b1 := hb _ hx
      have b2 := h0 _ hx
      have e2 : ((2 ^ 716 : Nat) : Int) = 2 ^ 716 := by norm_cast
      rw [wsS_s]
      refine ⟨fun w hw => ?_, fun _ => ⟨((xs.getD j 0).natAbs : Int), mem_set' (by rw [wsS_len]; exact hm _ (SM.getD_mem (by omega))), by omega⟩⟩
      rcases List.mem_or_eq_of_mem_set hw with hw | rfl
      · exact i1 w hw
      · exact ⟨by omega, by omega⟩
  obtain ⟨r1, r2⟩ := rg lot.length (Nat.le_refl _)
  obtain ⟨w, hw, w1⟩ := r2 (List.length_pos_iff.mpr hne)
  have nn : ∀ w ∈ wsS xs lot many lot.length, 0 ≤ w := fun w hw => (r1 w hw).1
  have ls := le_sum nn
  have sl := sum_le_n fun w hw => (r1 w hw).2
  rw [wsS_len] at sl
  refine ⟨wsS_len, m5, nn, by have := ls.2 w hw; omega, ?_⟩
  have e2 : ((2 ^ 720 : Nat) : Int) = 2 ^ 720 := by norm_cast
  have e3 : (2 : Int) ^ 720 = 2 ^ 716 * 16 := by decide +kernel
  have e4 : (many : Int) * 2 ^ 716 ≤ 5 * 2 ^ 716 := Int.mul_le_mul_of_nonneg_right (by omega) (Int.le_of_lt (Int.pow_pos (by decide)))
  have e5 : (0 : Int) < 2 ^ 716 := Int.pow_pos (by decide)
  omega
def SpQ (s : Sto) (xs : List Int) (lot : List Nat) (many : Nat) (v : Vl) (t : Sto) : Prop := t = s ∧ (v = .d .none ∨ (v = .d (mixD (wsS xs lot many lot.length)) ∧ Wc (wsS xs lot many lot.length) many)) ∧ (xs = [1] → v ≠ .d .none)
theorem lspread_none (hK : 1 ≤ K) {a b : Vl} : callI tab fu K i__law_spread [.d .none, a, b] s = .ok (.d .none) s := by
  obtain ⟨K, rfl⟩ : ∃ k, K = k + 1 := ⟨K - 1, by omega⟩
  refine Ok_one (Ok_call (F := d__law_spread) rfl rfl ?_)
  simp [d__law_spread, b__law_spread, evT_eq, cmpV, noneV]
  exact Lv_len rfl ⟨rfl, rfl⟩
def SpJ (s : Sto) (xs : List Int) (lot : List Nat) (many j : Nat) (e : Sl) (t : Sto) : Prop := ∃ x4, t = s ++ [some (.lst ((wsS xs lot many j).map vI))] ∧ e = [some (.d (lsD xs)), some (.d (ltD lot)), some (.d (.int many)), some (.r s.length), x4]
theorem lspread_ok {xs : List Int} {lot : List Nat} {many : Nat} (hK : 4 ≤ K) (hf : 2 ^ 2000 ≤ fu) (m5 : many ≤ 5) (hb : ∀ x ∈ xs, x.natAbs ≤ 2 ^ 716) (hl : xs.length = lot.length) (hm : ∀ k ∈ lot, k < many) (hne : lot ≠ []) (l5 : lot.length ≤ 5) :
    Ok (callI tab fu K i__law_spread [.d (lsD xs), .d (ltD lot), .d (.int many)] s) (SpQ s xs lot many) nX := by
  obtain ⟨K, rfl⟩ : ∃ k, K = k + 1 := ⟨K - 1, by omega⟩
  have xne : xs ≠ [] := fun z => hne (List.length_eq_zero_iff.mp (by rw [← hl, z]; rfl))
  obtain ⟨mi, e1, f1, g1⟩ := minL_some xne
  obtain ⟨mx, e2, f2, g2⟩ := maxL_some xne
  refine Ok_call (F := d__law_spread) rfl rfl ?_
  simp only [d__law_spread, b__law_spread]
  have is0 : cmpV .is (.d (lsD xs)) (.d .none) s = some false := rfl
  have w1 : biV false .min [.d (lsD xs)] s = some (.d (.int mi), s) := by
    show ((dataV (.d (lsD xs)) s).bind ints?).bind _ = _
    have : dataV (.d (lsD xs)) s = some (xs.map .int) := allD_map _
    rw [this, Option.bind_some, w_ints, Option.bind_some, e1]
    rfl
  have w2 : biV false .max [.d (lsD xs)] s = some (.d (.int mx), s) := by
    show ((dataV (.d (lsD xs)) s).bind ints?).bind _ = _
    have : dataV (.d (lsD xs)) s = some (xs.map .int) := allD_map _
    rw [this, Option.bind_some, w_ints, Option.bind_some, e2]
    rfl
  by_cases bad : mi ≤ 0 ∧ 0 ≤ mx
  · have ct : ev (callI tab fu K) (.or (.cons (.cmp .is (.var 0) (.lit .none)) (.cons (.chain .le .le (.bi false .min (.cons (.var 0) .nil)) (.lit (.int 0)) (.bi false .max (.cons (.var 0) .nil))) .nil))) [some (.d (lsD xs)), some (.d (ltD lot)), some (.d (.int many)), none, none] s = .ok (.d (.bool true)) s := by
      simp [evT_eq, is0, w1, w2, bad.1, bad.2]
    simp only [exS_cons, exS_ite, evT_eq]
    simp only [List.map_cons, List.map_nil, List.cons_append, List.nil_append, Nat.sub_self] at *
    rw [show (Df.ns { np := 3, ns := 5, body := b__law_spread } - Df.np { np := 3, ns := 5, body := b__law_spread }) = 2 from rfl]
    simp only [List.replicate, ct]
    simp
    refine Lv_len rfl ⟨rfl, .inl rfl, fun z => ?_⟩
    subst z
    simp at f1 f2
    omega
  · have ct : ev (callI tab fu K) (.or (.cons (.cmp .is (.var 0) (.lit .none)) (.cons (.chain .le .le (.bi false .min (.cons (.var 0) .nil)) (.lit (.int 0)) (.bi false .max (.cons (.var 0) .nil))) .nil))) [some (.d (lsD xs)), some (.d (ltD lot)), some (.d (.int many)), none, none] s = .ok (.d (.bool false)) s := by
      by_cases q : mi ≤ 0
      · have q2 : ¬ 0 ≤ mx := fun z => bad ⟨q, z⟩
        simp [evT_eq, is0, w1, w2, q, q2]
      · simp [evT_eq, is0, w1, q]
    have h0 : ∀ x ∈ xs, x ≠ 0 := fun x hx z => by
      have := g1 x hx
      have := g2 x hx
      subst z
      exact bad ⟨by omega, by omega⟩
    have wc := wsS_ok m5 hb h0 hl.symm hm hne
    refine Sw_cut (fun e t => t = s ∧ e = [some (.d (lsD xs)), some (.d (ltD lot)), some (.d (.int many)), none, none]) ?_ fun e t ⟨ht, he⟩ => ?_
    · simp only [List.map_cons, List.map_nil, List.cons_append, List.nil_append]
      rw [exS_ite, evT_eq]
      rw [show (Df.ns { np := 3, ns := 5, body := b__law_spread } - Df.np { np := 3, ns := 5, body := b__law_spread }) = 2 from rfl]
      simp only [List.replicate, ct]
      simp
    subst ht he
    refine Sw_cut (SpJ t xs lot many 0) ?_ fun e u hJ => ?_
    · simp [mkL_true, show (many : Int) ≤ 1000 by omega, show many ≤ 16777216 by omega]
      exact ⟨_, by simp [wsS]; exact .inr rfl, rfl⟩
    refine Sw_cut (SpJ t xs lot many lot.length) ?_ fun e u ⟨x4, hu, he⟩ => ?_
    · obtain ⟨x4, hu, he⟩ := hJ
      subst hu he
      rw [exS_for_vals (ds := (List.range lot.length).map fun j : Nat => PyData.int j) (s' := t ++ [some (.lst ((wsS xs lot many 0).map vI))]) (by simp [ltD, show lot.length ≤ 1000000 by omega])]
      refine Sw_goR lot.length (SpJ t xs lot many) (fun j hj e u ⟨x4, hu, he⟩ => ?_) (fun _ _ z => z) ⟨_, rfl, rfl⟩
      subst hu he
      have a1 : idxV (.d (ltD lot)) (.d (.int (j : Int))) (t ++ [some (.lst ((wsS xs lot many j).map vI))]) = some (.d (.int ((lot.getD j 0 : Nat) : Int)), t ++ [some (.lst ((wsS xs lot many j).map vI))]) := by
        have := atI_nat (vs := lot.map fun k : Nat => PyData.int k) (i := j) (by simpa using hj)
        unfold ltD
        simp only [idxV_t, this, SM.getD_lt hj]
        simp
      have a2 := ls_at (row := xs) (x := j) (q := t ++ [some (.lst ((wsS xs lot many j).map vI))]) (by omega)
      have st := new_set (t := t) (fs := wsS xs lot many j) (i := lot.getD j 0) (x := ((xs.getD j 0).natAbs : Int)) (by rw [wsS_len]; exact hm _ (SM.getD_mem hj))
      simp [-List.getD_eq_getElem?_getD, -setV_r, turnS_var, a1, a2, st]
      exact ⟨_, by rw [wsS_s, List.map_set], rfl⟩
    subst hu he
    have pt := lparted_ok (fu := fu) (K := K) (s := t ++ [some (.lst ((wsS xs lot many lot.length).map vI))]) (p := t.length) (by omega) hf wc.q listAt_new
    simp [pt]
    exact Lv_app ⟨rfl, .inr ⟨rfl, wc⟩, fun _ => by simp [mixD]⟩
end
end Law

set_option maxHeartbeats 1000000
namespace Law
open PySem SM
section
variable {fu K : Nat} {s t u : Sto} {A B M : List (List Int)} {m n R C c : Nat} {ws l : List Int} {sd : Nat} {fr : List (Int × Int)} {lot sp : List Nat}
/-- the rows, as the law makes them -/
theorem lrowsT_ev {Ca : Cal} {e : Sl} {v0 v1 v2 v3 v4 : Nat} {o1 o2 : List Nat} (h : Mt M m n) (hl : ∀ k ∈ lot, k < m) (hs : ∀ j ∈ sp, j < n) (h0 : sp ≠ []) (l5 : lot.length ≤ 5) (s5 : sp.length ≤ 5)
    (q1 : e[v2]? = some (some (.d (.tuple (sp.map fun k : Nat => PyData.int k)))))
    (q2 : ∀ j : Nat, ((wipe e o1).set v3 (some (.d (.int j))))[v1]? = some (some (.d (.tuple (lot.map fun k : Nat => PyData.int k)))))
    (q3 : ∀ j k : Nat, ((wipe ((wipe e o1).set v3 (some (.d (.int j)))) o2).set v4 (some (.d (.int k))))[v0]? = some (some (.d (.list (M.map lsD)))) ∧ ((wipe ((wipe e o1).set v3 (some (.d (.int j)))) o2).set v4 (some (.d (.int k))))[v4]? = some (some (.d (.int k))) ∧ ((wipe ((wipe e o1).set v3 (some (.d (.int j)))) o2).set v4 (some (.d (.int k))))[v3]? = some (some (.d (.int j))) ∧ ((wipe ((wipe e o1).set v3 (some (.d (.int j)))) o2).set v4 (some (.d (.int k))))[v2]? = some (some (.d (.tuple (sp.map fun k : Nat => PyData.int k))))) :
    ev Ca (.comp false (.comp false (.bop false .sub (.idx (.idx (.var v0) (.var v4)) (.var v3)) (.idx (.idx (.var v0) (.var v4)) (.idx (.var v2) (.lit (.int 0))))) (.var v4) (.itv (.var v1)) .nil o2) (.var v3) (.itv (.sli false (.var v2) (.cons (.lit (.int 1)) .nil) .nil)) .nil o1) e s = .ok (.d (.list ((DM M lot sp).map lsD))) s := by
  have hM := h.len
  have p0 : 0 < sp.length := List.length_pos_iff.mpr h0
  have s0 : sp.getD 0 0 ∈ sp := by
    rw [SM.getD_lt p0]
    exact List.getElem_mem _
  have i0 : L2.atI (sp.map fun k : Nat => PyData.int k) 0 = some (.int ((sp.getD 0 0 : Nat) : Int)) := by
    have := atI_nat (vs := sp.map fun k : Nat => PyData.int k) (i := 0) (by simpa using p0)
    rw [SM.getD_lt p0]
    simpa using this
  unfold DM
  rw [List.map_map]
  refine comp_on (fun k : Nat => PyData.int k) _ ?_ (by simp; omega) fun j hj => ⟨_, rfl, ?_⟩
  · have := cut_from (sp.map fun k : Nat => PyData.int k) (i := 1) (by decide)
    simp [q1, this, show sp.length - 1 ≤ 16777216 by omega]
  · have hj := hs j (List.mem_of_mem_tail hj)
    have e1 : lsD (lot.map fun k => gt M k j - gt M k (sp.getD 0 0)) = .list (lot.map fun k => .int (gt M k j - gt M k (sp.getD 0 0))) := by
      unfold lsD
      rw [List.map_map]
      rfl
    show _ = Rs.ok (Vl.d (lsD (lot.map fun k => gt M k j - gt M k (sp.getD 0 0)))) s
    rw [e1]
    refine comp_on (fun k : Nat => PyData.int k) _ (by simp [q2]) (by omega) fun k hk => ⟨_, rfl, ?_⟩
    have hk := hl k hk
    obtain ⟨b1, b2, b3, b4⟩ := q3 j k
    have a2 : L2.atI (M.map lsD) (k : Int) = some (lsD (M.getD k [])) := by
      rw [atI_nat (i := k) (by simp; omega), SM.getD_lt (show k < M.length by omega)]; simp
    have rl := (h.rw_ _ (SM.getD_mem (d := []) (show k < M.length by omega))).1
    have a3 := ls_at (row := M.getD k []) (x := j) (q := s) (by omega)
    have a4 := ls_at (row := M.getD k []) (x := sp.getD 0 0) (q := s) (by have := hs _ s0; omega)
    simp [-List.getD_eq_getElem?_getD, b1, b2, b3, b4, a2, a3, a4, i0]
    rfl
theorem one01 {A : Nat → Nat → Int} : One 0 1 A :=
  ⟨0, by omega, ⟨fun x => if x = 0 then 1 else 0, fun k hk => absurd hk (Nat.not_lt_zero k), by simp, fun x hx => by simp; omega⟩, fun x hx _ => by omega⟩
def CoB (s : Sto) (A B : List (List Int)) (R C sd : Nat) (i j : Nat) (P : Prop) (e : Sl) (t : Sto) : Prop := ∃ (xs : List PyData) (x4 x5 x6 x9 : Option Vl), t = s ++ [some (.lst (xs.map Vl.d))] ∧ (∀ x ∈ xs, CX (mn R C sd) x) ∧ xs.length ≤ 31 * i + j ∧ (P → xs ≠ []) ∧ e = [some (.d (gD A B)), some (.d (.int sd)), some (.d (.list ((pm A B C sd).map lsD))), some (.r s.length), x4, x5, x6, none, none, x9]
def COk (m : Nat) (s : Sto) (v : Vl) (t : Sto) : Prop := t = s ∧ ∃ xs : List PyData, v = .d (.list xs) ∧ (∀ x ∈ xs, CX m x) ∧ xs ≠ [] ∧ xs.length ≤ 1000
theorem get_map {l : List (List Nat)} {j : Nat} (h : j < (l.map ltD).length) : (l.map ltD)[j] = ltD (l[j]'(by simpa using h)) := by simp
theorem turn_ok {sp lot : List Nat} {i j : Nat} {P P' : Prop} {x6 x9 : Option Vl} {xs : List PyData} {N : Sl → Sto → Prop} {Rr : Vl → Sto → Prop} {X : Nat → Vl → Sl → Sto → Prop} {Bk : Sl → Sto → Prop}
    (hK : 6 ≤ K) (hf : 2 ^ 2000 ≤ fu) (g : Gv A B R C) (h2 : sd < 2) (i31 : 31 * i + j ≤ 999) (sp0 : sp ≠ []) (sp5 : sp.length ≤ 5) (spl : ∀ k ∈ sp, k < mn R C (1 - sd)) (lo0 : lot ≠ []) (lo5 : lot.length ≤ 5) (lol : ∀ k ∈ lot, k < mn R C sd)
    (hx : ∀ x ∈ xs, CX (mn R C sd) x) (hl : xs.length ≤ 31 * i + j) (hP : P' → (P ∨ (lot = [0] ∧ ∃ k, sp = [k] ∧ k ∈ spF A B R C sd (frs (wsS [1] [0] (mn R C sd) 1))))) (hne : P → xs ≠ [])
    (hN : ∀ e t, CoB s A B R C sd i (j + 1) P' e t → e[4]? = some (some (.d (ltD sp))) → N e t) :
    Sw (exS (callI tab fu K) fu (.cons (.ite (.cmp .eq (.bi false .len (.cons (.var 5) .nil)) (.bi false .len (.cons (.var 4) .nil))) (.cons (.asg (.var 6) (.comp false (.comp false (.bop false .sub (.idx (.idx (.var 2) (.var 8)) (.var 7)) (.idx (.idx (.var 2) (.var 8)) (.idx (.var 4) (.lit (.int 0))))) (.var 8) (.itv (.var 5)) .nil [8]) (.var 7) (.itv (.sli false (.var 4) (.cons (.lit (.int 1)) .nil) .nil)) .nil [7]))
        (.cons (.asg (.var 9) (.call i__law_spread (.cons (.call i__law_line (.cons (.var 6) (.cons (.bi false .len (.cons (.var 5) .nil)) .nil))) (.cons (.var 5) (.cons (.bi false .len (.cons (.var 2) .nil)) .nil)))))
        (.cons (.ite (.and (.cons (.cmp .isn (.var 9) (.lit .none)) (.cons (.cmp .inn (.tup (.cons (.bop false .sub (.lit (.int 1)) (.var 1)) (.cons (.idx (.var 4) (.lit (.int 0))) .nil))) (.call i__law_labels (.cons (.var 0) (.cons (.var 1) (.cons (.var 9) .nil))))) .nil))) (.cons (.expr (.call i__law_put (.cons (.var 3) (.cons (.var 9) .nil))))
          .nil) .nil)
        .nil))) .nil)
      .nil) [some (.d (gD A B)), some (.d (.int sd)), some (.d (.list ((pm A B C sd).map lsD))), some (.r s.length), some (.d (ltD sp)), some (.d (ltD lot)), x6, none, none, x9] (s ++ [some (.lst (xs.map Vl.d))])) ⟨N, Rr, Bk, N, X⟩ := by
  have mt := pm_ok g h2
  have lM := mt.len
  refine Sw_cut N ?_ fun e t z => z
  by_cases hlen : lot.length = sp.length
  · have br : ev (callI tab fu K) (.cmp .eq (.bi false .len (.cons (.var 5) .nil)) (.bi false .len (.cons (.var 4) .nil))) [some (.d (gD A B)), some (.d (.int sd)), some (.d (.list ((pm A B C sd).map lsD))), some (.r s.length), some (.d (ltD sp)), some (.d (ltD lot)), x6, none, none, x9] (s ++ [some (.lst (xs.map Vl.d))]) = .ok (.d (.bool true)) (s ++ [some (.lst (xs.map Vl.d))]) := by
      simp [ltD, cmpV, dataOf, eqD_int, hlen]
    rw [exS_ite, evT_eq, br]
    obtain ⟨W, hW⟩ : ∃ W, W = s ++ [some (Ob.lst (xs.map Vl.d))] := ⟨_, rfl⟩
    have lW : listAt s.length W = some (xs.map Vl.d) := by rw [hW]; exact listAt_new
    rw [← hW]
    have c3 := lrowsT_ev (Ca := callI tab fu K) (s := W) (e := [some (.d (gD A B)), some (.d (.int sd)), some (.d (.list ((pm A B C sd).map lsD))), some (.r s.length), some (.d (ltD sp)), some (.d (ltD lot)), x6, none, none, x9]) (v0 := 2) (v1 := 5) (v2 := 4) (v3 := 7) (v4 := 8) (o1 := [7]) (o2 := [8]) mt lol spl sp0 lo5 sp5 (by simp [ltD]) (fun j => by simp [wipe, ltD]) fun j k => ⟨by simp [wipe], by simp [wipe], by simp [wipe], by simp [wipe, ltD]⟩
    refine Sw_cut (fun e u => u = W ∧ e = [some (.d (gD A B)), some (.d (.int sd)), some (.d (.list ((pm A B C sd).map lsD))), some (.r s.length), some (.d (ltD sp)), some (.d (ltD lot)), some (.d (.list ((DM (pm A B C sd) lot sp).map lsD))), none, none, x9]) ?_ fun e u ⟨hu, he⟩ => ?_
    · simp only [exS_asgv, c3]
      simp
    subst he
    subst hu
    obtain ⟨d1, d2, d3⟩ := DM_sh mt lol spl sp0
    have ol := lline_ok (fu := fu) (K := K) (s := u) (by omega) hf d1 d2 d3 (by omega) lo5
    obtain ⟨v, w, e1, hw, hv⟩ := ol.ex
    subst hw
    have last : ∀ {x9 : Option Vl} (ys : List PyData), (∀ x ∈ ys, CX (mn R C sd) x) → ys.length ≤ 31 * i + j + 1 → (P' → ys ≠ []) → ∀ z, z = s ++ [some (Ob.lst (ys.map Vl.d))] → N [some (.d (gD A B)), some (.d (.int sd)), some (.d (.list ((pm A B C sd).map lsD))), some (.r s.length), some (.d (ltD sp)), some (.d (ltD lot)), some (.d (.list ((DM (pm A B C sd) lot sp).map lsD))), none, none, x9] z := fun {x9} ys h1 h3 h4 z hz => hN _ _ ⟨ys, _, _, _, _, hz, h1, by omega, h4, rfl⟩ rfl
    have ev1 : ∀ y q, callI tab fu K i__law_spread [v, .d (ltD lot), .d (.int (mn R C sd))] w = .ok (.d y) q → ev (callI tab fu K) (.call i__law_spread (.cons (.call i__law_line (.cons (.var 6) (.cons (.bi false .len (.cons (.var 5) .nil)) .nil))) (.cons (.var 5) (.cons (.bi false .len (.cons (.var 2) .nil)) .nil)))) [some (.d (gD A B)), some (.d (.int sd)), some (.d (.list ((pm A B C sd).map lsD))), some (.r s.length), some (.d (ltD sp)), some (.d (ltD lot)), some (.d (.list ((DM (pm A B C sd) lot sp).map lsD))), none, none, x9] w = .ok (.d y) q := fun y q hy => by
      have ll : biV false .len [.d (ltD lot)] w = some (.d (.int lot.length), w) := by simp [ltD]
      simp only [ev_call, evs_cons, evs_nil, ev_var, ev_bi, List.getElem?_cons_succ, List.getElem?_cons_zero, varR_some, ok_bind, ll, ofP_some, e1]
      simp [-List.map_map, lM, hy]
    have skip : ∀ q : PyData, ev (callI tab fu K) (.and (.cons (.cmp .isn (.var 9) (.lit .none)) (.cons (.cmp .inn (.tup (.cons (.bop false .sub (.lit (.int 1)) (.var 1)) (.cons (.idx (.var 4) (.lit (.int 0))) .nil))) (.call i__law_labels (.cons (.var 0) (.cons (.var 1) (.cons (.var 9) .nil))))) .nil))) [some (.d (gD A B)), some (.d (.int sd)), some (.d (.list ((pm A B C sd).map lsD))), some (.r s.length), some (.d (ltD sp)), some (.d (ltD lot)), some (.d (.list ((DM (pm A B C sd) lot sp).map lsD))), none, none, some (.d q)] w = .ok (.d (.bool false)) w → (P' → xs ≠ []) → Sw (exS (callI tab fu K) fu (.cons (.ite (.and (.cons (.cmp .isn (.var 9) (.lit .none)) (.cons (.cmp .inn (.tup (.cons (.bop false .sub (.lit (.int 1)) (.var 1)) (.cons (.idx (.var 4) (.lit (.int 0))) .nil))) (.call i__law_labels (.cons (.var 0) (.cons (.var 1) (.cons (.var 9) .nil))))) .nil))) (.cons (.expr (.call i__law_put (.cons (.var 3) (.cons (.var 9) .nil))))
          .nil) .nil)
        .nil) [some (.d (gD A B)), some (.d (.int sd)), some (.d (.list ((pm A B C sd).map lsD))), some (.r s.length), some (.d (ltD sp)), some (.d (ltD lot)), some (.d (.list ((DM (pm A B C sd) lot sp).map lsD))), none, none, some (.d q)] w) ⟨N, Rr, Bk, N, X⟩ := fun q hq hp => by
      simp only [exS_cons, exS_ite, evT_eq, hq]
      simp
      exact last xs hx (by omega) hp _ hW
    rcases hv with ⟨rfl, no⟩ | ⟨ys, rfl, yl, yb, y1, on⟩
    · have e9 := ev1 _ _ (lspread_none (fu := fu) (s := w) (show 1 ≤ K by omega))
      refine Sw_cut (fun e u => u = w ∧ e = [some (.d (gD A B)), some (.d (.int sd)), some (.d (.list ((pm A B C sd).map lsD))), some (.r s.length), some (.d (ltD sp)), some (.d (ltD lot)), some (.d (.list ((DM (pm A B C sd) lot sp).map lsD))), none, none, some (.d .none)]) ?_ fun e u ⟨hu, he⟩ => ?_
      · simp only [exS_asgv, e9]
        simp
      subst he
      subst hu
      refine skip .none (by simp [cmpV, noneV, evT_eq]) fun z => ?_
      rcases hP z with q | ⟨rfl, k, rfl, _⟩
      · exact hne q
      · exact absurd one01 no
    · have sq := lspread_ok (fu := fu) (K := K) (s := w) (xs := ys) (lot := lot) (many := mn R C sd) (by omega) hf mt.m5 yb yl lol lo0 lo5
      obtain ⟨mx, w2, f1, hw2, hmx, h1x⟩ := sq.ex
      subst hw2
      have spec : P' → ¬ P → ys = [1] ∧ lot = [0] ∧ ∃ k, sp = [k] ∧ k ∈ spF A B R C sd (frs (wsS [1] [0] (mn R C sd) 1)) := fun z nz => by
        rcases hP z with q | ⟨rfl, k, rfl, hk⟩
        · exact absurd q nz
        · exact ⟨y1 rfl rfl, rfl, k, rfl, hk⟩
      rcases hmx with rfl | ⟨rfl, wc⟩
      · have e9 := ev1 _ _ f1
        refine Sw_cut (fun e u => u = w2 ∧ e = [some (.d (gD A B)), some (.d (.int sd)), some (.d (.list ((pm A B C sd).map lsD))), some (.r s.length), some (.d (ltD sp)), some (.d (ltD lot)), some (.d (.list ((DM (pm A B C sd) lot sp).map lsD))), none, none, some (.d .none)]) ?_ fun e u ⟨hu, he⟩ => ?_
        · simp only [exS_asgv, e9]
          simp
        subst he
        subst hu
        refine skip .none (by simp [cmpV, noneV, evT_eq]) fun z => ?_
        by_cases q : P
        · exact hne q
        · exact absurd rfl (h1x (spec z q).1)
      · have e9 := ev1 _ _ f1
        refine Sw_cut (fun e u => u = w2 ∧ e = [some (.d (gD A B)), some (.d (.int sd)), some (.d (.list ((pm A B C sd).map lsD))), some (.r s.length), some (.d (ltD sp)), some (.d (ltD lot)), some (.d (.list ((DM (pm A B C sd) lot sp).map lsD))), none, none, some (.d (mixD (wsS ys lot (mn R C sd) lot.length)))]) ?_ fun e u ⟨hu, he⟩ => ?_
        · simp only [exS_asgv, e9]
          simp
        subst he
        subst hu
        have lb := llabels_ok (fu := fu) (K := K) (s := u) (by omega) g h2 wc.q.fb
        rw [LSp_same wc.q.fb.p1 mt.n1] at lb
        have ps : sortP (ownL sd (wsF (frs (wsS ys lot (mn R C sd) lot.length))) ++ bstL sd (smF A B R C sd (frs (wsS ys lot (mn R C sd) lot.length)))) = (psL sd (wsF (frs (wsS ys lot (mn R C sd) lot.length))) (smF A B R C sd (frs (wsS ys lot (mn R C sd) lot.length)))).map pD := ps_eq h2
        have lb' : callI tab fu K i__law_labels [.d (gD A B), .d (.int sd), .d (mixD (wsS ys lot (mn R C sd) lot.length))] u = .ok (.d (.list ((psL sd (wsF (frs (wsS ys lot (mn R C sd) lot.length))) (smF A B R C sd (frs (wsS ys lot (mn R C sd) lot.length)))).map pD))) u := by
          rw [← ps]; exact lb
        have p0 : 0 < sp.length := List.length_pos_iff.mpr sp0
        have i0 : idxV (.d (ltD sp)) (.d (.int 0)) u = some (.d (.int ((sp.getD 0 0 : Nat) : Int)), u) := by
          have := atI_nat (vs := sp.map fun k : Nat => PyData.int k) (i := 0) (by simpa using p0)
          unfold ltD
          rw [SM.getD_lt p0]
          rw [idxV_t, show (0 : Int) = ((0 : Nat) : Int) from rfl, this]
          simp
        have isn : cmpV .isn (.d (mixD (wsS ys lot (mn R C sd) lot.length))) (.d .none) u = some true := rfl
        have sub : (1 - (sd : Int)) = ((1 - sd : Nat) : Int) := by omega
        have inn : cmpV .inn (.d (pD (1 - sd, sp.getD 0 0))) (.d (.list ((psL sd (wsF (frs (wsS ys lot (mn R C sd) lot.length))) (smF A B R C sd (frs (wsS ys lot (mn R C sd) lot.length)))).map pD))) u = some (decide ((1 - sd, sp.getD 0 0) ∈ psL sd (wsF (frs (wsS ys lot (mn R C sd) lot.length))) (smF A B R C sd (frs (wsS ys lot (mn R C sd) lot.length))))) := by
          show ((some (pD (1 - sd, sp.getD 0 0))).bind fun a => (dataV (.d (.list (List.map pD _))) u).bind fun l => inD a l) = _
          have e2 : ∀ PS : List (Nat × Nat), dataV (.d (.list (PS.map pD))) u = some (PS.map pD) := fun PS => allD_map _
          rw [e2, Option.bind_some, Option.bind_some, inD_pairs]
        simp only [pD] at inn
        have cnd : ev (callI tab fu K) (.and (.cons (.cmp .isn (.var 9) (.lit .none)) (.cons (.cmp .inn (.tup (.cons (.bop false .sub (.lit (.int 1)) (.var 1)) (.cons (.idx (.var 4) (.lit (.int 0))) .nil))) (.call i__law_labels (.cons (.var 0) (.cons (.var 1) (.cons (.var 9) .nil))))) .nil))) [some (.d (gD A B)), some (.d (.int sd)), some (.d (.list ((pm A B C sd).map lsD))), some (.r s.length), some (.d (ltD sp)), some (.d (ltD lot)), some (.d (.list ((DM (pm A B C sd) lot sp).map lsD))), none, none, some (.d (mixD (wsS ys lot (mn R C sd) lot.length)))] u = .ok (.d (.bool (decide ((1 - sd, sp.getD 0 0) ∈ psL sd (wsF (frs (wsS ys lot (mn R C sd) lot.length))) (smF A B R C sd (frs (wsS ys lot (mn R C sd) lot.length))))))) u := by
          simp [-List.getD_eq_getElem?_getD, -List.map_map, evT_eq, isn, i0, sub, lb', inn]
        by_cases hin : (1 - sd, sp.getD 0 0) ∈ psL sd (wsF (frs (wsS ys lot (mn R C sd) lot.length))) (smF A B R C sd (frs (wsS ys lot (mn R C sd) lot.length)))
        · rw [decide_eq_true hin] at cnd
          refine Sw_cut N ?_ fun e t z => z
          rw [exS_ite, evT_eq, cnd]
          have pt := lput_ok (fu := fu) (K := K) (by omega) (by have : (2 : Nat) ^ 11 ≤ 2 ^ 2000 := Nat.pow_le_pow_right (by decide) (by decide)
                                                                omega) hx lW hl (by omega) wc
          obtain ⟨pv, z, p1, fr, xs', l', hx', hl', ne'⟩ := pt.ex
          have hz : z = s ++ [some (Ob.lst (xs'.map Vl.d))] := by
            have lz : z.length = s.length + 1 := by rw [fr.1, hW]; simp
            apply List.ext_getElem?
            intro r
            by_cases hr : r < s.length
            · rw [List.getElem?_append_left hr, fr.2 r (by omega), hW, List.getElem?_append_left hr]
            · by_cases hr2 : r = s.length
              · subst hr2
                unfold listAt at l'
                split at l'
                · rename_i q
                  cases l'
                  rw [q]
                  simp
                · cases l'
              · rw [List.getElem?_eq_none (by omega), List.getElem?_eq_none (by simp; omega)]
          simp [p1]
          exact last xs' hx' hl' (fun _ => ne') z hz
        · rw [decide_eq_false hin] at cnd
          refine skip _ cnd fun z => ?_
          by_cases q : P
          · exact hne q
          · obtain ⟨rfl, rfl, k, rfl, hk⟩ := spec z q
            have hm := (sp_mem (ws := wsF (frs (wsS [1] [0] (mn R C sd) 1))) (l := smF A B R C sd (frs (wsS [1] [0] (mn R C sd) 1))) h2).mp hk
            exact absurd ((ps_oth h2).mpr hm) hin
  · have br : ev (callI tab fu K) (.cmp .eq (.bi false .len (.cons (.var 5) .nil)) (.bi false .len (.cons (.var 4) .nil))) [some (.d (gD A B)), some (.d (.int sd)), some (.d (.list ((pm A B C sd).map lsD))), some (.r s.length), some (.d (ltD sp)), some (.d (ltD lot)), x6, none, none, x9] (s ++ [some (.lst (xs.map Vl.d))]) = .ok (.d (.bool false)) (s ++ [some (.lst (xs.map Vl.d))]) := by
      have : ¬ (lot.length : Int) = sp.length := by omega
      simp [ltD, cmpV, dataOf, eqD_int, this]
    rw [exS_ite, evT_eq, br]
    simp
    refine hN _ _ ⟨xs, _, _, _, _, rfl, hx, by omega, fun z => ?_, rfl⟩ rfl
    rcases hP z with q | ⟨rfl, k, rfl, _⟩
    · exact hne q
    · exact absurd rfl hlen
end
end Law

set_option maxHeartbeats 1000000
namespace Law
open PySem SM
section
variable {fu K : Nat} {s t u : Sto} {A B M : List (List Int)} {m n R C c : Nat} {ws l : List Int} {sd : Nat} {fr : List (Int × Int)} {lot sp : List Nat}
theorem lcorners_ok (hK : 7 ≤ K) (hf : 2 ^ 2000 ≤ fu) (g : Gv A B R C) (h2 : sd < 2) : Ok (callI tab fu K i__law_corners [.d (gD A B), .d (.int sd)] s) (COk (mn R C sd) s) nX := by
  obtain ⟨K, rfl⟩ : ∃ k, K = k + 1 := ⟨K - 1, by omega⟩
  have py := pays_ok (fu := fu) (K := K) (s := s) (by omega) g h2
  have mt := pm_ok g h2
  have lM := mt.len
  have m1 := mt.m1
  have m5 := mt.m5
  have n1 := mt.n1
  have n5 := mt.n5
  have so := spOk (fr := frs (wsS [1] [0] (mn R C sd) 1)) g h2
  obtain ⟨k, hk⟩ := List.exists_mem_of_ne_nil _ so.ne
  have kn := so.lt k hk
  obtain ⟨q1, q2, q3⟩ := lots_ok n5
  obtain ⟨r1, r2, r3⟩ := lots_ok m5
  obtain ⟨a, ha, ea⟩ := List.mem_iff_getElem.mp (q2 k kn)
  obtain ⟨b, hb, eb⟩ := List.mem_iff_getElem.mp (r2 0 (by omega))
  have l1 : ∀ q, callI tab fu K i__law_lots [.d (.int (mn R C (1 - sd) : Nat))] q = .ok (.d (.list ((lots (mn R C (1 - sd))).map ltD))) q := fun q => llots_ok (by omega) n5
  have l2 : ∀ q, callI tab fu K i__law_lots [.d (.int (mn R C sd : Nat))] q = .ok (.d (.list ((lots (mn R C sd)).map ltD))) q := fun q => llots_ok (by omega) m5
  refine Ok_call (F := d__law_corners) rfl rfl ?_
  simp only [d__law_corners, b__law_corners]
  refine Sw_cut (CoB s A B R C sd 0 0 (a < 0)) ?_ fun e t hJ => ?_
  · simp [-List.map_map, py, mkL_true]
    exact ⟨[], none, none, none, none, rfl, fun _ h => (by cases h), by simp, fun h => h.elim, rfl⟩
  have a0 : L2.atI ((pm A B C sd).map lsD) 0 = some (lsD ((pm A B C sd).getD 0 [])) := by
    rw [show (0 : Int) = ((0 : Nat) : Int) by rfl, atI_nat (i := 0) (by simp; omega), SM.getD_lt (show 0 < (pm A B C sd).length by omega)]; simp
  have l0 := (mt.rw_ _ (SM.getD_mem (d := []) (show 0 < (pm A B C sd).length by omega))).1
  have lenl : ∀ q, biV false .len [.d (lsD ((pm A B C sd).getD 0 []))] q = some (.d (.int (mn R C (1 - sd) : Nat)), q) := fun q => by unfold lsD; rw [w_len_l]; simp only [List.length_map, l0]
  refine Sw_cut (CoB s A B R C sd (lots (mn R C (1 - sd))).length 0 (a < (lots (mn R C (1 - sd))).length)) ?_ fun e t hJ => ?_
  · obtain ⟨xs, x4, x5, x6, x9, ht, hx, hl, hp, he⟩ := hJ
    rw [exS_for_vals (ds := (lots (mn R C (1 - sd))).map ltD) (s' := t) (by subst he; simp [-List.map_map, -List.getD_eq_getElem?_getD, a0, lenl, l1])]
    refine Sw_goN (fun i => CoB s A B R C sd i 0 (a < i)) (fun i hi e t hJ => ?_) (fun e t z => by simpa using z) ⟨xs, x4, x5, x6, x9, ht, hx, by omega, hp, he⟩
    have hi' : i < (lots (mn R C (1 - sd))).length := by simpa using hi
    rw [get_map hi]
    obtain ⟨s1, s2, s3⟩ := q1 _ (List.getElem_mem hi')
    obtain ⟨xs, x4, x5, x6, x9, ht, hx, hl, hp, he⟩ := hJ
    subst ht he
    rw [turnS_var]
    refine Sw_cut (fun e t => CoB s A B R C sd (i + 1) 0 (a < i + 1) e t) ?_ fun e t z => z
    have rg : itr (callI tab fu K) (.itv (.call i__law_lots (.cons (.bi false .len (.cons (.var 2) .nil)) .nil))) (List.set [some (.d (gD A B)), some (.d (.int sd)), some (.d (.list ((pm A B C sd).map lsD))), some (.r s.length), x4, x5, x6, none, none, x9] 4 (some (.d (ltD (lots (mn R C (1 - sd)))[i])))) (s ++ [some (.lst (xs.map Vl.d))]) = .ok (.vals ((lots (mn R C sd)).map ltD)) (s ++ [some (.lst (xs.map Vl.d))]) := by
      simp [-List.map_map, lM, l2]
    rw [exS_for_vals rg]
    refine Sw_goN (fun j e t => CoB s A B R C sd i j (a < i ∨ (i = a ∧ b < j)) e t ∧ e[4]? = some (some (.d (ltD (lots (mn R C (1 - sd)))[i])))) (fun j hj e t ⟨hJ, h4⟩ => ?_) (fun e t ⟨z, _⟩ => ?_) ⟨⟨xs, _, x5, x6, x9, rfl, hx, hl, fun z => hp (by omega), rfl⟩, rfl⟩
    · have hj' : j < (lots (mn R C sd)).length := by simpa using hj
      rw [get_map hj]
      obtain ⟨u1, u2, u3⟩ := r1 _ (List.getElem_mem hj')
      obtain ⟨xs, x4, x5, x6, x9, ht, hx, hl, hp, he⟩ := hJ
      subst ht he
      have h4 : x4 = some (.d (ltD (lots (mn R C (1 - sd)))[i])) := by simpa using h4
      subst h4
      rw [turnS_var]
      refine turn_ok (i := i) (j := j) (P := a < i ∨ (i = a ∧ b < j)) (P' := a < i ∨ (i = a ∧ b < j + 1)) (x6 := x6) (x9 := x9) (xs := xs) (by omega) hf g h2 (by omega) s1 s2 s3 u1 u2 u3 hx hl (fun z => ?_) hp fun e t z z4 => ⟨z, z4⟩
      by_cases q : a < i ∨ (i = a ∧ b < j)
      · exact .inl q
      · have e1 : i = a := by omega
        have e2 : j = b := by omega
        subst e1 e2
        exact .inr ⟨eb, k, ea, hk⟩
    · obtain ⟨xs, x4, x5, x6, x9, ht, hx, hl, hp, he⟩ := z
      rw [List.length_map] at hl hp
      exact ⟨xs, x4, x5, x6, x9, ht, hx, by omega, fun z => hp (by omega), he⟩
  obtain ⟨xs, x4, x5, x6, x9, ht, hx, hl, hp, he⟩ := hJ
  subst ht he
  simp [frz_new]
  exact Lv_app ⟨rfl, xs, rfl, hx, hp (by omega), by omega⟩
end
end Law

set_option maxHeartbeats 1000000
namespace Law
open PySem SM
section
variable {fu K n : Nat} {s t u : Sto} {b : Int}
theorem q10_31 : binI .pow 10 31 = some 10000000000000000000000000000000 := by decide +kernel
theorem q10_30 : binI .pow 10 30 = some 1000000000000000000000000000000 := by decide +kernel
theorem q10_28 : binI .pow 10 28 = some 10000000000000000000000000000 := by decide +kernel
theorem q10_27 : binI .pow 10 27 = some 1000000000000000000000000000 := by decide +kernel
theorem q10_19 : binI .pow 10 19 = some 10000000000000000000 := by decide +kernel
theorem q10_18 : binI .pow 10 18 = some 1000000000000000000 := by decide +kernel
theorem take_ok {m : Int} (hK : 1 ≤ K) (hs : Dk n b s) (h0 : 0 ≤ b) (hb : b < 2 ^ 60) (hm : 1 ≤ m) (hl : m.natAbs < 2 ^ 8000) : Ok (callI tab fu K i__law_take [.r n, .d (.int m)] s) (DrQ n (b + 1) m s) nX := by
  obtain ⟨K, rfl⟩ : ∃ k, K = k + 1 := ⟨K - 1, by omega⟩
  obtain ⟨a0, a1, c, hs, ⟨c0, a10, a11⟩, cb⟩ := hs
  have hn := listAt_lt hs
  have m0 : 0 < m := by omega
  have hl9 : m.natAbs.log2 < 9000 := by
    by_cases h0 : m.natAbs = 0
    · rw [h0]; decide
    · exact Nat.lt_trans ((Nat.log2_lt h0).mpr hl) (by decide)
  refine Ok_call (F := d__law_take) rfl rfl ?_
  simp only [d__law_take, b__law_take]
  refine Sw_cut (fun e t => e = [some (.r n), some (.d (.int m)), none, none] ∧ t = s) ?_ fun e t ⟨he, ht⟩ => ?_
  · by_cases hr : 0 < a0
    · simp [evT_eq, hs, hr, m0, hl9, listAt_put, hn]
      exact Lv_len putL_length ⟨.put, ⟨_, _, _, listAt_put hn, ⟨c0, a10, a11⟩, by omega⟩, inR_mod _ hm⟩
    · simp [evT_eq, hs, hr]
  subst he ht
  refine Sw_cut (fun e v => e = [some (.r n), some (.d (.int m)), none, none] ∧ v = putL n [.d (.int a0), .d (.int a1), .d (.int (c + 1))] t) (by simp [evT_eq, hs]) fun e v ⟨he, hv⟩ => ?_
  subst he
  have ft : Fr n t v := by rw [hv]; exact .put
  have hv' : listAt n v = some [.d (.int a0), .d (.int a1), .d (.int (c + 1))] := by rw [hv]; exact listAt_put hn
  clear hv
  have cs : (c + 1).natAbs < 2 ^ 64 := by omega
  refine Sw_cut (fun e w => w = v ∧ ∃ x : Int, 0 ≤ x ∧ x < 10000000000000000000000000331 ∧ e = [some (.r n), some (.d (.int m)), none, some (.d (.int x))]) ?_ fun e w ⟨hw, x, x0, x1, he⟩ => ?_
  · have k1 : mulOk 715225741 (c + 1) := mulOk_l (by decide)
    have k2 : mulOk (715225741 * (c + 1)) (c + 1) := mulOk_r cs
    have k3 : mulOk 39916801 (c + 1) := mulOk_l (by decide)
    simp [hv', k1, k2, k3, bin_pow q10_28]
    omega
  subst he hw
  refine Sw_cut (fun e v => v = w ∧ ∃ x : Int, 0 ≤ x ∧ x < 1000000000000000000000000000057 ∧ e = [some (.r n), some (.d (.int m)), none, some (.d (.int x))]) ?_ fun e v ⟨hw, y, y0, y1, he⟩ => ?_
  · have k1 : mulOk x x := mulOk_of (k := 101) (l := 101) (by omega) (by omega) (by omega)
    have xx : (x * x).natAbs < 2 ^ 202 := by
      rw [Int.natAbs_mul, show (2 : Nat) ^ 202 = 2 ^ 101 * 2 ^ 101 by rw [← Nat.pow_add]]
      exact Nat.mul_lt_mul_of_lt_of_lt (by omega) (by omega)
    have k2 : mulOk (x * x) x := mulOk_of (k := 202) (l := 101) xx (by omega) (by omega)
    have k3 : mulOk 7 (c + 1) := mulOk_l (by decide)
    simp [hv', k1, k2, k3, bin_pow q10_30]
    omega
  subst he hw
  have k4 : mulOk y (y + 91193) := mulOk_of (k := 101) (l := 102) (by omega) (by omega) (by omega)
  simp [k4, bin_pow q10_31, m0]
  exact Lv_len ft.1 ⟨ft, ⟨_, _, _, hv', ⟨by omega, a10, a11⟩, by omega⟩, inR_mod _ hm⟩
theorem dr {m : Int} (hK : 1 ≤ K) (hs : Dk n b s) (h0 : 0 ≤ b) (hb : b < 2 ^ 60) (hm : 1 ≤ m) (hl : m ≤ 1000000) : Ok (callI tab fu K i__law_take [.r n, .d (.int m)] s) (DrQ n (b + 1) m s) nX :=
  take_ok hK hs h0 hb hm (Nat.lt_of_lt_of_le (show m.natAbs < 2 ^ 20 by omega) (Nat.pow_le_pow_right (by decide) (by decide)))
def WlQ (s : Sto) (v : Vl) (t : Sto) : Prop := v = .r s.length ∧ ∃ o, t = s ++ [o] ∧ Dk s.length 0 t
theorem well_ok {ns : List Int} {k : Nat} (hK : 1 ≤ K) (hn : ns.length ≤ 1000) (hk : k < 1000) : Ok (callI tab fu K i__law_well [.d (.list (ns.map .int)), .d (.int k)] s) (WlQ s) nX := by
  obtain ⟨K, rfl⟩ : ∃ k, K = k + 1 := ⟨K - 1, by omega⟩
  refine Ok_call (F := d__law_well) rfl rfl ?_
  simp only [d__law_well, b__law_well]
  have k1 : mulOk 29 (k : Int) := mulOk_l (by decide)
  have k2 : mulOk 3 (k : Int) := mulOk_l (by decide)
  have k3 : ∀ x : Int, mulOk x 9241 := fun x => mulOk_r (by decide)
  have k4 : ∀ x : Int, mulOk 17 x := fun x => mulOk_l (by decide)
  have k5 : ∀ x : Int, mulOk x 6151 := fun x => mulOk_r (by decide)
  refine Sw_cut (fun e v => v = s ∧ ∃ c : Int, e = [some (.d (.list (ns.map .int))), some (.d (.int k)), some (.d (.int c)), none, none]) (by simp [k1]) fun e v ⟨hv, c, he⟩ => ?_
  subst he hv
  refine Sw_cut (fun e w => w = v ∧ ∃ c : Int, e = [some (.d (.list (ns.map .int))), some (.d (.int k)), some (.d (.int c)), none, none]) ?_ fun e w ⟨hw, c, he⟩ => ?_
  · by_cases h : k < ns.length
    · have a := at_int (r := ns) (i := k) h
      have h' : (k : Int) < ns.length := by omega
      simp [-List.getD_eq_getElem?_getD, evT_eq, h, a]
    · simp [evT_eq, h]
  subst he hw
  refine Sw_cut (fun e v => v = w ∧ ∃ x : Int, e = [some (.d (.list (ns.map .int))), some (.d (.int k)), some (.d (.int c)), some (.d (.int x)), none]) (by simp) fun e v ⟨hv, x, he⟩ => ?_
  subst he hv
  refine Sw_cut (fun e w => w = v ∧ ∃ (x : Int) (z : Option Vl), e = [some (.d (.list (ns.map .int))), some (.d (.int k)), some (.d (.int c)), some (.d (.int x)), z]) ?_ fun e w ⟨hw, x, z, he⟩ => ?_
  · rw [exS_for_vals (ds := ns.map .int) (s' := v) (by simp)]
    refine Sw_goM PyData.int (fun _ e w => w = v ∧ ∃ (x : Int) (z : Option Vl), e = [some (.d (.list (ns.map .int))), some (.d (.int k)), some (.d (.int c)), some (.d (.int x)), z]) (fun y r e w ⟨hw, x, z, he⟩ => ?_) (fun _ _ z => z) ⟨rfl, x, none, rfl⟩
    subst he hw
    simp [turnS_var, k5, bin_pow q10_19, bin_pow q10_27]
  subst he hw
  by_cases hc : c < 0
  · simp [bin_pow q10_18, bin_pow q10_28, mkL_true, k2, k3, k4, hc]
    exact Lv_new (Nat.le_refl _) ⟨rfl, _, rfl, _, _, _, listAt_new, ⟨by omega, by omega, by omega⟩, by omega⟩
  · simp [bin_pow q10_18, bin_pow q10_28, mkL_true, k2, k3, k4, hc]
    exact Lv_new (Nat.le_refl _) ⟨rfl, _, rfl, _, _, _, listAt_new, ⟨by omega, by omega, by omega⟩, by omega⟩
end
end Law

set_option maxHeartbeats 1000000
namespace Law
open PySem SM
section
variable {fu K n m p : Nat} {s t u : Sto} {b : Int} {ws : List Int}
def N295 : Int := 10 ^ 295
theorem q10_59 : binI .pow 10 59 = some 100000000000000000000000000000000000000000000000000000000000 := by decide +kernel
theorem q295 : binI .pow 100000000000000000000000000000000000000000000000000000000000 5 = some N295 := by decide +kernel
theorem N295_b : 1 ≤ N295 ∧ N295 < 2 ^ 981 := by decide +kernel
theorem ldrawn_ok (hK : 4 ≤ K) (hf : 2 ^ 2000 ≤ fu) (hs : Dk n b s) (h0 : 0 ≤ b) (hb : b < 2 ^ 50) (m1 : 1 ≤ m) (m5 : m ≤ 5) : Ok (callI tab fu K i__law_drawn [.r n, .d (.int m)] s) (fun v t => Fr n s t ∧ Dk n (b + 7) t ∧ ∃ ws, v = .d (mixD ws) ∧ Wq ws m) nX := by
  obtain ⟨K, rfl⟩ : ∃ k, K = k + 1 := ⟨K - 1, by omega⟩
  obtain ⟨n1, n2⟩ := N295_b
  have e981 : ((2 ^ 981 : Nat) : Int) = 2 ^ 981 := by norm_cast
  refine Ok_call (F := d__law_drawn) rfl rfl ?_
  simp only [d__law_drawn, b__law_drawn]
  refine Sw_cut (fun e v => Xd n (b + 1) s v ∧ ∃ r : Int, 1 ≤ r ∧ r ≤ N295 ∧ e = [some (.r n), some (.d (.int m)), some (.d (.int r)), none, none, none]) ?_ fun e v ⟨x, r, r1, r2, he⟩ => ?_
  · simp [bin_pow q10_30, bin_pow q10_59, bin_pow q295, mkL_f, allD]
    refine (dr (K := K) (m := 6) (by omega) hs h0 (by omega) (by omega) (by omega)).imp fun y t ⟨f1, d1, i, e1, i0, i1⟩ => ?_
    subst e1
    have xt := (Xd.refl hs).fr f1 d1
    have : i = 0 ∨ i = 1 ∨ i = 2 ∨ i = 3 ∨ i = 4 ∨ i = 5 := by omega
    have l3 : (1000000000000000000000000000000 : Int) ≤ N295 := by decide +kernel
    rcases this with rfl | rfl | rfl | rfl | rfl | rfl
    all_goals simp [L2.atI, L2.ixN]
    all_goals first | exact ⟨xt, by omega⟩ | exact ⟨xt, n1⟩ | exact ⟨xt, by omega, by omega⟩
  subst he
  have rl : r.natAbs < 2 ^ 981 := by omega
  refine Sw_cut (fun e w => ∃ (p : Nat) (is : List Int), Xd n (b + 6) s w ∧ s.length ≤ p ∧ listAt p w = some (is.map vI) ∧ is.length = m ∧ (∀ i ∈ is, 0 ≤ i ∧ i ≤ N295) ∧ e = [some (.r n), some (.d (.int m)), some (.d (.int r)), some (.r p), none, none]) ?_ fun e w ⟨p, is, xw, hp, lp, il, ib, he⟩ => ?_
  · have cmp : Ok (ev (callI tab fu K) (.comp true (.call i__law_take (.cons (.var 0) (.cons (.var 2) .nil))) (.var 4) (.rng1 (.var 1)) .nil [4]) [some (.r n), some (.d (.int m)), some (.d (.int r)), none, none, none] v) (fun y w => ∃ (p : Nat) (is : List Int), y = .r p ∧ Xd n (b + 6) s w ∧ s.length ≤ p ∧ listAt p w = some (is.map vI) ∧ is.length = m ∧ ∀ i ∈ is, 0 ≤ i ∧ i ≤ N295) nX := by
      refine Ok_comp_at (m := true) (fun j t => Xd n (b + 1 + j) s t) (fun _ d => ∃ i : Int, d = .int i ∧ (0 ≤ i ∧ i ≤ N295)) (ds := (List.range m).map fun j : Nat => PyData.int j) (s' := v) (by simp [show m ≤ 1000000 by omega]) (by simp; omega) (by simpa using x) (fun j hj t xt => ⟨_, rfl, ?_⟩) fun xs t hl hr xt => ?_
      · have hj : j < m := by simpa using hj
        simp [wipe]
        refine (take_ok (K := K) (m := r) (by omega) xt.src (by omega) (by omega) r1 (Nat.lt_of_lt_of_le rl (Nat.pow_le_pow_right (by decide) (by decide)))).imp fun y t ⟨f1, d1, i, e1, i0, i1⟩ => ?_
        subst e1
        exact ⟨xt.fr f1 (d1.mono (by omega)), _, rfl, i, rfl, i0, by omega⟩
      · obtain ⟨is, rfl, hi⟩ := ints_of fun x hx => by
          obtain ⟨k, hk, rfl⟩ := List.mem_iff_getElem.mp hx
          exact hr k hk
        simp at hl
        refine ⟨t.length, is, rfl, (xt.more (by simp; omega)).app, xt.len, ?_, by simpa using hl, hi⟩
        rw [listAt_new, vI_map]
    rw [exS_asgv, Sw_bindF]
    refine cmp.mono (fun y w h => ?_) fun _ _ _ z => z.elim
    obtain ⟨p, is, rfl, h⟩ := h
    exact ⟨p, is, h.1, h.2.1, h.2.2.1, h.2.2.2.1, h.2.2.2.2, rfl⟩
  subst he
  have pn : p ≠ n := by have := x.lt; omega
  refine Sw_cut (fun e z => ∃ sure : Nat, sure < m ∧ Xd n (b + 7) s z ∧ listAt p z = some (is.map vI) ∧ e = [some (.r n), some (.d (.int m)), some (.d (.int r)), some (.r p), none, some (.d (.int sure))]) ?_ fun e z ⟨sure, sm, xz, lz, he⟩ => ?_
  · simp
    refine (dr (K := K) (m := m) (by omega) xw.src (by omega) (by omega) (by omega) (by omega)).imp fun y t ⟨f1, d1, i, e1, i0, i1⟩ => ?_
    subst e1
    obtain ⟨k, rfl⟩ : ∃ k : Nat, i = k := ⟨i.toNat, by omega⟩
    simp
    exact ⟨k, by omega, xw.fr f1 (d1.mono (by omega)), by rw [listAt_same (f1.2 p pn)]; exact lp, rfl⟩
  subst he
  have sN := le_sum fun i hi => (ib i hi).1
  have sB := sum_le_n fun i hi => (ib i hi).2
  have wq : ∀ js : List Int, js.length = m → (∀ i ∈ js, 0 ≤ i ∧ i ≤ N295) → 0 < js.sum → Wq js m := fun js jl jb jp => by
    have sB := sum_le_n fun i hi => (jb i hi).2
    rw [jl] at sB
    have e1 : (m : Int) * N295 ≤ 5 * N295 := Int.mul_le_mul_of_nonneg_right (by omega) (by omega)
    have e2 : (5 : Int) * 2 ^ 981 < 2 ^ 2000 := by decide +kernel
    have e3 : ((2 ^ 2000 : Nat) : Int) = 2 ^ 2000 := by norm_cast
    exact ⟨jl, m5, fun i hi => (jb i hi).1, jp, by omega⟩
  refine Sw_cut (fun e y => ∃ js : List Int, js.length = m ∧ (∀ i ∈ js, 0 ≤ i ∧ i ≤ N295) ∧ 0 < js.sum ∧ Xd n (b + 7) s y ∧ listAt p y = some (js.map vI) ∧ e = [some (.r n), some (.d (.int m)), some (.d (.int r)), some (.r p), none, some (.d (.int sure))]) ?_ fun e y ⟨js, jl, jb, jp, xy, ly, he⟩ => ?_
  · have sm' := w_sum_r (m := false) lz
    by_cases z0 : is.sum = 0
    · have ix : L2.ixN (is.map vI).length (sure : Int) = some sure := ixN_nat (by simp; omega)
      have ix' : L2.ixN is.length (sure : Int) = some sure := by simpa using ix
      simp [evT_eq, sm', z0, lz, ix', cmpV, dataOf, eqD_int]
      refine ⟨is.set sure 1, by simp [il], fun i hi => ?_, ?_, xz.put hp, by rw [listAt_put (listAt_lt lz), List.map_set]; rfl⟩
      · rcases List.mem_or_eq_of_mem_set hi with hi | rfl
        · exact ib i hi
        · exact ⟨by omega, n1⟩
      · have := (le_sum (is := is.set sure 1) fun i hi => by
          rcases List.mem_or_eq_of_mem_set hi with hi | rfl
          · exact (ib i hi).1
          · decide).2 1 (mem_set' (by omega))
        omega
    · simp [evT_eq, sm', z0, cmpV, dataOf, eqD_int]
      exact ⟨is, il, fun i hi => ib i hi, by omega, xz, lz⟩
  subst he
  have w := wq js jl jb jp
  have pt := lparted_ok (fu := fu) (K := K) (s := y) (p := p) (by omega) hf w ly
  simp [pt]
  exact xy.lv ⟨xy.take.1, xy.take.2, js, rfl, w⟩
end
end Law

set_option maxHeartbeats 1000000
namespace Law
open PySem SM
section
variable {fu K n m p : Nat} {s t u : Sto} {b : Int} {ws us vs : List Int}
def hlf (us : List Int) : List (Int × Int) := us.map fun w => frO w (2 * us.sum)
theorem hlf_eq (hu : 0 < us.sum) (hv : 0 < vs.sum) : hlf us ++ hlf vs = frs (us.map (· * vs.sum) ++ vs.map (· * us.sum)) := by
  unfold hlf frs
  have e : (us.map (· * vs.sum) ++ vs.map (· * us.sum)).sum = 2 * us.sum * vs.sum := by
    rw [List.sum_append, sum_scale, sum_scale]
    grind
  rw [e, List.map_append, List.map_map, List.map_map]
  congr 1
  · refine List.map_congr_left fun w _ => ?_
    exact (frO_scale (by omega) hv).symm
  · refine List.map_congr_left fun w _ => ?_
    show _ = frO (w * us.sum) (2 * us.sum * vs.sum)
    rw [show 2 * us.sum * vs.sum = 2 * vs.sum * us.sum by grind]
    exact (frO_scale (by omega) hu).symm
def HaJ (n m k1 : Nat) (s : Sto) (b : Int) (j : Nat) (L : List (Int × Int)) (e : Sl) (t : Sto) : Prop := ∃ z5 z6 : Option Vl, Xd n (b + 1 + 5 * j) s t ∧ e = [some (.r n), some (.d (.int m)), some (.d (.int k1)), some (.d (.int N295)), some (.d (.list (L.map frD))), z5, z6, none, none]
def HU (us : List Int) (k : Nat) : Prop := us.length = k ∧ ∀ u ∈ us, 1 ≤ u ∧ u ≤ N295
theorem HU.pos (h : HU us p) (hp : 1 ≤ p) : 0 < us.sum := by
  have hs := le_sum fun u hu => (show 0 ≤ u by have := (h.2 u hu).1; omega)
  obtain ⟨hl, hr⟩ := h
  cases us with
  | nil => simp at hl; omega
  | cons a r =>
    have h1 := (hr a (by simp)).1
    have := hs.2 a (by simp)
    omega
theorem HU.lt (h : HU us p) (hp : p ≤ 5) : us.sum ≤ 5 * N295 := by
  have sB := sum_le_n fun i hi => (h.2 i hi).2
  rw [h.1] at sB
  have := N295_b.1
  have e1 : (p : Int) * N295 ≤ 5 * N295 := Int.mul_le_mul_of_nonneg_right (by omega) (by omega)
  omega
theorem half_ok {k1 k j : Nat} {L : List (Int × Int)} {z6 : Option Vl} (hK : 2 ≤ K) (hf : 2 ^ 2000 ≤ fu) (h0 : 0 ≤ b) (hb : b < 2 ^ 50) (hj : j ≤ 1) (hk : 1 ≤ k) (k5 : k ≤ 5) (lL : L.length ≤ 5) (x : Xd n (b + 1 + 5 * j) s t) {N : Sl → Sto → Prop} {Rr : Vl → Sto → Prop} {X : Nat → Vl → Sl → Sto → Prop} {Bk : Sl → Sto → Prop}
    (hN : ∀ us, HU us k → ∀ e t, HaJ n m k1 s b (j + 1) (L ++ hlf us) e t → N e t) :
    Sw (exS (callI tab fu K) fu (.cons (.asg (.var 6) (.comp false (.bop false .add (.lit (.int 1)) (.call i__law_take (.cons (.var 0) (.cons (.var 3) .nil)))) (.var 7) (.rng1 (.var 5)) .nil [7]))
    (.cons (.asg (.var 4) (.bop false .add (.var 4) (.comp false (.call i__law_ratio (.cons (.var 8) (.cons (.bop false .mul (.lit (.int 2)) (.bi false .sum (.cons (.var 6) .nil))) .nil))) (.var 8) (.itv (.var 6)) .nil [8])))
    .nil)) [some (.r n), some (.d (.int m)), some (.d (.int k1)), some (.d (.int N295)), some (.d (.list (L.map frD))), some (.d (.int k)), z6, none, none] t) ⟨N, Rr, Bk, N, X⟩ := by
  obtain ⟨n1, n2⟩ := N295_b
  have e981 : ((2 ^ 981 : Nat) : Int) = 2 ^ 981 := by norm_cast
  refine Sw_cut (fun e w => Xd n (b + 1 + 5 * ((j + 1 : Nat) : Int)) s w ∧ ∃ us : List Int, HU us k ∧ e = [some (.r n), some (.d (.int m)), some (.d (.int k1)), some (.d (.int N295)), some (.d (.list (L.map frD))), some (.d (.int k)), some (.d (.list (us.map .int))), none, none]) ?_ fun e w ⟨xw, us, hu, he⟩ => ?_
  · have cmp : Ok (ev (callI tab fu K) (.comp false (.bop false .add (.lit (.int 1)) (.call i__law_take (.cons (.var 0) (.cons (.var 3) .nil)))) (.var 7) (.rng1 (.var 5)) .nil [7]) [some (.r n), some (.d (.int m)), some (.d (.int k1)), some (.d (.int N295)), some (.d (.list (L.map frD))), some (.d (.int k)), z6, none, none] t) (fun y w => Xd n (b + 1 + 5 * ((j + 1 : Nat) : Int)) s w ∧ ∃ us : List Int, HU us k ∧ y = .d (.list (us.map .int))) nX := by
      refine Ok_comp_at (m := false) (fun i t => Xd n (b + 1 + 5 * j + i) s t) (fun _ d => ∃ i : Int, d = .int i ∧ (1 ≤ i ∧ i ≤ N295)) (ds := (List.range k).map fun j : Nat => PyData.int j) (s' := t) (by simp [show k ≤ 1000000 by omega]) (by simp; omega) (by simpa using x) (fun i hi t xt => ⟨_, rfl, ?_⟩) fun xs t hl hr xt => ?_
      · have hi : i < k := by simpa using hi
        simp [wipe]
        refine (take_ok (K := K) (m := N295) (by omega) xt.src (by omega) (by omega) n1 (Nat.lt_of_lt_of_le (show N295.natAbs < 2 ^ 981 by omega) (Nat.pow_le_pow_right (by decide) (by decide)))).imp fun y t ⟨f1, d1, i, e1, i0, i1⟩ => ?_
        subst e1
        simp
        exact ⟨xt.fr f1 (d1.mono (by omega)), by omega, by omega⟩
      · obtain ⟨is, rfl, hi⟩ := ints_of fun x hx => by
          obtain ⟨k, hk, rfl⟩ := List.mem_iff_getElem.mp hx
          exact hr k hk
        simp at hl
        exact ⟨xt.more (by simp; omega), is, ⟨by simpa using hl, hi⟩, rfl⟩
    rw [exS_asgv, Sw_bindF]
    refine cmp.mono (fun y w h => ?_) fun _ _ _ z => z.elim
    obtain ⟨h1, us, hu, rfl⟩ := h
    exact ⟨h1, us, hu, rfl⟩
  subst he
  have up := hu.pos hk
  have ul := hu.lt k5
  have e2 : (10 : Int) * 2 ^ 981 < 2 ^ 2000 := by decide +kernel
  have e3 : ((2 ^ 2000 : Nat) : Int) = 2 ^ 2000 := by norm_cast
  have cmp : ev (callI tab fu K) (.comp false (.call i__law_ratio (.cons (.var 8) (.cons (.bop false .mul (.lit (.int 2)) (.bi false .sum (.cons (.var 6) .nil))) .nil))) (.var 8) (.itv (.var 6)) .nil [8]) [some (.r n), some (.d (.int m)), some (.d (.int k1)), some (.d (.int N295)), some (.d (.list (L.map frD))), some (.d (.int k)), some (.d (.list (us.map .int))), none, none] w = .ok (.d (.list ((hlf us).map frD))) w := by
    unfold hlf
    rw [List.map_map]
    refine comp_on PyData.int _ (by simp) (by have := hu.1; omega) fun x hx => ⟨_, rfl, ?_⟩
    have r := lratio_ok (fu := fu) (K := K) (s := w) (a := x) (b := 2 * us.sum) hK hf (by omega) (by omega)
    have mo : mulOk 2 us.sum := mulOk_l (by decide)
    simp [wipe, mo, r]
  have ad : binV false .add (.d (.list (L.map frD))) (.d (.list ((hlf us).map frD))) w = some (.d (.list ((L ++ hlf us).map frD)), w) := by
    show mkL false ((L.map frD).map Vl.d ++ ((hlf us).map frD).map Vl.d) w = _
    rw [← List.map_append, ← List.map_append, mkL_data, if_pos (by have := hu.1; simp [hlf]; omega)]
  simp only [exS_cons, exS_asgv, ev_bop, ev_var, List.getElem?_cons_succ, List.getElem?_cons_zero, varR_some, ok_bind, cmp, ad, ofP_some, bindF_ok, exS_nil, thenF_nx]
  exact hN us hu _ _ ⟨_, _, xw, rfl⟩
theorem lhalves_ok (hK : 3 ≤ K) (hf : 2 ^ 2000 ≤ fu) (hs : Dk n b s) (h0 : 0 ≤ b) (hb : b < 2 ^ 50) (m1 : 2 ≤ m) (m5 : m ≤ 5) : Ok (callI tab fu K i__law_halves [.r n, .d (.int m)] s) (fun v t => Fr n s t ∧ Dk n (b + 11) t ∧ ∃ ws, v = .d (mixD ws) ∧ Wq ws m) nX := by
  obtain ⟨K, rfl⟩ : ∃ k, K = k + 1 := ⟨K - 1, by omega⟩
  refine Ok_call (F := d__law_halves) rfl rfl ?_
  simp only [d__law_halves, b__law_halves]
  refine Sw_cut (fun e t => ∃ k1 : Nat, 1 ≤ k1 ∧ k1 < m ∧ HaJ n m k1 s b 0 [] e t) ?_ fun e t ⟨k1, h1, h2, z5, z6, x, he⟩ => ?_
  · simp [bin_pow q10_59, bin_pow q295, mkL_f, allD]
    refine (dr (K := K) (m := (m : Int) - 1) (by omega) hs h0 (by omega) (by omega) (by omega)).imp fun y t ⟨f1, d1, i, e1, i0, i1⟩ => ?_
    subst e1
    obtain ⟨k, rfl⟩ : ∃ k : Nat, i = k := ⟨i.toNat, by omega⟩
    simp
    rw [Sw_tgF]
    exact ⟨_, rfl, k + 1, by omega, by omega, none, none, by simpa using (Xd.refl hs).fr f1 d1, by simp; omega⟩
  subst he
  refine Sw_cut (fun e t => ∃ us vs : List Int, HU us k1 ∧ HU vs (m - k1) ∧ HaJ n m k1 s b 2 (hlf us ++ hlf vs) e t) ?_ fun e t ⟨us, vs, hu, hv, z5, z6, x, he⟩ => ?_
  · have sub : (m : Int) - (k1 : Int) = ((m - k1 : Nat) : Int) := by omega
    rw [exS_for_vals (ds := [.int k1, .int ((m - k1 : Nat) : Int)]) (s' := t) (by simp [mkL_f, allD, sub])]
    rw [Sw_step, turnS_var]
    refine half_ok (L := []) (j := 0) (by omega) hf h0 hb (by omega) h1 (by omega) (by simp) x fun us hu e t hJ => ?_
    obtain ⟨z5, z6, x, he⟩ := hJ
    subst he
    rw [Sw_step, turnS_var]
    refine half_ok (L := [] ++ hlf us) (j := 1) (by omega) hf h0 hb (by omega) (by omega) (by omega) (by have := hu.1; simp [hlf]; omega) x fun vs hv e t hJ => ?_
    exact ⟨us, vs, hu, hv, by simpa using hJ⟩
  subst he
  have pu := hu.pos h1
  have pv := hv.pos (by omega)
  have lu := hu.lt (by omega)
  have lv := hv.lt (by omega)
  obtain ⟨n1, n2⟩ := N295_b
  have eq := hlf_eq pu pv
  have hs2 : (us.map (· * vs.sum) ++ vs.map (· * us.sum)).sum = 2 * us.sum * vs.sum := by
    rw [List.sum_append, sum_scale, sum_scale]
    grind
  have hp : 0 < us.sum * vs.sum := Int.mul_pos pu pv
  have w : Wq (us.map (· * vs.sum) ++ vs.map (· * us.sum)) m := by
    refine ⟨by simp [hu.1, hv.1]; omega, m5, fun w hw => ?_, ?_, ?_⟩
    · rcases List.mem_append.mp hw with hw | hw
      · obtain ⟨y, hy, rfl⟩ := List.mem_map.mp hw
        exact Int.mul_nonneg (by have := (hu.2 y hy).1; omega) (by omega)
      · obtain ⟨y, hy, rfl⟩ := List.mem_map.mp hw
        exact Int.mul_nonneg (by have := (hv.2 y hy).1; omega) (by omega)
    · rw [hs2, Int.mul_assoc]; omega
    · have e1 : us.sum * vs.sum ≤ (5 * N295) * (5 * N295) := Int.mul_le_mul lu lv (by omega) (by omega)
      have e2 : 2 * ((5 * N295) * (5 * N295)) < 2 ^ 2000 := by decide +kernel
      have e3 : ((2 ^ 2000 : Nat) : Int) = 2 ^ 2000 := by norm_cast
      rw [hs2, Int.mul_assoc]
      omega
  simp
  refine (x.more (by simp; omega)).lv (b := b + 11) ⟨(x.more (b' := b + 11) (by simp; omega)).take.1, (x.more (b' := b + 11) (by simp; omega)).take.2, _, ?_, w⟩
  unfold mixD
  rw [← eq]
  simp
end
end Law

set_option maxHeartbeats 1000000
namespace Law
open PySem SM
section
variable {fu K n m p : Nat} {s t u : Sto} {b : Int} {ws w1 w2 : List Int}
theorem frO_eq {a b c d : Int} (hb : 0 < b) (hd : 0 < d) (h : a * d = c * b) : frO a b = frO c d := by
  rw [← frO_scale (a := a) hb hd, ← frO_scale (a := c) hd hb, h, Int.mul_comm b d]
theorem mean_fr {x1 x2 S1 S2 h : Int} (h1 : 0 < S1) (h2 : 0 < S2) : frO ((frO x1 S1).1 * (frO h 10).1 * (frO x2 S2).2 * (frO (10 - h) 10).2 + (frO x2 S2).1 * (frO (10 - h) 10).1 * ((frO x1 S1).2 * (frO h 10).2)) ((frO x1 S1).2 * (frO h 10).2 * (frO x2 S2).2 * (frO (10 - h) 10).2) = frO (x1 * h * S2 + x2 * (10 - h) * S1) (10 * S1 * S2) := by
  have c1 := frO_cross (w := x1) h1
  have c2 := frO_cross (w := x2) h2
  have c3 := frO_cross (w := h) (show (0 : Int) < 10 by decide)
  have c4 := frO_cross (w := 10 - h) (show (0 : Int) < 10 by decide)
  have p1 := frO_pos (w := x1) h1
  have p2 := frO_pos (w := x2) h2
  have p3 := frO_pos (w := h) (show (0 : Int) < 10 by decide)
  have p4 := frO_pos (w := 10 - h) (show (0 : Int) < 10 by decide)
  generalize frO x1 S1 = a at *
  generalize frO x2 S2 = c at *
  generalize frO h 10 = d at *
  generalize frO (10 - h) 10 = e at *
  obtain ⟨a1, a2⟩ := a
  obtain ⟨c1', c2'⟩ := c
  obtain ⟨d1, d2⟩ := d
  obtain ⟨e1, e2⟩ := e
  simp only at *
  refine frO_eq (Int.mul_pos (Int.mul_pos (Int.mul_pos (by omega) (by omega)) (by omega)) (by omega)) (Int.mul_pos (Int.mul_pos (by decide) h1) h2) ?_
  have t1 : a1 * d1 * c2' * e2 * (10 * S1 * S2) = x1 * h * S2 * (a2 * d2 * c2' * e2) := by
    calc a1 * d1 * c2' * e2 * (10 * S1 * S2) = (a1 * S1) * (d1 * 10) * c2' * e2 * S2 := by ac_rfl
      _ = (x1 * a2) * (h * d2) * c2' * e2 * S2 := by rw [c1, c3]
      _ = _ := by ac_rfl
  have t2 : c1' * e1 * (a2 * d2) * (10 * S1 * S2) = x2 * (10 - h) * S1 * (a2 * d2 * c2' * e2) := by
    calc c1' * e1 * (a2 * d2) * (10 * S1 * S2) = (c1' * S2) * (e1 * 10) * (a2 * d2) * S1 := by ac_rfl
      _ = (x2 * c2') * ((10 - h) * e2) * (a2 * d2) * S1 := by rw [c2, c4]
      _ = _ := by ac_rfl
  rw [Int.add_mul, Int.add_mul, t1, t2]
theorem lin_sum {f g : Nat → Int} {a c : Int} : ∀ {k : Nat}, ((List.range k).map fun i => f i * a + g i * c).sum = ((List.range k).map f).sum * a + ((List.range k).map g).sum * c
  | 0 => by simp
  | k + 1 => by
    have := lin_sum (f := f) (g := g) (a := a) (c := c) (k := k)
    simp only [List.range_succ, List.map_append, List.sum_append, this, List.map_cons, List.map_nil, List.sum_cons, List.sum_nil]
    grind
def meW (w1 w2 : List Int) (h : Int) : List Int := (List.range w1.length).map fun i => w1.getD i 0 * (h * w2.sum) + w2.getD i 0 * ((10 - h) * w1.sum)
theorem me_sum {h : Int} (hl : w1.length = w2.length) : (meW w1 w2 h).sum = 10 * w1.sum * w2.sum := by
  unfold meW
  rw [lin_sum, show (List.range w1.length).map (fun i => w1.getD i 0) = w1 from range_getD 0 w1]
  rw [hl, show (List.range w2.length).map (fun i => w2.getD i 0) = w2 from range_getD 0 w2]
  grind
theorem frs_at {j : Nat} (hj : j < ws.length) : (frs ws).getD j (0, 1) = frO (ws.getD j 0) ws.sum := by
  rw [SM.getD_lt (by simpa [frs] using hj), SM.getD_lt hj]
  simp [frs]
theorem me_at {h : Int} {j : Nat} (hj : j < w1.length) : (meW w1 w2 h).getD j 0 = w1.getD j 0 * (h * w2.sum) + w2.getD j 0 * ((10 - h) * w1.sum) := by
  rw [SM.getD_lt (by simpa [meW] using hj)]
  simp [meW]
theorem me_wq {h : Int} (h1 : Wc w1 m) (h2 : Wc w2 m) (l1 : 1 ≤ h) (l2 : h ≤ 9) : Wq (meW w1 w2 h) m := by
  have e := me_sum (h := h) (h1.len.trans h2.len.symm)
  have p1 := h1.pos
  have p2 := h2.pos
  have b1 := h1.lt
  have b2 := h2.lt
  have pp : 0 < w1.sum * w2.sum := Int.mul_pos p1 p2
  have e7 : ((2 ^ 720 : Nat) : Int) = 2 ^ 720 := by norm_cast
  have e20 : ((2 ^ 2000 : Nat) : Int) = 2 ^ 2000 := by norm_cast
  refine ⟨by simp [meW, h1.len], h1.c5, fun w hw => ?_, ?_, ?_⟩
  · obtain ⟨i, hi, rfl⟩ := List.mem_map.mp hw
    have hi := List.mem_range.mp hi
    have n1 := h1.nn _ (SM.getD_mem (d := 0) hi)
    have n2 := h2.nn _ (SM.getD_mem (d := 0) (show i < w2.length by have := h1.len; have := h2.len; omega))
    have q1 := Int.mul_nonneg n1 (Int.mul_nonneg (show 0 ≤ h by omega) (show 0 ≤ w2.sum by omega))
    have q2 := Int.mul_nonneg n2 (Int.mul_nonneg (show 0 ≤ 10 - h by omega) (show 0 ≤ w1.sum by omega))
    omega
  · rw [e, Int.mul_assoc]; omega
  · have : w1.sum * w2.sum ≤ 2 ^ 720 * 2 ^ 720 := Int.mul_le_mul (by omega) (by omega) (by omega) (by decide +kernel)
    have e2 : 10 * ((2 : Int) ^ 720 * 2 ^ 720) < 2 ^ 2000 := by decide +kernel
    rw [e, Int.mul_assoc]
    omega
def MeJ (s : Sto) (a c : Vl) (fl : List (Int × Int)) (j : Nat) (e : Sl) (t : Sto) : Prop := ∃ x3 x4 x5 x6 x7 x8, t = s ++ [some (.lst (((fl.take j).map frD).map Vl.d))] ∧ e = [some a, some c, some (.r s.length), x3, x4, x5, x6, x7, x8]
theorem small_mul {x y : Int} (hx : x.natAbs < 2 ^ 720) (hy : y.natAbs < 2 ^ 64) : (x * y).natAbs < 2 ^ 784 := by
  rw [Int.natAbs_mul, show (2 : Nat) ^ 784 = 2 ^ 720 * 2 ^ 64 by rw [← Nat.pow_add]]
  exact Nat.mul_lt_mul_of_lt_of_lt hx hy
theorem mturn_ok {P1 P2 G1 G2 : Int × Int} {M H M1 M2 : PyData} {j : Nat} {vs : List Vl} {x4 x5 x6 x7 x8 : Option Vl} {N : Sl → Sto → Prop} {Rr : Vl → Sto → Prop} {X : Nat → Vl → Sl → Sto → Prop} {Bk : Sl → Sto → Prop} (hK : 2 ≤ K) (hf : 2 ^ 2000 ≤ fu)
    (x1 : ∀ q, idxV (.d M) (.d (.int 0)) q = some (.d M1, q)) (x2 : ∀ q, idxV (.d M) (.d (.int 1)) q = some (.d M2, q)) (x3 : ∀ q, biV false .len [.d M] q = some (.d (.int 2), q)) (y1 : ∀ q, idxV (.d H) (.d (.int 0)) q = some (.d (frD G1), q)) (y2 : ∀ q, idxV (.d H) (.d (.int 1)) q = some (.d (frD G2), q))
    (a1 : ∀ q, idxV (.d M1) (.d (.int (j : Int))) q = some (.d (frD P1), q)) (a2 : ∀ q, idxV (.d M2) (.d (.int (j : Int))) q = some (.d (frD P2), q))
    (b1 : P1.1.natAbs < 2 ^ 720 ∧ 1 ≤ P1.2 ∧ P1.2.natAbs < 2 ^ 720) (b2 : P2.1.natAbs < 2 ^ 720 ∧ 1 ≤ P2.2 ∧ P2.2.natAbs < 2 ^ 720)
    (g1 : 1 ≤ G1.2) (g2 : 1 ≤ G2.2) (g3 : G1.2 ≤ 10) (g4 : G2.2 ≤ 10) (g5 : G1.1.natAbs ≤ 10) (g6 : G2.1.natAbs ≤ 10) (lW : listAt p t = some vs) (hv : vs.length < 1000)
    (hN : ∀ x6 x7 x8 A B, N [some (.d M), some (.d H), some (.r p), some (.d (.int j)), some (.d (.int A)), some (.d (.int B)), x6, x7, x8] (putL p (vs ++ [.d (frD (frO (P1.1 * G1.1 * P2.2 * G2.2 + P2.1 * G2.1 * (P1.2 * G1.2)) (P1.2 * G1.2 * P2.2 * G2.2)))]) t)) :
    Sw (exS (callI tab fu K) fu (.cons (.asg (.tup (.cons (.var 4) (.cons (.var 5) .nil))) (.tup (.cons (.lit (.int 0)) (.cons (.lit (.int 1)) .nil))))
    (.cons (.forr (.var 6) (.rng1 (.bi false .len (.cons (.var 0) .nil))) (.cons (.par (.var 7) (.var 8) (.idx (.idx (.var 0) (.var 6)) (.var 3)) (.idx (.var 1) (.var 6)))
      (.cons (.asg (.var 4) (.bop false .add (.bop false .mul (.bop false .mul (.var 4) (.idx (.var 7) (.lit (.int 1)))) (.idx (.var 8) (.lit (.int 1)))) (.bop false .mul (.bop false .mul (.idx (.var 7) (.lit (.int 0))) (.idx (.var 8) (.lit (.int 0)))) (.var 5))))
      (.cons (.asg (.var 5) (.bop false .mul (.bop false .mul (.var 5) (.idx (.var 7) (.lit (.int 1)))) (.idx (.var 8) (.lit (.int 1)))))
      .nil))))
    (.cons (.expr (.me .append (.var 2) (.cons (.call i__law_ratio (.cons (.var 4) (.cons (.var 5) .nil))) .nil)))
    .nil))) [some (.d M), some (.d H), some (.r p), some (.d (.int j)), x4, x5, x6, x7, x8] t) ⟨N, Rr, Bk, N, X⟩ := by
  have u1 : ∀ x, mulOk x G1.1 := fun x => mulOk_r (by omega)
  have u2 : ∀ x, mulOk x G1.2 := fun x => mulOk_r (by omega)
  have u3 : ∀ x, mulOk x G2.1 := fun x => mulOk_r (by omega)
  have u4 : ∀ x, mulOk x G2.2 := fun x => mulOk_r (by omega)
  have s1 := small_mul b1.1 (show G1.1.natAbs < 2 ^ 64 by omega)
  have s2 := small_mul b1.2.2 (show G1.2.natAbs < 2 ^ 64 by omega)
  have s3 := small_mul b2.1 (show G2.1.natAbs < 2 ^ 64 by omega)
  have o1 : mulOk (P1.1 * G1.1) P2.2 := mulOk_of s1 b2.2.2 (by omega)
  have o2 : mulOk (P2.1 * G2.1) (P1.2 * G1.2) := mulOk_of s3 s2 (by omega)
  have o3 : mulOk (P1.2 * G1.2) P2.2 := mulOk_of s2 b2.2.2 (by omega)
  have bb : (P1.2 * G1.2 * P2.2 * G2.2).natAbs < 2 ^ 2000 := by
    have z1 : (P1.2 * G1.2 * P2.2).natAbs < 2 ^ 1504 := by
      rw [Int.natAbs_mul, show (2 : Nat) ^ 1504 = 2 ^ 784 * 2 ^ 720 by rw [← Nat.pow_add]]
      exact Nat.mul_lt_mul_of_lt_of_lt s2 b2.2.2
    rw [Int.natAbs_mul]
    refine Nat.lt_of_lt_of_le (Nat.mul_lt_mul_of_lt_of_lt z1 (show G2.2.natAbs < 2 ^ 64 by omega)) ?_
    rw [← Nat.pow_add]
    exact Nat.pow_le_pow_right (by decide) (by decide)
  have bp : 1 ≤ P1.2 * G1.2 * P2.2 * G2.2 := by
    have := Int.mul_pos (Int.mul_pos (Int.mul_pos (show 0 < P1.2 by omega) (show 0 < G1.2 by omega)) (show 0 < P2.2 by omega)) (show 0 < G2.2 by omega)
    omega
  have rt := fun a => lratio_ok (fu := fu) (K := K) (s := t) (a := a) (b := P1.2 * G1.2 * P2.2 * G2.2) (by omega) hf bp bb
  refine Sw_cut (fun e u => u = t ∧ e = [some (.d M), some (.d H), some (.r p), some (.d (.int j)), some (.d (.int 0)), some (.d (.int 1)), x6, x7, x8]) ?_ fun e u ⟨hu, he⟩ => ?_
  · simp
    rw [Sw_tgF]
    exact ⟨_, rfl, rfl, rfl⟩
  subst he
  subst hu
  refine Sw_cut (fun e v => v = u ∧ ∃ x6 x7 x8, e = [some (.d M), some (.d H), some (.r p), some (.d (.int j)), some (.d (.int (P1.1 * G1.1 * P2.2 * G2.2 + P2.1 * G2.1 * (P1.2 * G1.2)))), some (.d (.int (P1.2 * G1.2 * P2.2 * G2.2))), x6, x7, x8]) ?_ fun e v ⟨hv, y6, y7, y8, he⟩ => ?_
  · rw [exS_for_vals (ds := [.int 0, .int 1]) (s' := u) (by simp [x3, show rngV 0 2 = _ from rng_nat 2 (by decide)]; rfl)]
    rw [Sw_step, turnS_var]
    simp only [frD] at a1 a2 y1 y2
    simp [x1, y1, a1, idx0, idx1, u1, u2]
    rw [Sw_step, turnS_var]
    simp [x2, y2, a2, idx0, idx1, u3, u4, o1, o2, o3, goL]
  subst he
  subst hv
  have ap := fun x => app_r (v := .d x) lW (by omega)
  simp [rt, meR_r lW, ap]
  exact hN _ _ _ _ _
theorem lmean_ok {h : Int} (hK : 3 ≤ K) (hf : 2 ^ 2000 ≤ fu) (h1 : Wc w1 m) (h2 : Wc w2 m) (m1 : 1 ≤ m) (l1 : 1 ≤ h) (l2 : h ≤ 9) :
    callI tab fu K i__law_mean [.d (.list [mixD w1, mixD w2]), .d (.list [frD (frO h 10), frD (frO (10 - h) 10)])] s = .ok (.d (mixD (meW w1 w2 h))) s := by
  obtain ⟨K, rfl⟩ : ∃ k, K = k + 1 := ⟨K - 1, by omega⟩
  have wq := me_wq h1 h2 l1 l2
  have ms := me_sum (h := h) (h1.len.trans h2.len.symm)
  have len1 := h1.len
  have len2 := h2.len
  have c5 := h1.c5
  have lw := wq.len
  have fl : (frs (meW w1 w2 h)).length = m := by simp [frs, lw]
  have g1 := frO_pos (w := h) (show (0 : Int) < 10 by decide)
  have g2 := frO_pos (w := 10 - h) (show (0 : Int) < 10 by decide)
  have g3 := frO_le (w := h) (show (0 : Int) < 10 by decide)
  have g4 := frO_le (w := 10 - h) (show (0 : Int) < 10 by decide)
  have g5 := frO_abs (w := h) (show (0 : Int) < 10 by decide)
  have g6 := frO_abs (w := 10 - h) (show (0 : Int) < 10 by decide)
  have key : ∀ j, j < m → (frs (meW w1 w2 h)).getD j (0, 1) = frO ((frO (w1.getD j 0) w1.sum).1 * (frO h 10).1 * (frO (w2.getD j 0) w2.sum).2 * (frO (10 - h) 10).2 + (frO (w2.getD j 0) w2.sum).1 * (frO (10 - h) 10).1 * ((frO (w1.getD j 0) w1.sum).2 * (frO h 10).2)) ((frO (w1.getD j 0) w1.sum).2 * (frO h 10).2 * (frO (w2.getD j 0) w2.sum).2 * (frO (10 - h) 10).2) := fun j hj => by
    rw [mean_fr h1.pos h2.pos, frs_at (by omega), ms, me_at (by omega)]
    congr 1
    grind
  generalize hG1 : frO h 10 = G1 at *
  generalize hG2 : frO (10 - h) 10 = G2 at *
  have x1 : ∀ q, idxV (.d (.list [mixD w1, mixD w2])) (.d (.int 0)) q = some (.d (mixD w1), q) := fun q => by simp [idx0]
  have x2 : ∀ q, idxV (.d (.list [mixD w1, mixD w2])) (.d (.int 1)) q = some (.d (mixD w2), q) := fun q => by simp [idx1]
  have x3l : ∀ q, biV false .len [.d (.list [mixD w1, mixD w2])] q = some (.d (.int 2), q) := fun q => by simp
  have y1 : ∀ q, idxV (.d (.list [frD G1, frD G2])) (.d (.int 0)) q = some (.d (frD G1), q) := fun q => by simp [idx0]
  have y2 : ∀ q, idxV (.d (.list [frD G1, frD G2])) (.d (.int 1)) q = some (.d (frD G2), q) := fun q => by simp [idx1]
  have lm : ∀ q, biV false .len [.d (mixD w1)] q = some (.d (.int m), q) := fun q => by simp [mixD, frs, len1]
  generalize PyData.list [mixD w1, mixD w2] = M at *
  generalize PyData.list [frD G1, frD G2] = H at *
  refine Ok_one (Ok_call (F := d__law_mean) rfl rfl ?_)
  simp only [d__law_mean, b__law_mean]
  refine Sw_cut (MeJ s (.d M) (.d H) (frs (meW w1 w2 h)) 0) ?_ fun e t hJ => ?_
  · simp [mkL_true]
    exact ⟨_, _, _, _, _, _, by simp, rfl⟩
  refine Sw_cut (MeJ s (.d M) (.d H) (frs (meW w1 w2 h)) m) ?_ fun e t hJ => ?_
  · obtain ⟨x3, x4, x5, x6, x7, x8, ht, he⟩ := hJ
    subst ht he
    rw [exS_for_vals (ds := (List.range m).map fun j : Nat => PyData.int j) (s' := s ++ [some (.lst ((((frs (meW w1 w2 h)).take 0).map frD).map Vl.d))]) (by simp [x1, lm, show m ≤ 1000000 by omega])]
    refine Sw_goR m (MeJ s (.d M) (.d H) (frs (meW w1 w2 h))) (fun j hj e t hJ => ?_) (fun _ _ z => z) ⟨_, _, _, _, _, _, rfl, rfl⟩
    obtain ⟨x3, x4, x5, x6, x7, x8, ht, he⟩ := hJ
    obtain ⟨W, hW⟩ : ∃ W, W = s ++ [some (Ob.lst ((((frs (meW w1 w2 h)).take j).map frD).map Vl.d))] := ⟨_, rfl⟩
    have lW : listAt s.length W = some ((((frs (meW w1 w2 h)).take j).map frD).map Vl.d) := by rw [hW]; exact listAt_new
    rw [← hW] at ht
    subst he
    subst ht
    rw [turnS_var]
    have a1 : ∀ q, idxV (.d (mixD w1)) (.d (.int (j : Int))) q = some (.d (frD (frO (w1.getD j 0) w1.sum)), q) := fun q => by
      unfold mixD frs
      rw [idxV_t, atI_nat (i := j) (by simp; omega), SM.getD_lt (show j < w1.length by omega)]; simp
    have a2 : ∀ q, idxV (.d (mixD w2)) (.d (.int (j : Int))) q = some (.d (frD (frO (w2.getD j 0) w2.sum)), q) := fun q => by
      unfold mixD frs
      rw [idxV_t, atI_nat (i := j) (by simp; omega), SM.getD_lt (show j < w2.length by omega)]; simp
    have kj := key j hj
    have m1' : w1.getD j 0 ∈ w1 := SM.getD_mem (by omega)
    have m2' : w2.getD j 0 ∈ w2 := SM.getD_mem (by omega)
    have b1 : (frO (w1.getD j 0) w1.sum).1.natAbs < 2 ^ 720 ∧ 1 ≤ (frO (w1.getD j 0) w1.sum).2 ∧ (frO (w1.getD j 0) w1.sum).2.natAbs < 2 ^ 720 := by
      have q1 := frO_abs (w := w1.getD j 0) h1.pos
      have q2 := frO_pos (w := w1.getD j 0) h1.pos
      have q3 := frO_le (w := w1.getD j 0) h1.pos
      have q4 := (le_sum h1.nn).2 _ m1'
      have q5 := h1.nn _ m1'
      have q6 := h1.lt
      exact ⟨by omega, q2, by omega⟩
    have b2 : (frO (w2.getD j 0) w2.sum).1.natAbs < 2 ^ 720 ∧ 1 ≤ (frO (w2.getD j 0) w2.sum).2 ∧ (frO (w2.getD j 0) w2.sum).2.natAbs < 2 ^ 720 := by
      have q1 := frO_abs (w := w2.getD j 0) h2.pos
      have q2 := frO_pos (w := w2.getD j 0) h2.pos
      have q3 := frO_le (w := w2.getD j 0) h2.pos
      have q4 := (le_sum h2.nn).2 _ m2'
      have q5 := h2.nn _ m2'
      have q6 := h2.lt
      exact ⟨by omega, q2, by omega⟩
    generalize frO (w1.getD j 0) w1.sum = P1 at *
    generalize frO (w2.getD j 0) w2.sum = P2 at *
    refine mturn_ok (by omega) hf x1 x2 x3l y1 y2 a1 a2 b1 b2 g1 g2 g3 g4 (by omega) (by omega) lW (by simp; omega) fun y6 y7 y8 A B => ⟨_, _, _, _, _, _, ?_, rfl⟩
    rw [← kj, hW]
    rw [putL_new]
    rw [show (frs (meW w1 w2 h)).take (j + 1) = (frs (meW w1 w2 h)).take j ++ [(frs (meW w1 w2 h)).getD j (0, 1)] by rw [List.take_add_one, List.getElem?_eq_getElem (by omega), SM.getD_lt (by omega)]; rfl]
    simp
  obtain ⟨x3, x4, x5, x6, x7, x8, ht, he⟩ := hJ
  subst ht he
  rw [List.take_of_length_le (by omega)]
  have tp := w_tup_r (m := false) (listAt_new (s := s) (vs := ((frs (meW w1 w2 h)).map frD).map Vl.d))
  simp [-List.map_map, tp]
  exact Lv_app ⟨rfl, rfl⟩
end
end Law

set_option maxHeartbeats 1000000
namespace Law
open PySem SM
section
variable {fu K n R C p p' pf : Nat} {s t u v w : Sto} {b b' : Int} {P : List Int → Prop} {rs rs' : List Nat} {f f' : Nat → List Int} {row : List Int}
/-- two tables of rows in the store -/
structure Gm (n : Nat) (b : Int) (s : Sto) (P : List Int → Prop) (pf p p' : Nat) (rs rs' : List Nat) (f f' : Nat → List Int) (v : Sto) : Prop where
  t : Tx n b s P p rs f v
  u : Tb P p' rs' f' v
  fl : listAt pf v = some [.r p, .r p'] ∨ listAt pf v = some [.r p', .r p]
  d1 : pf ≠ p ∧ pf ≠ p' ∧ p ≠ p' ∧ pf ∉ rs ∧ pf ∉ rs'
  d2 : p ∉ rs' ∧ p' ∉ rs ∧ ∀ r ∈ rs, r ∉ rs'
  fr : s.length ≤ pf ∧ s.length ≤ p' ∧ ∀ r ∈ rs', s.length ≤ r
theorem Gm.ltf (h : Gm n b s P pf p p' rs rs' f f' v) : pf < v.length := by
  rcases h.fl with q | q <;> exact listAt_lt q
theorem Gm.swap (h : Gm n b s P pf p p' rs rs' f f' v) : Gm n b s P pf p' p rs' rs f' f v :=
  ⟨⟨h.t.x, h.u, h.fr.2.1, h.fr.2.2⟩, h.t.t, h.fl.symm, ⟨h.d1.2.1, h.d1.1, h.d1.2.2.1.symm, h.d1.2.2.2.2, h.d1.2.2.2.1⟩, ⟨h.d2.2.1, h.d2.1, fun r hr z => h.d2.2.2 r z hr⟩, ⟨h.fr.1, h.t.pp, h.t.rr⟩⟩
theorem Gm.draw (h : Gm n b s P pf p p' rs rs' f f' v) (x : Fr n v w) (d : Dk n b' w) : Gm n b' s P pf p p' rs rs' f f' w := by
  have hn := h.t.x.lt
  refine ⟨h.t.fr x d, h.u.fr x (by have := h.fr.2.1; omega) (fun z => by have := h.fr.2.2 n z; omega), ?_, h.d1, h.d2, h.fr⟩
  rw [listAt_same (x.2 pf (by have := h.fr.1; omega))]
  exact h.fl
theorem Gm.more (h : Gm n b s P pf p p' rs rs' f f' v) (hb : b ≤ b') : Gm n b' s P pf p p' rs rs' f f' v := ⟨h.t.more hb, h.u, h.fl, h.d1, h.d2, h.fr⟩
theorem Gm.put (h : Gm n b s P pf p p' rs rs' f f' v) {r : Nat} (hr : r ∈ rs) (hp : P row) : Gm n b s P pf p p' rs rs' (upd f r row) f' (putL r (row.map vI) v) := by
  have e : ∀ j, j ≠ r → (putL r (row.map vI) v)[j]? = v[j]? := fun j hj => putL_ne hj
  refine ⟨h.t.put hr hp, h.u.eq fun j hj => e j ?_, ?_, h.d1, h.d2, h.fr⟩
  · rcases hj with rfl | hj
    · exact fun z => h.d2.2.1 (z ▸ hr)
    · exact fun z => h.d2.2.2 r hr (z ▸ hj)
  · rw [listAt_same (e pf fun z => h.d1.2.2.2.1 (z ▸ hr))]
    exact h.fl
theorem Gm.set (h : Gm n b s P pf p p' rs rs' f f' v) (hp : P row) {i : Nat} : Gm n b s P pf p p' (rs.set i v.length) rs' (upd f v.length row) f' (putL p ((rs.map Vl.r).set i (.r v.length)) (v ++ [some (.lst (row.map vI))])) := by
  have lp := h.t.t.plt
  have lf := h.ltf
  have lu := h.u.plt
  have lr := h.u.rw_.lt
  have e : ∀ j, j ≠ p → j < v.length → (putL p ((rs.map Vl.r).set i (.r v.length)) (v ++ [some (.lst (row.map vI))]))[j]? = v[j]? := fun j hj hl => by rw [putL_ne hj, List.getElem?_append_left hl]
  have ms : ∀ r ∈ rs.set i v.length, r ∈ rs ∨ r = v.length := fun r hr => List.mem_or_eq_of_mem_set hr
  refine ⟨h.t.set hp, h.u.eq fun j hj => e j ?_ ?_, ?_, ⟨h.d1.1, h.d1.2.1, h.d1.2.2.1, fun z => ?_, h.d1.2.2.2.2⟩, ⟨h.d2.1, fun z => ?_, fun r hr z => ?_⟩, h.fr⟩
  · rcases hj with rfl | hj
    · exact h.d1.2.2.1.symm
    · exact fun z => h.d2.1 (z ▸ hj)
  · rcases hj with rfl | hj
    · exact lu
    · exact lr j hj
  · rw [listAt_same (e pf h.d1.1 lf)]
    exact h.fl
  · rcases ms _ z with z | z
    · exact h.d1.2.2.2.1 z
    · omega
  · rcases ms _ z with z | z
    · exact h.d2.2.1 z
    · omega
  · rcases ms _ hr with q | q
    · exact h.d2.2.2 r q z
    · have := lr r z; omega
/-- a table drawn -/
theorem newtab_ok {e : Sl} {x4 x5 x6 x7 x8 x9 x10 x11 : Option Vl} {reach : Int} (hK : 1 ≤ K) (hs : Dk n b v) (h0 : 0 ≤ b) (hb : b < 2 ^ 50) (r5 : R ≤ 5) (c5 : C ≤ 5) (g1 : 1 ≤ reach) (g2 : reach ≤ 2001)
    (he : e = [some (.r n), some (.d (.int R)), some (.d (.int C)), some (.d (.int reach)), x4, x5, x6, x7, x8, x9, x10, x11]) :
    Ok (ev (callI tab fu K) (.comp true (.comp true (.bop false .sub (.call i__law_take (.cons (.var 0) (.cons (.var 3) .nil))) (.bop false .fdiv (.var 3) (.lit (.int 2)))) (.var 7) (.rng1 (.var 2)) .nil [7]) (.var 6) (.rng1 (.var 1)) .nil [6]) e v)
      (fun y w => ∃ p rs f, y = .r p ∧ Tx n (b + 25) v (rwOk C) p rs f w ∧ rs.length = R) nX := by
  subst he
  refine Ok_comp_acc (ds := (List.range R).map fun j : Nat => PyData.int j) (t := v) (fun i acc w => ∃ rs f, acc = rs.map Vl.r ∧ rs.length = i ∧ Rw (rwOk C) rs f w ∧ (∀ r ∈ rs, v.length ≤ r) ∧ Xd n (b + 5 * i) v w) (by simp [show R ≤ 1000000 by omega]) (by simp; omega) ⟨[], fun _ => [], rfl, rfl, .nil, fun _ h => (by cases h), by simpa using Xd.refl hs⟩ (fun i hi acc w ⟨rs, f, ha, hl, hr, hv, x⟩ => ⟨_, rfl, ?_⟩) (fun xs u ⟨rs, f, ha, hl, hr, hv, x⟩ => by subst ha; simpa using hl) fun xs u ⟨rs, f, ha, hl, hr, hv, x⟩ => ?_
  · have hi : i < R := by simpa using hi
    have nv := x.lt
    refine Ok_comp_at (m := true) (fun j t => Xd n (b + 5 * i + j) w t) (fun _ d => ∃ i : Int, d = .int i ∧ inB i) (ds := (List.range C).map fun j : Nat => PyData.int j) (s' := w) (by simp [wipe, show C ≤ 1000000 by omega]) (by simp; omega) (by simpa using Xd.refl x.src) (fun j hj t xt => ⟨_, rfl, ?_⟩) fun xs t hl' hr' xt => ?_
    · have hj : j < C := by simpa using hj
      simp [wipe]
      refine (dr (K := K) (m := reach) (by omega) xt.src (by omega) (by omega) g1 (by omega)).imp fun y t2 ⟨f1, d1, i, e1, i0, i1⟩ => ?_
      subst e1
      simp
      exact ⟨xt.fr f1 (d1.mono (by omega)), by omega, by omega⟩
    · obtain ⟨is, rfl, hi'⟩ := ints_of fun x hx => by
        obtain ⟨k, hk, rfl⟩ := List.mem_iff_getElem.mp hx
        exact hr' k hk
      simp at hl'
      have wt := xt.len
      have rw1 : Rw (rwOk C) rs f t := hr.eq fun r hr' => xt.at_ r (hr.lt r hr') (by have := hv r hr'; omega)
      refine ⟨rs ++ [t.length], upd f t.length is, by rw [ha]; simp, by simp [hl], ?_, fun r hr' => ?_, ?_⟩
      · have := rw1.add (row := is) ⟨by simpa using hl', hi'⟩
        rw [vI_map] at this
        exact this
      · rcases List.mem_append.mp hr' with hr' | hr'
        · exact hv r hr'
        · rw [List.mem_singleton.mp hr']; have := x.len; omega
      · have x2 : Xd n (b + 5 * i + C) v t := by
          have hx := x.len
          refine ⟨by omega, by simpa using xt.src, x.lt, fun j h1 h2 => ?_⟩
          rw [xt.at_ j (by omega) h2, x.at_ j h1 h2]
        exact (x2.more (by omega)).app
  · subst ha
    simp at hl x
    exact ⟨u.length, rs, f, rfl, ⟨(x.more (by omega)).app, hr.tb, x.len, hv⟩, hl⟩
/-! ### the game's turns -/
def eG (n R C : Nat) (reach : Int) (pf : Nat) (x5 x6 x7 x8 x9 x10 x11 : Option Vl) : Sl := [some (.r n), some (.d (.int R)), some (.d (.int C)), some (.d (.int reach)), some (.r pf), x5, x6, x7, x8, x9, x10, x11]
def JG (n : Nat) (b : Int) (s : Sto) (R C : Nat) (reach : Int) (pf : Nat) (e : Sl) (v : Sto) : Prop := ∃ p p' rs rs' f f' x5 x6 x7 x8 x9 x10 x11, Gm n b s (rwOk C) pf p p' rs rs' f f' v ∧ rs.length = R ∧ rs'.length = R ∧ e = eG n R C reach pf x5 x6 x7 x8 x9 x10 x11
/-- a table in hand -/
def JT (n : Nat) (b : Int) (s : Sto) (R C : Nat) (reach : Int) (pf p i j w : Nat) (x8 x10 x11 : Option Vl) (e : Sl) (v : Sto) : Prop := ∃ p' rs rs' f f' y10 y11, Gm n b s (rwOk C) pf p p' rs rs' f f' v ∧ rs.length = R ∧ rs'.length = R ∧ e = eG n R C reach pf (some (.r p)) (some (.d (.int i))) (some (.d (.int j))) x8 (some (.d (.int w))) y10 y11
end
end Law

set_option maxHeartbeats 1000000
namespace Law
open PySem SM
section
variable {fu K n R C p p' pf i j k : Nat} {s t u v w : Sto} {b b' reach : Int} {rs rs' : List Nat} {f f' : Nat → List Int} {row : List Int} {x8 x10 x11 : Option Vl} {N : Sl → Sto → Prop} {Rr : Vl → Sto → Prop} {X : Nat → Vl → Sl → Sto → Prop} {Bk Cc : Sl → Sto → Prop} {e : Sl}
theorem Gm.rowi (h : Gm n b s (rwOk C) pf p p' rs rs' f f' v) (hi : i < rs.length) : idxV (.r p) (.d (.int (i : Int))) v = some (.r rs[i], v) := by
  rw [idxV_r, h.t.t.hd, Option.bind_some, h.t.t.atR hi]
  rfl
theorem Gm.cell (h : Gm n b s (rwOk C) pf p p' rs rs' f f' v) {r : Nat} (hr : r ∈ rs) (hj : j < C) : idxV (.r r) (.d (.int (j : Int))) v = some (.d (.int ((f r).getD j 0)), v) := by
  have ok := h.t.t.rw_.ok r hr
  rw [idxV_r, h.t.t.rw_.at_ r hr, Option.bind_some, at_vI (by rw [ok.1]; exact hj)]
  rfl
theorem Gm.cset (h : Gm n b s (rwOk C) pf p p' rs rs' f f' v) {r : Nat} (hr : r ∈ rs) (hj : j < C) {x : Int} : setV (.r r) (.d (.int (j : Int))) (.d (.int x)) v = some (putL r (((f r).set j x).map vI) v) := by
  have ok := h.t.t.rw_.ok r hr
  have ix : L2.ixN ((f r).map vI).length (j : Int) = some j := ixN_nat (by simpa [ok.1] using hj)
  rw [setV_r, h.t.t.rw_.at_ r hr, Option.bind_some, ix, Option.map_some, List.map_set]
  rfl
theorem Gm.inb (h : Gm n b s (rwOk C) pf p p' rs rs' f f' v) {r : Nat} (hr : r ∈ rs) (hj : j < C) : inB ((f r).getD j 0) := by
  have ok := h.t.t.rw_.ok r hr
  exact ok.2 _ (SM.getD_mem (by rw [ok.1]; exact hj))
theorem rw_set {r : List Int} (h : rwOk C r) {x : Int} (hx : inB x) : rwOk C (r.set j x) := ⟨by rw [List.length_set]; exact h.1, fun y hy => by
  rcases List.mem_or_eq_of_mem_set hy with hy | rfl
  · exact h.2 y hy
  · exact hx⟩
theorem way0 {w : Nat} (hK : 1 ≤ K) (h0 : 0 ≤ b) (hb : b < 2 ^ 50) (r5 : R ≤ 5) (hi : i < R) (c5 : C ≤ 5) (h : JT n b s R C reach pf p i j w x8 x10 x11 e v) (hN : ∀ e v, JT n (b + 1) s R C reach pf p i j w x8 x10 x11 e v → N e v) :
    Sw (exS (callI tab fu K) fu (.ite (.cmp .eq (.var 9) (.lit (.int 0))) (.cons (.asg (.idx (.var 5) (.var 6)) (.bi true .list (.cons (.idx (.var 5) (.call i__law_take (.cons (.var 0) (.cons (.var 1) .nil)))) .nil)))
      .nil) .nil) e v) ⟨N, Rr, Bk, Cc, X⟩ := by
  obtain ⟨p', rs, rs', f, f', y10, y11, g, l1, l2, rfl⟩ := h
  by_cases hw : w = 0
  · subst hw
    simp [-idxV_r, -setV_r, evT_eq, eG, cmpV, dataOf, eqD_int]
    refine (dr (K := K) (m := R) hK g.t.x.src h0 (by omega) (by omega) (by omega)).imp fun y t ⟨f1, d1, q, e1, i0, i1⟩ => ?_
    subst e1
    obtain ⟨k, rfl⟩ : ∃ k : Nat, q = k := ⟨q.toNat, by omega⟩
    have g2 := g.draw f1 d1
    have hk : k < rs.length := by omega
    have rk : rs[k] ∈ rs := List.getElem_mem hk
    have a1 := g2.rowi hk
    have a2 := w_list_rm (g2.t.t.rw_.at_ _ rk) (by have := (g2.t.t.rw_.ok _ rk).1; simp; omega)
    have g3 := g2.set (row := f rs[k]) (g2.t.t.rw_.ok _ rk) (i := i)
    have ix : L2.ixN (rs.map Vl.r).length (i : Int) = some i := ixN_nat (by simp; omega)
    have st : setV (.r p) (.d (.int (i : Int))) (.r t.length) (t ++ [some (.lst ((f rs[k]).map vI))]) = some (putL p ((rs.map Vl.r).set i (.r t.length)) (t ++ [some (.lst ((f rs[k]).map vI))])) := by
      rw [setV_r, listAt_old g2.t.t.plt, g2.t.t.hd, Option.bind_some, ix, Option.map_some]
    simp [-idxV_r, -setV_r, a1, a2, st]
    exact hN _ _ ⟨p', _, rs', _, f', _, _, g3, by simp [l1], l2, rfl⟩
  · have hw' : ¬ (w : Int) = 0 := by omega
    simp [evT_eq, eG, cmpV, dataOf, eqD_int, hw', hw]
    exact hN _ _ ⟨p', rs, rs', f, f', _, _, g.more (by omega), l1, l2, rfl⟩
theorem way2 {w : Nat} (hi : i < R) (hj : j < C) (c5 : C ≤ 5) (h : JT n b s R C reach pf p i j w x8 x10 x11 e v) (hN : ∀ e v, JT n b s R C reach pf p i j w x8 x10 x11 e v → N e v) :
    Sw (exS (callI tab fu K) fu (.ite (.cmp .eq (.var 9) (.lit (.int 2))) (.cons (.asg (.idx (.var 5) (.var 6)) (.rep true (.cons (.idx (.idx (.var 5) (.var 6)) (.var 7)) .nil) (.var 2)))
      .nil) .nil) e v) ⟨N, Rr, Bk, Cc, X⟩ := by
  obtain ⟨p', rs, rs', f, f', y10, y11, g, l1, l2, rfl⟩ := h
  by_cases hw : w = 2
  · subst hw
    have hk : i < rs.length := by omega
    have rk : rs[i] ∈ rs := List.getElem_mem hk
    have a1 := g.rowi hk
    have a2 := g.cell rk hj
    have ib := g.inb rk hj
    have g3 := g.set (row := List.replicate C ((f rs[i]).getD j 0)) ⟨by simp, fun x hx => by rw [(List.mem_replicate.mp hx).2]; exact ib⟩ (i := i)
    have ix : L2.ixN (rs.map Vl.r).length (i : Int) = some i := ixN_nat (by simp; omega)
    have st : setV (.r p) (.d (.int (i : Int))) (.r v.length) (v ++ [some (.lst ((List.replicate C ((f rs[i]).getD j 0)).map vI))]) = some (putL p ((rs.map Vl.r).set i (.r v.length)) (v ++ [some (.lst ((List.replicate C ((f rs[i]).getD j 0)).map vI))])) := by
      rw [setV_r, listAt_old g.t.t.plt, g.t.t.hd, Option.bind_some, ix, Option.map_some]
    rw [List.map_replicate] at st g3
    have fl : (List.replicate C [Vl.d (.int ((f rs[i]).getD j 0))]).flatten = List.replicate C (vI ((f rs[i]).getD j 0)) := by
      rw [List.flatten_replicate_singleton]
      rfl
    simp [-List.getD_eq_getElem?_getD, -idxV_r, -setV_r, evT_eq, eG, cmpV, dataOf, eqD_int, a1, a2, fl, mkL_true, show (C : Int) ≤ 1000 by omega, show C ≤ 16777216 by omega, st]
    exact hN _ _ ⟨p', _, rs', _, f', _, _, g3, by simp [l1], l2, rfl⟩
  · have hw' : ¬ (w : Int) = 2 := by omega
    simp [evT_eq, eG, cmpV, dataOf, eqD_int, hw', hw]
    exact hN _ _ ⟨p', rs, rs', f, f', _, _, g, l1, l2, rfl⟩
theorem way3 {w : Nat} (hi : i < R) (hj : j < C) (r5 : R ≤ 5) (c5 : C ≤ 5) (h : JT n b s R C reach pf p i j w x8 x10 x11 e v) (hN : ∀ e v, JT n b s R C reach pf p i j w x8 x10 x11 e v → N e v) :
    Sw (exS (callI tab fu K) fu (.ite (.cmp .eq (.var 9) (.lit (.int 3))) (.cons (.forr (.var 11) (.itv (.var 5)) (.cons (.asg (.idx (.var 11) (.var 7)) (.idx (.idx (.var 5) (.var 6)) (.var 7)))
        .nil))
      .nil) .nil) e v) ⟨N, Rr, Bk, Cc, X⟩ := by
  obtain ⟨p', rs, rs', f, f', y10, y11, g, l1, l2, rfl⟩ := h
  by_cases hw : w = 3
  · subst hw
    have br : ev (callI tab fu K) (.cmp .eq (.var 9) (.lit (.int 3))) (eG n R C reach pf (some (.r p)) (some (.d (.int i))) (some (.d (.int j))) x8 (some (.d (.int (3 : Nat)))) y10 y11) v = .ok (.d (.bool true)) v := by
      simp [eG, cmpV, dataOf, eqD_int]
    rw [exS_ite, evT_eq, br]
    refine Sw_cut N ?_ fun e t z => z
    refine Sw_for_ref (p := p) (vs := rs.map Vl.r) (fun _ e v => ∃ f z11, Gm n b s (rwOk C) pf p p' rs rs' f f' v ∧ e = eG n R C reach pf (some (.r p)) (some (.d (.int i))) (some (.d (.int j))) x8 (some (.d (.int (3 : Nat)))) y10 z11) (itr_r (by simp [eG]) g.t.t.hd) (fun _ e v ⟨f, _, g, _⟩ => g.t.t.hd) ⟨f, _, g, rfl⟩ (fun k hk e v ⟨f, z11, g, he⟩ => ?_) fun e v ⟨f, z11, g, he⟩ => ?_
    · subst he
      have hk' : k < rs.length := by simpa using hk
      have hi' : i < rs.length := by omega
      rw [show (rs.map Vl.r)[k] = .r rs[k] by simp, turnS_var]
      have rk : rs[k] ∈ rs := List.getElem_mem hk'
      have ri : rs[i] ∈ rs := List.getElem_mem hi'
      have a1 := g.rowi hi'
      have a2 := g.cell ri hj
      have st := g.cset rk hj (x := (f rs[i]).getD j 0)
      have g3 := g.put rk (rw_set (j := j) (g.t.t.rw_.ok _ rk) (g.inb ri hj))
      simp [-List.getD_eq_getElem?_getD, -idxV_r, -setV_r, -List.map_set, eG, a1, a2, st]
      first | exact ⟨_, _, g3, rfl⟩ | exact ⟨_, g3⟩
    · subst he
      exact hN _ _ ⟨p', rs, rs', f, f', _, _, g, l1, l2, rfl⟩
  · have hw' : ¬ (w : Int) = 3 := by omega
    simp [evT_eq, eG, cmpV, dataOf, eqD_int, hw', hw]
    exact hN _ _ ⟨p', rs, rs', f, f', _, _, g, l1, l2, rfl⟩
theorem way1 {w : Nat} (hK : 1 ≤ K) (h0 : 0 ≤ b) (hb : b < 2 ^ 50) (hi : i < R) (hj : j < C) (r5 : R ≤ 5) (c5 : C ≤ 5) (h : JT n b s R C reach pf p i j w x8 x10 x11 e v) (hN : ∀ e v, JT n (b + 1) s R C reach pf p i j w x8 x10 x11 e v → N e v) :
    Sw (exS (callI tab fu K) fu (.ite (.cmp .eq (.var 9) (.lit (.int 1))) (.cons (.asg (.var 10) (.call i__law_take (.cons (.var 0) (.cons (.var 2) .nil))))
      (.cons (.forr (.var 11) (.itv (.var 5)) (.cons (.asg (.idx (.var 11) (.var 7)) (.idx (.var 11) (.var 10)))
        .nil))
      .nil)) .nil) e v) ⟨N, Rr, Bk, Cc, X⟩ := by
  obtain ⟨p', rs, rs', f, f', y10, y11, g, l1, l2, rfl⟩ := h
  by_cases hw : w = 1
  · subst hw
    have br : ev (callI tab fu K) (.cmp .eq (.var 9) (.lit (.int 1))) (eG n R C reach pf (some (.r p)) (some (.d (.int i))) (some (.d (.int j))) x8 (some (.d (.int (1 : Nat)))) y10 y11) v = .ok (.d (.bool true)) v := by
      simp [eG, cmpV, dataOf, eqD_int]
    rw [exS_ite, evT_eq, br]
    refine Sw_cut (fun e v => ∃ k : Nat, k < C ∧ Gm n (b + 1) s (rwOk C) pf p p' rs rs' f f' v ∧ e = eG n R C reach pf (some (.r p)) (some (.d (.int i))) (some (.d (.int j))) x8 (some (.d (.int (1 : Nat)))) (some (.d (.int k))) y11) ?_ fun e v ⟨k, hk, g, he⟩ => ?_
    · simp [eG]
      refine (dr (K := K) (m := C) hK g.t.x.src h0 (by omega) (by omega) (by omega)).imp fun y t ⟨f1, d1, q, e1, i0, i1⟩ => ?_
      subst e1
      obtain ⟨k, rfl⟩ : ∃ k : Nat, q = k := ⟨q.toNat, by omega⟩
      exact ⟨k, by omega, g.draw f1 d1, rfl⟩
    subst he
    refine Sw_cut N ?_ fun e t z => z
    refine Sw_for_ref (p := p) (vs := rs.map Vl.r) (fun _ e v => ∃ f z11, Gm n (b + 1) s (rwOk C) pf p p' rs rs' f f' v ∧ e = eG n R C reach pf (some (.r p)) (some (.d (.int i))) (some (.d (.int j))) x8 (some (.d (.int (1 : Nat)))) (some (.d (.int k))) z11) (itr_r (by simp [eG]) g.t.t.hd) (fun _ e v ⟨f, _, g, _⟩ => g.t.t.hd) ⟨f, _, g, rfl⟩ (fun q hq e v ⟨f, z11, g, he⟩ => ?_) fun e v ⟨f, z11, g, he⟩ => ?_
    · subst he
      have hk' : q < rs.length := by simpa using hq
      rw [show (rs.map Vl.r)[q] = .r rs[q] by simp, turnS_var]
      have rk : rs[q] ∈ rs := List.getElem_mem hk'
      have a2 := g.cell rk hk
      have st := g.cset rk hj (x := (f rs[q]).getD k 0)
      have g3 := g.put rk (rw_set (j := j) (g.t.t.rw_.ok _ rk) (g.inb rk hk))
      simp [-List.getD_eq_getElem?_getD, -idxV_r, -setV_r, -List.map_set, eG, a2, st]
      first | exact ⟨_, _, g3, rfl⟩ | exact ⟨_, g3⟩
    · subst he
      exact hN _ _ ⟨p', rs, rs', f, f', _, _, g, l1, l2, rfl⟩
  · have hw' : ¬ (w : Int) = 1 := by omega
    simp [evT_eq, eG, cmpV, dataOf, eqD_int, hw', hw]
    exact hN _ _ ⟨p', rs, rs', f, f', _, _, g.more (by omega), l1, l2, rfl⟩
end
end Law

set_option maxHeartbeats 1000000
namespace Law
open PySem SM
section
variable {fu K n R C p p' pf i j k : Nat} {s t u v w : Sto} {b b' reach : Int} {rs rs' : List Nat} {f f' : Nat → List Int} {row : List Int}
theorem tab_row {e : Sl} {x : Option Vl} (h : Tb (rwOk C) p rs f v) (hl : rs.length = R) (r5 : R ≤ 5) (c5 : C ≤ 5) (e0 : e = [x, some (.r p), none]) :
    Ok (ev (callI tab fu K) (.bi false .tuple (.cons (.comp false (.bi false .tuple (.cons (.var 2) .nil)) (.var 2) (.itv (.var 1)) .nil [2]) .nil)) e v) (fun y t => t = v ∧ ∃ A : List (List Int), y = .d (tabD A) ∧ A.length = R ∧ ∀ r ∈ A, rwOk C r) nX := by
  subst e0
  simp only [ev_bi, evs_cons, evs_nil, Ok_bind]
  refine Ok_comp_refD (p := p) (t := v) (vs := rs.map Vl.r) (fun _ w => w = v) (fun d => ∃ r, d = rowD r ∧ rwOk C r) (itr_r (by simp) h.hd) (fun _ w hw => by rw [hw]; exact h.hd) (by simp; omega) rfl (fun i hi w hw => ⟨_, rfl, ?_⟩) fun xs u hx hr hu => ?_
  · subst hw
    have hi' : i < rs.length := by simpa using hi
    have ri : rs[i] ∈ rs := List.getElem_mem hi'
    have l := h.rw_.at_ _ ri
    rw [vI_map] at l
    have tp := w_tup_r (m := false) l
    simp [wipe, tp]
    exact ⟨f rs[i], rfl, h.rw_.ok _ ri⟩
  · subst hu
    have : ∀ ys : List PyData, (∀ y ∈ ys, ∃ r, y = rowD r ∧ rwOk C r) → ∃ A : List (List Int), ys = A.map rowD ∧ ∀ r ∈ A, rwOk C r := by
      intro ys
      induction ys with
      | nil => exact fun _ => ⟨[], rfl, fun _ h => by cases h⟩
      | cons y ys ih =>
        intro h
        obtain ⟨r, rfl, hr⟩ := h y List.mem_cons_self
        obtain ⟨A, rfl, hA⟩ := ih fun z hz => h z (List.mem_cons_of_mem _ hz)
        exact ⟨r :: A, rfl, fun q hq => by
          rcases List.mem_cons.mp hq with rfl | hq
          · exact hr
          · exact hA q hq⟩
    obtain ⟨A, rfl, hA⟩ := this xs hr
    simp at hx
    simp
    exact ⟨A, rfl, by omega, hA⟩
theorem lfrozen_ok (hK : 1 ≤ K) (g : Gm n b s (rwOk C) pf p p' rs rs' f f' v) (l1 : rs.length = R) (l2 : rs'.length = R) (r1 : 1 ≤ R) (r5 : R ≤ 5) (c1 : 1 ≤ C) (c5 : C ≤ 5) :
    Ok (callI tab fu K i__law_frozen [.r pf] v) (fun y t => t = v ∧ ∃ A B, y = .d (gD A B) ∧ Gv A B R C) nX := by
  obtain ⟨K, rfl⟩ : ∃ k, K = k + 1 := ⟨K - 1, by omega⟩
  refine Ok_call (F := d__law_frozen) rfl rfl ?_
  simp only [d__law_frozen, b__law_frozen]
  have main : ∀ a c : Nat, listAt pf v = some [.r a, .r c] → (∃ ra fa, Tb (rwOk C) a ra fa v ∧ ra.length = R) → (∃ rc fc, Tb (rwOk C) c rc fc v ∧ rc.length = R) → Ok (ev (callI tab fu K) (.bi false .tuple (.cons (.comp false (.bi false .tuple (.cons (.comp false (.bi false .tuple (.cons (.var 2) .nil)) (.var 2) (.itv (.var 1)) .nil [2]) .nil)) (.var 1) (.itv (.var 0)) .nil [1]) .nil)) [some (.r pf), none, none] v) (fun y t => t = v ∧ ∃ A B, y = .d (gD A B) ∧ Gv A B R C) nX := by
    intro a c hl ⟨ra, fa, ta, la⟩ ⟨rc, fc, tc, lc⟩
    rw [ev_bi, evs_cons, Ok_bind, Ok_bind]
    refine Ok_comp_refD (p := pf) (t := v) (vs := [.r a, .r c]) (fun _ w => w = v) (fun d => ∃ A : List (List Int), d = tabD A ∧ A.length = R ∧ ∀ r ∈ A, rwOk C r) (itr_r (by simp) hl) (fun _ w hw => by rw [hw]; exact hl) (by simp) rfl (fun i hi w hw => ⟨_, rfl, ?_⟩) fun xs u hx hr hu => ?_
    · subst hw
      have hi : i = 0 ∨ i = 1 := by simp at hi; omega
      rcases hi with rfl | rfl
      · exact (tab_row (K := K) (fu := fu) (x := some (.r pf)) ta la r5 c5 rfl).imp fun y t ⟨ht, A, hy, h⟩ => ⟨ht, _, hy, A, rfl, h⟩
      · exact (tab_row (K := K) (fu := fu) (x := some (.r pf)) tc lc r5 c5 rfl).imp fun y t ⟨ht, A, hy, h⟩ => ⟨ht, _, hy, A, rfl, h⟩
    · subst hu
      match xs, hx, hr with
      | [x, y], _, hr =>
        obtain ⟨A, rfl, hA, cA⟩ := hr x (by simp)
        obtain ⟨B, rfl, hB, cB⟩ := hr y (by simp)
        simp
        exact ⟨A, B, rfl, ⟨hA, hB, cA, cB, r1, r5, c1, c5⟩⟩
  have fin := fun a c h1 h2 h3 => main a c h1 h2 h3
  have := show Ok (ev (callI tab fu K) (.bi false .tuple (.cons (.comp false (.bi false .tuple (.cons (.comp false (.bi false .tuple (.cons (.var 2) .nil)) (.var 2) (.itv (.var 1)) .nil [2]) .nil)) (.var 1) (.itv (.var 0)) .nil [1]) .nil)) [some (.r pf), none, none] v) (fun y t => t = v ∧ ∃ A B, y = .d (gD A B) ∧ Gv A B R C) nX by
    rcases g.fl with q | q
    · exact fin _ _ q ⟨_, _, g.t.t, l1⟩ ⟨_, _, g.u, l2⟩
    · exact fin _ _ q ⟨_, _, g.u, l2⟩ ⟨_, _, g.t.t, l1⟩
  obtain ⟨y, t, e1, ht, A, B, hy, gv⟩ := this.ex
  subst ht hy
  simp only [List.map_cons, List.map_nil, List.cons_append, List.nil_append]
  rw [show (Df.ns { np := 1, ns := 3, body := b__law_frozen } - Df.np { np := 1, ns := 3, body := b__law_frozen }) = 2 from rfl]
  simp only [List.replicate, exS_cons, exS_ret', e1]
  simp
  exact Lv_len rfl ⟨rfl, A, B, rfl, gv⟩
def JA (n : Nat) (b : Int) (s : Sto) (R C : Nat) (reach : Int) (pf : Nat) (x6 x7 x8 x10 x11 : Option Vl) (e : Sl) (v : Sto) : Prop := ∃ (q w : Nat) (q' : Nat) (rs rs' : List Nat) (f f' : Nat → List Int), Gm n b s (rwOk C) pf q q' rs rs' f f' v ∧ rs.length = R ∧ rs'.length = R ∧ e = eG n R C reach pf (some (.r q)) x6 x7 x8 (some (.d (.int w))) x10 x11
def JB (n : Nat) (b : Int) (s : Sto) (R C : Nat) (reach : Int) (pf q w : Nat) (x8 x10 x11 : Option Vl) (e : Sl) (v : Sto) : Prop := ∃ i j : Nat, i < R ∧ j < C ∧ JT n b s R C reach pf q i j w x8 x10 x11 e v
theorem gturn_ok {x5 x6 x7 x8 x9 x10 x11 : Option Vl} {N : Sl → Sto → Prop} {Rr : Vl → Sto → Prop} {X : Nat → Vl → Sl → Sto → Prop} {Bk : Sl → Sto → Prop} (hK : 1 ≤ K) (h0 : 0 ≤ b) (hb : b < 2 ^ 49) (g : Gm n b s (rwOk C) pf p p' rs rs' f f' v) (l1 : rs.length = R) (l2 : rs'.length = R) (r1 : 1 ≤ R) (r5 : R ≤ 5) (c1 : 1 ≤ C) (c5 : C ≤ 5)
    (hN : ∀ e v, JG n (b + 6) s R C reach pf e v → N e v) :
    Sw (exS (callI tab fu K) fu (.cons (.par (.var 5) (.var 9) (.idx (.var 4) (.call i__law_take (.cons (.var 0) (.cons (.lit (.int 2)) .nil)))) (.call i__law_take (.cons (.var 0) (.cons (.lit (.int 4)) .nil))))
    (.cons (.par (.var 6) (.var 7) (.call i__law_take (.cons (.var 0) (.cons (.var 1) .nil))) (.call i__law_take (.cons (.var 0) (.cons (.var 2) .nil))))
    (.cons (.ite (.cmp .eq (.var 9) (.lit (.int 0))) (.cons (.asg (.idx (.var 5) (.var 6)) (.bi true .list (.cons (.idx (.var 5) (.call i__law_take (.cons (.var 0) (.cons (.var 1) .nil)))) .nil)))
      .nil) .nil)
    (.cons (.ite (.cmp .eq (.var 9) (.lit (.int 1))) (.cons (.asg (.var 10) (.call i__law_take (.cons (.var 0) (.cons (.var 2) .nil))))
      (.cons (.forr (.var 11) (.itv (.var 5)) (.cons (.asg (.idx (.var 11) (.var 7)) (.idx (.var 11) (.var 10)))
        .nil))
      .nil)) .nil)
    (.cons (.ite (.cmp .eq (.var 9) (.lit (.int 2))) (.cons (.asg (.idx (.var 5) (.var 6)) (.rep true (.cons (.idx (.idx (.var 5) (.var 6)) (.var 7)) .nil) (.var 2)))
      .nil) .nil)
    (.cons (.ite (.cmp .eq (.var 9) (.lit (.int 3))) (.cons (.forr (.var 11) (.itv (.var 5)) (.cons (.asg (.idx (.var 11) (.var 7)) (.idx (.idx (.var 5) (.var 6)) (.var 7)))
        .nil))
      .nil) .nil)
    .nil)))))) (eG n R C reach pf x5 x6 x7 x8 x9 x10 x11) v) ⟨N, Rr, Bk, N, X⟩ := by
  refine Sw_cut (JA n (b + 2) s R C reach pf x6 x7 x8 x10 x11) ?_ fun e v ⟨q, w, q', rs, rs', f, f', g, l1, l2, he⟩ => ?_
  · simp [-idxV_r, eG]
    refine (dr (K := K) (m := 2) hK g.t.x.src h0 (by omega) (by omega) (by omega)).imp fun y t ⟨f1, d1, i, e1, i0, i1⟩ => ?_
    subst e1
    have g2 := g.draw f1 d1
    have ob : (∃ q q' rq rq' fq fq', idxV (.r pf) (.d (.int i)) t = some (.r q, t) ∧ Gm n (b + 1) s (rwOk C) pf q q' rq rq' fq fq' t ∧ rq.length = R ∧ rq'.length = R) := by
      have hi : i = 0 ∨ i = 1 := by omega
      rcases g2.fl with z | z <;> rcases hi with rfl | rfl
      · exact ⟨p, p', rs, rs', f, f', by rw [idxV_r, z]; rfl, g2, l1, l2⟩
      · exact ⟨p', p, rs', rs, f', f, by rw [idxV_r, z]; rfl, g2.swap, l2, l1⟩
      · exact ⟨p', p, rs', rs, f', f, by rw [idxV_r, z]; rfl, g2.swap, l2, l1⟩
      · exact ⟨p, p', rs, rs', f, f', by rw [idxV_r, z]; rfl, g2, l1, l2⟩
    obtain ⟨q, q', rq, rq', fq, fq', hi, g3, m1, m2⟩ := ob
    simp [-idxV_r, hi]
    refine (dr (K := K) (m := 4) hK g3.t.x.src (by omega) (by omega) (by omega) (by omega)).imp fun y t2 ⟨f2, d2, i2, e2, j0, j1⟩ => ?_
    subst e2
    obtain ⟨w, rfl⟩ : ∃ w : Nat, i2 = w := ⟨i2.toNat, by omega⟩
    exact ⟨q, w, q', rq, rq', fq, fq', g3.draw f2 (d2.mono (by omega)), m1, m2, rfl⟩
  subst he
  refine Sw_cut (JB n (b + 4) s R C reach pf q w x8 x10 x11) ?_ fun e v ⟨i, j, hi, hj, hJ⟩ => ?_
  · simp [eG]
    refine (dr (K := K) (m := R) hK g.t.x.src (by omega) (by omega) (by omega) (by omega)).imp fun y t ⟨f1, d1, i, e1, i0, i1⟩ => ?_
    subst e1
    have g2 := g.draw f1 d1
    refine (dr (K := K) (m := C) hK g2.t.x.src (by omega) (by omega) (by omega) (by omega)).imp fun y t2 ⟨f2, d2, j, e2, j0, j1⟩ => ?_
    subst e2
    obtain ⟨i, rfl⟩ : ∃ k : Nat, i = k := ⟨i.toNat, by omega⟩
    obtain ⟨j, rfl⟩ : ∃ k : Nat, j = k := ⟨j.toNat, by omega⟩
    exact ⟨i, j, by omega, by omega, q', rs, rs', f, f', _, _, g2.draw f2 (d2.mono (by omega)), l1, l2, rfl⟩
  refine Sw_cut (JT n (b + 5) s R C reach pf q i j w x8 x10 x11) (way0 hK (by omega) (by omega) r5 hi c5 hJ fun e v z => by rw [show b + 4 + 1 = b + 5 by omega] at z; exact z) fun e v hJ => ?_
  refine Sw_cut (JT n (b + 6) s R C reach pf q i j w x8 x10 x11) (way1 hK (by omega) (by omega) hi hj r5 c5 hJ fun e v z => by rw [show b + 5 + 1 = b + 6 by omega] at z; exact z) fun e v hJ => ?_
  refine Sw_cut (JT n (b + 6) s R C reach pf q i j w x8 x10 x11) (way2 hi hj c5 hJ fun e v z => z) fun e v hJ => ?_
  refine Sw_cut (JT n (b + 6) s R C reach pf q i j w x8 x10 x11) (way3 hi hj r5 c5 hJ fun e v z => z) fun e v ⟨p', rs, rs', f, f', y10, y11, g, l1, l2, he⟩ => ?_
  exact hN _ _ ⟨q, p', rs, rs', f, f', _, _, _, _, _, _, _, g, l1, l2, he⟩
end
end Law

set_option maxHeartbeats 1000000
namespace Law
open PySem SM
section
variable {fu K n R C p p' pf i j k : Nat} {s t u v w : Sto} {b b' reach : Int} {rs rs' : List Nat} {f f' : Nat → List Int} {row : List Int}
def JR (n : Nat) (b : Int) (s : Sto) (R C : Nat) (e : Sl) (v : Sto) : Prop := ∃ reach : Int, 1 ≤ reach ∧ reach ≤ 2001 ∧ Xd n b s v ∧ e = [some (.r n), some (.d (.int R)), some (.d (.int C)), some (.d (.int reach)), none, none, none, none, none, none, none, none]
def JN (n : Nat) (b : Int) (s : Sto) (R C : Nat) (e : Sl) (v : Sto) : Prop := ∃ (reach : Int) (v0 : Sto), 1 ≤ reach ∧ reach ≤ 2001 ∧ Xd n b s v0 ∧ v = v0 ++ [some (.lst [])] ∧ e = eG n R C reach v0.length none none none none none none none
theorem lgame_ok (hK : 2 ≤ K) (hs : Dk n b s) (h0 : 0 ≤ b) (hb : b < 2 ^ 45) (r1 : 1 ≤ R) (r5 : R ≤ 5) (c1 : 1 ≤ C) (c5 : C ≤ 5) : Ok (callI tab fu K i__law_game [.r n, .d (.int R), .d (.int C)] s) (fun y t => Fr n s t ∧ Dk n (b + 80) t ∧ ∃ A B, y = .d (gD A B) ∧ Gv A B R C) nX := by
  obtain ⟨K, rfl⟩ : ∃ k, K = k + 1 := ⟨K - 1, by omega⟩
  refine Ok_call (F := d__law_game) rfl rfl ?_
  simp only [d__law_game, b__law_game]
  refine Sw_cut (JR n (b + 1) s R C) ?_ fun e v ⟨reach, g1, g2, x, he⟩ => ?_
  · simp [mkL_f, allD]
    refine (dr (K := K) (m := 7) (by omega) hs h0 (by omega) (by omega) (by omega)).imp fun y t ⟨f1, d1, i, e1, i0, i1⟩ => ?_
    subst e1
    have xt := (Xd.refl hs).fr f1 d1
    have : i = 0 ∨ i = 1 ∨ i = 2 ∨ i = 3 ∨ i = 4 ∨ i = 5 ∨ i = 6 := by omega
    rcases this with rfl | rfl | rfl | rfl | rfl | rfl | rfl
    all_goals simp [L2.atI, L2.ixN]
    all_goals exact ⟨_, by decide, by decide, xt, rfl⟩
  subst he
  refine Sw_cut (JN n (b + 1) s R C) ?_ fun e v ⟨reach, v0, g1, g2, x, hv, he⟩ => ?_
  · simp [mkL_true]
    exact ⟨reach, v, g1, g2, x, rfl, rfl⟩
  subst he
  have sl := x.len
  refine Sw_cut (JG n (b + 53) s R C reach v0.length) ?_ fun e v hJ => ?_
  · rw [exS_for_vals (ds := [.int 0, .int 1]) (s' := v) (by simp [eG, show rngV 0 2 = _ from rng_nat 2 (by decide)]; rfl)]
    rw [Sw_step, turnS_var]
    have hl0 : listAt v0.length v = some [] := by rw [hv]; exact listAt_new
    have xv : Xd n (b + 1) s v := by rw [hv]; exact x.app
    have lv : v.length = v0.length + 1 := by rw [hv]; simp
    simp only [eG, List.set_cons_succ, List.set_cons_zero]
    simp only [exS_cons, exS_expr', ev_me, ev_var, List.getElem?_cons_succ, List.getElem?_cons_zero, varR_some, ok_bind, meR_r hl0, evs_cons, evs_nil, Sw_thenF, Sw_bindF, Ok_bind]
    refine (newtab_ok (K := K) (b := b + 1) (by omega) xv.src (by omega) (by omega) r5 c5 g1 g2 rfl).mono (fun y w ⟨p, rs, f, hy, tx, l1⟩ => ?_) fun _ _ _ z => z.elim
    subst hy
    have pv := tx.pp
    have rv := tx.rr
    have lw0 : listAt v0.length w = some [] := by rw [listAt_same (tx.x.at_ _ (by omega) (by have := x.lt; omega))]; exact hl0
    simp [app_r lw0 (show ([] : List Vl).length < 16777216 by decide)]
    rw [Sw_step, turnS_var]
    obtain ⟨w1, hw1⟩ : ∃ w1, w1 = putL v0.length [Vl.r p] w := ⟨_, rfl⟩
    rw [← hw1]
    have lw1 : listAt v0.length w1 = some [.r p] := by rw [hw1]; exact listAt_put (listAt_lt lw0)
    have xw : Xd n (b + 26) s w := ⟨by have := tx.x.len; omega, by have := tx.x.src; rwa [show b + 1 + 25 = b + 26 by omega] at this, x.lt, fun j h1 h2 => by
      rw [tx.x.at_ j (by omega) h2]; exact xv.at_ j h1 h2⟩
    have xw1 : Xd n (b + 26) s w1 := by rw [hw1]; exact xw.put sl
    have lenw : w1.length = w.length := by rw [hw1]; exact putL_length
    have t1 : Tb (rwOk C) p rs f w1 := tx.t.eq fun j hj => by
      rw [hw1]
      refine putL_ne ?_
      rcases hj with rfl | hj
      · omega
      · have := rv j hj; omega
    simp only [List.set_cons_succ, List.set_cons_zero]
    simp only [exS_cons, exS_expr', ev_me, ev_var, List.getElem?_cons_succ, List.getElem?_cons_zero, varR_some, ok_bind, meR_r lw1, evs_cons, evs_nil, Sw_thenF, Sw_bindF, Ok_bind]
    refine (newtab_ok (K := K) (b := b + 26) (by omega) xw1.src (by omega) (by omega) r5 c5 g1 g2 rfl).mono (fun y w2 ⟨p2, rs2, f2, hy, tx2, l2⟩ => ?_) fun _ _ _ z => z.elim
    subst hy
    have pv2 := tx2.pp
    have rv2 := tx2.rr
    have plt := t1.plt
    have rlt := t1.rw_.lt
    have nn := x.lt
    have lw2 : listAt v0.length w2 = some [.r p] := by rw [listAt_same (tx2.x.at_ _ (by omega) (by omega))]; exact lw1
    simp [app_r lw2 (show ([Vl.r p] : List Vl).length < 16777216 by simp), goL]
    refine ⟨p2, p, rs2, rs, f2, f, _, _, _, _, _, _, _, ⟨⟨?_, ?_, by omega, fun r hr => by have := rv2 r hr; omega⟩, ?_, .inr (listAt_put (listAt_lt lw2)), ⟨by omega, by omega, by omega, fun z => by have := rv2 _ z; omega, fun z => by have := rv _ z; omega⟩, ⟨fun z => by have := rlt _ z; omega, fun z => by have := rv2 _ z; omega, fun r hr z => by have := rv2 r hr; have := rlt r z; omega⟩, ⟨sl, by omega, fun r hr => by have := rv r hr; omega⟩⟩, l2, l1, rfl⟩
    · have xw2 : Xd n (b + 53) s w2 := ⟨by have := tx2.x.len; have := xw1.len; omega, tx2.x.src.mono (by omega), x.lt, fun j h1 h2 => by
        rw [tx2.x.at_ j (by have := xw1.len; omega) h2]; exact xw1.at_ j h1 h2⟩
      exact xw2.put sl
    · exact tx2.t.eq fun j hj => putL_ne (by
        rcases hj with rfl | hj
        · omega
        · have := rv2 j hj; omega)
    · refine t1.eq fun j hj => ?_
      have q : j < w1.length ∧ v0.length < j := by
        rcases hj with rfl | hj
        · exact ⟨plt, by omega⟩
        · exact ⟨rlt j hj, by have := rv j hj; omega⟩
      rw [putL_ne (by omega), tx2.x.at_ j q.1 (by omega)]
  refine Sw_cut (JG n (b + 78) s R C reach v0.length) ?_ fun e v hJ => ?_
  · obtain ⟨p, p', rs, rs', f, f', x5, x6, x7, x8, x9, x10, x11, g, l1, l2, he⟩ := hJ
    subst he
    rw [exS_for', itr_rng1, Sw_bindF]
    simp only [eG, ev_call, evs_cons, evs_nil, ev_var, ev_lit, List.getElem?_cons_succ, List.getElem?_cons_zero, varR_some, ok_bind, Ok_bind]
    refine (dr (K := K) (m := 4) (by omega) g.t.x.src (by omega) (by omega) (by omega) (by omega)).mono (fun y t ⟨f1, d1, i, e1, i0, i1⟩ => ?_) fun _ _ _ z => z.elim
    subst e1
    obtain ⟨k, rfl⟩ : ∃ k : Nat, i = k := ⟨i.toNat, by omega⟩
    have g2 := g.draw f1 d1
    simp [show k ≤ 1000000 by omega]
    refine Sw_goR k (fun j => JG n (b + 54 + 6 * j) s R C reach v0.length) (fun j hj e v hJ => ?_) (fun e v hJ => ?_) ⟨p, p', rs, rs', f, f', x5, x6, x7, x8, x9, x10, x11, g2.more (by omega), l1, l2, rfl⟩
    · obtain ⟨p, p', rs, rs', f, f', x5, x6, x7, x8, x9, x10, x11, g, l1, l2, he⟩ := hJ
      subst he
      rw [turnS_var]
      refine gturn_ok (by omega) (by omega) (by omega) g l1 l2 r1 r5 c1 c5 fun e v h => ?_
      rw [show b + 54 + 6 * (j : Int) + 6 = b + 54 + 6 * ((j + 1 : Nat) : Int) by omega] at h
      exact h
    · obtain ⟨p, p', rs, rs', f, f', x5, x6, x7, x8, x9, x10, x11, g, l1, l2, he⟩ := hJ
      exact ⟨p, p', rs, rs', f, f', x5, x6, x7, x8, x9, x10, x11, g.more (by omega), l1, l2, he⟩
  obtain ⟨p, p', rs, rs', f, f', x5, x6, x7, x8, x9, x10, x11, g, l1, l2, he⟩ := hJ
  subst he
  have fz := lfrozen_ok (fu := fu) (K := K) (by omega) g l1 l2 r1 r5 c1 c5
  obtain ⟨y, t, e1, ht, A, B, hy, gv⟩ := fz.ex
  subst ht hy
  simp [eG, e1]
  exact (g.t.x.more (b' := b + 80) (by omega)).lv ⟨(g.t.x.more (b' := b + 80) (by omega)).take.1, (g.t.x.more (b' := b + 80) (by omega)).take.2, A, B, rfl, gv⟩
end
end Law

set_option maxHeartbeats 1000000
namespace Law
open PySem SM
section
variable {fu K n m R C q i j k : Nat} {s t u v w : Sto} {b : Int} {A B : List (List Int)} {sd : Nat} {x : PyData} {xs : List PyData}
theorem same_int {i : Int} (hK : 1 ≤ K) : callI tab fu K i__law_same [.d (.int i), .d (.int i)] s = .ok (.d (.bool true)) s := by
  obtain ⟨K, rfl⟩ : ∃ k, K = k + 1 := ⟨K - 1, by omega⟩
  refine Ok_one (Ok_call (F := d__law_same) rfl rfl ?_)
  simp [d__law_same, b__law_same, evT_eq, isT, cmpV, dataOf, eqD_int]
  exact Lv_len rfl ⟨rfl, rfl⟩
theorem same_bool {i : Bool} (hK : 1 ≤ K) : callI tab fu K i__law_same [.d (.bool i), .d (.bool i)] s = .ok (.d (.bool true)) s := by
  obtain ⟨K, rfl⟩ : ∃ k, K = k + 1 := ⟨K - 1, by omega⟩
  refine Ok_one (Ok_call (F := d__law_same) rfl rfl ?_)
  have e : cmpV .eq (.d (.bool i)) (.d (.bool i)) s = some true := by cases i <;> rfl
  simp [d__law_same, b__law_same, evT_eq, isT, e]
  exact Lv_len rfl ⟨rfl, rfl⟩
theorem same_tup (hl : xs.length ≤ 1000) (h : ∀ x ∈ xs, callI tab fu K i__law_same [.d x, .d x] s = .ok (.d (.bool true)) s) : callI tab fu (K + 1) i__law_same [.d (.tuple xs), .d (.tuple xs)] s = .ok (.d (.bool true)) s := by
  refine Ok_one (Ok_call (F := d__law_same) rfl rfl ?_)
  have c : ev (callI tab fu K) (.comp false (.call i__law_same (.cons (.idx (.var 0) (.var 2)) (.cons (.idx (.var 1) (.var 2)) .nil))) (.var 2) (.rng1 (.bi false .len (.cons (.var 1) .nil))) .nil [2]) [some (.d (.tuple xs)), some (.d (.tuple xs)), none] s = .ok (.d (.list ((List.range xs.length).map fun _ => PyData.bool true))) s := by
    refine comp_on (fun j : Nat => PyData.int j) _ (by simp [show xs.length ≤ 1000000 by omega]) (by simp; omega) fun j hj => ⟨_, rfl, ?_⟩
    have hj : j < xs.length := by simpa using hj
    have a := atI_nat (vs := xs) (i := j) hj
    simp [wipe, a, h _ (List.getElem_mem hj)]
  have av := allV_map (s := s) (fun _ : Nat => true) (List.range xs.length)
  have av' : biV false .all [.d (.list ((List.range xs.length).map fun _ => PyData.bool true))] s = some (.d (.bool true), s) := by
    show allV [.d (.list ((List.range xs.length).map fun _ => PyData.bool true))] s = _
    rw [av]
    simp
  have eb : ∀ a b : Bool, eqD (.bool a) (.bool b) = some (a == b) := fun a b => by cases a <;> cases b <;> rfl
  simp [d__law_same, b__law_same, evT_eq, isT, c, cmpV, dataOf, eqD_int, eb, av']
  exact Lv_len rfl ⟨rfl, rfl⟩
def good (m : Nat) (xs : List PyData) : Prop := ∀ x ∈ xs, ∃ ws, x = mixD ws ∧ Wq ws m
def MQ (n : Nat) (b : Int) (m : Nat) (s : Sto) (y : Vl) (t : Sto) : Prop := Xd n b s t ∧ ∃ xs, good m xs ∧ xs.length ≤ 100 ∧ ((∃ q, y = .r q ∧ s.length ≤ q ∧ listAt q t = some (xs.map Vl.d)) ∨ y = .d (.list xs))
def JM (n : Nat) (b : Int) (m sd : Nat) (G : PyData) (es : List PyData) (L : Nat) (s : Sto) (e : Sl) (v : Sto) : Prop := ∃ q ys x6 x7 x8, Xd n b s v ∧ s.length ≤ q ∧ listAt q v = some (ys.map Vl.d) ∧ good m ys ∧ ys.length = L ∧ e = [some (.r n), some (.d G), some (.d (.int sd)), some (.d (.int m)), some (.d (.list es)), some (.r q), x6, x7, x8]
theorem jm_app {es ys : List PyData} {G : PyData} {L : Nat} {x6 x7 x8 : Option Vl} {d : PyData} (x : Xd n b s v) (hq : s.length ≤ q) (hl : listAt q v = some (ys.map Vl.d)) (hg : good m ys) (hL : ys.length = L) (hd : ∃ ws, d = mixD ws ∧ Wq ws m) : JM n b m sd G es (L + 1) s [some (.r n), some (.d G), some (.d (.int sd)), some (.d (.int m)), some (.d (.list es)), some (.r q), x6, x7, x8] (putL q (ys.map Vl.d ++ [.d d]) v) :=
  ⟨q, ys ++ [d], _, _, _, x.put hq, hq, by rw [listAt_put (listAt_lt hl)]; simp, fun y hy => by
    rcases List.mem_append.mp hy with hy | hy
    · exact hg y hy
    · rw [List.mem_singleton.mp hy]; exact hd, by simp [hL], rfl⟩
theorem lmixes_ok (hK : 9 ≤ K) (hf : 2 ^ 2000 ≤ fu) (g : Gv A B R C) (h2 : sd < 2) (hm : m = mn R C sd) (hs : Dk n b s) (h0 : 0 ≤ b) (hb : b < 2 ^ 40) : Ok (callI tab fu K i__law_mixes [.r n, .d (gD A B), .d (.int sd), .d (.int m)] s) (MQ n (b + 100) m s) nX := by
  obtain ⟨K, rfl⟩ : ∃ k, K = k + 1 := ⟨K - 1, by omega⟩
  have mt := pm_ok g h2
  have m1 : 1 ≤ m := by rw [hm]; exact mt.m1
  have m5 : m ≤ 5 := by rw [hm]; exact mt.m5
  have lc := lcorners_ok (fu := fu) (K := K) (s := s) (by omega) hf g h2
  rw [← hm] at lc
  obtain ⟨y, t, e1, ht, es, hy, hes, ne, le⟩ := lc.ex
  subst ht hy
  have gE : ∀ i, i < es.length → ∃ ws, es.getD i .none = mixD ws ∧ Wc ws m := fun i hi => hes _ (SM.getD_mem hi)
  have le0 : 0 < es.length := List.length_pos_iff.mpr ne
  refine Ok_call (F := d__law_mixes) rfl rfl ?_
  simp only [d__law_mixes, b__law_mixes]
  generalize hG : gD A B = G at *
  refine Sw_cut (JM n (b + 28) m sd G es 4 t) ?_ fun e v hJ => ?_
  · simp [e1]
    refine Ok_comp_at (m := true) (fun j w => Xd n (b + 7 * j) t w) (fun _ d => ∃ ws, d = mixD ws ∧ Wq ws m) (ds := (List.range 4).map fun j : Nat => PyData.int j) (s' := t) (by simp [show rngV 0 4 = _ from rng_nat 4 (by decide)]) (by simp) (by simpa using Xd.refl hs) (fun j hj w xw => ⟨_, rfl, ?_⟩) fun xs w hl hr xw => ?_
    · have hj : j < 4 := by simpa using hj
      simp [wipe]
      refine (ldrawn_ok (K := K) (fu := fu) (by omega) hf xw.src (by omega) (by omega) m1 m5).imp fun y u ⟨f1, d1, ws, hy, hw⟩ => ?_
      exact ⟨xw.fr f1 (d1.mono (by omega)), _, hy, ws, rfl, hw⟩
    · simp at xw hl
      refine ⟨w.length, xs, _, _, _, (xw.more (by omega)).app, xw.len, listAt_new, fun x hx => ?_, by omega, rfl⟩
      obtain ⟨k, hk, rfl⟩ := List.mem_iff_getElem.mp hx
      exact hr k hk
  refine Sw_cut (JM n (b + 33) m sd G es 9 t) ?_ fun e v hJ => ?_
  · obtain ⟨q, ys, x6, x7, x8, x, hq, hl, hg, hL, he⟩ := hJ
    subst he
    rw [exS_for_vals (ds := (List.range 5).map fun j : Nat => PyData.int j) (s' := v) (by simp [show rngV 0 5 = _ from rng_nat 5 (by decide)])]
    refine Sw_goR 5 (fun j => JM n (b + 28 + j) m sd G es (4 + j) t) (fun j hj e v ⟨q, ys, x6, x7, x8, x, hq, hl, hg, hL, he⟩ => ?_) (fun e v hJ => by simpa [Int.add_assoc] using hJ) ⟨q, ys, _, _, _, by simpa using x, hq, hl, hg, hL, rfl⟩
    subst he
    rw [turnS_var]
    simp [meR_r hl]
    refine (dr (K := K) (m := es.length) (by omega) x.src (by omega) (by omega) (by omega) (by omega)).imp fun y u ⟨f1, d1, i, e1, i0, i1⟩ => ?_
    subst e1
    obtain ⟨i, rfl⟩ : ∃ k : Nat, i = k := ⟨i.toNat, by omega⟩
    have hi : i < es.length := by omega
    obtain ⟨ws, hw, wc⟩ := gE i hi
    have a := atI_nat (vs := es) (i := i) hi
    rw [SM.getD_lt hi] at hw
    rw [hw] at a
    have qn : q ≠ n := by have := x.lt; omega
    have hl' : listAt q u = some (ys.map Vl.d) := by rw [listAt_same (f1.2 q qn)]; exact hl
    simp [a, app_r hl' (show (ys.map Vl.d).length < 16777216 by simp; omega)]
    have := jm_app (sd := sd) (G := G) (es := es) (x6 := some (.d (.int j))) (x7 := x7) (x8 := x8) (d := mixD ws) (x.fr f1 (d1.mono (b' := b + 28 + ((j + 1 : Nat) : Int)) (by omega))) hq hl' hg hL ⟨ws, rfl, wc.q⟩
    exact this
  refine Sw_cut (JM n (b + 42) m sd G es 12 t) ?_ fun e v hJ => ?_
  · obtain ⟨q, ys, x6, x7, x8, x, hq, hl, hg, hL, he⟩ := hJ
    subst he
    rw [exS_for_vals (ds := (List.range 3).map fun j : Nat => PyData.int j) (s' := v) (by simp [show rngV 0 3 = _ from rng_nat 3 (by decide)])]
    refine Sw_goR 3 (fun j => JM n (b + 33 + 3 * j) m sd G es (9 + j) t) (fun j hj e v ⟨q, ys, x6, x7, x8, x, hq, hl, hg, hL, he⟩ => ?_) (fun e v hJ => by simpa [Int.add_assoc] using hJ) ⟨q, ys, _, _, _, by simpa using x, hq, hl, hg, hL, rfl⟩
    subst he
    rw [turnS_var]
    have qn : q ≠ n := by have := x.lt; omega
    refine Sw_cut (fun e u => Xd n (b + 33 + 3 * j + 1) t u ∧ listAt q u = some (ys.map Vl.d) ∧ ∃ h : Int, 1 ≤ h ∧ h ≤ 9 ∧ e = [some (.r n), some (.d G), some (.d (.int sd)), some (.d (.int m)), some (.d (.list es)), some (.r q), some (.d (.int j)), some (.d (.int h)), x8]) ?_ fun e u ⟨xu, lu, h, h1, h9, he⟩ => ?_
    · simp
      refine (dr (K := K) (m := 9) (by omega) x.src (by omega) (by omega) (by omega) (by omega)).imp fun y u ⟨f1, d1, i, e1, i0, i1⟩ => ?_
      subst e1
      simp
      exact ⟨x.fr f1 d1, by rw [listAt_same (f1.2 q qn)]; exact hl, by omega, by omega⟩
    subst he
    refine Sw_cut (fun e z => Xd n (b + 33 + 3 * ((j + 1 : Nat) : Int)) t z ∧ listAt q z = some (ys.map Vl.d) ∧ ∃ w1 w2, Wc w1 m ∧ Wc w2 m ∧ e = [some (.r n), some (.d G), some (.d (.int sd)), some (.d (.int m)), some (.d (.list es)), some (.r q), some (.d (.int j)), some (.d (.int h)), some (.d (.list [mixD w1, mixD w2]))]) ?_ fun e z ⟨xz, lz, w1, w2, wc1, wc2, he⟩ => ?_
    · simp
      refine (dr (K := K) (m := es.length) (by omega) xu.src (by omega) (by omega) (by omega) (by omega)).imp fun y u2 ⟨f1, d1, i, e1, i0, i1⟩ => ?_
      subst e1
      obtain ⟨i, rfl⟩ : ∃ k : Nat, i = k := ⟨i.toNat, by omega⟩
      have hi : i < es.length := by omega
      obtain ⟨ws, hw, wc⟩ := gE i hi
      have a := atI_nat (vs := es) (i := i) hi
      rw [SM.getD_lt hi] at hw
      rw [hw] at a
      simp [a]
      refine (dr (K := K) (m := es.length) (by omega) d1 (by omega) (by omega) (by omega) (by omega)).imp fun y u3 ⟨f2, d2, i', e2, j0, j1⟩ => ?_
      subst e2
      obtain ⟨i', rfl⟩ : ∃ k : Nat, i' = k := ⟨i'.toNat, by omega⟩
      have hi' : i' < es.length := by omega
      obtain ⟨ws', hw', wc'⟩ := gE i' hi'
      have a' := atI_nat (vs := es) (i := i') hi'
      rw [SM.getD_lt hi'] at hw'
      rw [hw'] at a'
      simp [a', mkL_f, allD]
      exact ⟨(xu.fr f1 d1).fr f2 (d2.mono (by omega)), by rw [listAt_same (f2.2 q qn), listAt_same (f1.2 q qn)]; exact lu, ws, wc, ws', wc', rfl, rfl⟩
    subst he
    have r1 := lratio_ok (fu := fu) (K := K) (s := z) (a := h) (b := 10) (by omega) hf (by omega) (Nat.lt_of_lt_of_le (show (10 : Int).natAbs < 2 ^ 4 by decide) (Nat.pow_le_pow_right (by decide) (by decide)))
    have r2 := lratio_ok (fu := fu) (K := K) (s := z) (a := 10 - h) (b := 10) (by omega) hf (by omega) (Nat.lt_of_lt_of_le (show (10 : Int).natAbs < 2 ^ 4 by decide) (Nat.pow_le_pow_right (by decide) (by decide)))
    have me := lmean_ok (fu := fu) (K := K) (s := z) (by omega) hf wc1 wc2 m1 h1 h9
    simp [r1, r2, mkL_f, allD, me, meR_r lz, app_r lz (show (ys.map Vl.d).length < 16777216 by simp; omega)]
    exact jm_app xz hq lz hg hL ⟨_, rfl, me_wq wc1 wc2 h1 h9⟩
  obtain ⟨q, ys, x6, x7, x8, x, hq, hl, hg, hL, he⟩ := hJ
  subst he
  by_cases one : m = 1
  · have one' : (m : Int) = 1 := by omega
    simp [evT_eq, cmpV, dataOf, eqD_int, one']
    refine Lv_new hq ⟨x.more (by omega), ys, hg, by omega, .inl ⟨q, rfl, hq, hl⟩⟩
  · have one' : ¬ (m : Int) = 1 := by omega
    simp [evT_eq, cmpV, dataOf, eqD_int, one']
    refine (lhalves_ok (K := K) (fu := fu) (by omega) hf x.src (by omega) (by omega) (by omega) m5).imp fun y u ⟨f1, d1, ws, hy, hw⟩ => ?_
    subst hy
    have qn : q ≠ n := by have := x.lt; omega
    have lu : listAt q u = some (ys.map Vl.d) := by rw [listAt_same (f1.2 q qn)]; exact hl
    have xu := x.fr f1 (d1.mono (b' := b + 100) (by omega))
    have ad : binV false .add (.r q) (.d (.list [mixD ws])) u = some (.d (.list (ys ++ [mixD ws])), u) := by
      show (match listAt q u, some ([mixD ws].map Vl.d), BOp.add with
        | some us, some vs, .add => mkL false (us ++ vs) u
        | _, _, _ => _) = _
      rw [lu]
      show mkL false (ys.map Vl.d ++ [mixD ws].map Vl.d) u = _
      rw [← List.map_append, mkL_data, if_pos (by simp; omega)]
    simp [mkL_f, allD, ad]
    have tk := xu.take
    refine xu.lv ⟨(Xd.refl hs).fr tk.1 tk.2, ys ++ [mixD ws], fun y hy => ?_, by simp; omega, .inr rfl⟩
    rcases List.mem_append.mp hy with hy | hy
    · exact hg y hy
    · rw [List.mem_singleton.mp hy]; exact ⟨ws, rfl, hw⟩
end
end Law

set_option maxHeartbeats 1000000
namespace Law
open PySem SM
section
variable {fu K n m R C q i j k : Nat} {s t u v w : Sto} {b : Int} {A B A' B' : List (List Int)} {sd : Nat} {ws : List Int} {ns : List Int}
noncomputable def dueL (A B : List (List Int)) (R C sd : Nat) (ws : List Int) : PyData := .tuple [.tuple (LSp sd (wsF (frs ws)) (pm A B C sd) (mn R C (1 - sd))), .bool (crn A B R C sd (frs ws))]
theorem told_ok {nm : Bool} (hK : 10 ≤ K) (hf : 10 ≤ fu) (g : Gv A B R C) (h2 : sd < 2) (h : Wq ws (mn R C sd)) : callI tab fu K i__law_told [.d (gD A B), .d (.int sd), .d (mixD ws), .d (.bool nm)] s = .ok (.d (dueL A B R C sd ws)) s := by
  obtain ⟨K, rfl⟩ : ∃ k, K = k + 1 := ⟨K - 1, by omega⟩
  have l := labels_ok (fu := fu) (K := K) (s := s) (by omega) g h2 h
  have c := is_corner_ok (fu := fu) (K := K) (s := s) (by omega) hf g h2 h
  refine Ok_one (Ok_call (F := d__law_told) rfl rfl ?_)
  cases nm
  · simp [d__law_told, b__law_told, evT_eq, l, c]
    exact Lv_len rfl ⟨rfl, rfl⟩
  · have k1 : callkR (callI tab fu K) i_labels [] 3 [1, 2, 0] [.d (mixD ws), .d (gD A B), .d (.int sd)] s = callI tab fu K i_labels [.d (gD A B), .d (.int sd), .d (mixD ws)] s := callkR_eq rfl rfl
    have k2 : callkR (callI tab fu K) i_is_corner [] 3 [2, 0, 1] [.d (.int sd), .d (mixD ws), .d (gD A B)] s = callI tab fu K i_is_corner [.d (gD A B), .d (.int sd), .d (mixD ws)] s := callkR_eq rfl rfl
    simp [d__law_told, b__law_told, evT_eq, k1, k2, l, c]
    exact Lv_len rfl ⟨rfl, rfl⟩
theorem same_due (hK : 4 ≤ K) (h2 : sd < 2) (g : Gv A B R C) (h : Wq ws (mn R C sd)) : callI tab fu K i__law_same [.d (dueL A B R C sd ws), .d (dueL A B R C sd ws)] s = .ok (.d (.bool true)) s := by
  obtain ⟨K, rfl⟩ : ∃ k, K = k + 1 := ⟨K - 1, by omega⟩
  unfold dueL
  refine same_tup (by simp) fun x hx => ?_
  have hx : x = .tuple (LSp sd (wsF (frs ws)) (pm A B C sd) (mn R C (1 - sd))) ∨ x = .bool (crn A B R C sd (frs ws)) := by simpa using hx
  rcases hx with rfl | rfl
  · obtain ⟨K, rfl⟩ : ∃ k, K = k + 1 := ⟨K - 1, by omega⟩
    have ps : LSp sd (wsF (frs ws)) (pm A B C sd) (mn R C (1 - sd)) = (psL sd (wsF (frs ws)) (smF A B R C sd (frs ws))).map pD := ps_eq h2
    have ll : (LSp sd (wsF (frs ws)) (pm A B C sd) (mn R C (1 - sd))).length ≤ 1000 := by
      have e := labels_len (ws := wsF (frs ws)) (sd := sd) (l := smF A B R C sd (frs ws))
      have e2 : LSp sd (wsF (frs ws)) (pm A B C sd) (mn R C (1 - sd)) = sortP (ownL sd (wsF (frs ws)) ++ bstL sd (smF A B R C sd (frs ws))) := rfl
      rw [e2, e]
      have h1 := List.count_le_length (a := 0) (l := wsF (frs ws))
      have h3 : cntF (smF A B R C sd (frs ws)) ≤ (smF A B R C sd (frs ws)).length := List.count_le_length
      have h4 : (smF A B R C sd (frs ws)).length = mn R C (1 - sd) := sums_len
      have h5 := (pm_ok g h2).n5
      have h6 : (wsF (frs ws)).length = ws.length := by simp [wsF, wtF, frs]
      have h7 := h.len
      have h8 := h.c5
      omega
    refine same_tup ll fun x hx => ?_
    rw [ps] at hx
    obtain ⟨p, _, rfl⟩ := List.mem_map.mp hx
    obtain ⟨K, rfl⟩ : ∃ k, K = k + 1 := ⟨K - 1, by omega⟩
    refine same_tup (by simp) fun x hx => ?_
    have hx : x = .int p.1 ∨ x = .int p.2 := by simpa using hx
    rcases hx with rfl | rfl <;> exact same_int (by omega)
  · exact same_bool (by omega)
def eZ (ns : List Int) (k n R C sd : Nat) (G H : PyData) (x7 x8 x9 : Option Vl) : Sl := [some (.d (.list (ns.map .int))), some (.d (.int k)), some (.r n), some (.d (.int R)), some (.d (.int C)), some (.d (.int sd)), some (.d (.list [G, H])), x7, x8, x9]
/-- one game asked of one mix -/
theorem ask_ok {k : Nat} {G H : PyData} {x9 : Option Vl} {N Bk Cc : Sl → Sto → Prop} {Rr : Vl → Sto → Prop} {X : Nat → Vl → Sl → Sto → Prop} (hK : 11 ≤ K) (hf : 2 ^ 2000 ≤ fu) (g : Gv A B R C) (h2 : sd < 2) (h : Wq ws (mn R C sd)) (hs : Dk n b v) (h0 : 0 ≤ b) (hb : b < 2 ^ 50)
    (hN : ∀ x9 w, Fr n v w → Dk n (b + 1) w → N (eZ ns k n R C sd G H (some (.d (mixD ws))) (some (.d (gD A B))) x9) w) :
    Sw (exS (callI tab fu K) fu (.cons (.asg (.var 9) (.tup (.cons (.bi false .tuple (.cons (.call i__law_labels (.cons (.var 8) (.cons (.var 5) (.cons (.var 7) .nil)))) .nil)) (.cons (.call i__law_alone (.cons (.var 8) (.cons (.var 5) (.cons (.var 7) .nil)))) .nil))))
        (.cons (.ite (.not (.call i__law_same (.cons (.call i__law_told (.cons (.var 8) (.cons (.var 5) (.cons (.var 7) (.cons (.cmp .eq (.call i__law_take (.cons (.var 2) (.cons (.lit (.int 2)) .nil))) (.lit (.int 0))) .nil))))) (.cons (.var 9) .nil)))) (.cons (.ret (.lit (.bool false)))
          .nil) .nil)
        .nil)) (eZ ns k n R C sd G H (some (.d (mixD ws))) (some (.d (gD A B))) x9) v) ⟨N, Rr, Bk, Cc, X⟩ := by
  have lb := llabels_ok (fu := fu) (K := K) (s := v) (by omega) g h2 h.fb
  rw [LSp_same h.fb.p1 (pm_ok g h2).n1] at lb
  have lb' : callI tab fu K i__law_labels [.d (gD A B), .d (.int sd), .d (mixD ws)] v = .ok (.d (.list (LSp sd (wsF (frs ws)) (pm A B C sd) (mn R C (1 - sd))))) v := lb
  have al : callI tab fu K i__law_alone [.d (gD A B), .d (.int sd), .d (mixD ws)] v = .ok (.d (.bool (crn A B R C sd (frs ws)))) v := lalone_ok (fu := fu) (K := K) (s := v) (by omega) hf g h2 h.fb
  refine Sw_cut (fun e w => w = v ∧ e = eZ ns k n R C sd G H (some (.d (mixD ws))) (some (.d (gD A B))) (some (.d (dueL A B R C sd ws)))) ?_ fun e w ⟨hw, he⟩ => ?_
  · generalize hM : mixD ws = M at *
    generalize hG : gD A B = GG at *
    simp [eZ, lb', al]
    rfl
  subst hw he
  have f10 : 10 ≤ fu := by
    have : (2 : Nat) ^ 4 ≤ 2 ^ 2000 := Nat.pow_le_pow_right (by decide) (by decide)
    omega
  have tk : ∀ nm q, callI tab fu K i__law_told [.d (gD A B), .d (.int sd), .d (mixD ws), .d (.bool nm)] q = .ok (.d (dueL A B R C sd ws)) q := fun nm q => told_ok (by omega) f10 g h2 h
  have sm : ∀ q, callI tab fu K i__law_same [.d (dueL A B R C sd ws), .d (dueL A B R C sd ws)] q = .ok (.d (.bool true)) q := fun q => same_due (by omega) h2 g h
  generalize mixD ws = M at *
  generalize gD A B = GG at *
  generalize dueL A B R C sd ws = D at *
  simp [eZ, evT_eq]
  refine (dr (K := K) (m := 2) (by omega) hs h0 (by omega) (by omega) (by omega)).imp fun y t ⟨f1, d1, i, e1, i0, i1⟩ => ?_
  subst e1
  have ci : cmpV .eq (.d (.int i)) (.d (.int 0)) t = some (decide (i = 0)) := by simp [cmpV, dataOf, eqD_int]
  simp [ci, tk, sm]
  exact hN _ _ f1 d1
end
end Law

set_option maxHeartbeats 1000000
namespace Law
open PySem SM
section
variable {fu K n m R C q i j k : Nat} {s t u v w : Sto} {b : Int} {A B A' B' : List (List Int)} {sd : Nat} {ws : List Int} {ns : List Int}
theorem mixturn_ok {k : Nat} {x8 x9 : Option Vl} {N Bk : Sl → Sto → Prop} {Rr : Vl → Sto → Prop} {X : Nat → Vl → Sl → Sto → Prop} (hK : 11 ≤ K) (hf : 2 ^ 2000 ≤ fu) (g : Gv A B R C) (g' : Gv A' B' R C) (h2 : sd < 2) (h : Wq ws (mn R C sd)) (hs : Dk n b v) (h0 : 0 ≤ b) (hb : b < 2 ^ 48)
    (hN : ∀ x8 x9 w, Fr n v w → Dk n (b + 3) w → N (eZ ns k n R C sd (gD A B) (gD A' B') (some (.d (mixD ws))) x8 x9) w) :
    Sw (exS (callI tab fu K) fu (.cons (.forr (.var 8) (.itv (.bop false .add (.var 6) (.sli false (.var 6) .nil (.cons (.lit (.int 1)) .nil)))) (.cons (.asg (.var 9) (.tup (.cons (.bi false .tuple (.cons (.call i__law_labels (.cons (.var 8) (.cons (.var 5) (.cons (.var 7) .nil)))) .nil)) (.cons (.call i__law_alone (.cons (.var 8) (.cons (.var 5) (.cons (.var 7) .nil)))) .nil))))
        (.cons (.ite (.not (.call i__law_same (.cons (.call i__law_told (.cons (.var 8) (.cons (.var 5) (.cons (.var 7) (.cons (.cmp .eq (.call i__law_take (.cons (.var 2) (.cons (.lit (.int 2)) .nil))) (.lit (.int 0))) .nil))))) (.cons (.var 9) .nil)))) (.cons (.ret (.lit (.bool false)))
          .nil) .nil)
        .nil)))
      .nil) (eZ ns k n R C sd (gD A B) (gD A' B') (some (.d (mixD ws))) x8 x9) v) ⟨N, Rr, Bk, N, X⟩ := by
  refine Sw_cut N ?_ fun e t z => z
  have it : itr (callI tab fu K) (.itv (.bop false .add (.var 6) (.sli false (.var 6) .nil (.cons (.lit (.int 1)) .nil)))) (eZ ns k n R C sd (gD A B) (gD A' B') (some (.d (mixD ws))) x8 x9) v = .ok (.vals [gD A B, gD A' B', gD A B]) v := by
    generalize gD A B = G
    generalize gD A' B' = H
    have c : cutL [G, H] none (some 1) = [G] := by rw [cut_to _ (by decide)]; rfl
    have ad : binV false .add (.d (.list [G, H])) (.d (.list [G])) v = some (.d (.list [G, H, G]), v) := by
      show mkL false ([G, H, G].map Vl.d) v = _
      rw [mkL_data]
      rfl
    simp [eZ, c, ad]
  rw [exS_for_vals it]
  have st : ∀ (x8 x9 : Option Vl) (G H D M : PyData) (y : Vl), (eZ ns k n R C sd G H (some (.d M)) x8 x9).set 8 (some y) = eZ ns k n R C sd G H (some (.d M)) (some y) x9 := fun _ _ _ _ _ _ _ => rfl
  rw [Sw_step, turnS_var, st _ _ _ _ (gD A B) _ _]
  refine ask_ok hK hf g h2 h hs h0 (by omega) fun y9 w f1 d1 => ?_
  rw [Sw_step, turnS_var, st _ _ _ _ (gD A B) _ _]
  refine ask_ok hK hf g' h2 h d1 (by omega) (by omega) fun y9 w f2 d2 => ?_
  rw [Sw_step, turnS_var, st _ _ _ _ (gD A B) _ _]
  refine ask_ok hK hf g h2 h d2 (by omega) (by omega) fun y9 w f3 d3 => ?_
  exact hN _ _ _ ((f1.trans f2).trans f3) (d3.mono (by omega))
def W0 (ns : List Int) (e : Sl) (t : Sto) : Prop := ∃ x1 x2 x3 x4 x5 x6 x7 x8 x9 : Option Vl, e = [some (.d (.list (ns.map .int))), x1, x2, x3, x4, x5, x6, x7, x8, x9]
def W2 (ns : List Int) (k n : Nat) (b : Int) (x6 x7 x8 x9 : Option Vl) (e : Sl) (t : Sto) : Prop := ∃ R C sd : Nat, 1 ≤ R ∧ R ≤ 5 ∧ 1 ≤ C ∧ C ≤ 5 ∧ sd < 2 ∧ Dk n b t ∧ e = [some (.d (.list (ns.map .int))), some (.d (.int k)), some (.r n), some (.d (.int R)), some (.d (.int C)), some (.d (.int sd)), x6, x7, x8, x9]
def W3 (ns : List Int) (k n R C sd : Nat) (b : Int) (x7 x8 x9 : Option Vl) (e : Sl) (t : Sto) : Prop := ∃ A B A' B', Gv A B R C ∧ Gv A' B' R C ∧ Dk n b t ∧ e = eZ ns k n R C sd (gD A B) (gD A' B') x7 x8 x9
theorem law_ok {ns : List Int} (hf : 2 ^ 2000 ≤ fu) (hK : 20 ≤ K) (hn : ns.length ≤ 63) : Ok (callI tab fu K i_law [.d (.list (ns.map .int))] []) (fun v t => v = .d (.bool true)) nX := by
  obtain ⟨K, rfl⟩ : ∃ k, K = k + 1 := ⟨K - 1, by omega⟩
  refine Ok_call (F := d_law) rfl rfl ?_
  simp only [d_law, b_law]
  refine Sw_cut (W0 ns) ?_ fun e t ⟨x1, x2, x3, x4, x5, x6, x7, x8, x9, he⟩ => ?_
  · obtain ⟨M, hM, m3⟩ : ∃ M : Nat, max (1 : Int) (min 2 ns.length) = M ∧ M ≤ 2 := ⟨(max (1 : Int) (min 2 ns.length)).toNat, by omega, by omega⟩
    rw [exS_for_vals (ds := (List.range M).map fun j : Nat => PyData.int j) (s' := []) (by simp [hM, show M ≤ 1000000 by omega])]
    refine Sw_goR M (fun _ => W0 ns) (fun k hk e v ⟨x1, x2, x3, x4, x5, x6, x7, x8, x9, he⟩ => ?_) (fun _ _ z => z) ⟨_, _, _, _, _, _, _, _, _, rfl⟩
    subst he
    rw [turnS_var]
    refine Sw_cut (fun e t => Dk v.length 0 t ∧ e = [some (.d (.list (ns.map .int))), some (.d (.int k)), some (.r v.length), x3, x4, x5, x6, x7, x8, x9]) ?_ fun e t ⟨d, he⟩ => ?_
    · simp [-List.map_map]
      refine (well_ok (K := K) (fu := fu) (s := v) (k := k) (by omega) (by omega) (by omega)).imp fun y t ⟨hy, o, ht, d⟩ => ?_
      subst hy
      exact ⟨d, rfl⟩
    subst he
    generalize v.length = n at *
    refine Sw_cut (W2 ns k n 3 x6 x7 x8 x9) ?_ fun e t ⟨R, C, sd, r1, r5, c1, c5, h2, d, he⟩ => ?_
    · simp
      refine (dr (K := K) (m := 5) (by omega) d (by omega) (by omega) (by omega) (by omega)).imp fun y t ⟨f1, d1, i, e1, i0, i1⟩ => ?_
      subst e1
      simp
      refine (dr (K := K) (m := 5) (by omega) d1 (by omega) (by omega) (by omega) (by omega)).imp fun y t ⟨f2, d2, j, e2, j0, j1⟩ => ?_
      subst e2
      simp
      refine (dr (K := K) (m := 2) (by omega) d2 (by omega) (by omega) (by omega) (by omega)).imp fun y t ⟨f3, d3, l, e3, l0, l1⟩ => ?_
      subst e3
      exact ⟨(1 + i).toNat, (1 + j).toNat, l.toNat, by omega, by omega, by omega, by omega, by omega, d3, by simp; omega⟩
    subst he
    refine Sw_cut (W3 ns k n R C sd 163 x7 x8 x9) ?_ fun e t ⟨A, B, A', B', g, g', d, he⟩ => ?_
    · simp
      refine (lgame_ok (K := K) (fu := fu) (by omega) d (by omega) (by omega) r1 r5 c1 c5).imp fun y t ⟨f1, d1, A, B, hy, g⟩ => ?_
      subst hy
      simp
      refine (lgame_ok (K := K) (fu := fu) (by omega) d1 (by omega) (by omega) r1 r5 c1 c5).imp fun y t ⟨f2, d2, A', B', hy, g'⟩ => ?_
      subst hy
      simp [mkL_f, allD]
      exact ⟨A, B, A', B', g, g', d2, rfl⟩
    subst he
    refine Sw_cut (W0 ns) ?_ fun e t h => by simpa using h
    have mx := lmixes_ok (K := K) (fu := fu) (m := mn R C sd) (by omega) hf g h2 rfl d (by omega) (by omega)
    obtain ⟨y, u, e1, xu, xs, gx, lx, hy⟩ := mx.ex
    have av : ev (callI tab fu K) (.call i__law_mixes (.cons (.var 2) (.cons (.idx (.var 6) (.lit (.int 0))) (.cons (.var 5) (.cons (.idx (.lst false (.cons (.var 3) (.cons (.var 4) .nil))) (.var 5)) .nil))))) (eZ ns k n R C sd (gD A B) (gD A' B') x7 x8 x9) t = .ok y u := by
      generalize gD A B = G at *
      generalize gD A' B' = H at *
      have hsd : sd = 0 ∨ sd = 1 := by omega
      rcases hsd with rfl | rfl
      · have e1' : callI tab fu K i__law_mixes [.r n, .d G, .d (.int 0), .d (.int R)] t = .ok y u := e1
        simp [eZ, mkL_f, allD, idx0, e1']
      · have e1' : callI tab fu K i__law_mixes [.r n, .d G, .d (.int 1), .d (.int C)] t = .ok y u := e1
        simp [eZ, mkL_f, allD, idx0, idx1, e1']
    have fin : ∀ e t x7 x8 x9, e = eZ ns k n R C sd (gD A B) (gD A' B') x7 x8 x9 → W0 ns e t := fun e t x7 x8 x9 he => ⟨_, _, _, _, _, _, _, _, _, he⟩
    rcases hy with ⟨q, rfl, hq, lq⟩ | rfl
    · have qn : q ≠ n := by have := xu.lt; omega
      refine Sw_for_ref (p := q) (vs := xs.map Vl.d) (fun i e v => ∃ x7 x8 x9, Dk n (263 + 3 * i) v ∧ listAt q v = some (xs.map Vl.d) ∧ e = eZ ns k n R C sd (gD A B) (gD A' B') x7 x8 x9) (itr_r av lq) (fun _ e v ⟨_, _, _, _, h, _⟩ => h) ⟨x7, x8, x9, xu.src.mono (by omega), lq, rfl⟩ (fun i hi e v ⟨y7, y8, y9, dv, lv, he⟩ => ?_) fun e v ⟨y7, y8, y9, dv, lv, he⟩ => fin e v _ _ _ he
      subst he
      have hi' : i < xs.length := by simpa using hi
      obtain ⟨ws, hw, wq⟩ := gx _ (List.getElem_mem hi')
      rw [show (xs.map Vl.d)[i] = .d xs[i] by simp, hw, turnS_var]
      refine mixturn_ok (b := 263 + 3 * (i : Int)) (by omega) hf g g' h2 wq dv (by omega) (by omega) fun z8 z9 w f1 d1 => ⟨_, _, _, d1.mono (by omega), ?_, rfl⟩
      rw [listAt_same (f1.2 q qn)]
      exact lv
    · rw [exS_for_vals (itv_l av)]
      refine Sw_goN (fun i e v => ∃ x7 x8 x9, Dk n (263 + 3 * i) v ∧ e = eZ ns k n R C sd (gD A B) (gD A' B') x7 x8 x9) (fun i hi e v ⟨y7, y8, y9, dv, he⟩ => ?_) (fun e v ⟨y7, y8, y9, dv, he⟩ => fin e v _ _ _ he) ⟨x7, x8, x9, xu.src.mono (by omega), rfl⟩
      subst he
      obtain ⟨ws, hw, wq⟩ := gx _ (List.getElem_mem hi)
      rw [hw, turnS_var]
      exact mixturn_ok (b := 263 + 3 * (i : Int)) (by omega) hf g g' h2 wq dv (by omega) (by omega) fun z8 z9 w f1 d1 => ⟨_, _, _, d1.mono (by omega), rfl⟩
  · subst he
    simp
    exact fun s' _ _ => rfl
end
end Law

set_option maxHeartbeats 0
/-! ### their checks -/
namespace Law
open PySem L2 SM
abbrev pg : Program := PySem.Challenge.pw_steadymixes_k06_labels_and_corners_judge
abbrev tp (i : Nat) : Stmt := pg.main.body.getD i (.Pass ⟨0, 0, 0, 0⟩)
def sg : Sg := {
  fns := [("is_integer" : PySem.Str), ("anew" : PySem.Str), ("is_within" : PySem.Str), ("is_fraction" : PySem.Str), ("comes_to_one" : PySem.Str), ("are_chances" : PySem.Str), ("is_a_row" : PySem.Str), ("is_a_table" : PySem.Str), ("are_tables_like" : PySem.Str), ("is_a_game" : PySem.Str), ("is_a_side" : PySem.Str), ("many_of" : PySem.Str), ("is_a_mix" : PySem.Str), ("need_game" : PySem.Str), ("need_side" : PySem.Str), ("need_mix" : PySem.Str), ("paid" : PySem.Str), ("scaled" : PySem.Str), ("only_line" : PySem.Str), ("differences" : PySem.Str), ("labels_by" : PySem.Str), ("labels_of" : PySem.Str), ("is_corner_of" : PySem.Str), ("need_asked" : PySem.Str), ("labels" : PySem.Str), ("is_corner" : PySem.Str), ("_law_well" : PySem.Str), ("_law_take" : PySem.Str), ("_law_frozen" : PySem.Str), ("_law_game" : PySem.Str), ("_law_pays" : PySem.Str), ("_law_gcd" : PySem.Str), ("_law_ratio" : PySem.Str), ("_law_cleared" : PySem.Str), ("_law_line" : PySem.Str), ("_law_lots" : PySem.Str), ("_law_before" : PySem.Str), ("_law_parted" : PySem.Str), ("_law_labels" : PySem.Str), ("_law_put" : PySem.Str), ("_law_spread" : PySem.Str), ("_law_corners" : PySem.Str), ("_law_alone" : PySem.Str), ("_law_drawn" : PySem.Str), ("_law_halves" : PySem.Str), ("_law_mean" : PySem.Str), ("_law_same" : PySem.Str), ("_law_told" : PySem.Str), ("_law_mixes" : PySem.Str), ("law" : PySem.Str)],
  cns := [(("MOST_CHOICES" : PySem.Str), (.int 5)), (("MOST_NUMBER" : PySem.Str), (.int 1000))],
  bis := [("abs" : PySem.Str), ("all" : PySem.Str), ("bool" : PySem.Str), ("enumerate" : PySem.Str), ("int" : PySem.Str), ("isinstance" : PySem.Str), ("len" : PySem.Str), ("list" : PySem.Str), ("max" : PySem.Str), ("min" : PySem.Str), ("range" : PySem.Str), ("sorted" : PySem.Str), ("sum" : PySem.Str), ("tuple" : PySem.Str), ("zip" : PySem.Str)],
  mth := [("gcd" : PySem.Str), ("lcm" : PySem.Str)],
  kws := [(("labels" : PySem.Str), [("mix" : PySem.Str), ("game" : PySem.Str), ("side" : PySem.Str)], [1, 2, 0]), (("is_corner" : PySem.Str), [("side" : PySem.Str), ("mix" : PySem.Str), ("game" : PySem.Str)], [2, 0, 1])] }
theorem c_is_integer : chkSs sg n_is_integer (fun _ => true) (defScope (tp 9)) b_is_integer (defBody (tp 9)) = true := by decide +kernel
theorem s_is_integer : FnScope n_is_integer [("value" : PySem.Str)] (defScope (tp 9)) := ⟨rfl, rfl, rfl, by decide +kernel, rfl, by decide +kernel, by decide +kernel⟩
theorem c_anew : chkSs sg n_anew (fun _ => true) (defScope (tp 10)) b_anew (defBody (tp 10)) = true := by decide +kernel
theorem s_anew : FnScope n_anew [("value" : PySem.Str)] (defScope (tp 10)) := ⟨rfl, rfl, rfl, by decide +kernel, rfl, by decide +kernel, by decide +kernel⟩
theorem c_is_within : chkSs sg n_is_within (fun _ => true) (defScope (tp 11)) b_is_within (defBody (tp 11)) = true := by decide +kernel
theorem s_is_within : FnScope n_is_within [("value" : PySem.Str), ("least" : PySem.Str), ("most" : PySem.Str)] (defScope (tp 11)) := ⟨rfl, rfl, rfl, by decide +kernel, rfl, by decide +kernel, by decide +kernel⟩
theorem c_is_fraction : chkSs sg n_is_fraction (fun _ => true) (defScope (tp 12)) b_is_fraction (defBody (tp 12)) = true := by decide +kernel
theorem s_is_fraction : FnScope n_is_fraction [("value" : PySem.Str)] (defScope (tp 12)) := ⟨rfl, rfl, rfl, by decide +kernel, rfl, by decide +kernel, by decide +kernel⟩
theorem c_comes_to_one : chkSs sg n_comes_to_one (fun _ => true) (defScope (tp 13)) b_comes_to_one (defBody (tp 13)) = true := by decide +kernel
theorem s_comes_to_one : FnScope n_comes_to_one [("fractions" : PySem.Str)] (defScope (tp 13)) := ⟨rfl, rfl, rfl, by decide +kernel, rfl, by decide +kernel, by decide +kernel⟩
theorem c_are_chances : chkSs sg n_are_chances (fun _ => true) (defScope (tp 14)) b_are_chances (defBody (tp 14)) = true := by decide +kernel
theorem s_are_chances : FnScope n_are_chances [("value" : PySem.Str), ("many" : PySem.Str)] (defScope (tp 14)) := ⟨rfl, rfl, rfl, by decide +kernel, rfl, by decide +kernel, by decide +kernel⟩
theorem c_is_a_row : chkSs sg n_is_a_row (fun _ => true) (defScope (tp 15)) b_is_a_row (defBody (tp 15)) = true := by decide +kernel
theorem s_is_a_row : FnScope n_is_a_row [("value" : PySem.Str), ("wide" : PySem.Str)] (defScope (tp 15)) := ⟨rfl, rfl, rfl, by decide +kernel, rfl, by decide +kernel, by decide +kernel⟩
theorem c_is_a_table : chkSs sg n_is_a_table (fun _ => true) (defScope (tp 16)) b_is_a_table (defBody (tp 16)) = true := by decide +kernel
theorem s_is_a_table : FnScope n_is_a_table [("value" : PySem.Str)] (defScope (tp 16)) := ⟨rfl, rfl, rfl, by decide +kernel, rfl, by decide +kernel, by decide +kernel⟩
theorem c_are_tables_like : chkSs sg n_are_tables_like (fun _ => true) (defScope (tp 17)) b_are_tables_like (defBody (tp 17)) = true := by decide +kernel
theorem s_are_tables_like : FnScope n_are_tables_like [("value" : PySem.Str), ("rows" : PySem.Str), ("columns" : PySem.Str)] (defScope (tp 17)) := ⟨rfl, rfl, rfl, by decide +kernel, rfl, by decide +kernel, by decide +kernel⟩
theorem c_is_a_game : chkSs sg n_is_a_game (fun _ => true) (defScope (tp 18)) b_is_a_game (defBody (tp 18)) = true := by decide +kernel
theorem s_is_a_game : FnScope n_is_a_game [("value" : PySem.Str)] (defScope (tp 18)) := ⟨rfl, rfl, rfl, by decide +kernel, rfl, by decide +kernel, by decide +kernel⟩
theorem c_is_a_side : chkSs sg n_is_a_side (fun _ => true) (defScope (tp 19)) b_is_a_side (defBody (tp 19)) = true := by decide +kernel
theorem s_is_a_side : FnScope n_is_a_side [("value" : PySem.Str)] (defScope (tp 19)) := ⟨rfl, rfl, rfl, by decide +kernel, rfl, by decide +kernel, by decide +kernel⟩
theorem c_many_of : chkSs sg n_many_of (fun _ => true) (defScope (tp 20)) b_many_of (defBody (tp 20)) = true := by decide +kernel
theorem s_many_of : FnScope n_many_of [("game" : PySem.Str), ("side" : PySem.Str)] (defScope (tp 20)) := ⟨rfl, rfl, rfl, by decide +kernel, rfl, by decide +kernel, by decide +kernel⟩
theorem c_is_a_mix : chkSs sg n_is_a_mix (fun _ => true) (defScope (tp 21)) b_is_a_mix (defBody (tp 21)) = true := by decide +kernel
theorem s_is_a_mix : FnScope n_is_a_mix [("game" : PySem.Str), ("side" : PySem.Str), ("value" : PySem.Str)] (defScope (tp 21)) := ⟨rfl, rfl, rfl, by decide +kernel, rfl, by decide +kernel, by decide +kernel⟩
theorem c_need_game : chkSs sg n_need_game (fun _ => true) (defScope (tp 22)) b_need_game (defBody (tp 22)) = true := by decide +kernel
theorem s_need_game : FnScope n_need_game [("game" : PySem.Str)] (defScope (tp 22)) := ⟨rfl, rfl, rfl, by decide +kernel, rfl, by decide +kernel, by decide +kernel⟩
theorem c_need_side : chkSs sg n_need_side (fun _ => true) (defScope (tp 23)) b_need_side (defBody (tp 23)) = true := by decide +kernel
theorem s_need_side : FnScope n_need_side [("side" : PySem.Str)] (defScope (tp 23)) := ⟨rfl, rfl, rfl, by decide +kernel, rfl, by decide +kernel, by decide +kernel⟩
theorem c_need_mix : chkSs sg n_need_mix (fun _ => true) (defScope (tp 24)) b_need_mix (defBody (tp 24)) = true := by decide +kernel
theorem s_need_mix : FnScope n_need_mix [("game" : PySem.Str), ("side" : PySem.Str), ("mix" : PySem.Str)] (defScope (tp 24)) := ⟨rfl, rfl, rfl, by decide +kernel, rfl, by decide +kernel, by decide +kernel⟩
theorem c_paid : chkSs sg n_paid (fun _ => true) (defScope (tp 26)) b_paid (defBody (tp 26)) = true := by decide +kernel
theorem s_paid : FnScope n_paid [("game" : PySem.Str), ("side" : PySem.Str)] (defScope (tp 26)) := ⟨rfl, rfl, rfl, by decide +kernel, rfl, by decide +kernel, by decide +kernel⟩
theorem c_scaled : chkSs sg n_scaled (fun _ => true) (defScope (tp 27)) b_scaled (defBody (tp 27)) = true := by decide +kernel
theorem s_scaled : FnScope n_scaled [("mix" : PySem.Str)] (defScope (tp 27)) := ⟨rfl, rfl, rfl, by decide +kernel, rfl, by decide +kernel, by decide +kernel⟩
theorem c_only_line : chkSs sg n_only_line (fun _ => true) (defScope (tp 28)) b_only_line (defBody (tp 28)) = true := by decide +kernel
theorem s_only_line : FnScope n_only_line [("rows" : PySem.Str), ("many" : PySem.Str)] (defScope (tp 28)) := ⟨rfl, rfl, rfl, by decide +kernel, rfl, by decide +kernel, by decide +kernel⟩
theorem c_differences : chkSs sg n_differences (fun _ => true) (defScope (tp 29)) b_differences (defBody (tp 29)) = true := by decide +kernel
theorem s_differences : FnScope n_differences [("table" : PySem.Str), ("lot" : PySem.Str), ("spots" : PySem.Str)] (defScope (tp 29)) := ⟨rfl, rfl, rfl, by decide +kernel, rfl, by decide +kernel, by decide +kernel⟩
theorem c_labels_by : chkSs sg n_labels_by (fun _ => true) (defScope (tp 30)) b_labels_by (defBody (tp 30)) = true := by decide +kernel
theorem s_labels_by : FnScope n_labels_by [("table" : PySem.Str), ("side" : PySem.Str), ("weights" : PySem.Str)] (defScope (tp 30)) := ⟨rfl, rfl, rfl, by decide +kernel, rfl, by decide +kernel, by decide +kernel⟩
theorem c_labels_of : chkSs sg n_labels_of (fun _ => true) (defScope (tp 31)) b_labels_of (defBody (tp 31)) = true := by decide +kernel
theorem s_labels_of : FnScope n_labels_of [("game" : PySem.Str), ("side" : PySem.Str), ("mix" : PySem.Str)] (defScope (tp 31)) := ⟨rfl, rfl, rfl, by decide +kernel, rfl, by decide +kernel, by decide +kernel⟩
theorem c_is_corner_of : chkSs sg n_is_corner_of (fun _ => true) (defScope (tp 32)) b_is_corner_of (defBody (tp 32)) = true := by decide +kernel
theorem s_is_corner_of : FnScope n_is_corner_of [("game" : PySem.Str), ("side" : PySem.Str), ("mix" : PySem.Str)] (defScope (tp 32)) := ⟨rfl, rfl, rfl, by decide +kernel, rfl, by decide +kernel, by decide +kernel⟩
theorem c_need_asked : chkSs sg n_need_asked (fun _ => true) (defScope (tp 34)) b_need_asked (defBody (tp 34)) = true := by decide +kernel
theorem s_need_asked : FnScope n_need_asked [("game" : PySem.Str), ("side" : PySem.Str), ("mixes" : PySem.Str)] (defScope (tp 34)) := ⟨rfl, rfl, rfl, by decide +kernel, rfl, by decide +kernel, by decide +kernel⟩
theorem c_labels : chkSs sg n_labels (fun _ => true) (defScope (tp 35)) b_labels (defBody (tp 35)) = true := by decide +kernel
theorem s_labels : FnScope n_labels [("game" : PySem.Str), ("side" : PySem.Str), ("mix" : PySem.Str)] (defScope (tp 35)) := ⟨rfl, rfl, rfl, by decide +kernel, rfl, by decide +kernel, by decide +kernel⟩
theorem c_is_corner : chkSs sg n_is_corner (fun _ => true) (defScope (tp 36)) b_is_corner (defBody (tp 36)) = true := by decide +kernel
theorem s_is_corner : FnScope n_is_corner [("game" : PySem.Str), ("side" : PySem.Str), ("mix" : PySem.Str)] (defScope (tp 36)) := ⟨rfl, rfl, rfl, by decide +kernel, rfl, by decide +kernel, by decide +kernel⟩
theorem c__law_well : chkSs sg n__law_well (fun _ => true) (defScope (tp 38)) b__law_well (defBody (tp 38)) = true := by decide +kernel
theorem s__law_well : FnScope n__law_well [("script" : PySem.Str), ("k" : PySem.Str)] (defScope (tp 38)) := ⟨rfl, rfl, rfl, by decide +kernel, rfl, by decide +kernel, by decide +kernel⟩
theorem c__law_take : chkSs sg n__law_take (fun _ => true) (defScope (tp 39)) b__law_take (defBody (tp 39)) = true := by decide +kernel
theorem s__law_take : FnScope n__law_take [("well" : PySem.Str), ("many" : PySem.Str)] (defScope (tp 39)) := ⟨rfl, rfl, rfl, by decide +kernel, rfl, by decide +kernel, by decide +kernel⟩
theorem c__law_frozen : chkSs sg n__law_frozen (fun _ => true) (defScope (tp 40)) b__law_frozen (defBody (tp 40)) = true := by decide +kernel
theorem s__law_frozen : FnScope n__law_frozen [("tables" : PySem.Str)] (defScope (tp 40)) := ⟨rfl, rfl, rfl, by decide +kernel, rfl, by decide +kernel, by decide +kernel⟩
theorem c__law_game : chkSs sg n__law_game (fun _ => true) (defScope (tp 41)) b__law_game (defBody (tp 41)) = true := by decide +kernel
theorem s__law_game : FnScope n__law_game [("well" : PySem.Str), ("rows" : PySem.Str), ("columns" : PySem.Str)] (defScope (tp 41)) := ⟨rfl, rfl, rfl, by decide +kernel, rfl, by decide +kernel, by decide +kernel⟩
theorem c__law_pays : chkSs sg n__law_pays (fun _ => true) (defScope (tp 42)) b__law_pays (defBody (tp 42)) = true := by decide +kernel
theorem s__law_pays : FnScope n__law_pays [("game" : PySem.Str), ("side" : PySem.Str)] (defScope (tp 42)) := ⟨rfl, rfl, rfl, by decide +kernel, rfl, by decide +kernel, by decide +kernel⟩
theorem c__law_gcd : chkSs sg n__law_gcd (fun _ => true) (defScope (tp 43)) b__law_gcd (defBody (tp 43)) = true := by decide +kernel
theorem s__law_gcd : FnScope n__law_gcd [("one" : PySem.Str), ("other" : PySem.Str)] (defScope (tp 43)) := ⟨rfl, rfl, rfl, by decide +kernel, rfl, by decide +kernel, by decide +kernel⟩
theorem c__law_ratio : chkSs sg n__law_ratio (fun _ => true) (defScope (tp 44)) b__law_ratio (defBody (tp 44)) = true := by decide +kernel
theorem s__law_ratio : FnScope n__law_ratio [("above" : PySem.Str), ("below" : PySem.Str)] (defScope (tp 44)) := ⟨rfl, rfl, rfl, by decide +kernel, rfl, by decide +kernel, by decide +kernel⟩
theorem c__law_cleared : chkSs sg n__law_cleared (fun _ => true) (defScope (tp 45)) b__law_cleared (defBody (tp 45)) = true := by decide +kernel
theorem s__law_cleared : FnScope n__law_cleared [("row" : PySem.Str), ("lead" : PySem.Str), ("column" : PySem.Str)] (defScope (tp 45)) := ⟨rfl, rfl, rfl, by decide +kernel, rfl, by decide +kernel, by decide +kernel⟩
theorem c__law_line : chkSs sg n__law_line (fun _ => true) (defScope (tp 46)) b__law_line (defBody (tp 46)) = true := by decide +kernel
theorem s__law_line : FnScope n__law_line [("rows" : PySem.Str), ("many" : PySem.Str)] (defScope (tp 46)) := ⟨rfl, rfl, rfl, by decide +kernel, rfl, by decide +kernel, by decide +kernel⟩
theorem c__law_lots : chkSs sg n__law_lots (fun _ => true) (defScope (tp 47)) b__law_lots (defBody (tp 47)) = true := by decide +kernel
theorem s__law_lots : FnScope n__law_lots [("many" : PySem.Str)] (defScope (tp 47)) := ⟨rfl, rfl, rfl, by decide +kernel, rfl, by decide +kernel, by decide +kernel⟩
theorem c__law_before : chkSs sg n__law_before (fun _ => true) (defScope (tp 48)) b__law_before (defBody (tp 48)) = true := by decide +kernel
theorem s__law_before : FnScope n__law_before [("one" : PySem.Str), ("other" : PySem.Str)] (defScope (tp 48)) := ⟨rfl, rfl, rfl, by decide +kernel, rfl, by decide +kernel, by decide +kernel⟩
theorem c__law_parted : chkSs sg n__law_parted (fun _ => true) (defScope (tp 49)) b__law_parted (defBody (tp 49)) = true := by decide +kernel
theorem s__law_parted : FnScope n__law_parted [("weights" : PySem.Str)] (defScope (tp 49)) := ⟨rfl, rfl, rfl, by decide +kernel, rfl, by decide +kernel, by decide +kernel⟩
theorem c__law_labels : chkSs sg n__law_labels (fun _ => true) (defScope (tp 50)) b__law_labels (defBody (tp 50)) = true := by decide +kernel
theorem s__law_labels : FnScope n__law_labels [("game" : PySem.Str), ("side" : PySem.Str), ("mix" : PySem.Str)] (defScope (tp 50)) := ⟨rfl, rfl, rfl, by decide +kernel, rfl, by decide +kernel, by decide +kernel⟩
theorem c__law_put : chkSs sg n__law_put (fun _ => true) (defScope (tp 51)) b__law_put (defBody (tp 51)) = true := by decide +kernel
theorem s__law_put : FnScope n__law_put [("found" : PySem.Str), ("mix" : PySem.Str)] (defScope (tp 51)) := ⟨rfl, rfl, rfl, by decide +kernel, rfl, by decide +kernel, by decide +kernel⟩
theorem c__law_spread : chkSs sg n__law_spread (fun _ => true) (defScope (tp 52)) b__law_spread (defBody (tp 52)) = true := by decide +kernel
theorem s__law_spread : FnScope n__law_spread [("line" : PySem.Str), ("lot" : PySem.Str), ("many" : PySem.Str)] (defScope (tp 52)) := ⟨rfl, rfl, rfl, by decide +kernel, rfl, by decide +kernel, by decide +kernel⟩
theorem c__law_corners : chkSs sg n__law_corners (fun _ => true) (defScope (tp 53)) b__law_corners (defBody (tp 53)) = true := by decide +kernel
theorem s__law_corners : FnScope n__law_corners [("game" : PySem.Str), ("side" : PySem.Str)] (defScope (tp 53)) := ⟨rfl, rfl, rfl, by decide +kernel, rfl, by decide +kernel, by decide +kernel⟩
theorem c__law_alone : chkSs sg n__law_alone (fun _ => true) (defScope (tp 54)) b__law_alone (defBody (tp 54)) = true := by decide +kernel
theorem s__law_alone : FnScope n__law_alone [("game" : PySem.Str), ("side" : PySem.Str), ("mix" : PySem.Str)] (defScope (tp 54)) := ⟨rfl, rfl, rfl, by decide +kernel, rfl, by decide +kernel, by decide +kernel⟩
theorem c__law_drawn : chkSs sg n__law_drawn (fun _ => true) (defScope (tp 55)) b__law_drawn (defBody (tp 55)) = true := by decide +kernel
theorem s__law_drawn : FnScope n__law_drawn [("well" : PySem.Str), ("many" : PySem.Str)] (defScope (tp 55)) := ⟨rfl, rfl, rfl, by decide +kernel, rfl, by decide +kernel, by decide +kernel⟩
theorem c__law_halves : chkSs sg n__law_halves (fun _ => true) (defScope (tp 56)) b__law_halves (defBody (tp 56)) = true := by decide +kernel
theorem s__law_halves : FnScope n__law_halves [("well" : PySem.Str), ("many" : PySem.Str)] (defScope (tp 56)) := ⟨rfl, rfl, rfl, by decide +kernel, rfl, by decide +kernel, by decide +kernel⟩
theorem c__law_mean : chkSs sg n__law_mean (fun _ => true) (defScope (tp 57)) b__law_mean (defBody (tp 57)) = true := by decide +kernel
theorem s__law_mean : FnScope n__law_mean [("mixes" : PySem.Str), ("weights" : PySem.Str)] (defScope (tp 57)) := ⟨rfl, rfl, rfl, by decide +kernel, rfl, by decide +kernel, by decide +kernel⟩
theorem c__law_same : chkSs sg n__law_same (fun _ => true) (defScope (tp 58)) b__law_same (defBody (tp 58)) = true := by decide +kernel
theorem s__law_same : FnScope n__law_same [("found" : PySem.Str), ("due" : PySem.Str)] (defScope (tp 58)) := ⟨rfl, rfl, rfl, by decide +kernel, rfl, by decide +kernel, by decide +kernel⟩
theorem c__law_told : chkSs sg n__law_told (fun _ => true) (defScope (tp 59)) b__law_told (defBody (tp 59)) = true := by decide +kernel
theorem s__law_told : FnScope n__law_told [("game" : PySem.Str), ("side" : PySem.Str), ("mix" : PySem.Str), ("named" : PySem.Str)] (defScope (tp 59)) := ⟨rfl, rfl, rfl, by decide +kernel, rfl, by decide +kernel, by decide +kernel⟩
theorem c__law_mixes : chkSs sg n__law_mixes (fun _ => true) (defScope (tp 60)) b__law_mixes (defBody (tp 60)) = true := by decide +kernel
theorem s__law_mixes : FnScope n__law_mixes [("well" : PySem.Str), ("game" : PySem.Str), ("side" : PySem.Str), ("many" : PySem.Str)] (defScope (tp 60)) := ⟨rfl, rfl, rfl, by decide +kernel, rfl, by decide +kernel, by decide +kernel⟩
theorem c_law : chkSs sg n_law (fun _ => true) (defScope (tp 61)) b_law (defBody (tp 61)) = true := by decide +kernel
theorem s_law : FnScope n_law [("script" : PySem.Str)] (defScope (tp 61)) := ⟨rfl, rfl, rfl, by decide +kernel, rfl, by decide +kernel, by decide +kernel⟩
def fn : List He.DefD := [⟨(("is_integer" : PySem.Str), none), ("is_integer" : PySem.Str), ("is_integer" : PySem.Str), defArgs (tp 9), defBody (tp 9), defScope (tp 9), [], []⟩,
  ⟨(("anew" : PySem.Str), none), ("anew" : PySem.Str), ("anew" : PySem.Str), defArgs (tp 10), defBody (tp 10), defScope (tp 10), [], []⟩,
  ⟨(("is_within" : PySem.Str), none), ("is_within" : PySem.Str), ("is_within" : PySem.Str), defArgs (tp 11), defBody (tp 11), defScope (tp 11), [], []⟩,
  ⟨(("is_fraction" : PySem.Str), none), ("is_fraction" : PySem.Str), ("is_fraction" : PySem.Str), defArgs (tp 12), defBody (tp 12), defScope (tp 12), [], []⟩,
  ⟨(("comes_to_one" : PySem.Str), none), ("comes_to_one" : PySem.Str), ("comes_to_one" : PySem.Str), defArgs (tp 13), defBody (tp 13), defScope (tp 13), [], []⟩,
  ⟨(("are_chances" : PySem.Str), none), ("are_chances" : PySem.Str), ("are_chances" : PySem.Str), defArgs (tp 14), defBody (tp 14), defScope (tp 14), [], []⟩,
  ⟨(("is_a_row" : PySem.Str), none), ("is_a_row" : PySem.Str), ("is_a_row" : PySem.Str), defArgs (tp 15), defBody (tp 15), defScope (tp 15), [], []⟩,
  ⟨(("is_a_table" : PySem.Str), none), ("is_a_table" : PySem.Str), ("is_a_table" : PySem.Str), defArgs (tp 16), defBody (tp 16), defScope (tp 16), [], []⟩,
  ⟨(("are_tables_like" : PySem.Str), none), ("are_tables_like" : PySem.Str), ("are_tables_like" : PySem.Str), defArgs (tp 17), defBody (tp 17), defScope (tp 17), [], []⟩,
  ⟨(("is_a_game" : PySem.Str), none), ("is_a_game" : PySem.Str), ("is_a_game" : PySem.Str), defArgs (tp 18), defBody (tp 18), defScope (tp 18), [], []⟩,
  ⟨(("is_a_side" : PySem.Str), none), ("is_a_side" : PySem.Str), ("is_a_side" : PySem.Str), defArgs (tp 19), defBody (tp 19), defScope (tp 19), [], []⟩,
  ⟨(("many_of" : PySem.Str), none), ("many_of" : PySem.Str), ("many_of" : PySem.Str), defArgs (tp 20), defBody (tp 20), defScope (tp 20), [], []⟩,
  ⟨(("is_a_mix" : PySem.Str), none), ("is_a_mix" : PySem.Str), ("is_a_mix" : PySem.Str), defArgs (tp 21), defBody (tp 21), defScope (tp 21), [], []⟩,
  ⟨(("need_game" : PySem.Str), none), ("need_game" : PySem.Str), ("need_game" : PySem.Str), defArgs (tp 22), defBody (tp 22), defScope (tp 22), [], []⟩,
  ⟨(("need_side" : PySem.Str), none), ("need_side" : PySem.Str), ("need_side" : PySem.Str), defArgs (tp 23), defBody (tp 23), defScope (tp 23), [], []⟩,
  ⟨(("need_mix" : PySem.Str), none), ("need_mix" : PySem.Str), ("need_mix" : PySem.Str), defArgs (tp 24), defBody (tp 24), defScope (tp 24), [], []⟩,
  ⟨(("paid" : PySem.Str), none), ("paid" : PySem.Str), ("paid" : PySem.Str), defArgs (tp 26), defBody (tp 26), defScope (tp 26), [], []⟩,
  ⟨(("scaled" : PySem.Str), none), ("scaled" : PySem.Str), ("scaled" : PySem.Str), defArgs (tp 27), defBody (tp 27), defScope (tp 27), [], []⟩,
  ⟨(("only_line" : PySem.Str), none), ("only_line" : PySem.Str), ("only_line" : PySem.Str), defArgs (tp 28), defBody (tp 28), defScope (tp 28), [], []⟩,
  ⟨(("differences" : PySem.Str), none), ("differences" : PySem.Str), ("differences" : PySem.Str), defArgs (tp 29), defBody (tp 29), defScope (tp 29), [], []⟩,
  ⟨(("labels_by" : PySem.Str), none), ("labels_by" : PySem.Str), ("labels_by" : PySem.Str), defArgs (tp 30), defBody (tp 30), defScope (tp 30), [], []⟩,
  ⟨(("labels_of" : PySem.Str), none), ("labels_of" : PySem.Str), ("labels_of" : PySem.Str), defArgs (tp 31), defBody (tp 31), defScope (tp 31), [], []⟩,
  ⟨(("is_corner_of" : PySem.Str), none), ("is_corner_of" : PySem.Str), ("is_corner_of" : PySem.Str), defArgs (tp 32), defBody (tp 32), defScope (tp 32), [], []⟩,
  ⟨(("need_asked" : PySem.Str), none), ("need_asked" : PySem.Str), ("need_asked" : PySem.Str), defArgs (tp 34), defBody (tp 34), defScope (tp 34), [], []⟩,
  ⟨(("labels" : PySem.Str), none), ("labels" : PySem.Str), ("labels" : PySem.Str), defArgs (tp 35), defBody (tp 35), defScope (tp 35), [], []⟩,
  ⟨(("is_corner" : PySem.Str), none), ("is_corner" : PySem.Str), ("is_corner" : PySem.Str), defArgs (tp 36), defBody (tp 36), defScope (tp 36), [], []⟩,
  ⟨(("_law_well" : PySem.Str), none), ("_law_well" : PySem.Str), ("_law_well" : PySem.Str), defArgs (tp 38), defBody (tp 38), defScope (tp 38), [], []⟩,
  ⟨(("_law_take" : PySem.Str), none), ("_law_take" : PySem.Str), ("_law_take" : PySem.Str), defArgs (tp 39), defBody (tp 39), defScope (tp 39), [], []⟩,
  ⟨(("_law_frozen" : PySem.Str), none), ("_law_frozen" : PySem.Str), ("_law_frozen" : PySem.Str), defArgs (tp 40), defBody (tp 40), defScope (tp 40), [], []⟩,
  ⟨(("_law_game" : PySem.Str), none), ("_law_game" : PySem.Str), ("_law_game" : PySem.Str), defArgs (tp 41), defBody (tp 41), defScope (tp 41), [], []⟩,
  ⟨(("_law_pays" : PySem.Str), none), ("_law_pays" : PySem.Str), ("_law_pays" : PySem.Str), defArgs (tp 42), defBody (tp 42), defScope (tp 42), [], []⟩,
  ⟨(("_law_gcd" : PySem.Str), none), ("_law_gcd" : PySem.Str), ("_law_gcd" : PySem.Str), defArgs (tp 43), defBody (tp 43), defScope (tp 43), [], []⟩,
  ⟨(("_law_ratio" : PySem.Str), none), ("_law_ratio" : PySem.Str), ("_law_ratio" : PySem.Str), defArgs (tp 44), defBody (tp 44), defScope (tp 44), [], []⟩,
  ⟨(("_law_cleared" : PySem.Str), none), ("_law_cleared" : PySem.Str), ("_law_cleared" : PySem.Str), defArgs (tp 45), defBody (tp 45), defScope (tp 45), [], []⟩,
  ⟨(("_law_line" : PySem.Str), none), ("_law_line" : PySem.Str), ("_law_line" : PySem.Str), defArgs (tp 46), defBody (tp 46), defScope (tp 46), [], []⟩,
  ⟨(("_law_lots" : PySem.Str), none), ("_law_lots" : PySem.Str), ("_law_lots" : PySem.Str), defArgs (tp 47), defBody (tp 47), defScope (tp 47), [], []⟩,
  ⟨(("_law_before" : PySem.Str), none), ("_law_before" : PySem.Str), ("_law_before" : PySem.Str), defArgs (tp 48), defBody (tp 48), defScope (tp 48), [], []⟩,
  ⟨(("_law_parted" : PySem.Str), none), ("_law_parted" : PySem.Str), ("_law_parted" : PySem.Str), defArgs (tp 49), defBody (tp 49), defScope (tp 49), [], []⟩,
  ⟨(("_law_labels" : PySem.Str), none), ("_law_labels" : PySem.Str), ("_law_labels" : PySem.Str), defArgs (tp 50), defBody (tp 50), defScope (tp 50), [], []⟩,
  ⟨(("_law_put" : PySem.Str), none), ("_law_put" : PySem.Str), ("_law_put" : PySem.Str), defArgs (tp 51), defBody (tp 51), defScope (tp 51), [], []⟩,
  ⟨(("_law_spread" : PySem.Str), none), ("_law_spread" : PySem.Str), ("_law_spread" : PySem.Str), defArgs (tp 52), defBody (tp 52), defScope (tp 52), [], []⟩,
  ⟨(("_law_corners" : PySem.Str), none), ("_law_corners" : PySem.Str), ("_law_corners" : PySem.Str), defArgs (tp 53), defBody (tp 53), defScope (tp 53), [], []⟩,
  ⟨(("_law_alone" : PySem.Str), none), ("_law_alone" : PySem.Str), ("_law_alone" : PySem.Str), defArgs (tp 54), defBody (tp 54), defScope (tp 54), [], []⟩,
  ⟨(("_law_drawn" : PySem.Str), none), ("_law_drawn" : PySem.Str), ("_law_drawn" : PySem.Str), defArgs (tp 55), defBody (tp 55), defScope (tp 55), [], []⟩,
  ⟨(("_law_halves" : PySem.Str), none), ("_law_halves" : PySem.Str), ("_law_halves" : PySem.Str), defArgs (tp 56), defBody (tp 56), defScope (tp 56), [], []⟩,
  ⟨(("_law_mean" : PySem.Str), none), ("_law_mean" : PySem.Str), ("_law_mean" : PySem.Str), defArgs (tp 57), defBody (tp 57), defScope (tp 57), [], []⟩,
  ⟨(("_law_same" : PySem.Str), none), ("_law_same" : PySem.Str), ("_law_same" : PySem.Str), defArgs (tp 58), defBody (tp 58), defScope (tp 58), [], []⟩,
  ⟨(("_law_told" : PySem.Str), none), ("_law_told" : PySem.Str), ("_law_told" : PySem.Str), defArgs (tp 59), defBody (tp 59), defScope (tp 59), [], []⟩,
  ⟨(("_law_mixes" : PySem.Str), none), ("_law_mixes" : PySem.Str), ("_law_mixes" : PySem.Str), defArgs (tp 60), defBody (tp 60), defScope (tp 60), [], []⟩,
  ⟨(("law" : PySem.Str), none), ("law" : PySem.Str), ("law" : PySem.Str), defArgs (tp 61), defBody (tp 61), defScope (tp 61), [], []⟩]
def fa : List He.Fa := [.glo ("is_integer" : PySem.Str), .glo ("anew" : PySem.Str), .glo ("is_within" : PySem.Str), .glo ("is_fraction" : PySem.Str), .glo ("comes_to_one" : PySem.Str), .glo ("are_chances" : PySem.Str), .glo ("is_a_row" : PySem.Str), .glo ("is_a_table" : PySem.Str), .glo ("are_tables_like" : PySem.Str), .glo ("is_a_game" : PySem.Str), .glo ("is_a_side" : PySem.Str), .glo ("many_of" : PySem.Str), .glo ("is_a_mix" : PySem.Str), .glo ("need_game" : PySem.Str), .glo ("need_side" : PySem.Str), .glo ("need_mix" : PySem.Str), .glo ("paid" : PySem.Str), .glo ("scaled" : PySem.Str), .glo ("only_line" : PySem.Str), .glo ("differences" : PySem.Str), .glo ("labels_by" : PySem.Str), .glo ("labels_of" : PySem.Str), .glo ("is_corner_of" : PySem.Str), .glo ("need_asked" : PySem.Str), .glo ("labels" : PySem.Str), .glo ("is_corner" : PySem.Str), .glo ("_law_well" : PySem.Str), .glo ("_law_take" : PySem.Str), .glo ("_law_frozen" : PySem.Str), .glo ("_law_game" : PySem.Str), .glo ("_law_pays" : PySem.Str), .glo ("_law_gcd" : PySem.Str), .glo ("_law_ratio" : PySem.Str), .glo ("_law_cleared" : PySem.Str), .glo ("_law_line" : PySem.Str), .glo ("_law_lots" : PySem.Str), .glo ("_law_before" : PySem.Str), .glo ("_law_parted" : PySem.Str), .glo ("_law_labels" : PySem.Str), .glo ("_law_put" : PySem.Str), .glo ("_law_spread" : PySem.Str), .glo ("_law_corners" : PySem.Str), .glo ("_law_alone" : PySem.Str), .glo ("_law_drawn" : PySem.Str), .glo ("_law_halves" : PySem.Str), .glo ("_law_mean" : PySem.Str), .glo ("_law_same" : PySem.Str), .glo ("_law_told" : PySem.Str), .glo ("_law_mixes" : PySem.Str), .glo ("law" : PySem.Str), .free ("abs" : PySem.Str), .free ("all" : PySem.Str), .free ("bool" : PySem.Str), .free ("enumerate" : PySem.Str), .free ("int" : PySem.Str), .free ("isinstance" : PySem.Str), .free ("len" : PySem.Str), .free ("list" : PySem.Str), .free ("max" : PySem.Str), .free ("min" : PySem.Str), .free ("range" : PySem.Str), .free ("sorted" : PySem.Str), .free ("sum" : PySem.Str), .free ("tuple" : PySem.Str), .free ("zip" : PySem.Str), .int ("MOST_CHOICES" : PySem.Str) 5, .int ("MOST_NUMBER" : PySem.Str) 1000]
def gs : List Gx := [.imp ("gcd" : PySem.Str) "math.gcd", .imp ("lcm" : PySem.Str) "math.lcm"]
section
variable {K : PySem.W.Frag} {h : Heap} {mg : Str → Option Value}
theorem t_is_integer (X : K.In h) (ns : h.Ns mainGlobals mg) (c : He.SaysD fa fn K) : DefOk sg K mg ("is_integer" : PySem.Str) d_is_integer :=
  defOk_of (i := 0) X ns c 0 rfl rfl s_is_integer rfl rfl (fun _ _ _ _ _ _ us hl => match us, hl with | [_], _ => rfl) (fun nms perm m => (kw_none (by decide +kernel) m).elim) c_is_integer
theorem t_anew (X : K.In h) (ns : h.Ns mainGlobals mg) (c : He.SaysD fa fn K) : DefOk sg K mg ("anew" : PySem.Str) d_anew :=
  defOk_of (i := 1) X ns c 1 rfl rfl s_anew rfl rfl (fun _ _ _ _ _ _ us hl => match us, hl with | [_], _ => rfl) (fun nms perm m => (kw_none (by decide +kernel) m).elim) c_anew
theorem t_is_within (X : K.In h) (ns : h.Ns mainGlobals mg) (c : He.SaysD fa fn K) : DefOk sg K mg ("is_within" : PySem.Str) d_is_within :=
  defOk_of (i := 2) X ns c 2 rfl rfl s_is_within rfl rfl (fun _ _ _ _ _ _ us hl => match us, hl with | [_, _, _], _ => rfl) (fun nms perm m => (kw_none (by decide +kernel) m).elim) c_is_within
theorem t_is_fraction (X : K.In h) (ns : h.Ns mainGlobals mg) (c : He.SaysD fa fn K) : DefOk sg K mg ("is_fraction" : PySem.Str) d_is_fraction :=
  defOk_of (i := 3) X ns c 3 rfl rfl s_is_fraction rfl rfl (fun _ _ _ _ _ _ us hl => match us, hl with | [_], _ => rfl) (fun nms perm m => (kw_none (by decide +kernel) m).elim) c_is_fraction
theorem t_comes_to_one (X : K.In h) (ns : h.Ns mainGlobals mg) (c : He.SaysD fa fn K) : DefOk sg K mg ("comes_to_one" : PySem.Str) d_comes_to_one :=
  defOk_of (i := 4) X ns c 4 rfl rfl s_comes_to_one rfl rfl (fun _ _ _ _ _ _ us hl => match us, hl with | [_], _ => rfl) (fun nms perm m => (kw_none (by decide +kernel) m).elim) c_comes_to_one
theorem t_are_chances (X : K.In h) (ns : h.Ns mainGlobals mg) (c : He.SaysD fa fn K) : DefOk sg K mg ("are_chances" : PySem.Str) d_are_chances :=
  defOk_of (i := 5) X ns c 5 rfl rfl s_are_chances rfl rfl (fun _ _ _ _ _ _ us hl => match us, hl with | [_, _], _ => rfl) (fun nms perm m => (kw_none (by decide +kernel) m).elim) c_are_chances
theorem t_is_a_row (X : K.In h) (ns : h.Ns mainGlobals mg) (c : He.SaysD fa fn K) : DefOk sg K mg ("is_a_row" : PySem.Str) d_is_a_row :=
  defOk_of (i := 6) X ns c 6 rfl rfl s_is_a_row rfl rfl (fun _ _ _ _ _ _ us hl => match us, hl with | [_, _], _ => rfl) (fun nms perm m => (kw_none (by decide +kernel) m).elim) c_is_a_row
theorem t_is_a_table (X : K.In h) (ns : h.Ns mainGlobals mg) (c : He.SaysD fa fn K) : DefOk sg K mg ("is_a_table" : PySem.Str) d_is_a_table :=
  defOk_of (i := 7) X ns c 7 rfl rfl s_is_a_table rfl rfl (fun _ _ _ _ _ _ us hl => match us, hl with | [_], _ => rfl) (fun nms perm m => (kw_none (by decide +kernel) m).elim) c_is_a_table
theorem t_are_tables_like (X : K.In h) (ns : h.Ns mainGlobals mg) (c : He.SaysD fa fn K) : DefOk sg K mg ("are_tables_like" : PySem.Str) d_are_tables_like :=
  defOk_of (i := 8) X ns c 8 rfl rfl s_are_tables_like rfl rfl (fun _ _ _ _ _ _ us hl => match us, hl with | [_, _, _], _ => rfl) (fun nms perm m => (kw_none (by decide +kernel) m).elim) c_are_tables_like
theorem t_is_a_game (X : K.In h) (ns : h.Ns mainGlobals mg) (c : He.SaysD fa fn K) : DefOk sg K mg ("is_a_game" : PySem.Str) d_is_a_game :=
  defOk_of (i := 9) X ns c 9 rfl rfl s_is_a_game rfl rfl (fun _ _ _ _ _ _ us hl => match us, hl with | [_], _ => rfl) (fun nms perm m => (kw_none (by decide +kernel) m).elim) c_is_a_game
theorem t_is_a_side (X : K.In h) (ns : h.Ns mainGlobals mg) (c : He.SaysD fa fn K) : DefOk sg K mg ("is_a_side" : PySem.Str) d_is_a_side :=
  defOk_of (i := 10) X ns c 10 rfl rfl s_is_a_side rfl rfl (fun _ _ _ _ _ _ us hl => match us, hl with | [_], _ => rfl) (fun nms perm m => (kw_none (by decide +kernel) m).elim) c_is_a_side
theorem t_many_of (X : K.In h) (ns : h.Ns mainGlobals mg) (c : He.SaysD fa fn K) : DefOk sg K mg ("many_of" : PySem.Str) d_many_of :=
  defOk_of (i := 11) X ns c 11 rfl rfl s_many_of rfl rfl (fun _ _ _ _ _ _ us hl => match us, hl with | [_, _], _ => rfl) (fun nms perm m => (kw_none (by decide +kernel) m).elim) c_many_of
theorem t_is_a_mix (X : K.In h) (ns : h.Ns mainGlobals mg) (c : He.SaysD fa fn K) : DefOk sg K mg ("is_a_mix" : PySem.Str) d_is_a_mix :=
  defOk_of (i := 12) X ns c 12 rfl rfl s_is_a_mix rfl rfl (fun _ _ _ _ _ _ us hl => match us, hl with | [_, _, _], _ => rfl) (fun nms perm m => (kw_none (by decide +kernel) m).elim) c_is_a_mix
theorem t_need_game (X : K.In h) (ns : h.Ns mainGlobals mg) (c : He.SaysD fa fn K) : DefOk sg K mg ("need_game" : PySem.Str) d_need_game :=
  defOk_of (i := 13) X ns c 13 rfl rfl s_need_game rfl rfl (fun _ _ _ _ _ _ us hl => match us, hl with | [_], _ => rfl) (fun nms perm m => (kw_none (by decide +kernel) m).elim) c_need_game
theorem t_need_side (X : K.In h) (ns : h.Ns mainGlobals mg) (c : He.SaysD fa fn K) : DefOk sg K mg ("need_side" : PySem.Str) d_need_side :=
  defOk_of (i := 14) X ns c 14 rfl rfl s_need_side rfl rfl (fun _ _ _ _ _ _ us hl => match us, hl with | [_], _ => rfl) (fun nms perm m => (kw_none (by decide +kernel) m).elim) c_need_side
theorem t_need_mix (X : K.In h) (ns : h.Ns mainGlobals mg) (c : He.SaysD fa fn K) : DefOk sg K mg ("need_mix" : PySem.Str) d_need_mix :=
  defOk_of (i := 15) X ns c 15 rfl rfl s_need_mix rfl rfl (fun _ _ _ _ _ _ us hl => match us, hl with | [_, _, _], _ => rfl) (fun nms perm m => (kw_none (by decide +kernel) m).elim) c_need_mix
theorem t_paid (X : K.In h) (ns : h.Ns mainGlobals mg) (c : He.SaysD fa fn K) : DefOk sg K mg ("paid" : PySem.Str) d_paid :=
  defOk_of (i := 16) X ns c 16 rfl rfl s_paid rfl rfl (fun _ _ _ _ _ _ us hl => match us, hl with | [_, _], _ => rfl) (fun nms perm m => (kw_none (by decide +kernel) m).elim) c_paid
theorem t_scaled (X : K.In h) (ns : h.Ns mainGlobals mg) (c : He.SaysD fa fn K) : DefOk sg K mg ("scaled" : PySem.Str) d_scaled :=
  defOk_of (i := 17) X ns c 17 rfl rfl s_scaled rfl rfl (fun _ _ _ _ _ _ us hl => match us, hl with | [_], _ => rfl) (fun nms perm m => (kw_none (by decide +kernel) m).elim) c_scaled
theorem t_only_line (X : K.In h) (ns : h.Ns mainGlobals mg) (c : He.SaysD fa fn K) : DefOk sg K mg ("only_line" : PySem.Str) d_only_line :=
  defOk_of (i := 18) X ns c 18 rfl rfl s_only_line rfl rfl (fun _ _ _ _ _ _ us hl => match us, hl with | [_, _], _ => rfl) (fun nms perm m => (kw_none (by decide +kernel) m).elim) c_only_line
theorem t_differences (X : K.In h) (ns : h.Ns mainGlobals mg) (c : He.SaysD fa fn K) : DefOk sg K mg ("differences" : PySem.Str) d_differences :=
  defOk_of (i := 19) X ns c 19 rfl rfl s_differences rfl rfl (fun _ _ _ _ _ _ us hl => match us, hl with | [_, _, _], _ => rfl) (fun nms perm m => (kw_none (by decide +kernel) m).elim) c_differences
theorem t_labels_by (X : K.In h) (ns : h.Ns mainGlobals mg) (c : He.SaysD fa fn K) : DefOk sg K mg ("labels_by" : PySem.Str) d_labels_by :=
  defOk_of (i := 20) X ns c 20 rfl rfl s_labels_by rfl rfl (fun _ _ _ _ _ _ us hl => match us, hl with | [_, _, _], _ => rfl) (fun nms perm m => (kw_none (by decide +kernel) m).elim) c_labels_by
theorem t_labels_of (X : K.In h) (ns : h.Ns mainGlobals mg) (c : He.SaysD fa fn K) : DefOk sg K mg ("labels_of" : PySem.Str) d_labels_of :=
  defOk_of (i := 21) X ns c 21 rfl rfl s_labels_of rfl rfl (fun _ _ _ _ _ _ us hl => match us, hl with | [_, _, _], _ => rfl) (fun nms perm m => (kw_none (by decide +kernel) m).elim) c_labels_of
theorem t_is_corner_of (X : K.In h) (ns : h.Ns mainGlobals mg) (c : He.SaysD fa fn K) : DefOk sg K mg ("is_corner_of" : PySem.Str) d_is_corner_of :=
  defOk_of (i := 22) X ns c 22 rfl rfl s_is_corner_of rfl rfl (fun _ _ _ _ _ _ us hl => match us, hl with | [_, _, _], _ => rfl) (fun nms perm m => (kw_none (by decide +kernel) m).elim) c_is_corner_of
theorem t_need_asked (X : K.In h) (ns : h.Ns mainGlobals mg) (c : He.SaysD fa fn K) : DefOk sg K mg ("need_asked" : PySem.Str) d_need_asked :=
  defOk_of (i := 23) X ns c 23 rfl rfl s_need_asked rfl rfl (fun _ _ _ _ _ _ us hl => match us, hl with | [_, _, _], _ => rfl) (fun nms perm m => (kw_none (by decide +kernel) m).elim) c_need_asked
theorem t_labels (X : K.In h) (ns : h.Ns mainGlobals mg) (c : He.SaysD fa fn K) : DefOk sg K mg ("labels" : PySem.Str) d_labels :=
  defOk_of (i := 24) X ns c 24 rfl rfl s_labels rfl rfl (fun _ _ _ _ _ _ us hl => match us, hl with | [_, _, _], _ => rfl) (fun nms perm m kV doc pm an cdv ct us zs hl hp => by
    have e := kw_some (a := ([("mix" : PySem.Str), ("game" : PySem.Str), ("side" : PySem.Str)], [1, 2, 0])) (by decide +kernel) m
    cases e
    exact match us, hl, hp with | [_, _, _], _, hp => by cases hp; rfl) c_labels
theorem t_is_corner (X : K.In h) (ns : h.Ns mainGlobals mg) (c : He.SaysD fa fn K) : DefOk sg K mg ("is_corner" : PySem.Str) d_is_corner :=
  defOk_of (i := 25) X ns c 25 rfl rfl s_is_corner rfl rfl (fun _ _ _ _ _ _ us hl => match us, hl with | [_, _, _], _ => rfl) (fun nms perm m kV doc pm an cdv ct us zs hl hp => by
    have e := kw_some (a := ([("side" : PySem.Str), ("mix" : PySem.Str), ("game" : PySem.Str)], [2, 0, 1])) (by decide +kernel) m
    cases e
    exact match us, hl, hp with | [_, _, _], _, hp => by cases hp; rfl) c_is_corner
theorem t__law_well (X : K.In h) (ns : h.Ns mainGlobals mg) (c : He.SaysD fa fn K) : DefOk sg K mg ("_law_well" : PySem.Str) d__law_well :=
  defOk_of (i := 26) X ns c 26 rfl rfl s__law_well rfl rfl (fun _ _ _ _ _ _ us hl => match us, hl with | [_, _], _ => rfl) (fun nms perm m => (kw_none (by decide +kernel) m).elim) c__law_well
theorem t__law_take (X : K.In h) (ns : h.Ns mainGlobals mg) (c : He.SaysD fa fn K) : DefOk sg K mg ("_law_take" : PySem.Str) d__law_take :=
  defOk_of (i := 27) X ns c 27 rfl rfl s__law_take rfl rfl (fun _ _ _ _ _ _ us hl => match us, hl with | [_, _], _ => rfl) (fun nms perm m => (kw_none (by decide +kernel) m).elim) c__law_take
theorem t__law_frozen (X : K.In h) (ns : h.Ns mainGlobals mg) (c : He.SaysD fa fn K) : DefOk sg K mg ("_law_frozen" : PySem.Str) d__law_frozen :=
  defOk_of (i := 28) X ns c 28 rfl rfl s__law_frozen rfl rfl (fun _ _ _ _ _ _ us hl => match us, hl with | [_], _ => rfl) (fun nms perm m => (kw_none (by decide +kernel) m).elim) c__law_frozen
theorem t__law_game (X : K.In h) (ns : h.Ns mainGlobals mg) (c : He.SaysD fa fn K) : DefOk sg K mg ("_law_game" : PySem.Str) d__law_game :=
  defOk_of (i := 29) X ns c 29 rfl rfl s__law_game rfl rfl (fun _ _ _ _ _ _ us hl => match us, hl with | [_, _, _], _ => rfl) (fun nms perm m => (kw_none (by decide +kernel) m).elim) c__law_game
theorem t__law_pays (X : K.In h) (ns : h.Ns mainGlobals mg) (c : He.SaysD fa fn K) : DefOk sg K mg ("_law_pays" : PySem.Str) d__law_pays :=
  defOk_of (i := 30) X ns c 30 rfl rfl s__law_pays rfl rfl (fun _ _ _ _ _ _ us hl => match us, hl with | [_, _], _ => rfl) (fun nms perm m => (kw_none (by decide +kernel) m).elim) c__law_pays
theorem t__law_gcd (X : K.In h) (ns : h.Ns mainGlobals mg) (c : He.SaysD fa fn K) : DefOk sg K mg ("_law_gcd" : PySem.Str) d__law_gcd :=
  defOk_of (i := 31) X ns c 31 rfl rfl s__law_gcd rfl rfl (fun _ _ _ _ _ _ us hl => match us, hl with | [_, _], _ => rfl) (fun nms perm m => (kw_none (by decide +kernel) m).elim) c__law_gcd
theorem t__law_ratio (X : K.In h) (ns : h.Ns mainGlobals mg) (c : He.SaysD fa fn K) : DefOk sg K mg ("_law_ratio" : PySem.Str) d__law_ratio :=
  defOk_of (i := 32) X ns c 32 rfl rfl s__law_ratio rfl rfl (fun _ _ _ _ _ _ us hl => match us, hl with | [_, _], _ => rfl) (fun nms perm m => (kw_none (by decide +kernel) m).elim) c__law_ratio
theorem t__law_cleared (X : K.In h) (ns : h.Ns mainGlobals mg) (c : He.SaysD fa fn K) : DefOk sg K mg ("_law_cleared" : PySem.Str) d__law_cleared :=
  defOk_of (i := 33) X ns c 33 rfl rfl s__law_cleared rfl rfl (fun _ _ _ _ _ _ us hl => match us, hl with | [_, _, _], _ => rfl) (fun nms perm m => (kw_none (by decide +kernel) m).elim) c__law_cleared
theorem t__law_line (X : K.In h) (ns : h.Ns mainGlobals mg) (c : He.SaysD fa fn K) : DefOk sg K mg ("_law_line" : PySem.Str) d__law_line :=
  defOk_of (i := 34) X ns c 34 rfl rfl s__law_line rfl rfl (fun _ _ _ _ _ _ us hl => match us, hl with | [_, _], _ => rfl) (fun nms perm m => (kw_none (by decide +kernel) m).elim) c__law_line
theorem t__law_lots (X : K.In h) (ns : h.Ns mainGlobals mg) (c : He.SaysD fa fn K) : DefOk sg K mg ("_law_lots" : PySem.Str) d__law_lots :=
  defOk_of (i := 35) X ns c 35 rfl rfl s__law_lots rfl rfl (fun _ _ _ _ _ _ us hl => match us, hl with | [_], _ => rfl) (fun nms perm m => (kw_none (by decide +kernel) m).elim) c__law_lots
theorem t__law_before (X : K.In h) (ns : h.Ns mainGlobals mg) (c : He.SaysD fa fn K) : DefOk sg K mg ("_law_before" : PySem.Str) d__law_before :=
  defOk_of (i := 36) X ns c 36 rfl rfl s__law_before rfl rfl (fun _ _ _ _ _ _ us hl => match us, hl with | [_, _], _ => rfl) (fun nms perm m => (kw_none (by decide +kernel) m).elim) c__law_before
theorem t__law_parted (X : K.In h) (ns : h.Ns mainGlobals mg) (c : He.SaysD fa fn K) : DefOk sg K mg ("_law_parted" : PySem.Str) d__law_parted :=
  defOk_of (i := 37) X ns c 37 rfl rfl s__law_parted rfl rfl (fun _ _ _ _ _ _ us hl => match us, hl with | [_], _ => rfl) (fun nms perm m => (kw_none (by decide +kernel) m).elim) c__law_parted
theorem t__law_labels (X : K.In h) (ns : h.Ns mainGlobals mg) (c : He.SaysD fa fn K) : DefOk sg K mg ("_law_labels" : PySem.Str) d__law_labels :=
  defOk_of (i := 38) X ns c 38 rfl rfl s__law_labels rfl rfl (fun _ _ _ _ _ _ us hl => match us, hl with | [_, _, _], _ => rfl) (fun nms perm m => (kw_none (by decide +kernel) m).elim) c__law_labels
theorem t__law_put (X : K.In h) (ns : h.Ns mainGlobals mg) (c : He.SaysD fa fn K) : DefOk sg K mg ("_law_put" : PySem.Str) d__law_put :=
  defOk_of (i := 39) X ns c 39 rfl rfl s__law_put rfl rfl (fun _ _ _ _ _ _ us hl => match us, hl with | [_, _], _ => rfl) (fun nms perm m => (kw_none (by decide +kernel) m).elim) c__law_put
theorem t__law_spread (X : K.In h) (ns : h.Ns mainGlobals mg) (c : He.SaysD fa fn K) : DefOk sg K mg ("_law_spread" : PySem.Str) d__law_spread :=
  defOk_of (i := 40) X ns c 40 rfl rfl s__law_spread rfl rfl (fun _ _ _ _ _ _ us hl => match us, hl with | [_, _, _], _ => rfl) (fun nms perm m => (kw_none (by decide +kernel) m).elim) c__law_spread
theorem t__law_corners (X : K.In h) (ns : h.Ns mainGlobals mg) (c : He.SaysD fa fn K) : DefOk sg K mg ("_law_corners" : PySem.Str) d__law_corners :=
  defOk_of (i := 41) X ns c 41 rfl rfl s__law_corners rfl rfl (fun _ _ _ _ _ _ us hl => match us, hl with | [_, _], _ => rfl) (fun nms perm m => (kw_none (by decide +kernel) m).elim) c__law_corners
theorem t__law_alone (X : K.In h) (ns : h.Ns mainGlobals mg) (c : He.SaysD fa fn K) : DefOk sg K mg ("_law_alone" : PySem.Str) d__law_alone :=
  defOk_of (i := 42) X ns c 42 rfl rfl s__law_alone rfl rfl (fun _ _ _ _ _ _ us hl => match us, hl with | [_, _, _], _ => rfl) (fun nms perm m => (kw_none (by decide +kernel) m).elim) c__law_alone
theorem t__law_drawn (X : K.In h) (ns : h.Ns mainGlobals mg) (c : He.SaysD fa fn K) : DefOk sg K mg ("_law_drawn" : PySem.Str) d__law_drawn :=
  defOk_of (i := 43) X ns c 43 rfl rfl s__law_drawn rfl rfl (fun _ _ _ _ _ _ us hl => match us, hl with | [_, _], _ => rfl) (fun nms perm m => (kw_none (by decide +kernel) m).elim) c__law_drawn
theorem t__law_halves (X : K.In h) (ns : h.Ns mainGlobals mg) (c : He.SaysD fa fn K) : DefOk sg K mg ("_law_halves" : PySem.Str) d__law_halves :=
  defOk_of (i := 44) X ns c 44 rfl rfl s__law_halves rfl rfl (fun _ _ _ _ _ _ us hl => match us, hl with | [_, _], _ => rfl) (fun nms perm m => (kw_none (by decide +kernel) m).elim) c__law_halves
theorem t__law_mean (X : K.In h) (ns : h.Ns mainGlobals mg) (c : He.SaysD fa fn K) : DefOk sg K mg ("_law_mean" : PySem.Str) d__law_mean :=
  defOk_of (i := 45) X ns c 45 rfl rfl s__law_mean rfl rfl (fun _ _ _ _ _ _ us hl => match us, hl with | [_, _], _ => rfl) (fun nms perm m => (kw_none (by decide +kernel) m).elim) c__law_mean
theorem t__law_same (X : K.In h) (ns : h.Ns mainGlobals mg) (c : He.SaysD fa fn K) : DefOk sg K mg ("_law_same" : PySem.Str) d__law_same :=
  defOk_of (i := 46) X ns c 46 rfl rfl s__law_same rfl rfl (fun _ _ _ _ _ _ us hl => match us, hl with | [_, _], _ => rfl) (fun nms perm m => (kw_none (by decide +kernel) m).elim) c__law_same
theorem t__law_told (X : K.In h) (ns : h.Ns mainGlobals mg) (c : He.SaysD fa fn K) : DefOk sg K mg ("_law_told" : PySem.Str) d__law_told :=
  defOk_of (i := 47) X ns c 47 rfl rfl s__law_told rfl rfl (fun _ _ _ _ _ _ us hl => match us, hl with | [_, _, _, _], _ => rfl) (fun nms perm m => (kw_none (by decide +kernel) m).elim) c__law_told
theorem t__law_mixes (X : K.In h) (ns : h.Ns mainGlobals mg) (c : He.SaysD fa fn K) : DefOk sg K mg ("_law_mixes" : PySem.Str) d__law_mixes :=
  defOk_of (i := 48) X ns c 48 rfl rfl s__law_mixes rfl rfl (fun _ _ _ _ _ _ us hl => match us, hl with | [_, _, _, _], _ => rfl) (fun nms perm m => (kw_none (by decide +kernel) m).elim) c__law_mixes
theorem t_law (X : K.In h) (ns : h.Ns mainGlobals mg) (c : He.SaysD fa fn K) : DefOk sg K mg ("law" : PySem.Str) d_law :=
  defOk_of (i := 49) X ns c 49 rfl rfl s_law rfl rfl (fun _ _ _ _ _ _ us hl => match us, hl with | [_], _ => rfl) (fun nms perm m => (kw_none (by decide +kernel) m).elim) c_law
theorem tabOk (X : K.In h) (ns : h.Ns mainGlobals mg) (c : He.SaysD fa fn K) (g : gs.all (Gx.ok K) = true) : TabOk sg K mg tab where
  fn := fun f x e => match f, e with
    | 0, e => (Option.some.inj e) ▸ ⟨_, rfl, t_is_integer X ns c⟩
    | 1, e => (Option.some.inj e) ▸ ⟨_, rfl, t_anew X ns c⟩
    | 2, e => (Option.some.inj e) ▸ ⟨_, rfl, t_is_within X ns c⟩
    | 3, e => (Option.some.inj e) ▸ ⟨_, rfl, t_is_fraction X ns c⟩
    | 4, e => (Option.some.inj e) ▸ ⟨_, rfl, t_comes_to_one X ns c⟩
    | 5, e => (Option.some.inj e) ▸ ⟨_, rfl, t_are_chances X ns c⟩
    | 6, e => (Option.some.inj e) ▸ ⟨_, rfl, t_is_a_row X ns c⟩
    | 7, e => (Option.some.inj e) ▸ ⟨_, rfl, t_is_a_table X ns c⟩
    | 8, e => (Option.some.inj e) ▸ ⟨_, rfl, t_are_tables_like X ns c⟩
    | 9, e => (Option.some.inj e) ▸ ⟨_, rfl, t_is_a_game X ns c⟩
    | 10, e => (Option.some.inj e) ▸ ⟨_, rfl, t_is_a_side X ns c⟩
    | 11, e => (Option.some.inj e) ▸ ⟨_, rfl, t_many_of X ns c⟩
    | 12, e => (Option.some.inj e) ▸ ⟨_, rfl, t_is_a_mix X ns c⟩
    | 13, e => (Option.some.inj e) ▸ ⟨_, rfl, t_need_game X ns c⟩
    | 14, e => (Option.some.inj e) ▸ ⟨_, rfl, t_need_side X ns c⟩
    | 15, e => (Option.some.inj e) ▸ ⟨_, rfl, t_need_mix X ns c⟩
    | 16, e => (Option.some.inj e) ▸ ⟨_, rfl, t_paid X ns c⟩
    | 17, e => (Option.some.inj e) ▸ ⟨_, rfl, t_scaled X ns c⟩
    | 18, e => (Option.some.inj e) ▸ ⟨_, rfl, t_only_line X ns c⟩
    | 19, e => (Option.some.inj e) ▸ ⟨_, rfl, t_differences X ns c⟩
    | 20, e => (Option.some.inj e) ▸ ⟨_, rfl, t_labels_by X ns c⟩
    | 21, e => (Option.some.inj e) ▸ ⟨_, rfl, t_labels_of X ns c⟩
    | 22, e => (Option.some.inj e) ▸ ⟨_, rfl, t_is_corner_of X ns c⟩
    | 23, e => (Option.some.inj e) ▸ ⟨_, rfl, t_need_asked X ns c⟩
    | 24, e => (Option.some.inj e) ▸ ⟨_, rfl, t_labels X ns c⟩
    | 25, e => (Option.some.inj e) ▸ ⟨_, rfl, t_is_corner X ns c⟩
    | 26, e => (Option.some.inj e) ▸ ⟨_, rfl, t__law_well X ns c⟩
    | 27, e => (Option.some.inj e) ▸ ⟨_, rfl, t__law_take X ns c⟩
    | 28, e => (Option.some.inj e) ▸ ⟨_, rfl, t__law_frozen X ns c⟩
    | 29, e => (Option.some.inj e) ▸ ⟨_, rfl, t__law_game X ns c⟩
    | 30, e => (Option.some.inj e) ▸ ⟨_, rfl, t__law_pays X ns c⟩
    | 31, e => (Option.some.inj e) ▸ ⟨_, rfl, t__law_gcd X ns c⟩
    | 32, e => (Option.some.inj e) ▸ ⟨_, rfl, t__law_ratio X ns c⟩
    | 33, e => (Option.some.inj e) ▸ ⟨_, rfl, t__law_cleared X ns c⟩
    | 34, e => (Option.some.inj e) ▸ ⟨_, rfl, t__law_line X ns c⟩
    | 35, e => (Option.some.inj e) ▸ ⟨_, rfl, t__law_lots X ns c⟩
    | 36, e => (Option.some.inj e) ▸ ⟨_, rfl, t__law_before X ns c⟩
    | 37, e => (Option.some.inj e) ▸ ⟨_, rfl, t__law_parted X ns c⟩
    | 38, e => (Option.some.inj e) ▸ ⟨_, rfl, t__law_labels X ns c⟩
    | 39, e => (Option.some.inj e) ▸ ⟨_, rfl, t__law_put X ns c⟩
    | 40, e => (Option.some.inj e) ▸ ⟨_, rfl, t__law_spread X ns c⟩
    | 41, e => (Option.some.inj e) ▸ ⟨_, rfl, t__law_corners X ns c⟩
    | 42, e => (Option.some.inj e) ▸ ⟨_, rfl, t__law_alone X ns c⟩
    | 43, e => (Option.some.inj e) ▸ ⟨_, rfl, t__law_drawn X ns c⟩
    | 44, e => (Option.some.inj e) ▸ ⟨_, rfl, t__law_halves X ns c⟩
    | 45, e => (Option.some.inj e) ▸ ⟨_, rfl, t__law_mean X ns c⟩
    | 46, e => (Option.some.inj e) ▸ ⟨_, rfl, t__law_same X ns c⟩
    | 47, e => (Option.some.inj e) ▸ ⟨_, rfl, t__law_told X ns c⟩
    | 48, e => (Option.some.inj e) ▸ ⟨_, rfl, t__law_mixes X ns c⟩
    | 49, e => (Option.some.inj e) ▸ ⟨_, rfl, t_law X ns c⟩
    | _ + 50, e => nomatch e
  cn := fun x d m => by
    have m : (x, d) ∈ ([(("MOST_CHOICES" : PySem.Str), (.int 5)), (("MOST_NUMBER" : PySem.Str), (.int 1000))] : List (Str × PyData)) := m
    simp only [List.mem_cons, Prod.mk.injEq, List.not_mem_nil, or_false] at m
    rcases m with ⟨rfl, rfl⟩ | ⟨rfl, rfl⟩
    · exact cn_int X ns c 65 rfl
    · exact cn_int X ns c 66 rfl
  bi := fun x m => by
    have m : x ∈ ([("abs" : PySem.Str), ("all" : PySem.Str), ("bool" : PySem.Str), ("enumerate" : PySem.Str), ("int" : PySem.Str), ("isinstance" : PySem.Str), ("len" : PySem.Str), ("list" : PySem.Str), ("max" : PySem.Str), ("min" : PySem.Str), ("range" : PySem.Str), ("sorted" : PySem.Str), ("sum" : PySem.Str), ("tuple" : PySem.Str), ("zip" : PySem.Str)] : List Str) := m
    simp only [List.mem_cons, List.not_mem_nil, or_false] at m
    rcases m with rfl | rfl | rfl | rfl | rfl | rfl | rfl | rfl | rfl | rfl | rfl | rfl | rfl | rfl | rfl
    · exact He.free_ok X ns (c.fact 50 rfl)
    · exact He.free_ok X ns (c.fact 51 rfl)
    · exact He.free_ok X ns (c.fact 52 rfl)
    · exact He.free_ok X ns (c.fact 53 rfl)
    · exact He.free_ok X ns (c.fact 54 rfl)
    · exact He.free_ok X ns (c.fact 55 rfl)
    · exact He.free_ok X ns (c.fact 56 rfl)
    · exact He.free_ok X ns (c.fact 57 rfl)
    · exact He.free_ok X ns (c.fact 58 rfl)
    · exact He.free_ok X ns (c.fact 59 rfl)
    · exact He.free_ok X ns (c.fact 60 rfl)
    · exact He.free_ok X ns (c.fact 61 rfl)
    · exact He.free_ok X ns (c.fact 62 rfl)
    · exact He.free_ok X ns (c.fact 63 rfl)
    · exact He.free_ok X ns (c.fact 64 rfl)
  gc := ⟨fun _ => imp_ok X ns g (x := ("gcd" : PySem.Str)) (b := "math.gcd") (by simp [gs]), fun _ => imp_ok X ns g (x := ("lcm" : PySem.Str)) (b := "math.lcm") (by simp [gs])⟩
end
/-! ### the head -/
abbrev rw0 : PySem.W.OpenRow := PySem.W.OpenLaw.row PySem.Challenge.rw_steadymixes_k06_labels_and_corners_judge
abbrev vw : List Nat := [0, 61]
abbrev hk : PySem.W.Hook := hookG 4 fa fn gs
def ob (s : PySem.W.SharedT) : AlG := obsGG 4 fa fn gs (HandSHeadRun.getT s)
theorem ob_eq (s : PySem.W.SharedT) : ob s = hk.obs s.abs := obsGG_eq (HandSHeadRun.getT_eq s)
def loose : List Str := ([("MixError" : PySem.Str), ("InvalidGame" : PySem.Str), ("InvalidMix" : PySem.Str), ("InvalidSide" : PySem.Str), ("MOST_CHOICES" : PySem.Str), ("MOST_NUMBER" : PySem.Str), ("is_integer" : PySem.Str), ("anew" : PySem.Str), ("is_within" : PySem.Str), ("is_fraction" : PySem.Str), ("comes_to_one" : PySem.Str), ("are_chances" : PySem.Str), ("is_a_row" : PySem.Str), ("is_a_table" : PySem.Str), ("are_tables_like" : PySem.Str), ("is_a_game" : PySem.Str), ("is_a_side" : PySem.Str), ("many_of" : PySem.Str), ("is_a_mix" : PySem.Str), ("need_game" : PySem.Str), ("need_side" : PySem.Str), ("need_mix" : PySem.Str), ("paid" : PySem.Str), ("scaled" : PySem.Str), ("only_line" : PySem.Str), ("differences" : PySem.Str), ("labels_by" : PySem.Str), ("labels_of" : PySem.Str), ("is_corner_of" : PySem.Str), ("need_asked" : PySem.Str)] : List Str) ++ ([("labels" : PySem.Str), ("is_corner" : PySem.Str), ("_law_well" : PySem.Str), ("_law_take" : PySem.Str), ("_law_frozen" : PySem.Str), ("_law_game" : PySem.Str), ("_law_pays" : PySem.Str), ("_law_gcd" : PySem.Str), ("_law_ratio" : PySem.Str), ("_law_cleared" : PySem.Str), ("_law_line" : PySem.Str), ("_law_lots" : PySem.Str), ("_law_before" : PySem.Str), ("_law_parted" : PySem.Str), ("_law_labels" : PySem.Str), ("_law_put" : PySem.Str), ("_law_spread" : PySem.Str), ("_law_corners" : PySem.Str), ("_law_alone" : PySem.Str), ("_law_drawn" : PySem.Str), ("_law_halves" : PySem.Str), ("_law_mean" : PySem.Str), ("_law_same" : PySem.Str), ("_law_told" : PySem.Str), ("_law_mixes" : PySem.Str)] : List Str)
theorem run (w : World) : HandSHeadRun.RunEqI rw0 (PySem.W.view rw0.prog vw) hk ob 20000 loose w := by
  unfold HandSHeadRun.RunEqI
  kernel_rfl
/-- the law, by values -/
def Sound (k fu : Nat) : Prop := ∀ ns : List Int, ns.length ≤ 63 → (∀ i ∈ ns, Builtin.Int.intBits i ≤ 1048576) → ∃ s, callI tab fu k 49 [.d (.list (ns.map PyData.int))] [] = .ok (.d (.bool true)) s
end Law
open PySem PySem.W PySem.Calls PyProof.Rows
theorem law_of (k fu : Nat) (room : L2.Room k callerA) (sound : Law.Sound k fu) : PySem.Challenge.rw_steadymixes_k06_labels_and_corners_judge.Holds := by
  w_on; o_law
  refine HandSHeadRun.head_imp (r := OpenLaw.row PySem.Challenge.rw_steadymixes_k06_labels_and_corners_judge) (q := view (OpenLaw.row PySem.Challenge.rw_steadymixes_k06_labels_and_corners_judge).prog Law.vw) (H := Law.hk) (ob := Law.ob) (M := 20000) (loose := Law.loose) (d := HandSHeadRun.topDef (OpenLaw.row PySem.Challenge.rw_steadymixes_k06_labels_and_corners_judge).prog 61) (kwd := []) Law.ob_eq Law.run
    (by kernel_rfl) (by kernel_rfl) (by kernel_rfl) (by rfl) (by first | assumption | decide +kernel) (by decide +kernel) ⟨rfl, rfl, rfl, rfl, rfl, by decide +kernel⟩ ?hw ?hc
  case hw => w_witness2
  case hc =>
    refine SM.walk_law (l := PySem.Challenge.rw_steadymixes_k06_labels_and_corners_judge) (n := 63) (k := k) (fu := fu) (G := Law.sg) (T := Law.tab) (fl := 49) rfl (by decide) (by kernel_rfl) room ?_ (by kernel_rfl) rfl sound
    intro w mg h Y ns
    obtain ⟨K, X, c, g⟩ := Y
    exact ⟨K, X, Law.tabOk X ns c g⟩

open PySem PySem.W PyProof.Rows
theorem PySem.Challenge.cw_steadymixes_k06_labels_and_corners_judge_holds : PySem.Challenge.rw_steadymixes_k06_labels_and_corners_judge.Holds := by
  refine law_of 120 (2 ^ 2000) ⟨rfl, by decide, by decide⟩ fun ns hn _ => ?_
  obtain ⟨v, t, e, q⟩ := (Law.law_ok (fu := 2 ^ 2000) (K := 120) (ns := ns) (Nat.le_refl _) (by decide) hn).ex
  exact ⟨t, by rw [← q]; exact e⟩
