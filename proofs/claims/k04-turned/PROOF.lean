import PyProof.Rows.All
import Wide.All
import OpenK.AllK
import Wide.FinOn
import HandS.ForMost
import KE.KDictKeyed
import HandS.Call
import HandS.ExcInit
import HandS.Nested
import HandS.HeadWalk
import KE.KExcSuper
import HandS.Style
import HandS.Gcd
import HandS.IsInst
import HandS.Wide
import HandS.TupAny
import HandS.TupMul
import KE.KDictWalk
import KE.KDictCopyH
import HandS.Dict
import HandS.List
import HandS.DictComp
import HandS.Deep
import PyProof.WalkInts
import PyProof.WalksMore
import KE.DataMinMax
import HandS.SetFor
import HandS.Flt
import KE.KMathG
import HandS.Zip
import KE.GoesMore
import PyProof.EnumMake
import KE.GoesZip
import HandS.Walk
import KE.KRevSl
import HandS.TupSets
import HandS.SortInts
import HandS.ExcField
import HandS.ExcIs
import KE.KExcIs
import HandS.ForExc
import HandS.TryOnly
import HandS.Conv
import HandS.Defaults
import HandS.EndBits
import HandS.More
import HandS.Words
import HandS.WordsExc
import HandS.Head0
import HandS.Head1
import HandS.Head2
import HandS.HeadEnd
import HandS.HeadHook1
import HandS.HeadHook2
import KE.KIsAll
import PyProof.ReprBulk
import KE.KStateDown
import HandS.Head3
import PySem.Challenge.RW_steadymixes_k04_games_turned_and_moved
set_option Elab.async false
set_option linter.all false
set_option maxRecDepth 100000
set_option maxHeartbeats 0
namespace SM
open PySem L2 PySem.Spec PyProof.Rows
/-- an import's built-in function -/
def impB (K : PySem.W.Frag) (g : Str × String) : Bool := He.eqO (PySem.W.nsIn K mainGlobals g.1) (some (some (.builtin g.2)))
def intsB : List Value → List Int → Bool
  | [], [] => true
  | .int i _ :: r, j :: q => decide (i = j) && intsB r q
  | _, _ => false
/-- a tuple of ints -/
def tupB (K : PySem.W.Frag) (g : Str × List Int) : Bool := match PySem.W.nsIn K mainGlobals g.1 with
  | some (some (.ref a)) => (match K.lookup a with
    | some o => decide (o.cls = .type "tuple") && (match o.data with
      | .seq its _ => decide (its.size ≤ sizeLine) && intsB its.toList g.2
      | _ => false)
    | none => false)
  | _ => false
/-- what else the head tells -/
inductive Gx where
  | imp (x : Str) (b : String)
  | tup (x : Str) (ns : List Int)
def Gx.ok (K : PySem.W.Frag) : Gx → Bool
  | .imp x b => impB K (x, b)
  | .tup x ns => tupB K (x, ns)
/-! the error classes: their common base and its __init__, the classes, what is asked of them -/
structure Xs where
  base : Str
  names : List Str
  isx : List (Str × List Bool)
  file : Str
abbrev IniW : Type := Option (Str × Str × Arguments × FuncBody × Scope × Addr × List Str × Addr)
def iniFd (K : PySem.W.Frag) (b : Str) : Option FuncData := match K.lookup (He.ma K (He.ga K b) "__init__") with
  | some ⟨_, _, .func fd, _⟩ => some fd
  | _ => none
def iniW (K : PySem.W.Frag) (b : Str) : IniW := (iniFd K b).map fun fd => (fd.name, fd.qualname, fd.params, fd.body, fd.scope, fd.globals, fd.closure.map (·.1), fd.builtins)
def fileB (K : PySem.W.Frag) (c : Addr) (file : Str) : Bool := match K.lookup c with
  | some ⟨_, _, .fields vs, _⟩ => (match (vs[2]? : Option Value) with
    | some (Value.str f _) => file == f
    | _ => false)
  | _ => false
def cellB (K : PySem.W.Frag) (c D : Addr) : Bool := match K.lookup c with
  | some ⟨_, _, .cell (some (.ref a)), _⟩ => decide (a = D)
  | _ => false
def iniB (K : PySem.W.Frag) (b file : Str) : Bool := match iniFd K b with
  | some fd => (match fd.closure, fd.code with
    | [p], .ref c => decide (fd.defaults = .none) && decide (fd.kwdefaults = .none) && fd.annotations.isNone && PySem.W.codeIn K fd.code fd.qualname && fileB K c file && cellB K p.2 (He.ga K b)
    | _, _ => false)
  | none => false
def oexB (K : PySem.W.Frag) (C : Addr) : Bool := match K.lookup C with
  | some ⟨.type "type", _, .cls cd, sl⟩ => (match cd.mro, sl.toList with
    | .ref C' :: bm, [_, _, _, _, some (.builtin n), _] => decide (C' = C) && decide (n = "ValueError.__new__") && cd.hasDict && !cd.hasDel && PySem.HandSPX.refsVE bm
    | _, _ => false)
  | _ => false
def excB (K : PySem.W.Frag) (C : Addr) : Bool := He.eqO (PySem.W.findIn K (.ref C) "__getattribute__") (some (some (.builtin "BaseException.__getattribute__"))) && He.eqO (PySem.W.findIn K (.ref C) "__getattr__") (some none) &&
  decide (PySem.W.subIn K (.ref C) (.type "BaseException") = some true) && PySem.W.hasDictIn K C && He.eqO (PySem.W.findIn K (.ref C) "__class__") (some (some (.builtin "object.__class__"))) &&
  He.eqO (PySem.W.specialIn K (.builtin "object.__class__") "__get__") (some (some (.builtin "getset_descriptor.__get__"))) && decide (PySem.W.takesIn K (.builtin "object.__class__") = some true) && decide (PySem.W.mroIn K C (.type "object") = some true) &&
  He.eqO (PySem.W.findIn K (.ref C) "value") (some none)
def clsB (K : PySem.W.Frag) (b x : Str) : Bool := He.eqO (PySem.W.nsIn K mainGlobals x) (some (some (.ref (He.ga K x)))) && oexB K (He.ga K x) && excB K (He.ga K x) && He.eqO (PySem.W.findIn K (.ref (He.ga K x)) "__setattr__") (some (some (.builtin "object.__setattr__"))) &&
  decide (PySem.W.typeIn K (.ref (He.ga K x)) = some (.type "type")) && PySem.W.keepIn K (.ref (He.ga K x)) && decide (PySem.W.mroIn K (He.ga K x) (.ref (He.ga K b)) = some true) && He.eqO (PySem.W.ks_superIn K (He.ga K x) (He.ga K b) "__init__") (some (some (.builtin "ValueError.__init__"))) &&
  decide (PySem.W.subIn K (.ref (He.ga K x)) (.type "ValueError") = some true) && He.eqO (PySem.W.findIn K (.ref (He.ga K x)) "__init__") (some (some (.ref (He.ma K (He.ga K b) "__init__"))))
def askB (K : PySem.W.Frag) (names : List Str) (cv : Value) : List Bool → Bool := fun l => decide (l.length = names.length) && (names.zip l).all fun p => decide (PySem.W.kitOne K (.ref (He.ga K p.1)) cv = some p.2) && decide (PySem.W.exmOne K (.ref (He.ga K p.1)) cv = some p.2)
def isxB (K : PySem.W.Frag) (names : List Str) (p : Str × List Bool) : Bool := if p.1 = ("ValueError" : Str) then He.eqO (PySem.W.nsIn K mainGlobals p.1) (some none) && askB K names (.type "ValueError") p.2
  else He.eqO (PySem.W.nsIn K mainGlobals p.1) (some (some (.ref (He.ga K p.1)))) && askB K names (.ref (He.ga K p.1)) p.2
def xsB (K : PySem.W.Frag) (x : Xs) : Bool := x.names.isEmpty || (iniB K x.base x.file && (PySem.W.clsIn K (He.ga K x.base)).isSome && He.eqO (PySem.W.nsIn K mainGlobals "super") (some none) && He.eqO (PySem.W.nsIn K cStatics "thirdparty.any") (some none) &&
  decide (PySem.W.typeIn K (.ref (He.ma K (He.ga K x.base) "__init__")) = some (.type "function")) && x.names.all (clsB K x.base) && x.isx.all (isxB K x.names))
def asX (g : Addr → Option Obj) (roots : List Addr) : Nat → List Addr
  | 0 => roots
  | n + 1 => He.growD g (asX g roots n)
def rootsX (x : Xs) : List Addr := match x.names with
  | [] => [mainGlobals]
  | _ :: _ => [mainGlobals, cStatics]
abbrev AlG : Type := He.AlD × Bool × IniW
def obsK (fa : List He.Fa) (fn : List He.DefD) (gs : List Gx) (x : Xs) (K : PySem.W.Frag) : AlG := (He.obsD fa fn K, gs.all (Gx.ok K) && xsB K x, iniW K x.base)
def obsGG (n : Nat) (fa : List He.Fa) (fn : List He.DefD) (gs : List Gx) (x : Xs) (g : Addr → Option Obj) : AlG := obsK fa fn gs x (He.frG g (asX g (rootsX x) n))
def hookG (n : Nat) (fa : List He.Fa) (fn : List He.DefD) (gs : List Gx) (x : Xs) (iv : IniW) : PySem.W.Hook where
  α := AlG
  obs := fun s => obsGG n fa fn gs x s.heap.get?
  val := fun _ => (He.valD fn, true, iv)
  says := fun _ h => ∃ K : PySem.W.Frag, K.In h ∧ He.SaysD fa fn K ∧ gs.all (Gx.ok K) = true ∧ xsB K x = true ∧ iniW K x.base = iv
  of := fun _ _ e => by
    obtain ⟨e1, e2⟩ := Prod.mk.inj e
    obtain ⟨e3, e4⟩ := Prod.mk.inj e2
    obtain ⟨e5, e6⟩ := Bool.and_eq_true_iff.mp e3
    exact ⟨_, He.frG_in, e1, e5, e6, e4⟩
  keeps := fun _ _ _ ⟨K, hK, c⟩ k => ⟨K, PySem.W.Frag.In.keeps hK k, c⟩
theorem obsGG_eq {n : Nat} {fa : List He.Fa} {fn : List He.DefD} {gs : List Gx} {x : Xs} {iv : IniW} {g : Addr → Option Obj} {s : Shared} (h : ∀ a, g a = s.heap.get? a) : obsGG n fa fn gs x g = (hookG n fa fn gs x iv).obs s := by
  have e : g = s.heap.get? := funext h
  rw [e] <;> rfl
end SM

namespace Law
open PySem L2 SM
abbrev pg : Program := PySem.Challenge.pw_steadymixes_k04_games_turned_and_moved
abbrev tp (i : Nat) : Stmt := pg.main.body.getD i (.Pass ⟨0, 0, 0, 0⟩)
def fn : List He.DefD := [⟨(("is_integer" : PySem.Str), none), ("is_integer" : PySem.Str), ("is_integer" : PySem.Str), defArgs (tp 8), defBody (tp 8), defScope (tp 8), [], []⟩,
  ⟨(("anew" : PySem.Str), none), ("anew" : PySem.Str), ("anew" : PySem.Str), defArgs (tp 9), defBody (tp 9), defScope (tp 9), [], []⟩,
  ⟨(("is_within" : PySem.Str), none), ("is_within" : PySem.Str), ("is_within" : PySem.Str), defArgs (tp 10), defBody (tp 10), defScope (tp 10), [], []⟩,
  ⟨(("is_a_row" : PySem.Str), none), ("is_a_row" : PySem.Str), ("is_a_row" : PySem.Str), defArgs (tp 11), defBody (tp 11), defScope (tp 11), [], []⟩,
  ⟨(("is_a_table" : PySem.Str), none), ("is_a_table" : PySem.Str), ("is_a_table" : PySem.Str), defArgs (tp 12), defBody (tp 12), defScope (tp 12), [], []⟩,
  ⟨(("are_tables_like" : PySem.Str), none), ("are_tables_like" : PySem.Str), ("are_tables_like" : PySem.Str), defArgs (tp 13), defBody (tp 13), defScope (tp 13), [], []⟩,
  ⟨(("is_a_game" : PySem.Str), none), ("is_a_game" : PySem.Str), ("is_a_game" : PySem.Str), defArgs (tp 14), defBody (tp 14), defScope (tp 14), [], []⟩,
  ⟨(("is_a_side" : PySem.Str), none), ("is_a_side" : PySem.Str), ("is_a_side" : PySem.Str), defArgs (tp 15), defBody (tp 15), defScope (tp 15), [], []⟩,
  ⟨(("many_of" : PySem.Str), none), ("many_of" : PySem.Str), ("many_of" : PySem.Str), defArgs (tp 16), defBody (tp 16), defScope (tp 16), [], []⟩,
  ⟨(("need_game" : PySem.Str), none), ("need_game" : PySem.Str), ("need_game" : PySem.Str), defArgs (tp 17), defBody (tp 17), defScope (tp 17), [], []⟩,
  ⟨(("need_side" : PySem.Str), none), ("need_side" : PySem.Str), ("need_side" : PySem.Str), defArgs (tp 18), defBody (tp 18), defScope (tp 18), [], []⟩,
  ⟨(("need_number" : PySem.Str), none), ("need_number" : PySem.Str), ("need_number" : PySem.Str), defArgs (tp 19), defBody (tp 19), defScope (tp 19), [], []⟩,
  ⟨(("transposed" : PySem.Str), none), ("transposed" : PySem.Str), ("transposed" : PySem.Str), defArgs (tp 21), defBody (tp 21), defScope (tp 21), [], []⟩,
  ⟨(("turned" : PySem.Str), none), ("turned" : PySem.Str), ("turned" : PySem.Str), defArgs (tp 23), defBody (tp 23), defScope (tp 23), [], []⟩,
  ⟨(("raised" : PySem.Str), none), ("raised" : PySem.Str), ("raised" : PySem.Str), defArgs (tp 24), defBody (tp 24), defScope (tp 24), [], []⟩,
  ⟨(("moved" : PySem.Str), none), ("moved" : PySem.Str), ("moved" : PySem.Str), defArgs (tp 25), defBody (tp 25), defScope (tp 25), [], []⟩,
  ⟨(("without" : PySem.Str), none), ("without" : PySem.Str), ("without" : PySem.Str), defArgs (tp 26), defBody (tp 26), defScope (tp 26), [], []⟩,
  ⟨(("_law_source" : PySem.Str), none), ("_law_source" : PySem.Str), ("_law_source" : PySem.Str), defArgs (tp 28), defBody (tp 28), defScope (tp 28), [], []⟩,
  ⟨(("_law_pick" : PySem.Str), none), ("_law_pick" : PySem.Str), ("_law_pick" : PySem.Str), defArgs (tp 29), defBody (tp 29), defScope (tp 29), [], []⟩,
  ⟨(("_law_number" : PySem.Str), none), ("_law_number" : PySem.Str), ("_law_number" : PySem.Str), defArgs (tp 30), defBody (tp 30), defScope (tp 30), [], []⟩,
  ⟨(("_law_table" : PySem.Str), none), ("_law_table" : PySem.Str), ("_law_table" : PySem.Str), defArgs (tp 31), defBody (tp 31), defScope (tp 31), [], []⟩,
  ⟨(("_law_game" : PySem.Str), none), ("_law_game" : PySem.Str), ("_law_game" : PySem.Str), defArgs (tp 32), defBody (tp 32), defScope (tp 32), [], []⟩,
  ⟨(("_law_columns" : PySem.Str), none), ("_law_columns" : PySem.Str), ("_law_columns" : PySem.Str), defArgs (tp 33), defBody (tp 33), defScope (tp 33), [], []⟩,
  ⟨(("_law_due" : PySem.Str), none), ("_law_due" : PySem.Str), ("_law_due" : PySem.Str), defArgs (tp 34), defBody (tp 34), defScope (tp 34), [], []⟩,
  ⟨(("_law_call" : PySem.Str), none), ("_law_call" : PySem.Str), ("_law_call" : PySem.Str), defArgs (tp 35), defBody (tp 35), defScope (tp 35), [], []⟩,
  ⟨(("_law_numbers" : PySem.Str), none), ("_law_numbers" : PySem.Str), ("_law_numbers" : PySem.Str), defArgs (tp 36), defBody (tp 36), defScope (tp 36), [], []⟩,
  ⟨(("_law_drawn" : PySem.Str), none), ("_law_drawn" : PySem.Str), ("_law_drawn" : PySem.Str), defArgs (tp 37), defBody (tp 37), defScope (tp 37), [], []⟩,
  ⟨(("_law_right" : PySem.Str), none), ("_law_right" : PySem.Str), ("_law_right" : PySem.Str), defArgs (tp 38), defBody (tp 38), defScope (tp 38), [], []⟩,
  ⟨(("law" : PySem.Str), none), ("law" : PySem.Str), ("law" : PySem.Str), defArgs (tp 39), defBody (tp 39), defScope (tp 39), [], []⟩]
def fa : List He.Fa := [.glo ("is_integer" : PySem.Str), .glo ("anew" : PySem.Str), .glo ("is_within" : PySem.Str), .glo ("is_a_row" : PySem.Str), .glo ("is_a_table" : PySem.Str), .glo ("are_tables_like" : PySem.Str), .glo ("is_a_game" : PySem.Str), .glo ("is_a_side" : PySem.Str), .glo ("many_of" : PySem.Str), .glo ("need_game" : PySem.Str), .glo ("need_side" : PySem.Str), .glo ("need_number" : PySem.Str), .glo ("transposed" : PySem.Str), .glo ("turned" : PySem.Str), .glo ("raised" : PySem.Str), .glo ("moved" : PySem.Str), .glo ("without" : PySem.Str), .glo ("_law_source" : PySem.Str), .glo ("_law_pick" : PySem.Str), .glo ("_law_number" : PySem.Str), .glo ("_law_table" : PySem.Str), .glo ("_law_game" : PySem.Str), .glo ("_law_columns" : PySem.Str), .glo ("_law_due" : PySem.Str), .glo ("_law_call" : PySem.Str), .glo ("_law_numbers" : PySem.Str), .glo ("_law_drawn" : PySem.Str), .glo ("_law_right" : PySem.Str), .glo ("law" : PySem.Str), .free ("abs" : PySem.Str), .free ("all" : PySem.Str), .free ("bool" : PySem.Str), .free ("enumerate" : PySem.Str), .free ("int" : PySem.Str), .free ("isinstance" : PySem.Str), .free ("len" : PySem.Str), .free ("list" : PySem.Str), .free ("max" : PySem.Str), .free ("min" : PySem.Str), .free ("range" : PySem.Str), .free ("repr" : PySem.Str), .free ("tuple" : PySem.Str), .int ("MOST_CHOICES" : PySem.Str) 5, .int ("MOST_NUMBER" : PySem.Str) 1000]
def gs : List Gx := []
def xs : Xs := ⟨("MixError" : PySem.Str), [("MixError" : PySem.Str), ("InvalidGame" : PySem.Str), ("InvalidSide" : PySem.Str), ("InvalidNumber" : PySem.Str)], [(("MixError" : PySem.Str), [true, true, true, true]), (("InvalidGame" : PySem.Str), [false, true, false, false]), (("InvalidNumber" : PySem.Str), [false, false, false, true])], pg.main.file⟩
abbrev ini0 : Stmt := L2.inClass (tp 1) 0
def iv : IniW := some (("__init__" : Str), (("MixError.__init__" : PySem.Str) : Str), defArgs ini0, FuncBody.stmts (defBody ini0), defScope ini0, mainGlobals, [("__class__" : Str)], builtinsNs)
abbrev rw0 : PySem.W.OpenRow := PySem.W.OpenLaw.row PySem.Challenge.rw_steadymixes_k04_games_turned_and_moved
abbrev vw : List Nat := [39]
abbrev hk : PySem.W.Hook := hookG 4 fa fn gs xs iv
def ob (s : PySem.W.SharedT) : AlG := obsGG 4 fa fn gs xs (HandSHeadRun.getT s)
theorem ob_eq (s : PySem.W.SharedT) : ob s = hk.obs s.abs := obsGG_eq (HandSHeadRun.getT_eq s)
def loose : List Str := ([("MixError" : PySem.Str), ("InvalidGame" : PySem.Str), ("InvalidSide" : PySem.Str), ("InvalidNumber" : PySem.Str), ("MOST_CHOICES" : PySem.Str), ("MOST_NUMBER" : PySem.Str), ("is_integer" : PySem.Str), ("anew" : PySem.Str), ("is_within" : PySem.Str), ("is_a_row" : PySem.Str), ("is_a_table" : PySem.Str), ("are_tables_like" : PySem.Str), ("is_a_game" : PySem.Str), ("is_a_side" : PySem.Str), ("many_of" : PySem.Str), ("need_game" : PySem.Str), ("need_side" : PySem.Str), ("need_number" : PySem.Str), ("transposed" : PySem.Str), ("turned" : PySem.Str), ("raised" : PySem.Str), ("moved" : PySem.Str), ("without" : PySem.Str), ("_law_source" : PySem.Str), ("_law_pick" : PySem.Str), ("_law_number" : PySem.Str), ("_law_table" : PySem.Str), ("_law_game" : PySem.Str), ("_law_columns" : PySem.Str), ("_law_due" : PySem.Str)] : List Str) ++ ([("_law_call" : PySem.Str), ("_law_numbers" : PySem.Str), ("_law_drawn" : PySem.Str), ("_law_right" : PySem.Str)] : List Str)
theorem run (w : World) : HandSHeadRun.RunEq rw0 (PySem.W.view rw0.prog vw) hk ob 20000 loose w := by
  intro os
  kernel_rfl
end Law

/-! SM: a small language of plain data, its runs. A value is data (Vl.d) or the place of a mutable list in the store (Vl.r). -/
namespace SM
open PySem

inductive Vl where
  | d (x : PyData)
  | r (n : Nat)
inductive Ob where
  | lst (vs : List Vl)
  | dct (kvs : List (PyData × PyData))
abbrev Sto := List (Option Ob)
abbrev Sl := List (Option Vl)

/-- a run's end: a value and the store; an error of the class c with its value; none that is told -/
inductive Rs (α : Type) where
  | ok (a : α) (s : Sto)
  | ex (c : Nat) (v : Vl) (s : Sto)
  | no
def Rs.bind {α β : Type} : Rs α → (α → Sto → Rs β) → Rs β
  | .ok a s, f => f a s
  | .ex c v s, _ => .ex c v s
  | .no, _ => .no
abbrev Po (α : Type) := Option (α × Sto)
def ofP {α : Type} : Po α → Rs α
  | some (a, s) => .ok a s
  | none => .no

/-- a statement's end -/
inductive Fl where
  | nx (e : Sl) (s : Sto)
  | rt (v : Vl) (s : Sto)
  | bk (e : Sl) (s : Sto)
  | ct (e : Sl) (s : Sto)
  | ex (c : Nat) (v : Vl) (e : Sl) (s : Sto)
  | no

inductive BOp where
  | add | sub | mul | fdiv | mod | pow | shl | shr | bor | band
  deriving DecidableEq
inductive COp where
  | eq | ne | lt | le | gt | ge | inn | nin | is | isn | din | dnin
  deriving DecidableEq
inductive Ty where
  | int | bool | str | list | tuple | dict | float
  deriving DecidableEq
inductive Bi where
  | len | abs | int | gcd | lcm | max | min | sum | all | any | tuple | list | sorted | repr | str | dlist
  deriving DecidableEq
inductive Me where
  | append | insert | pop | index | count | clear | reverse
  deriving DecidableEq

/-- expressions; nil and cons make lists of them; m: is the new list to be changed later? -/
inductive IE where
  | nil
  | cons (e r : IE)
  | var (i : Nat)
  | lit (d : PyData)
  | glob (x : Str) (d : PyData)
  | bop (m : Bool) (o : BOp) (a b : IE)
  | neg (a : IE)
  | not (a : IE)
  | cmp (o : COp) (a b : IE)
  | chain (o p : COp) (a b c : IE)
  | and (es : IE)
  | or (es : IE)
  | ite (c a b : IE)
  | tup (es : IE)
  | lst (m : Bool) (es : IE)
  | rep (m : Bool) (es k : IE)
  | dic (ks vs : IE)
  | idx (a i : IE)
  | sli (m : Bool) (a lo hi : IE)
  | rev (m : Bool) (a : IE)
  | bi (m : Bool) (b : Bi) (es : IE)
  | isi (a : IE) (t : Ty)
  | me (f : Me) (a : IE) (es : IE)
  | call (f : Nat) (es : IE)
  | callk (f : Nat) (es ks : IE) (names : List Str) (perm : List Nat)
  | rng1 (a : IE)
  | rng2 (a b : IE)
  | zip (a b : IE)
  | enum (a : IE)
  | itv (a : IE)
  | itd (a : IE)
  | comp (m : Bool) (elt tg it cnd : IE) (own : List Nat)
  | comp2 (m : Bool) (elt tg it tg2 it2 cnd : IE) (own own2 : List Nat)
  | frz (a : IE)
  | lrg (m : Bool) (a : IE)
  | dnew
  | frd (a : IE)
  | dcomp (m : Bool) (kx vx tg it cnd : IE) (own : List Nat)

/-- what an except suite says: exv is the value of the error, exi l asks whether its class is one of l -/
inductive HE where
  | nil
  | cons (a r : HE)
  | var (i : Nat)
  | lit (d : PyData)
  | exv
  | exi (l : List Bool)
  | lst (m : Bool) (es : HE)
  | tup (es : HE)
  | add (m : Bool) (a b : HE)

/-- is the class number c one of l? (numbers beyond stand for the first one) -/
def inCls (l : List Bool) (c : Nat) : Bool := l.getD c (l.getD 0 false)

/-- statements -/
inductive IS where
  | nil
  | cons (s r : IS)
  | asg (tg e : IE)
  | par (s t a b : IE)
  | par3 (i j k : Nat) (a b c : IE)
  | ptup (ts es : IE)
  | aug (i : Nat) (o : BOp) (e : IE)
  | ite (c : IE) (a b : IS)
  | forr (tg it : IE) (body : IS)
  | whil (c : IE) (body : IS)
  | ret (e : IE)
  | expr (e : IE)
  | pass | brk | cont | never
  | vfz (i : Nat)
  | rais (c : Nat) (e : IE)
  | tryx (b : IS) (i : Nat) (l : List Bool) (h : List (Nat × HE))

/-! ### data -/
def allD : List Vl → Option (List PyData)
  | [] => some []
  | .d x :: r => (allD r).map (x :: ·)
  | .r _ :: _ => none
theorem allD_map : ∀ l : List PyData, allD (l.map Vl.d) = some l
  | [] => rfl
  | x :: r => by simp [allD, allD_map r]
def ints? : List PyData → Option (List Int)
  | [] => some []
  | .int i :: r => (ints? r).map (i :: ·)
  | _ :: _ => none
def bools? : List PyData → Option (List Bool)
  | [] => some []
  | .bool b :: r => (bools? r).map (b :: ·)
  | _ :: _ => none

/-- the items of a list, a tuple -/
def itemsD : PyData → Option (List PyData)
  | .list xs => some xs
  | .tuple xs => some xs
  | _ => none
def listAt (n : Nat) (s : Sto) : Option (List Vl) := match s[n]? with
  | some (some (.lst vs)) => some vs
  | _ => none
def itemsV (v : Vl) (s : Sto) : Option (List Vl) := match v with
  | .d x => (itemsD x).map (·.map Vl.d)
  | .r n => listAt n s
def dataV (v : Vl) (s : Sto) : Option (List PyData) := (itemsV v s).bind allD

/-- a new list: told as data, or put into the store -/
def mkL (m : Bool) (vs : List Vl) (s : Sto) : Po Vl :=
  if vs.length ≤ 16777216 then (if m then some (.r s.length, s ++ [some (.lst vs)]) else (allD vs).map fun ds => (.d (.list ds), s)) else none

/-! ### dicts: keys are tuples of ints, None and such tuples -/
mutual
def nkD : PyData → Option NestedKey
  | .int i => some (.num i)
  | .none => some .none
  | .tuple xs => (nkDs xs).map .tup
  | _ => none
def nkDs : List PyData → Option (List NestedKey)
  | [] => some []
  | x :: xs => match nkD x, nkDs xs with
    | some k, some ks => some (k :: ks)
    | _, _ => none
end
def keyT : PyData → Option NestedKey
  | .tuple xs => match nkDs xs with
    | some ks => if (NestedKey.tup ks).depth ≤ 8 then some (.tup ks) else none
    | none => none
  | _ => none
def dictAt (n : Nat) (s : Sto) : Option (List (PyData × PyData)) := match s[n]? with
  | some (some (.dct kvs)) => some kvs
  | _ => none
def kIs (k : PyData) (p : PyData × PyData) : Bool := decide (keyT p.1 = keyT k)
def dGet (kvs : List (PyData × PyData)) (k : PyData) : Option PyData := (kvs.find? (kIs k)).map (·.2)
def dPut (kvs : List (PyData × PyData)) (k v : PyData) : List (PyData × PyData) := if kvs.any (kIs k) then kvs.map fun p => if kIs k p then (p.1, v) else p else kvs ++ [(k, v)]
def putD (n : Nat) (kvs : List (PyData × PyData)) (s : Sto) : Sto := s.set n (some (.dct kvs))
/-- a dict, in the store or as data -/
def dictV (v : Vl) (s : Sto) : Option (List (PyData × PyData)) := match v with
  | .d (.dict ((k, x) :: r)) => if (keyT k).isSome = true then some ((k, x) :: r) else none
  | .d _ => none
  | .r n => dictAt n s
/-- a new dict -/
def mkD (m : Bool) (kvs : List (PyData × PyData)) (s : Sto) : Vl × Sto := if m then (.r s.length, s ++ [some (.dct kvs)]) else (.d (.dict kvs), s)
/-- a key and its value are put in -/
def dStep (kvs : List (PyData × PyData)) (k v : PyData) : Option (List (PyData × PyData)) := if (keyT k).isSome = true ∧ kvs.length < 16777216 then some (dPut kvs k v) else none

def mulOk (i j : Int) : Prop := i.natAbs < 2 ^ 64 ∨ j.natAbs < 2 ^ 64 ∨ i.natAbs.log2 + j.natAbs.log2 < 1000000
instance (i j : Int) : Decidable (mulOk i j) := by unfold mulOk; infer_instance
def binI : BOp → Int → Int → Option Int
  | .add, i, j => some (i + j)
  | .sub, i, j => some (i - j)
  | .mul, i, j => if mulOk i j then some (i * j) else none
  | .fdiv, i, j => if 0 < j ∧ j.natAbs.log2 < 9000 then some (i / j) else if j < 0 ∧ j.natAbs.log2 < 9000 then some (i.fdiv j) else none
  | .mod, i, j => if 0 < j then some (i % j) else if j < 0 then some (i.fmod j) else none
  | .pow, i, j => if 0 ≤ j ∧ j ≤ 1000000 ∧ (i.natAbs.log2 + 1) * j.toNat ≤ 1000000 then some (i ^ j.toNat) else none
  | .shl, i, j => if 0 ≤ j ∧ j ≤ 1000000 ∧ i.natAbs < 2 ^ 64 then some (i * 2 ^ j.toNat) else none
  | .shr, i, j => if 0 ≤ j then some (i / 2 ^ j.toNat) else none
  | .bor, i, j => some (Builtin.bitOr i j)
  | .band, i, j => some (Builtin.bitAnd i j)
def listV (v : Vl) (s : Sto) : Option (List Vl) := match v with
  | .d (.list xs) => some (xs.map Vl.d)
  | .d _ => none
  | .r n => listAt n s
def binD (o : BOp) (x y : PyData) (s : Sto) : Po Vl := match x, y with
  | .int i, .int j => (binI o i j).map fun k => (.d (.int k), s)
  | .str a, .str b => if o = .add ∧ a.length + b.length ≤ 16777216 then some (.d (.str (a ++ b)), s) else none
  | .tuple a, .tuple b => if o = .add ∧ a.length + b.length ≤ 16777216 then some (.d (.tuple (a ++ b)), s) else none
  | .tuple a, .int j => if o = .mul ∧ 2 ≤ j ∧ j ≤ 1000 ∧ a.length ≤ 1000 then some (.d (.tuple (List.replicate j.toNat a).flatten), s) else none
  | _, _ => none
def binV (m : Bool) (o : BOp) (x y : Vl) (s : Sto) : Po Vl := match listV x s, listV y s, o with
  | some us, some vs, .add => mkL m (us ++ vs) s
  | _, _, _ => match x, y with
    | .d x, .d y => binD o x y s
    | _, _ => none

/-- == of data: no dicts within -/
def eqD (x y : PyData) : Option Bool := match x, y with
  | .str a, .str b => some (decide (a = b))
  | .list (_ :: _), .list [] => some false
  | x, y => if SeqAt.shaped x = true ∧ SeqAt.shaped y = true then some (PyData.eqv x y) else none
def ltI : COp → Int → Int → Option Bool
  | .lt, i, j => some (decide (i < j))
  | .le, i, j => some (decide (i ≤ j))
  | .gt, i, j => some (decide (j < i))
  | .ge, i, j => some (decide (j ≤ i))
  | _, _, _ => none
def inD (x : PyData) (l : List PyData) : Option Bool := if SeqAt.shaped x = true ∧ SeqAt.shaped (.list l) = true then some (l.any fun z => PyData.eqv z x) else none
def dataOf (v : Vl) (s : Sto) : Option PyData := match v with
  | .d x => some x
  | .r n => (listAt n s).bind fun vs => (allD vs).map PyData.list
def noneV (v : Vl) (s : Sto) : Option Bool := match v with
  | .d .none => some true
  | .d _ => some false
  | .r n => (listAt n s).map fun _ => false
def dinV (x y : Vl) (s : Sto) : Option Bool := (dictV y s).bind fun kvs => match x with
  | .d k => if (keyT k).isSome = true then some (dGet kvs k).isSome else none
  | _ => none
def cmpV (o : COp) (x y : Vl) (s : Sto) : Option Bool := match o with
  | .eq => (dataOf x s).bind fun a => (dataOf y s).bind fun b => eqD a b
  | .ne => ((dataOf x s).bind fun a => (dataOf y s).bind fun b => eqD a b).map (!·)
  | .is => match y with
    | .d .none => noneV x s
    | _ => none
  | .isn => match y with
    | .d .none => (noneV x s).map (!·)
    | _ => none
  | .inn => (dataOf x s).bind fun a => (dataV y s).bind fun l => inD a l
  | .nin => ((dataOf x s).bind fun a => (dataV y s).bind fun l => inD a l).map (!·)
  | .din => dinV x y s
  | .dnin => (dinV x y s).map (!·)
  | o => match x, y with
    | .d (.int i), .d (.int j) => ltI o i j
    | _, _ => none

def idxV (x i : Vl) (s : Sto) : Po Vl := match i with
  | .d (.int k) => (itemsV x s).bind fun vs => (L2.atI vs k).map (·, s)
  | .d (.tuple ks) => if (keyT (.tuple ks)).isSome = true then (dictV x s).bind fun kvs => (dGet kvs (.tuple ks)).map fun v => (.d v, s) else none
  | _ => none
def cutL {α : Type} (xs : List α) (lo hi : Option Int) : List α := (xs.drop (HT.sIx xs.length 0 lo)).take (HT.sIx xs.length xs.length hi - HT.sIx xs.length 0 lo)
def sliV (m : Bool) (x : Vl) (lo hi : Option Int) (s : Sto) : Po Vl := match x with
  | .d (.tuple xs) => some (.d (.tuple (cutL xs lo hi)), s)
  | .d (.list xs) => mkL m ((cutL xs lo hi).map Vl.d) s
  | .r n => (listAt n s).bind fun vs => mkL m (cutL vs lo hi) s
  | _ => none
def revV (m : Bool) (x : Vl) (s : Sto) : Po Vl := match x with
  | .d (.list xs) => mkL m (xs.reverse.map Vl.d) s
  | .d (.tuple xs) => some (.d (.tuple xs.reverse), s)
  | .r n => (listAt n s).bind fun vs => mkL m vs.reverse s
  | _ => none

def isT : Ty → Vl → Sto → Option Bool
  | .int, .d (.int _), _ => some true
  | .int, .d (.bool _), _ => some true
  | .bool, .d (.bool _), _ => some true
  | .str, .d (.str _), _ => some true
  | .list, .d (.list _), _ => some true
  | .tuple, .d (.tuple _), _ => some true
  | .dict, .d (.dict _), _ => some true
  | _, .d _, _ => some false
  | t, .r n, s => (listAt n s).map fun _ => decide (t = .list)

def maxL : List Int → Option Int
  | [] => none
  | x :: r => match maxL r with
    | none => some x
    | some y => some (if x < y then y else x)
def minL : List Int → Option Int
  | [] => none
  | x :: r => match minL r with
    | none => some x
    | some y => some (if y < x then y else x)
def dataL (v : Vl) (s : Sto) : Option (List PyData) := (listV v s).bind allD
def lenV (vs : List Vl) (s : Sto) : Po Vl := match vs with
  | [.d (.str z)] => if z.length ≤ 16777216 then some (.d (.int z.length), s) else none
  | [v] => (itemsV v s).map fun l => (.d (.int l.length), s)
  | _ => none
def absV (vs : List Vl) (s : Sto) : Po Vl := match vs with
  | [.d (.int i)] => some (.d (.int (if i < 0 then -i else i)), s)
  | _ => none
def intV (vs : List Vl) (s : Sto) : Po Vl := match vs with
  | [.d (.int i)] => some (.d (.int i), s)
  | [.d (.bool b)] => some (.d (.int (if b then 1 else 0)), s)
  | _ => none
def gcdV (vs : List Vl) (s : Sto) : Po Vl := match vs with
  | [.d (.int i), .d (.int j)] => some (.d (.int (Int.gcd i j)), s)
  | _ => none
def lcmV (vs : List Vl) (s : Sto) : Po Vl := match vs with
  | [.d (.int i), .d (.int j)] => if i.natAbs.log2 < 6000 ∧ j.natAbs.log2 < 6000 then some (.d (.int (Int.lcm i j)), s) else none
  | _ => none
def maxV (vs : List Vl) (s : Sto) : Po Vl := match vs with
  | [.d (.int i), .d (.int j)] => some (.d (.int (if j > i then j else i)), s)
  | [v] => ((dataV v s).bind ints?).bind fun l => (maxL l).map fun k => (.d (.int k), s)
  | _ => none
def minV (vs : List Vl) (s : Sto) : Po Vl := match vs with
  | [.d (.int i), .d (.int j)] => some (.d (.int (if j < i then j else i)), s)
  | [.d (.int i), .d (.int j), .d (.int k)] => some (.d (.int (if k < (if j < i then j else i) then k else (if j < i then j else i))), s)
  | [v] => ((dataV v s).bind ints?).bind fun l => (minL l).map fun k => (.d (.int k), s)
  | _ => none
def sumV (vs : List Vl) (s : Sto) : Po Vl := match vs with
  | [v] => ((dataL v s).bind ints?).map fun l => (.d (.int l.sum), s)
  | _ => none
def allV (vs : List Vl) (s : Sto) : Po Vl := match vs with
  | [v] => ((dataL v s).bind bools?).map fun l => (.d (.bool (l.all id)), s)
  | _ => none
def anyV (vs : List Vl) (s : Sto) : Po Vl := match vs with
  | [v] => ((dataL v s).bind bools?).map fun l => (.d (.bool (l.any id)), s)
  | _ => none
def tupV (vs : List Vl) (s : Sto) : Po Vl := match vs with
  | [v] => (dataV v s).map fun l => (.d (.tuple l), s)
  | _ => none
def lisV (m : Bool) (vs : List Vl) (s : Sto) : Po Vl := match vs with
  | [v] => (itemsV v s).bind fun l => mkL m l s
  | _ => none
def dlisV (m : Bool) (vs : List Vl) (s : Sto) : Po Vl := match vs with
  | [v] => (dictV v s).bind fun kvs => mkL m (kvs.map fun p => Vl.d p.1) s
  | _ => none
mutual
/-- no list within -/
def noLst : PyData → Bool
  | .list _ => false
  | .tuple xs => noLsts xs
  | .dict kvs => noLstK kvs
  | _ => true
def noLsts : List PyData → Bool
  | [] => true
  | x :: r => noLst x && noLsts r
def noLstK : List (PyData × PyData) → Bool
  | [] => true
  | (k, x) :: r => (match k with | .int _ => true | .str _ => true | _ => false) && noLst x && noLstK r
end
def reprV (vs : List Vl) (s : Sto) : Po Vl := match vs with
  | [v] => (dataOf v s).bind fun x => if x.showable = true ∧ x.shown.length ≤ 16777216 ∧ x.depth ≤ 100 ∧ (x.hasDict = false ∨ noLst x = true) then some (.d (.str x.shown), s) else none
  | _ => none
def strV (vs : List Vl) (s : Sto) : Po Vl := match vs with
  | [.d (.int i)] => if i.natAbs.log2 < 1920 then some (.d (.str (toString i)), s) else none
  | _ => none
/-- a pair of ints from 0 to 63 -/
def pairB : PyData → Bool
  | .tuple [.int i, .int j] => (decide (0 ≤ i) && decide (i < 64)) && (decide (0 ≤ j) && decide (j < 64))
  | _ => false
def kD : PyData → Int
  | .tuple [.int i, .int j] => i * 64 + j
  | _ => 0
def sortP (ds : List PyData) : List PyData := ds.mergeSort fun a b => decide (kD a ≤ kD b)
def sortI (is : List Int) : List Int := is.mergeSort fun a b => decide (a ≤ b)
def sortedV (m : Bool) (vs : List Vl) (s : Sto) : Po Vl := match vs with
  | [v] => (dataL v s).bind fun ds => match ints? ds with
    | some is => mkL m ((sortI is).map fun i => Vl.d (.int i)) s
    | none => if ds.length < 64 ∧ ds.all pairB = true then mkL m ((sortP ds).map Vl.d) s else none
  | _ => none
def biV (m : Bool) (b : Bi) (vs : List Vl) (s : Sto) : Po Vl := match b with
  | .len => lenV vs s
  | .abs => absV vs s
  | .int => intV vs s
  | .gcd => gcdV vs s
  | .lcm => lcmV vs s
  | .max => maxV vs s
  | .min => minV vs s
  | .sum => sumV vs s
  | .all => allV vs s
  | .any => anyV vs s
  | .tuple => tupV vs s
  | .list => lisV m vs s
  | .dlist => dlisV m vs s
  | .repr => reprV vs s
  | .str => strV vs s
  | .sorted => sortedV m vs s

def putL (n : Nat) (vs : List Vl) (s : Sto) : Sto := s.set n (some (.lst vs))
def setV (o i v : Vl) (s : Sto) : Option Sto := match o, i with
  | .r n, .d (.int k) => (listAt n s).bind fun vs => (L2.ixN vs.length k).map fun j => putL n (vs.set j v) s
  | .r n, .d (.tuple ks) => match v with
    | .d x => (dictAt n s).bind fun kvs => (dStep kvs (.tuple ks) x).map fun q => putD n q s
    | _ => none
  | _, _ => none
def appendV (o : Vl) (xs : List Vl) (s : Sto) : Po Vl := match o, xs with
  | .r n, [v] => (listAt n s).bind fun vs => if vs.length < 16777216 then some (.d .none, putL n (vs ++ [v]) s) else none
  | _, _ => none
def insertV (o : Vl) (xs : List Vl) (s : Sto) : Po Vl := match o, xs with
  | .r n, [.d (.int k), v] => (listAt n s).bind fun vs => if 0 ≤ k ∧ k ≤ (vs.length : Int) ∧ vs.length < 16777216 then some (.d .none, putL n (vs.take k.toNat ++ v :: vs.drop k.toNat) s) else none
  | _, _ => none
def popV (o : Vl) (xs : List Vl) (s : Sto) : Po Vl := match o, xs with
  | .r n, [] => (listAt n s).bind fun vs => (vs[vs.length - 1]?).map fun v => (v, putL n vs.dropLast s)
  | .r n, [.d (.int k)] => (listAt n s).bind fun vs => if 0 ≤ k ∧ k < 16777216 then (vs[k.toNat]?).map fun v => (v, putL n (vs.eraseIdx k.toNat) s) else none
  | _, _ => none
def countV (o : Vl) (xs : List Vl) (s : Sto) : Po Vl := match xs with
  | [.d (.int k)] => ((dataL o s).bind ints?).map fun l => (.d (.int (l.count k : Nat)), s)
  | _ => none
def clearV (o : Vl) (xs : List Vl) (s : Sto) : Po Vl := match o, xs with
  | .r n, [] => (listAt n s).map fun _ => (.d .none, putL n [] s)
  | _, _ => none
def meV (f : Me) (o : Vl) (xs : List Vl) (s : Sto) : Po Vl := match f with
  | .append => appendV o xs s
  | .insert => insertV o xs s
  | .pop => popV o xs s
  | .count => countV o xs s
  | .clear => clearV o xs s
  | _ => none

/-- what is walked -/
inductive Itr where
  | vals (xs : List PyData)
  | ref (n : Nat)
def itrV (v : Vl) (s : Sto) : Option Itr := match v with
  | .d x => (itemsD x).map Itr.vals
  | .r n => (listAt n s).map fun _ => .ref n

/-- the keys of a dict that stays -/
def itdV (v : Vl) : Option Itr := match v with
  | .d (.dict ((k, x) :: r)) => if (keyT k).isSome = true then some (.vals (k :: r.map (·.1))) else none
  | _ => none

/-- a list that is not changed any more: it is told as data, and lost as a place -/
def frzL : List Vl → Sto → Option (List PyData × Sto)
  | [], s => some ([], s)
  | .d x :: r, s => (frzL r s).map fun p => (x :: p.1, p.2)
  | .r k :: r, s => (listAt k s).bind fun vs => (allD vs).bind fun ds => (frzL r (s.set k none)).map fun p => (.list ds :: p.1, p.2)
def frzV (v : Vl) (s : Sto) : Po Vl := match v with
  | .d x => some (.d x, s)
  | .r n => (listAt n s).bind fun vs => (frzL vs s).bind fun p => (listAt n p.2).map fun _ => (.d (.list p.1), p.2.set n none)
/-- a dict that is not changed any more -/
def frdV (v : Vl) (s : Sto) : Po Vl := match v with
  | .r n => (dictAt n s).map fun kvs => (.d (.dict kvs), s.set n none)
  | _ => none
theorem frzL_data : ∀ (ds : List PyData) (s : Sto), frzL (ds.map Vl.d) s = some (ds, s)
  | [], _ => rfl
  | x :: r, s => by
    show (frzL (r.map Vl.d) s).map _ = _
    rw [frzL_data r s]
    rfl
/-- list(range(j)) -/
def lrgV (m : Bool) (x : Vl) (s : Sto) : Po Vl := match x with
  | .d (.int j) => if -1000000 ≤ j ∧ j ≤ 1000000 then mkL m ((List.range j.toNat).map fun i : Nat => Vl.d (.int i)) s else none
  | _ => none

/-! ### expressions -/
def isTrue? : Vl → Option Bool
  | .d (.bool b) => some b
  | _ => none
def optI : Vl → Option Int
  | .d (.int i) => some i
  | _ => none

/-- values of a target's parts -/
def setTg : IE → PyData → Sl → Option Sl
  | .var i, x, e => some (e.set i (some (.d x)))
  | .tup es, .tuple xs, e => setTgs es xs e
  | .tup es, .list xs, e => setTgs es xs e
  | _, _, _ => none
where setTgs : IE → List PyData → Sl → Option Sl
  | .nil, [], e => some e
  | .cons t r, x :: xs, e => (setTg t x e).bind fun e => setTgs r xs e
  | _, _, _ => none
def setTgV (t : IE) (v : Vl) (e : Sl) : Option Sl := match t, v with
  | .var i, v => some (e.set i (some v))
  | t, .d x => setTg t x e
  | _, _ => none
def wipe (e : Sl) : List Nat → Sl
  | [] => e
  | v :: vs => (wipe e vs).set v none

/-- a comprehension's turns over data -/
def cmL (turn : Vl → Sto → Rs (Option Vl)) : List PyData → Sto → Rs (List Vl)
  | [], s => .ok [] s
  | x :: xs, s => (turn (.d x) s).bind fun o s => (cmL turn xs s).bind fun r s => .ok (match o with | some v => v :: r | none => r) s
/-- .. over a list of the store, k turns at most from the place i on -/
def cmR (turn : Vl → Sto → Rs (Option Vl)) (n : Nat) : Nat → Nat → Sto → Rs (List Vl)
  | k, i, s => match listAt n s with
    | none => .no
    | some vs => match vs[i]? with
      | none => .ok [] s
      | some v => match k with
        | 0 => .no
        | k + 1 => (turn v s).bind fun o s => (cmR turn n k (i + 1) s).bind fun r s => .ok (match o with | some v => v :: r | none => r) s
def cmI (turn : Vl → Sto → Rs (Option Vl)) (it : Itr) (s : Sto) : Rs (List Vl) := match it with
  | .vals xs => cmL turn xs s
  | .ref n => cmR turn n ((listAt n s).map List.length |>.getD 0) 0 s

/-- a comprehension of two clauses over data: each turn gives a list -/
def cmLL (turn : Vl → Sto → Rs (List Vl)) : List PyData → Sto → Rs (List Vl)
  | [], s => .ok [] s
  | x :: xs, s => (turn (.d x) s).bind fun a s => (cmLL turn xs s).bind fun r s => .ok (a ++ r) s
/-- a dict comprehension's turns over data -/
def cmD (turn : Vl → Sto → Rs (Option (PyData × PyData))) : List PyData → List (PyData × PyData) → Sto → Rs (List (PyData × PyData))
  | [], acc, s => .ok acc s
  | x :: xs, acc, s => (turn (.d x) s).bind fun o s => match o with
    | none => cmD turn xs acc s
    | some p => match dStep acc p.1 p.2 with
      | some acc => cmD turn xs acc s
      | none => .no
def pairD : Vl → Vl → Option (PyData × PyData)
  | .d k, .d v => some (k, v)
  | _, _ => none

abbrev Cal := Nat → List Vl → Sto → Rs Vl
end SM

/-! SM: the runs of expressions, statements, defs. -/
namespace SM
open PySem

def noex {α : Type} : Rs α → Rs α
  | .ok a s => .ok a s
  | _ => .no
/-- keyword arguments into the parameters' places -/
def permL {α : Type} (vs : List α) : List Nat → Option (List α)
  | [] => some []
  | i :: r => (vs[i]?).bind fun v => (permL vs r).map (v :: ·)
def mkDic : List PyData → List PyData → Option (List (PyData × PyData))
  | [], [] => some []
  | .str k :: ks, v :: vs => (mkDic ks vs).map ((.str k, v) :: ·)
  | _, _ => none
def dicV (ks vs : List Vl) (s : Sto) : Po Vl := (allD ks).bind fun ks => (allD vs).bind fun vs => match ks, vs with
  | [], [] => some (.d (.dict []), s)
  | [.str k], [v] => some (.d (.dict [(.str k, v)]), s)
  | _, _ => none
def zipV (x y : Vl) : Option Itr := match x, y with
  | .d (.list a), .d (.list b) => some (.vals (List.zipWith (fun u v => PyData.tuple [u, v]) a b))
  | .d (.tuple a), .d (.tuple b) => some (.vals (List.zipWith (fun u v => PyData.tuple [u, v]) a b))
  | .d (.list a), .d (.tuple b) => some (.vals (List.zipWith (fun u v => PyData.tuple [u, v]) a b))
  | .d (.tuple a), .d (.list b) => some (.vals (List.zipWith (fun u v => PyData.tuple [u, v]) a b))
  | _, _ => none
def enumV (x : Vl) : Option Itr := match x with
  | .d (.list a) => some (.vals (a.zipIdx.map fun p => PyData.tuple [.int p.2, p.1]))
  | .d (.tuple a) => some (.vals (a.zipIdx.map fun p => PyData.tuple [.int p.2, p.1]))
  | _ => none
def rngV (i j : Int) : Option Itr := if (-1000000 ≤ i ∧ i ≤ 1000000) ∧ -1000000 ≤ j ∧ j ≤ 1000000 then some (.vals ((List.range (j - i).toNat).map fun k : Nat => PyData.int (i + (k : Int)))) else none
def ofO {α : Type} (o : Option α) (s : Sto) : Rs α := match o with
  | some a => .ok a s
  | none => .no

mutual
def ev (C : Cal) : IE → Sl → Sto → Rs Vl
  | .var i, e, s => match e[i]? with
    | some (some v) => .ok v s
    | _ => .no
  | .lit d, _, s => .ok (.d d) s
  | .glob _ d, _, s => .ok (.d d) s
  | .bop m o a b, e, s => (ev C a e s).bind fun x s => (ev C b e s).bind fun y s => ofP (binV m o x y s)
  | .neg a, e, s => (ev C a e s).bind fun x s => match x with
    | .d (.int i) => .ok (.d (.int (-i))) s
    | _ => .no
  | .not a, e, s => (ev C a e s).bind fun x s => match isTrue? x with
    | some b => .ok (.d (.bool (!b))) s
    | none => .no
  | .cmp o a b, e, s => (ev C a e s).bind fun x s => (ev C b e s).bind fun y s => ofO ((cmpV o x y s).map fun b => .d (.bool b)) s
  | .chain o p a b c, e, s => (ev C a e s).bind fun x s => (ev C b e s).bind fun y s => match cmpV o x y s with
    | some true => (ev C c e s).bind fun z s => ofO ((cmpV p y z s).map fun b => .d (.bool b)) s
    | some false => .ok (.d (.bool false)) s
    | none => .no
  | .and es, e, s => ands C es e s
  | .or es, e, s => ors C es e s
  | .ite c a b, e, s => (ev C c e s).bind fun x s => match isTrue? x with
    | some true => ev C a e s
    | some false => ev C b e s
    | none => .no
  | .tup es, e, s => (evs C es e s).bind fun vs s => if vs.length ≤ 16777216 then ofO ((allD vs).map fun ds => .d (.tuple ds)) s else .no
  | .lst m es, e, s => (evs C es e s).bind fun vs s => ofP (mkL m vs s)
  | .rep m es k, e, s => (evs C es e s).bind fun vs s => if vs.length ≤ 1000 then (ev C k e s).bind fun x s => match x with
      | .d (.int k) => if 0 ≤ k ∧ k ≤ 1000 then ofP (mkL m (List.replicate k.toNat vs).flatten s) else .no
      | _ => .no
    else .no
  | .dic ks vs, e, s => (evs C ks e s).bind fun a s => (noex (evs C vs e s)).bind fun b s => ofP (dicV a b s)
  | .idx a i, e, s => (ev C a e s).bind fun x s => (ev C i e s).bind fun y s => ofP (idxV x y s)
  | .sli m a lo hi, e, s => (ev C a e s).bind fun x s => (evo C lo e s).bind fun l s => (evo C hi e s).bind fun h s => ofP (sliV m x l h s)
  | .rev m a, e, s => (ev C a e s).bind fun x s => ofP (revV m x s)
  | .bi m b es, e, s => (evs C es e s).bind fun vs s => ofP (biV m b vs s)
  | .isi a t, e, s => (ev C a e s).bind fun x s => ofO ((isT t x s).map fun b => .d (.bool b)) s
  | .me f a es, e, s => (ev C a e s).bind fun o s => match listV o s with
    | none => .no
    | some _ => (evs C es e s).bind fun vs s => ofP (meV f o vs s)
  | .call f es, e, s => (evs C es e s).bind fun vs s => C f vs s
  | .callk f es ks nms perm, e, s => (evs C es e s).bind fun us s => (evs C ks e s).bind fun vs s => if vs.length = nms.length then (match permL (us ++ vs) perm with
    | some ws => C f ws s
    | none => .no) else .no
  | .comp m elt tg it cnd own, e, s => (itr C it e s).bind fun I s => (noex (cmI (fun v s => match setTgV tg v (wipe e own) with
      | none => .no
      | some e1 => (tst C cnd e1 s).bind fun b s => if b then (ev C elt e1 s).bind fun x s => .ok (some x) s else .ok none s) I s)).bind fun vs s => ofP (mkL m vs s)
  | .comp2 m elt tg it tg2 it2 cnd own own2, e, s => (itr C it e s).bind fun I s => match I with
    | .vals xs => (noex (cmLL (fun v s => match setTgV tg v (wipe e own) with
      | none => .no
      | some e1 => (itr C it2 e1 s).bind fun J s => match J with
        | .vals ys => cmL (fun w s => match setTgV tg2 w (wipe e1 own2) with
          | none => .no
          | some e2 => (tst C cnd e2 s).bind fun b s => if b then (ev C elt e2 s).bind fun x s => .ok (some x) s else .ok none s) ys s
        | .ref _ => .no) xs s)).bind fun vs s => ofP (mkL m vs s)
    | .ref _ => .no
  | .frd a, e, s => (ev C a e s).bind fun x s => ofP (frdV x s)
  | .dnew, _, s => .ok (.r s.length) (s ++ [some (.dct [])])
  | .dcomp m kx vx tg it cnd own, e, s => (itr C it e s).bind fun I s => match I with
    | .vals xs => (noex (cmD (fun v s => match setTgV tg v (wipe e own) with
      | none => .no
      | some e1 => (tst C cnd e1 s).bind fun b s => if b then (ev C kx e1 s).bind fun x s => (ev C vx e1 s).bind fun y s => ofO ((pairD x y).map some) s else .ok none s) xs [] s)).bind fun kvs s => .ok (mkD m kvs s).1 (mkD m kvs s).2
    | .ref _ => .no
  | .frz a, e, s => (ev C a e s).bind fun x s => ofP (frzV x s)
  | .lrg m a, e, s => (ev C a e s).bind fun x s => ofP (lrgV m x s)
  | _, _, _ => .no
def evs (C : Cal) : IE → Sl → Sto → Rs (List Vl)
  | .nil, _, s => .ok [] s
  | .cons a r, e, s => (ev C a e s).bind fun x s => (evs C r e s).bind fun xs s => .ok (x :: xs) s
  | _, _, _ => .no
def ands (C : Cal) : IE → Sl → Sto → Rs Vl
  | .cons a .nil, e, s => ev C a e s
  | .cons a r, e, s => (ev C a e s).bind fun x s => match isTrue? x with
    | some true => ands C r e s
    | some false => .ok (.d (.bool false)) s
    | none => .no
  | _, _, _ => .no
def ors (C : Cal) : IE → Sl → Sto → Rs Vl
  | .cons a .nil, e, s => ev C a e s
  | .cons a r, e, s => (ev C a e s).bind fun x s => match isTrue? x with
    | some false => ors C r e s
    | some true => .ok (.d (.bool true)) s
    | none => .no
  | _, _, _ => .no
def evo (C : Cal) : IE → Sl → Sto → Rs (Option Int)
  | .nil, _, s => .ok none s
  | .cons a _, e, s => (ev C a e s).bind fun x s => ofO ((optI x).map some) s
  | _, _, _ => .no
def tst (C : Cal) : IE → Sl → Sto → Rs Bool
  | .nil, _, s => .ok true s
  | .cons a _, e, s => (ev C a e s).bind fun x s => ofO (isTrue? x) s
  | _, _, _ => .no
def itr (C : Cal) : IE → Sl → Sto → Rs Itr
  | .rng1 a, e, s => (ev C a e s).bind fun x s => ofO ((optI x).bind (rngV 0)) s
  | .rng2 a b, e, s => (ev C a e s).bind fun x s => (ev C b e s).bind fun y s => ofO ((optI x).bind fun i => (optI y).bind (rngV i)) s
  | .zip a b, e, s => (ev C a e s).bind fun x s => (ev C b e s).bind fun y s => ofO (zipV x y) s
  | .enum a, e, s => (ev C a e s).bind fun x s => ofO (enumV x) s
  | .itv a, e, s => (ev C a e s).bind fun x s => ofO (itrV x s) s
  | .itd a, e, s => (ev C a e s).bind fun x s => ofO (itdV x) s
  | _, _, _ => .no
end

/-! ### except suites -/
mutual
def evH (c : Nat) (v : Vl) : HE → Sl → Sto → Rs Vl
  | .var i, e, s => match e[i]? with
    | some (some v) => .ok v s
    | _ => .no
  | .lit d, _, s => .ok (.d d) s
  | .exv, _, s => .ok v s
  | .exi l, _, s => .ok (.d (.bool (inCls l c))) s
  | .lst m es, e, s => (evHs c v es e s).bind fun vs s => ofP (mkL m vs s)
  | .tup es, e, s => (evHs c v es e s).bind fun vs s => if vs.length ≤ 16777216 then ofO ((allD vs).map fun ds => .d (.tuple ds)) s else .no
  | .add m a b, e, s => (evH c v a e s).bind fun x s => (evH c v b e s).bind fun y s => ofP (binV m .add x y s)
  | _, _, _ => .no
def evHs (c : Nat) (v : Vl) : HE → Sl → Sto → Rs (List Vl)
  | .nil, _, s => .ok [] s
  | .cons a r, e, s => (evH c v a e s).bind fun x s => (evHs c v r e s).bind fun xs s => .ok (x :: xs) s
  | _, _, _ => .no
end
def exH (c : Nat) (v : Vl) : List (Nat × HE) → Sl → Sto → Rs Sl
  | [], e, s => .ok e s
  | p :: r, e, s => (evH c v p.2 e s).bind fun x s => exH c v r (e.set p.1 (some x)) s

/-! ### statements -/
def liftR (e : Sl) : Rs Sl → Fl
  | .ok e' s => .nx e' s
  | .ex c v s => .ex c v e s
  | .no => .no
/-- a value goes to a target -/
def asgT (C : Cal) (tg : IE) (v : Vl) (e : Sl) (s : Sto) : Rs Sl := match tg with
  | .idx a i => (ev C a e s).bind fun o s => (ev C i e s).bind fun k s => match setV o k v s with
    | some s => .ok e s
    | none => .no
  | t => ofO (setTgV t v e) s
/-- how many -/
def ieLen : IE → Nat
  | .cons _ r => ieLen r + 1
  | _ => 0
/-- values go to targets -/
def asgs (C : Cal) : IE → List Vl → Sl → Sto → Fl
  | .nil, [], e, s => .nx e s
  | .cons t r, v :: vs, e, s => match asgT C t v e s with
    | .ok e' s' => asgs C r vs e' s'
    | .ex c v s => .ex c v e s
    | .no => .no
  | _, _, _, _ => .no
def goL (turn : Vl → Sl → Sto → Fl) : List PyData → Sl → Sto → Fl
  | [], e, s => .nx e s
  | x :: xs, e, s => match turn (.d x) e s with
    | .nx e s => goL turn xs e s
    | .ct e s => goL turn xs e s
    | .bk e s => .nx e s
    | .rt v s => .rt v s
    | .ex c v e s => .ex c v e s
    | .no => .no
def goR (turn : Vl → Sl → Sto → Fl) (n : Nat) : Nat → Nat → Sl → Sto → Fl
  | k, i, e, s => match listAt n s with
    | none => .no
    | some vs => match vs[i]? with
      | none => .nx e s
      | some v => match k with
        | 0 => .no
        | k + 1 => match turn v e s with
          | .nx e s => goR turn n k (i + 1) e s
          | .ct e s => goR turn n k (i + 1) e s
          | .bk e s => .nx e s
          | .rt v s => .rt v s
          | .ex c v e s => .ex c v e s
          | .no => .no
def goI (turn : Vl → Sl → Sto → Fl) (it : Itr) (e : Sl) (s : Sto) : Fl := match it with
  | .vals xs => goL turn xs e s
  | .ref n => goR turn n ((listAt n s).map List.length |>.getD 0) 0 e s
def whL (c : Sl → Sto → Rs Vl) (b : Sl → Sto → Fl) : Nat → Sl → Sto → Fl
  | 0, _, _ => .no
  | n + 1, e, s => match c e s with
    | .ok v s => match isTrue? v with
      | some true => match b e s with
        | .nx e s => whL c b n e s
        | .ct e s => whL c b n e s
        | .bk e s => .nx e s
        | .rt v s => .rt v s
        | .ex c v e s => .ex c v e s
        | .no => .no
      | some false => .nx e s
      | none => .no
    | .ex c v s => .ex c v e s
    | .no => .no
def exS (C : Cal) (fu : Nat) : IS → Sl → Sto → Fl
  | .nil, e, s => .nx e s
  | .cons a r, e, s => match exS C fu a e s with
    | .nx e s => exS C fu r e s
    | f => f
  | .asg tg a, e, s => liftR e ((ev C a e s).bind fun v s => asgT C tg v e s)
  | .par t u a b, e, s => liftR e ((ev C a e s).bind fun v s => (ev C b e s).bind fun w s => (asgT C t v e s).bind fun e s => asgT C u w e s)
  | .par3 i j k a b c, e, s => liftR e ((ev C a e s).bind fun v s => (ev C b e s).bind fun w s => (ev C c e s).bind fun x s => .ok (((e.set i (some v)).set j (some w)).set k (some x)) s)
  | .ptup ts es, e, s => match evs C es e s with
    | .ok vs s => if vs.length = ieLen ts ∧ vs.length ≤ 16777216 then asgs C ts vs e s else .no
    | .ex c v s => .ex c v e s
    | .no => .no
  | .aug i o a, e, s => match e[i]? with
    | some (some (.d (.int x))) => liftR e ((ev C a e s).bind fun y s => match y with
      | .d (.int y) => ofO ((binI o x y).map fun z => e.set i (some (.d (.int z)))) s
      | _ => .no)
    | _ => .no
  | .ite c a b, e, s => match ev C c e s with
    | .ok v s => match isTrue? v with
      | some true => exS C fu a e s
      | some false => exS C fu b e s
      | none => .no
    | .ex c v s => .ex c v e s
    | .no => .no
  | .forr tg it body, e, s => match itr C it e s with
    | .ok I s => goI (fun v e s => match setTgV tg v e with
      | none => .no
      | some e => exS C fu body e s) I e s
    | .ex c v s => .ex c v e s
    | .no => .no
  | .whil c body, e, s => whL (ev C c) (exS C fu body) fu e s
  | .ret a, e, s => match ev C a e s with
    | .ok v s => .rt v s
    | .ex c v s => .ex c v e s
    | .no => .no
  | .expr a, e, s => match ev C a e s with
    | .ok _ s => .nx e s
    | .ex c v s => .ex c v e s
    | .no => .no
  | .pass, e, s => .nx e s
  | .brk, e, s => .bk e s
  | .cont, e, s => .ct e s
  | .never, _, _ => .no
  | .rais c a, e, s => match ev C a e s with
    | .ok v s => .ex c v e s
    | .ex c v s => .ex c v e s
    | .no => .no
  | .tryx b i l h, e, s => match exS C fu b e s with
    | .ex c v e s => if inCls l c = true then (match exH c v h (e.set i none) s with
      | .ok e s => .nx (e.set i none) s
      | _ => .no) else .ex c v e s
    | .nx e s => .nx e s
    | .rt v s => .rt v s
    | .bk e s => .bk e s
    | .ct e s => .ct e s
    | .no => .no
  | .vfz i, e, s => match e[i]? with
    | some (some v) => (match frzV v s with
      | some p => .nx (e.set i (some p.1)) p.2
      | none => .no)
    | _ => .no

/-! ### defs -/
structure Df where
  np : Nat
  ns : Nat
  body : IS
def ltV (n : Nat) : Vl → Prop
  | .d _ => True
  | .r k => k < n
def ltO (n : Nat) : Option Ob → Prop
  | some (.lst vs) => ∀ v ∈ vs, ltV n v
  | some (.dct _) => True
  | none => True
/-- what was made within may be forgotten -/
def Cut (s₀ : Sto) (v : Vl) (s : Sto) : Prop := ltV s₀.length v ∧ ∀ i, i < s₀.length → s[i]? = s₀[i]? ∨ ∀ o, s[i]? = some o → ltO s₀.length o
open Classical in
noncomputable def leave (s₀ : Sto) : Fl → Rs Vl
  | .rt v s => if Cut s₀ v s then .ok v (s.take s₀.length) else .ok v s
  | .nx _ s => if Cut s₀ (.d .none) s then .ok (.d .none) (s.take s₀.length) else .ok (.d .none) s
  | .ex c v _ s => .ex c v s
  | _ => .no
noncomputable def callI (P : List Df) (fu : Nat) : Nat → Cal
  | 0 => fun _ _ _ => .no
  | k + 1 => fun f vs s => match P[f]? with
    | some F => if vs.length = F.np then leave s (exS (callI P fu k) fu F.body (vs.map some ++ List.replicate (F.ns - F.np) none) s) else .no
    | none => .no
end SM

set_option maxHeartbeats 1000000
/-! SM: the errors' own __init__: super().__init__(text), then self.value = value. -/
namespace SM
open PySem L2 PySem.Spec PyProof.Rows
/-- ValueError.__init__ bound to an error and called -/
theorem bound_init {prog : Program} {w : World} {A : Around} {E : Value → Shared → Prop} {s : Shared} {nm q : Str} {C N : Addr} {bs bm : List Value} {hdct : Bool} {sn : List Str} {sub : List Value} {ab : Bool} {col : Option Bool} {dd : Option Addr} {k0 k1 k2 k3 k5 : Option Value}
    {u e t0 : Addr} {rest : List Value} {Q : Value → Shared → Prop} (hC : s.heap.get? C = some (excClassObj nm q C N bs bm hdct sn sub ab col dd k0 k1 k2 k3 k5 "ValueError.__new__"))
    (he : s.heap.get? e = some (PySem.HandSPX.excO C t0)) (hu : s.heap.get? u = some (PySem.W.kxs_mw "ValueError.__init__" e)) (hrest : rest.length ≤ sizeLine)
    (hq : ∀ h' t1, (∀ b o, b ≠ e → s.heap.get? b = some o → h'.get? b = some o) → h'.get? e = some (PySem.HandSPX.excO C t1) → Q .none { s with heap := h' }) :
    wpAny (model prog w) A (call (.ref u) rest) Q E s := by
  obtain ⟨hp, g, d, t, os⟩ := s
  have FB := F.excBase_ValueError
  refine wpAny_call (codeAny_of_tree ?_)
  show wpAny _ A.in1 (callAny (.ref u) ⟨rest, []⟩) _ _ _
  unfold callAny
  dsimp only
  refine wpAny_bind (wpAny_load hu ?_)
  dsimp only [PySem.W.kxs_mw]
  refine PySem.W.KFB.if_so (by decide) ?_
  refine wpAny_bind (PySem.W.check_bound_init FB.toExcCallFacts hC he rfl ?_)
  refine wpAny_bind (wpAny_pure (wpAny_pure ?_))
  refine ⟨Code.quiet_builtin _ (by decide +kernel), codeAny_builtin FB.initEntry ?_⟩
  rw [Around.under_plainId FB.init.plain _]
  wp_walk
  refine hq _ hp.objs.size (fun b o hb ho => ?_) ?_
  · have z := Heap.get?_push_of_some { cls := .type "tuple", data := .seq rest.toArray } ho
    rw [Heap.get?_update_other _ _ (fun y => hb y.symm)]
    exact z
  · have z := Heap.get?_push_of_some { cls := .type "tuple", data := .seq rest.toArray } he
    rw [Heap.get?_update_self _ z rfl]
    rfl

/-- what the head tells of the errors' base class D, its __init__ (a function at fI, its code at cda) and the cell of __class__ -/
structure IniK (P : Program) (K : PySem.W.Frag) (mg : Str → Option Value) (D fI cda cc : Addr) (qual : Str) (params : Arguments) (body : List Stmt) (scope : Scope) : Prop where
  fn : ∃ oc od osl doc pm ctv, K.lookup fI = some ⟨oc, od, .func (PySem.W.fnX "__init__" qual params body scope [("__class__", cc)] .none .none doc pm none (.ref cda) ctv), osl⟩
  code : PySem.W.codeIn K (.ref cda) qual = true
  file : ∃ ccl cdd vs ccs file tf, K.lookup cda = some ⟨ccl, cdd, .fields vs, ccs⟩ ∧ vs[2]? = some (.str file tf) ∧ ((P.main.file : Str) == file) = true
  cell : ∃ cl cld csl, K.lookup cc = some ⟨cl, cld, .cell (some (.ref D)), csl⟩
  cls : ∃ cdD, PySem.W.clsIn K D = some cdD
  sup : mg "super" = none
  top : (P.main.scope.names.lookup ("super" : Str)).isSome = false
  any : PySem.W.nsIn K cStatics "thirdparty.any" = some none
  typ : PySem.W.typeIn K (.ref fI) = some (.type "function")
/-- .. of a class C below it -/
structure IniC (K : PySem.W.Frag) (D C : Addr) : Prop where
  oex : OexC K C
  mro : PySem.W.mroIn K C (.ref D) = some true
  cd : ∃ cd, PySem.W.clsIn K C = some cd
  sup : PySem.W.ks_superIn K C D "__init__" = some (some (.builtin "ValueError.__init__"))
  ve : PySem.W.subIn K (.ref C) (.type "ValueError") = some true
  noat : PySem.W.findIn K (.ref C) "value" = some none
def spIni (K : PySem.W.Frag) (D : Addr) : Sp := fun xs H Q _ => ∃ a C y, xs = [.ref a, y] ∧ IniC K D C ∧ H a = some (exo a C none) ∧ ∀ dx, H dx = none → dx ≠ a → Q .non (upd (upd H dx (exd dx [("value", y)])) a (exo a C (some dx)))
def iniScope : Scope := { kind := .function, names := [("self", .local), ("value", .local), ("__class__", .free), ("super", .globalImplicit)], isGenerator := false, isCoroutine := false, more := [] }
def iniBody (t : Str) (p0 p1 p2 p3 p4 p5 p6 p7 p8 p9 : Pos) : List Stmt := [.Expr (.Call (.Attribute (.Call (.Name "super" p0) [] [] p1) "__init__" p2) [.Constant (.str t) 0 p3] [] p4) p5, .Assign [.Attribute (.Name "self" p6) "value" p7] (.Name "value" p8) p9]
def iniArgs (a b : Pos) : Arguments := { posonlyargs := [], args := [{ arg := "self", annotation := none, pos := a }, { arg := "value", annotation := none, pos := b }], vararg := none, kwonlyargs := [], kw_defaults := [], kwarg := none, defaults := [] }

open NdefX
theorem ini_scope : NScope ["self", "value", "__class__"] ["self", "value"] ["__class__"] iniScope := nscope_by (by decide)
theorem ini_ok {P : Program} {w : World} {K : PySem.W.Frag} {mg : Str → Option Value} {base : Heap} {D fI cda cc : Addr} {qual t : Str} {pa pb p0 p1 p2 p3 p4 p5 p6 p7 p8 p9 : Pos}
    (Z : IniK P K mg D fI cda cc qual (iniArgs pa pb) (iniBody t p0 p1 p2 p3 p4 p5 p6 p7 p8 p9) iniScope) (hline : (p2.endLine == p4.line) = true) :
    ∃ fd, FnOk P w K mg base (L2.CX P w) 1 fI fd ["self", "value"] (spIni K D) ∧ Binds K fd ["self", "value"] [] := by
  obtain ⟨oc, od, osl, doc, pm, ctv, lk⟩ := Z.fn
  let F : NF := ⟨"__init__", qual, iniArgs pa pb, iniBody t p0 p1 p2 p3 p4 p5 p6 p7 p8 p9, iniScope, [("__class__", cc)], cda⟩
  refine ⟨F.fd doc pm ctv, ⟨fun vs H Q E h => ?_, fun A outer s H args us vs Q E hr e0 hb r hsp => ?_⟩, ?_⟩
  rotate_left 2
  · refine Binds.all fun us hu => ?_
    match us, hu with
    | [a, b], _ => rfl
  · obtain ⟨a, C, y, rfl, _⟩ := h
    rfl
  obtain ⟨a, C, y, rfl, Z2, ha, hQ⟩ := hsp
  obtain ⟨u0, u1, rfl⟩ : ∃ u0 u1, us = [u0, u1] := by
    have := r.length
    match us, this with
    | [u0, u1], _ => exact ⟨u0, u1, rfl⟩
  have r0 : u0 = .ref a := by cases r; assumption
  have hl : ([.ref a, y] : List V).length = (["self", "value"] : List Str).length := rfl
  have KX : K.In s.heap := e0.mod.kin.keeps fun b o e => (e0.bs b o e).1
  have lim : s.heap.NoLimit := e0.mod.nolimit.keeps fun b o e => (e0.bs b o e).1
  obtain ⟨cl, cld, csl, lcc⟩ := Z.cell
  have hcc := KX _ _ lcc
  have hccB := e0.mod.kin _ _ lcc
  have cells : CellsAt F.cl ["__class__"] [none] s.heap H := by
    have only : ∀ y c, F.cl.lookup y = some c → y = "__class__" ∧ c = cc := fun y c e => by
      have e : (((("__class__" : Str), cc) :: ([] : List (Str × Addr)))).lookup y = some c := e
      simp only [List.lookup] at e
      split at e
      · rename_i q
        exact ⟨beq_iff_eq.mp q, (Option.some.inj e).symm⟩
      · cases e
    refine ⟨rfl, fun y c e => ?_, fun x y c e1 e2 => ?_, fun i y e => ?_⟩
    · obtain ⟨_, rfl⟩ := only y c e
      exact ⟨(e0.bs _ _ hccB).2, _, ⟨_, hcc, rfl⟩⟩
    · rw [(only x c e1).1, (only y c e2).1]
    · match i, e with
      | 0, e =>
        cases e
        exact ⟨cc, by simp [F, List.lookup], fun v z => by cases z⟩
      | i + 1, e => simp at e
  have loc : ∀ x ∈ [(("self" : Str), u0), ("value", u1)], iniScope.names.lookup x.1 = some .local := fun x hx => by
    rcases List.mem_cons.mp hx with rfl | hx
    · rfl
    · rcases List.mem_cons.mp hx with rfl | hx
      · rfl
      · cases hx
  refine PySem.ks_codeAny_call_defAt (fd := F.fd doc pm ctv) (body := F.body) (binds := [("self", u0), ("value", u1)]) hr.depth (KX _ _ lk) rfl lim (PySem.W.codeRec_of KX Z.code) rfl hb (show ∀ x ∈ iniScope.names, x.2 ≠ .cell by decide) loc (fun h₁ hns kp => ?_) rfl rfl rfl
  have I0 : Inv (ncx (L2.CX P w) P w K mg base ["self", "value", "__class__"] F fI A outer s H E) [] (startF ["self", "value", "__class__"] [.ref a, y] [none]) H { s with heap := h₁, toks := s.toks + 2 } :=
    inv_startN ini_scope hr.hd e0 hl r cells hns kp
  obtain ⟨hp, g, dr, tk, os⟩ := s
  show PySem.wpAt _ _ (.func F.body (envF F fI hp.objs.size)) (execs F.body (envF F fI hp.objs.size)) _ _ ⟨h₁, g, dr, tk + 2, os⟩
  have K1 : K.In h₁ := I0.kIn
  obtain ⟨ccl, cdd, fvs, ccs, file, tf, lcd, hfv, hfile⟩ := Z.file
  obtain ⟨nm, q, N, bs, bm, sn, sub, ab, col, dd, k0, k1, k2, k3, k5, hC, hbm⟩ := Z2.oex.cls
  obtain ⟨t1, ho⟩ := exo_at I0.hok ha
  obtain ⟨cdD, hD⟩ := Z.cls
  obtain ⟨oD, hD1, hD2⟩ : ∃ oD, h₁.get? D = some oD ∧ oD.data = .cls cdD := by
    unfold PySem.W.clsIn at hD
    split at hD
    · rename_i e
      cases hD
      exact ⟨_, K1 _ _ e, rfl⟩
    · cases hD
  obtain ⟨cd, hcd⟩ := Z2.cd
  obtain ⟨mb, hmb, hmb2⟩ := e0.mod.blt
  have hev : eval (.Call (.Attribute (.Call (.Name "super" p0) [] [] p1) "__init__" p2) [.Constant (.str t) 0 p3] [] p4) (envF F fI hp.objs.size) = (do
      let ov ← attributeBase (.Call (.Name "super" p0) [] [] p1) "__init__" (envF F fI hp.objs.size) (eval (.Call (.Name "super" p0) [] [] p1) (envF F fI hp.objs.size))
      standAt p2.atName
      let (f, first) ← holding [ov] (getMethod ov "__init__" (L2.plainOf (.Call (.Name "super" p0) [] [] p1) (envF F fI hp.objs.size)))
      callWith p4 f first (backTo p4 (starEach [.Constant (.str t) 0 p3] (envF F fI hp.objs.size))) []) := by
    show (do
      let ov ← attributeBase (.Call (.Name "super" p0) [] [] p1) "__init__" (envF F fI hp.objs.size) (eval (.Call (.Name "super" p0) [] [] p1) (envF F fI hp.objs.size))
      standAt p2.atName
      methodCall (.Call (.Name "super" p0) [] [] p1) "__init__" p2 p4 (envF F fI hp.objs.size) ov 1 (backTo p4 (starEach [.Constant (.str t) 0 p3] (envF F fI hp.objs.size))) []) = _
    congr 1
    funext ov
    rw [L2.mcall_line rfl hline]
  refine PySem.ks_wpAt_execs_cons (PySem.ks_wpAt_Expr_any (PySem.ks_wpAt_MethodCall ?_ hev))
  refine PySem.ks_wpAt_super_base (env := envF F fI hp.objs.size) rfl rfl (by decide) rfl (kp _ _ (KX _ _ lk)) rfl rfl rfl (K1 _ _ lcd) rfl hfv hfile Z.top ?_
  refine PySem.W.ks_loadName_global rfl rfl (Calls.loadGlobal_builtin (env := envF F fI hp.objs.size) (e0.mod.glob.keeps fun b o e => I0.bk b o e) Z.sup (hmb.keeps fun b o e => I0.bk b o e) ((hmb2 _ (by decide)).trans (by first | rfl | kernel_rfl)) ⟨rfl, ?_⟩)
  refine wpAny_loadName_free rfl rfl rfl ⟨_, K1 _ _ lcc, rfl⟩ ?_
  refine wpAny_loadName_local (v := .ref a) rfl rfl hns (by rw [r0]; rfl) ?_
  refine ks_wpAny_isType_cls hD1 hD2 ⟨rfl, ?_⟩
  refine ks_wpAny_call_super hD1 hD2 ho rfl (fun c e => by cases e) (PySem.W.looks_mroIn K1 Z2.mro) (fun h2 e2 k2 => ?_)
  have K2 : K.In h2 := K1.keeps k2
  have I2 : PySem.W.InstAt h2 a { cls := .ref C, dict := none, data := .fields #[.ref t1, .none, .none, .none, .bool false, .none] } C none := ⟨k2 _ _ ho, rfl, rfl, trivial⟩
  have hne : a ≠ C := PySem.W.ks_ne K2 I2 hcd
  have hsup := Z2.sup
  unfold PySem.W.ks_superIn at hsup
  rw [hcd] at hsup
  refine PySem.W.kxs_getMethod PySem.W.kxs_ValueError e2 (PySem.W.looks_opaque K2 Z.any) (l₀ := cd.mro) (fun A Q E s k q => wpAny_bind ((PySem.W.looks_clsIn K2 hcd) A _ E s k (wpAny_pure q))) rfl K2 hsup (I2.type.andThen (PySem.W.looks_subIn K2 Z2.ve)) hne (by decide) ?_
  generalize hob : PySem.W.kxs_mw "ValueError.__init__" a = ob
  have k3 : ∀ b o, h₁.get? b = some o → (h2.push ob).get? b = some o := fun b o e => Heap.get?_push_of_some _ (k2 b o e)
  have I3 := I0.kept (t' := tk + 2 + 1) k3
  have hu3 : (h2.push ob).get? h2.objs.size = some (PySem.W.kxs_mw "ValueError.__init__" a) := by rw [hob]; exact Heap.get?_push_at rfl (by rw [← hob]; rfl)
  refine PySem.W.kxs_callWith (i := "ValueError.__init__") (x := a) rfl ?_
  refine Calls.evalArgs_plain ?_
  show wpAny _ _ (spliced ((false, eval (.Constant (.str t) 0 p3) (envF F fI hp.objs.size)) :: [])) _ _ _
  refine Calls.spliced_cons (Calls.Constant_str (Calls.spliced_nil ⟨hu3, ?_⟩))
  have hC3 := k3 _ _ (K1 _ _ hC)
  refine bound_init hC3 (k3 _ _ ho) hu3 (by show 1 ≤ sizeLine; rw [sizeLine_eq]; omega) fun h4 t4 k4 e4 => ?_
  have I4 : Inv (ncx (L2.CX P w) P w K mg base ["self", "value", "__class__"] F fI A outer ⟨hp, g, dr, tk, os⟩ H E) [] (startF ["self", "value", "__class__"] [.ref a, y] [none]) (upd H a (exo a C none)) ⟨h4, g, dr, tk + 2 + 1 + 1, os⟩ :=
    I3.write (t' := tk + 2 + 1 + 1) (x := a) (e := a) (o := exo a C none) (by rw [ha]; exact True.intro) (.inl rfl) k4 ⟨_, e4⟩ (exo_ok e4)
  have eu : upd H a (exo a C none) = H := by
    funext b
    by_cases hb : b = a
    · rw [hb, upd_same, ha]
    · rw [upd_ne hb]
  rw [eu] at I4
  have st : PSs (ncx (L2.CX P w) P w K mg base ["self", "value", "__class__"] F fI A outer ⟨hp, g, dr, tk, os⟩ H E) [.Assign [.Attribute (.Name "self" p6) "value" p7] (.Name "value" p8) p9] _ :=
    pss_cons (ps_ost (pe_var (i := 0) rfl (.inl rfl)) (pe_var (i := 1) rfl (.inl rfl))) pss_nil
  refine wpAt_of_wpAny (wpAny_mono (st.run [] _ _ _ { nx := fun _ H' => Q .non H', rt := Q } I4 ?_) (fun fl s' hs => ?_) fun e s' hs => hs)
  · exact ⟨y, rfl, .ref a, rfl, a, C, rfl, Z2.oex, Z2.noat, .inl ⟨ha, fun dx h1 h2 => hQ dx h1 h2⟩⟩
  have fin : ∀ {σ' : L2.St} {H' : Hp} {v : V} {u : Value}, Inv (ncx (L2.CX P w) P w K mg base ["self", "value", "__class__"] F fI A outer ⟨hp, g, dr, tk, os⟩ H E) [] σ' H' s' → L2.RelV v u → Q v H' → CE outer P w H ⟨hp, g, dr, tk, os⟩ Q u s' :=
    fun {σ' H' v u} J rv q => ⟨v, H', J.os, J.bare, J.base, J.hok, rv, q⟩
  cases fl with
  | ret u =>
    obtain ⟨v, σ', H', J, rv, q⟩ := hs
    exact fin J rv q
  | next =>
    obtain ⟨σ', H', J, q⟩ := hs
    exact fin (v := V.non) (u := Value.none) J rfl q
  | brk =>
    obtain ⟨_, _, _, q⟩ := hs
    exact False.elim q
  | cont =>
    obtain ⟨_, _, _, q⟩ := hs
    exact False.elim q
end SM

/-! SM: how plain data and the store lie in HandS's heap. -/
namespace SM
open PySem L2

/-- where the store's lists lie; what lies beside them and is still changed (a comprehension's list) -/
structure Mu where
  l : List (Option Addr)
  hid : List Addr
def inL (m : Mu) (a : Addr) : Prop := some a ∈ m.l
def inM (m : Mu) (a : Addr) : Prop := inL m a ∨ a ∈ m.hid
def KL (K : PySem.W.Frag) (a : Addr) (xs : List V) : Prop := ∃ (o : Obj) (its : Array Value) (n : Nat), K.lookup a = some o ∧ o.cls = .type "list" ∧ o.dict = none ∧ o.data = .seq its n ∧ its.size ≤ sizeLine ∧ Vals xs its.toList
def KT (K : PySem.W.Frag) (a : Addr) (xs : List V) : Prop := ∃ (o : Obj) (its : Array Value) (n : Nat), K.lookup a = some o ∧ o.cls = .type "tuple" ∧ o.data = .seq its n ∧ its.size ≤ sizeLine ∧ Vals xs its.toList
def LsA (K : PySem.W.Frag) (m : Mu) (H : Hp) (a : Addr) (xs : List V) : Prop := (¬ inM m a ∧ Rd H a (.lst xs)) ∨ KL K a xs
def TpA (K : PySem.W.Frag) (m : Mu) (H : Hp) (a : Addr) (xs : List V) : Prop := (¬ inM m a ∧ Rd H a (.tup xs)) ∨ KT K a xs
theorem LsA.sq {K : PySem.W.Frag} {m : Mu} {H : Hp} {a : Addr} {xs : List V} (h : LsA K m H a xs) : SqL K H a xs := h.elim (fun x => .inl x.2) .inr
theorem TpA.sq {K : PySem.W.Frag} {m : Mu} {H : Hp} {a : Addr} {xs : List V} (h : TpA K m H a xs) : SqT K H a xs := h.elim (fun x => .inl x.2) .inr

def keyD : PyData → Key → Prop
  | .int i, k => k = .inl i
  | .str x, k => k = .inr x
  | _, _ => False
/-- a dict whose keys are nested tuples, by its entries: keys, where the keys' tuples stand, values -/
def DctP (a : Addr) (xs : List (NestedKey × Addr × Value)) (h : Heap) : Prop := (a == sysModules) = false ∧ xs.length ≤ sizeLine ∧ ∃ o es ep, h.get? a = some o ∧ o.ExactDict ∧ o.data = .dict es ep ∧ (∀ (P : Program) (w : World), es.toList = xs.map (entryOfKey (nestedKind P w))) ∧ (xs.map (·.1)).Nodup
def DctO (a : Addr) (xs : List (NestedKey × Addr × Value)) : HO := .ext (DctP a xs)
mutual
def Rep (K : PySem.W.Frag) (m : Mu) (H : Hp) : PyData → V → Prop
  | .none, v => v = .non
  | .bool b, v => v = .bl b
  | .int i, v => v = .int i
  | .str x, v => v = .str x
  | .list xs, v => ∃ a vs, v = .ref a ∧ LsA K m H a vs ∧ Reps K m H xs vs
  | .tuple xs, v => ∃ a vs, v = .ref a ∧ TpA K m H a vs ∧ Reps K m H xs vs
  | .dict kvs, v => ∃ a, v = .ref a ∧ ¬ inM m a ∧ ((∃ ks, H a = some (.dK ks) ∧ RepKv K m H kvs ks) ∨ ∃ o xs, H a = some (.frz o (DctO a xs)) ∧ RepD K m H kvs xs)
def Reps (K : PySem.W.Frag) (m : Mu) (H : Hp) : List PyData → List V → Prop
  | [], vs => vs = []
  | x :: xs, vs => ∃ v r, vs = v :: r ∧ Rep K m H x v ∧ Reps K m H xs r
def RepKv (K : PySem.W.Frag) (m : Mu) (H : Hp) : List (PyData × PyData) → List (Key × V) → Prop
  | [], vs => vs = []
  | (k, x) :: xs, vs => ∃ j v r, vs = (j, v) :: r ∧ keyD k j ∧ Rep K m H x v ∧ RepKv K m H xs r
def RepD (K : PySem.W.Frag) (m : Mu) (H : Hp) : List (PyData × PyData) → List (NestedKey × Addr × Value) → Prop
  | [], vs => vs = []
  | (k, x) :: xs, vs => ∃ q b v u r, vs = (q, b, u) :: r ∧ keyT k = some q ∧ Rep K m H k (.ref b) ∧ Rep K m H x v ∧ L2.RelV v u ∧ RepD K m H xs r
end
def RV (K : PySem.W.Frag) (m : Mu) (H : Hp) : Vl → V → Prop
  | .d x, v => Rep K m H x v
  | .r n, v => n < m.l.length ∧ ∀ a, m.l[n]? = some (some a) → v = .ref a
def RVs (K : PySem.W.Frag) (m : Mu) (H : Hp) : List Vl → List V → Prop
  | [], vs => vs = []
  | x :: xs, vs => ∃ v r, vs = v :: r ∧ RV K m H x v ∧ RVs K m H xs r
/-- what stands at a place of the store -/
def RO (K : PySem.W.Frag) (m : Mu) (H : Hp) (a : Addr) : Ob → Prop
  | .lst vs => ∃ ws, H a = some (.lst ws) ∧ RVs K m H vs ws
  | .dct kvs => ∃ xs, H a = some (DctO a xs) ∧ RepD K m H kvs xs
structure RS (K : PySem.W.Frag) (m : Mu) (H : Hp) (s : Sto) : Prop where
  len : m.l.length = s.length
  ot : ∀ (n : Nat) (o : Ob), s[n]? = some (some o) → ∃ a, m.l[n]? = some (some a) ∧ RO K m H a o
  dead : ∀ n : Nat, s[n]? = some none → m.l[n]? = some none
  inj : ∀ (i j : Nat) (a : Addr), m.l[i]? = some (some a) → m.l[j]? = some (some a) → i = j
  hd : ∀ a ∈ m.hid, H a ≠ none ∧ ¬ inL m a
theorem RS.at_ {K : PySem.W.Frag} {m : Mu} {H : Hp} {s : Sto} (r : RS K m H s) (n : Nat) (vs : List Vl) (q : s[n]? = some (some (Ob.lst vs))) : ∃ a ws, m.l[n]? = some (some a) ∧ H a = some (.lst ws) ∧ RVs K m H vs ws :=
  let ⟨a, h1, ws, h2, h3⟩ := r.ot n _ q; ⟨a, ws, h1, h2, h3⟩
theorem RS.at_d {K : PySem.W.Frag} {m : Mu} {H : Hp} {s : Sto} (r : RS K m H s) (n : Nat) (kvs : List (PyData × PyData)) (q : s[n]? = some (some (Ob.dct kvs))) : ∃ a xs, m.l[n]? = some (some a) ∧ H a = some (DctO a xs) ∧ RepD K m H kvs xs :=
  let ⟨a, h1, ws, h2, h3⟩ := r.ot n _ q; ⟨a, ws, h1, h2, h3⟩
structure RE (K : PySem.W.Frag) (m : Mu) (H : Hp) (e : Sl) (σ : L2.St) : Prop where
  len : e.length = σ.length
  at_ : ∀ (i : Nat) (v : Vl), e[i]? = some (some v) → ∃ x, σ[i]? = some (some x) ∧ RV K m H v x
def Kp (m : Mu) (H : Hp) (m' : Mu) (H' : Hp) : Prop := ∀ a o, H a = some o → ¬ inM m a → H' a = some o ∧ ¬ inM m' a
/-- what stood stands -/
structure Wk (m : Mu) (H : Hp) (m' : Mu) (H' : Hp) : Prop where
  kp : Kp m H m' H'
  len : m.l.length ≤ m'.l.length
  pl : ∀ n : Nat, n < m.l.length → m'.l[n]? = m.l[n]? ∨ m'.l[n]? = some none
structure Ext (m : Mu) (H : Hp) (m' : Mu) (H' : Hp) : Prop where
  kl : ∀ a o, H a = some o → ¬ inL m a → H' a = some o ∧ ¬ inL m' a
  len : m.l.length ≤ m'.l.length
  pl : ∀ n : Nat, n < m.l.length → m'.l[n]? = m.l[n]? ∨ m'.l[n]? = some none
  hid : m'.hid = m.hid

variable {K : PySem.W.Frag} {m m' m'' : Mu} {H H' H'' : Hp} {s : Sto} {e : Sl} {σ : L2.St}
theorem Ext.kp (x : Ext m H m' H') : Kp m H m' H' := fun a o h n => by
  obtain ⟨h1, h2⟩ := x.kl a o h fun z => n (.inl z)
  exact ⟨h1, fun z => z.elim h2 fun z => n (.inr (by rw [← x.hid]; exact z))⟩
theorem Ext.wk (x : Ext m H m' H') : Wk m H m' H' := ⟨x.kp, x.len, x.pl⟩
theorem Kp.at (x : Kp m H m' H') {a : Addr} {o : HO} (h : H a = some o) (n : ¬ inM m a) : H' a = some o ∧ ¬ inM m' a := x a o h n
theorem Ext.keep (x : Ext m H m' H') (a : Addr) (o : HO) (h : H a = some o) (n : ¬ inM m a) : H' a = some o ∧ ¬ inM m' a := x.kp.at h n
theorem Ext.refl : Ext m H m H := ⟨fun _ _ h n => ⟨h, n⟩, Nat.le_refl _, fun _ _ => .inl rfl, rfl⟩
theorem Ext.trans (a : Ext m H m' H') (b : Ext m' H' m'' H'') : Ext m H m'' H'' where
  kl := fun x o h n => let ⟨h1, n1⟩ := a.kl x o h n; b.kl x o h1 n1
  len := Nat.le_trans a.len b.len
  pl := fun n hn => by
    rcases b.pl n (Nat.lt_of_lt_of_le hn a.len) with h | h
    · rcases a.pl n hn with h' | h'
      · exact .inl (h.trans h')
      · exact .inr (h.trans h')
    · exact .inr h
  hid := b.hid.trans a.hid
theorem Kp.rd (x : Kp m H m' H') {a : Addr} {u : HO} (h : ¬ inM m a ∧ Rd H a u) : ¬ inM m' a ∧ Rd H' a u := by
  obtain ⟨n, h | ⟨o, h⟩⟩ := h
  · exact ⟨(x.at h n).2, .inl (x.at h n).1⟩
  · exact ⟨(x.at h n).2, .inr ⟨o, (x.at h n).1⟩⟩
theorem LsA.kp (x : Kp m H m' H') {a : Addr} {vs : List V} (h : LsA K m H a vs) : LsA K m' H' a vs := h.imp x.rd id
theorem TpA.kp (x : Kp m H m' H') {a : Addr} {vs : List V} (h : TpA K m H a vs) : TpA K m' H' a vs := h.imp x.rd id
mutual
theorem Rep.kp (x : Kp m H m' H') : ∀ {d : PyData} {v : V}, Rep K m H d v → Rep K m' H' d v
  | .none, _, h => h
  | .bool _, _, h => h
  | .int _, _, h => h
  | .str _, _, h => h
  | .list _, _, ⟨a, vs, e, h1, h2⟩ => ⟨a, vs, e, h1.kp x, Reps.kp x h2⟩
  | .tuple _, _, ⟨a, vs, e, h1, h2⟩ => ⟨a, vs, e, h1.kp x, Reps.kp x h2⟩
  | .dict _, _, ⟨a, e, n, .inl ⟨ks, h1, h2⟩⟩ => ⟨a, e, (x.at h1 n).2, .inl ⟨ks, (x.at h1 n).1, RepKv.kp x h2⟩⟩
  | .dict _, _, ⟨a, e, n, .inr ⟨o, ks, h1, h2⟩⟩ => ⟨a, e, (x.at h1 n).2, .inr ⟨o, ks, (x.at h1 n).1, RepD.kp x h2⟩⟩
theorem Reps.kp (x : Kp m H m' H') : ∀ {ds : List PyData} {vs : List V}, Reps K m H ds vs → Reps K m' H' ds vs
  | [], _, h => h
  | _ :: _, _, ⟨v, r, e, h1, h2⟩ => ⟨v, r, e, Rep.kp x h1, Reps.kp x h2⟩
theorem RepKv.kp (x : Kp m H m' H') : ∀ {ds : List (PyData × PyData)} {vs : List (Key × V)}, RepKv K m H ds vs → RepKv K m' H' ds vs
  | [], _, h => h
  | (_, _) :: _, _, ⟨j, v, r, e, hk, h1, h2⟩ => ⟨j, v, r, e, hk, Rep.kp x h1, RepKv.kp x h2⟩
theorem RepD.kp (x : Kp m H m' H') : ∀ {ds : List (PyData × PyData)} {vs : List (NestedKey × Addr × Value)}, RepD K m H ds vs → RepD K m' H' ds vs
  | [], _, h => h
  | (_, _) :: _, _, ⟨q, b, v, u, r, e, hk, h0, h1, rv, h2⟩ => ⟨q, b, v, u, r, e, hk, Rep.kp x h0, Rep.kp x h1, rv, RepD.kp x h2⟩
end
theorem Rep.ext (x : Ext m H m' H') {d : PyData} {v : V} (h : Rep K m H d v) : Rep K m' H' d v := h.kp x.kp
theorem Reps.ext (x : Ext m H m' H') {d : List PyData} {v : List V} (h : Reps K m H d v) : Reps K m' H' d v := h.kp x.kp
theorem LsA.ext (x : Ext m H m' H') {a : Addr} {vs : List V} (h : LsA K m H a vs) : LsA K m' H' a vs := h.kp x.kp
theorem TpA.ext (x : Ext m H m' H') {a : Addr} {vs : List V} (h : TpA K m H a vs) : TpA K m' H' a vs := h.kp x.kp
theorem RV.wk (x : Wk m H m' H') : ∀ {u : Vl} {v : V}, RV K m H u v → RV K m' H' u v
  | .d _, _, h => Rep.kp x.kp h
  | .r n, v, ⟨h1, h2⟩ => ⟨Nat.lt_of_lt_of_le h1 x.len, fun a q => by
    rcases x.pl n h1 with z | z
    · exact h2 a (z ▸ q)
    · rw [z] at q; cases q⟩
theorem RVs.wk (x : Wk m H m' H') : ∀ {us : List Vl} {vs : List V}, RVs K m H us vs → RVs K m' H' us vs
  | [], _, h => h
  | _ :: _, _, ⟨v, r, e, h1, h2⟩ => ⟨v, r, e, RV.wk x h1, RVs.wk x h2⟩
theorem RV.ext (x : Ext m H m' H') {u : Vl} {v : V} (h : RV K m H u v) : RV K m' H' u v := h.wk x.wk
theorem RVs.ext (x : Ext m H m' H') {u : List Vl} {v : List V} (h : RVs K m H u v) : RVs K m' H' u v := h.wk x.wk
theorem RO.wk (x : Wk m H m' H') {a : Addr} (k : ∀ u, H a = some u → H' a = some u) : ∀ {o : Ob}, RO K m H a o → RO K m' H' a o
  | .lst _, ⟨ws, h1, h2⟩ => ⟨ws, k _ h1, RVs.wk x h2⟩
  | .dct _, ⟨xs, h1, h2⟩ => ⟨xs, k _ h1, RepD.kp x.kp h2⟩
theorem RO.ne {a : Addr} : ∀ {o : Ob}, RO K m H a o → ∃ u, H a = some u ∧ Mut (some u)
  | .lst _, ⟨ws, h1, _⟩ => ⟨_, h1, trivial⟩
  | .dct _, ⟨xs, h1, _⟩ => ⟨_, h1, trivial⟩
theorem RE.wk (x : Wk m H m' H') (r : RE K m H e σ) : RE K m' H' e σ := ⟨r.len, fun i v h => let ⟨y, h1, h2⟩ := r.at_ i v h; ⟨y, h1, RV.wk x h2⟩⟩
theorem RE.ext (x : Ext m H m' H') (r : RE K m H e σ) : RE K m' H' e σ := ⟨r.len, fun i v h => let ⟨y, h1, h2⟩ := r.at_ i v h; ⟨y, h1, RV.ext x h2⟩⟩

/-! ### lists of values -/
theorem RVs.length : ∀ {us : List Vl} {vs : List V}, RVs K m H us vs → us.length = vs.length
  | [], _, h => by have h : _ = [] := h; subst h; rfl
  | _ :: _, _, ⟨v, r, e, _, h2⟩ => by subst e; simp [RVs.length h2]
theorem Reps.length : ∀ {us : List PyData} {vs : List V}, Reps K m H us vs → us.length = vs.length
  | [], _, h => by have h : _ = [] := h; subst h; rfl
  | _ :: _, _, ⟨v, r, e, _, h2⟩ => by subst e; simp [Reps.length h2]
theorem Reps.rvs : ∀ {us : List PyData} {vs : List V}, Reps K m H us vs → RVs K m H (us.map Vl.d) vs
  | [], _, h => h
  | _ :: _, _, ⟨v, r, e, h1, h2⟩ => ⟨v, r, e, h1, Reps.rvs h2⟩
theorem RVs.reps : ∀ {us : List Vl} {vs : List V} {ds : List PyData}, RVs K m H us vs → allD us = some ds → Reps K m H ds vs
  | [], _, _, h, q => by cases q; exact h
  | .d x :: us, _, _, ⟨v, r, e, h1, h2⟩, q => by
    cases q' : allD us with
    | none => simp [allD, q'] at q
    | some ds => simp [allD, q'] at q; subst q; exact ⟨v, r, e, h1, RVs.reps h2 q'⟩
  | .r _ :: us, _, _, _, q => by cases q
theorem RVs.get : ∀ {us : List Vl} {vs : List V} {i : Nat} {u : Vl}, RVs K m H us vs → us[i]? = some u → ∃ v, vs[i]? = some v ∧ RV K m H u v
  | [], _, _, _, _, q => by simp at q
  | x :: us, _, 0, _, ⟨v, r, e, h1, h2⟩, q => by simp at q; subst q; subst e; exact ⟨v, rfl, h1⟩
  | x :: us, _, i + 1, _, ⟨v, r, e, h1, h2⟩, q => by
    subst e
    obtain ⟨w, a, b⟩ := RVs.get (i := i) h2 (by simpa using q)
    exact ⟨w, by simpa using a, b⟩
theorem RVs.get' : ∀ {us : List Vl} {vs : List V} {i : Nat} {v : V}, RVs K m H us vs → vs[i]? = some v → ∃ u, us[i]? = some u ∧ RV K m H u v
  | [], _, _, _, h, q => by have h : _ = [] := h; subst h; simp at q
  | x :: us, _, 0, _, ⟨v, r, e, h1, h2⟩, q => by subst e; simp at q; subst q; exact ⟨x, rfl, h1⟩
  | x :: us, _, i + 1, _, ⟨v, r, e, h1, h2⟩, q => by
    subst e
    obtain ⟨w, a, b⟩ := RVs.get' (i := i) h2 (by simpa using q)
    exact ⟨w, by simpa using a, b⟩
theorem RVs.app : ∀ {us ws : List Vl} {vs xs : List V}, RVs K m H us vs → RVs K m H ws xs → RVs K m H (us ++ ws) (vs ++ xs)
  | [], _, _, _, h, g => by have h : _ = [] := h; subst h; exact g
  | _ :: _, _, _, _, ⟨v, r, e, h1, h2⟩, g => by subst e; exact ⟨v, _, rfl, h1, RVs.app h2 g⟩
theorem RVs.one {u : Vl} {v : V} (h : RV K m H u v) : RVs K m H [u] [v] := ⟨v, [], rfl, h, rfl⟩
theorem RVs.take : ∀ {us : List Vl} {vs : List V} (n : Nat), RVs K m H us vs → RVs K m H (us.take n) (vs.take n)
  | _, _, 0, _ => by simp [RVs]
  | [], _, n + 1, h => by have h : _ = [] := h; subst h; simp [RVs]
  | _ :: _, _, n + 1, ⟨v, r, e, h1, h2⟩ => by subst e; exact ⟨v, _, rfl, h1, RVs.take n h2⟩
theorem RVs.drop : ∀ {us : List Vl} {vs : List V} (n : Nat), RVs K m H us vs → RVs K m H (us.drop n) (vs.drop n)
  | _, _, 0, h => h
  | [], _, n + 1, h => by have h : _ = [] := h; subst h; simp [RVs]
  | _ :: _, _, n + 1, ⟨v, r, e, h1, h2⟩ => by subst e; exact RVs.drop n h2
theorem RVs.set : ∀ {us : List Vl} {vs : List V} {u : Vl} {v : V} (n : Nat), RVs K m H us vs → RV K m H u v → RVs K m H (us.set n u) (vs.set n v)
  | [], _, _, _, n, h, _ => by have h : _ = [] := h; subst h; simp [RVs]
  | _ :: _, _, _, _, 0, ⟨v, r, e, h1, h2⟩, g => by subst e; exact ⟨_, _, rfl, g, h2⟩
  | _ :: _, _, _, _, n + 1, ⟨v, r, e, h1, h2⟩, g => by subst e; exact ⟨_, _, rfl, h1, RVs.set n h2 g⟩
theorem RVs.rev : ∀ {us : List Vl} {vs : List V}, RVs K m H us vs → RVs K m H us.reverse vs.reverse
  | [], _, h => by have h : _ = [] := h; subst h; simp [RVs]
  | _ :: _, _, ⟨v, r, e, h1, h2⟩ => by subst e; simp only [List.reverse_cons]; exact RVs.app (RVs.rev h2) (RVs.one h1)
theorem RVs.erase : ∀ {us : List Vl} {vs : List V} (n : Nat), RVs K m H us vs → RVs K m H (us.eraseIdx n) (vs.eraseIdx n)
  | [], _, n, h => by have h : _ = [] := h; subst h; simp [RVs]
  | _ :: _, _, 0, ⟨v, r, e, h1, h2⟩ => by subst e; exact h2
  | _ :: _, _, n + 1, ⟨v, r, e, h1, h2⟩ => by subst e; exact ⟨_, _, rfl, h1, RVs.erase n h2⟩
theorem RVs.rep : ∀ (n : Nat) {us : List Vl} {vs : List V}, RVs K m H us vs → RVs K m H (List.replicate n us).flatten (List.replicate n vs).flatten
  | 0, _, _, _ => by simp [RVs]
  | n + 1, _, _, h => by simp only [List.replicate_succ, List.flatten_cons]; exact RVs.app h (RVs.rep n h)
theorem Reps.ints : ∀ {us : List PyData} {vs : List V} {ns : List Int}, Reps K m H us vs → ints? us = some ns → vs = ns.map V.int
  | [], _, _, h, q => by cases q; exact h
  | .int x :: us, _, _, ⟨v, r, e, h1, h2⟩, q => by
    cases q' : ints? us with
    | none => simp [ints?, q'] at q
    | some ds =>
      simp [ints?, q'] at q
      subst q; subst e
      have h1 : v = V.int x := h1
      rw [h1, Reps.ints h2 q']; rfl
  | .none :: us, _, _, _, q => by cases q
  | .bool _ :: us, _, _, _, q => by cases q
  | .str _ :: us, _, _, _, q => by cases q
  | .list _ :: us, _, _, _, q => by cases q
  | .tuple _ :: us, _, _, _, q => by cases q
  | .dict _ :: us, _, _, _, q => by cases q
theorem Reps.bools : ∀ {us : List PyData} {vs : List V} {ns : List Bool}, Reps K m H us vs → bools? us = some ns → vs = ns.map V.bl
  | [], _, _, h, q => by cases q; exact h
  | .bool x :: us, _, _, ⟨v, r, e, h1, h2⟩, q => by
    cases q' : bools? us with
    | none => simp [bools?, q'] at q
    | some ds =>
      simp [bools?, q'] at q
      subst q; subst e
      have h1 : v = V.bl x := h1
      rw [h1, Reps.bools h2 q']; rfl
  | .none :: us, _, _, _, q => by cases q
  | .int _ :: us, _, _, _, q => by cases q
  | .str _ :: us, _, _, _, q => by cases q
  | .list _ :: us, _, _, _, q => by cases q
  | .tuple _ :: us, _, _, _, q => by cases q
  | .dict _ :: us, _, _, _, q => by cases q
theorem RVs.ofInts : ∀ (ns : List Int), Reps K m H (ns.map PyData.int) (ns.map V.int)
  | [] => rfl
  | _ :: r => ⟨_, _, rfl, rfl, RVs.ofInts r⟩

/-! ### the store's moves -/
theorem RS.mob (r : RS K m H s) {a : Addr} (h : inL m a) : ∃ u, H a = some u ∧ Mut (some u) := by
  obtain ⟨n, hn, e⟩ := List.getElem_of_mem h
  have e : m.l[n]? = some (some a) := by rw [List.getElem?_eq_getElem hn, e]
  have hs : n < s.length := by rw [← r.len]; exact hn
  cases q : s[n] with
  | none =>
    have z := r.dead n (by rw [List.getElem?_eq_getElem hs, q])
    rw [e] at z; cases z
  | some o =>
    obtain ⟨b, h1, h2⟩ := r.ot n o (by rw [List.getElem?_eq_getElem hs, q])
    rw [e] at h1; cases h1
    exact h2.ne
theorem RS.freshL (r : RS K m H s) {p : Addr} (h : H p = none) : ¬ inL m p := fun z => by
  obtain ⟨ws, q, _⟩ := r.mob z
  rw [h] at q; cases q
theorem RS.fresh (r : RS K m H s) {p : Addr} (h : H p = none) : ¬ inM m p := fun z => z.elim (r.freshL h) fun z => (r.hd p z).1 h
theorem Ext.same (h : ∀ a o, H a = some o → H' a = some o) : Ext m H m H' := ⟨fun a o q n => ⟨h a o q, n⟩, Nat.le_refl _, fun _ _ => .inl rfl, rfl⟩
theorem there_of {a : Addr} (h : ∀ a o, H a = some o → H' a = some o) (n : H a ≠ none) : H' a ≠ none := by
  cases q : H a with
  | none => exact absurd q n
  | some o => rw [h a o q]; exact fun z => nomatch z
theorem RS.same (r : RS K m H s) (h : ∀ a o, H a = some o → H' a = some o) : RS K m H' s :=
  ⟨r.len, fun n o q => let ⟨a, h1, h2⟩ := r.ot n o q; ⟨a, h1, h2.wk (Ext.same h).wk fun u e => h a u e⟩, r.dead, r.inj, fun a ha => ⟨there_of h (r.hd a ha).1, (r.hd a ha).2⟩⟩
theorem upd_keep {p : Addr} {o : HO} (hp : H p = none) : ∀ a u, H a = some u → upd H p o a = some u := fun a u q => by
  rw [upd_ne (ne_of_none q hp)]; exact q
/-- a new object that the store does not hold -/
theorem Ext.new {p : Addr} {o : HO} (hp : H p = none) : Ext m H m (upd H p o) := Ext.same (upd_keep hp)
theorem RS.new (r : RS K m H s) {p : Addr} {o : HO} (hp : H p = none) : RS K m (upd H p o) s := r.same (upd_keep hp)
def Mu.add (m : Mu) (p : Addr) : Mu := ⟨m.l ++ [some p], m.hid⟩
def Mu.kill (m : Mu) (n : Nat) : Mu := ⟨m.l.set n none, m.hid⟩
def Mu.cut (m : Mu) (n : Nat) : Mu := ⟨m.l.take n, m.hid⟩
theorem mem_app {a p : Addr} (h : inL (m.add p) a) : inL m a ∨ a = p := by
  rcases List.mem_append.mp h with h | h
  · exact .inl h
  · exact .inr (by simpa using h)
/-- a new thing of the store -/
theorem RS.allocO (r : RS K m H s) {p : Addr} {u : HO} {o : Ob} (hp : H p = none) (ho : RO K (m.add p) (upd H p u) p o) :
    Ext m H (m.add p) (upd H p u) ∧ RS K (m.add p) (upd H p u) (s ++ [some o]) ∧ RV K (m.add p) (upd H p u) (.r s.length) (.ref p) := by
  have x : Ext m H (m.add p) (upd H p u) := by
    refine ⟨fun a o q n => ⟨upd_keep hp a o q, fun z => ?_⟩, by simp [Mu.add], fun n hn => .inl (List.getElem?_append_left hn), rfl⟩
    rcases mem_app z with z | z
    · exact n z
    · subst z; rw [hp] at q; cases q
  have lm : (m.add p).l[s.length]? = some (some p) := by rw [← r.len]; simp [Mu.add]
  refine ⟨x, ⟨by simp [Mu.add, r.len], fun n o' q => ?_, fun n q => ?_, fun i j a h1 h2 => ?_, fun a ha => ⟨there_of (upd_keep hp) (r.hd a ha).1, fun z => ?_⟩⟩, ?_⟩
  · by_cases hn : n < s.length
    · rw [List.getElem?_append_left hn] at q
      obtain ⟨a, h1, h2⟩ := r.ot n o' q
      refine ⟨a, ?_, h2.wk x.wk fun u e => upd_keep hp _ _ e⟩
      show (m.l ++ [some p])[n]? = _
      rw [List.getElem?_append_left (by rw [r.len]; exact hn)]; exact h1
    · have hn' : n = s.length := by
        have := (List.getElem?_eq_some_iff.mp q).1
        simp at this; omega
      subst hn'
      simp at q
      subst q
      exact ⟨p, lm, ho⟩
  · by_cases hn : n < s.length
    · rw [List.getElem?_append_left hn] at q
      show (m.l ++ [some p])[n]? = _
      rw [List.getElem?_append_left (by rw [r.len]; exact hn)]
      exact r.dead n q
    · have hn' : n = s.length := by
        have := (List.getElem?_eq_some_iff.mp q).1
        simp at this; omega
      subst hn'
      simp at q
  · have key : ∀ i, (m.add p).l[i]? = some (some a) → (m.l[i]? = some (some a)) ∨ (i = m.l.length ∧ a = p) := fun i h => by
      have h : (m.l ++ [some p])[i]? = some (some a) := h
      by_cases hn : i < m.l.length
      · rw [List.getElem?_append_left hn] at h; exact .inl h
      · have hn' : i = m.l.length := by
          have := (List.getElem?_eq_some_iff.mp h).1
          simp at this; omega
        subst hn'
        simp at h
        exact .inr ⟨rfl, h.symm⟩
    rcases key i h1 with g1 | ⟨g1, e1⟩ <;> rcases key j h2 with g2 | ⟨g2, e2⟩
    · exact r.inj i j a g1 g2
    · rw [e2] at g1; exact absurd (List.mem_of_getElem? g1) (r.freshL hp)
    · rw [e1] at g2; exact absurd (List.mem_of_getElem? g2) (r.freshL hp)
    · omega
  · rcases mem_app z with z | z
    · exact (r.hd a ha).2 z
    · exact (r.hd a ha).1 (z ▸ hp)
  · refine ⟨by simp [Mu.add, r.len], fun a q => ?_⟩
    rw [lm] at q; cases q; rfl
theorem Ext.add {p : Addr} {u : HO} (hp : H p = none) : Ext m H (m.add p) (upd H p u) := by
  refine ⟨fun a o q n => ⟨upd_keep hp a o q, fun z => ?_⟩, by simp [Mu.add], fun n hn => .inl (List.getElem?_append_left hn), rfl⟩
  rcases mem_app z with z | z
  · exact n z
  · subst z; rw [hp] at q; cases q
/-- a new list of the store -/
theorem RS.alloc (r : RS K m H s) {p : Addr} {vs : List Vl} {ws : List V} (hp : H p = none) (hv : RVs K m H vs ws) :
    Ext m H (m.add p) (upd H p (.lst ws)) ∧ RS K (m.add p) (upd H p (.lst ws)) (s ++ [some (.lst vs)]) ∧ RV K (m.add p) (upd H p (.lst ws)) (.r s.length) (.ref p) :=
  r.allocO hp ⟨ws, upd_same, RVs.ext (Ext.add hp) hv⟩
theorem Ext.put {n : Nat} {a : Addr} {u : HO} (ha : m.l[n]? = some (some a)) : Ext m H m (upd H a u) := by
  refine ⟨fun b o q nb => ⟨?_, nb⟩, Nat.le_refl _, fun _ _ => .inl rfl, rfl⟩
  rw [upd_ne]; exact q
  rintro rfl; exact nb (List.mem_of_getElem? ha)
/-- a thing of the store is changed -/
theorem RS.putO (r : RS K m H s) {n : Nat} {a : Addr} {u : HO} {o o' : Ob} (hn : s[n]? = some (some o')) (ha : m.l[n]? = some (some a)) (ho : RO K m (upd H a u) a o) :
    Ext m H m (upd H a u) ∧ RS K m (upd H a u) (s.set n (some o)) := by
  have x : Ext m H m (upd H a u) := Ext.put ha
  have hl : n < s.length := (List.getElem?_eq_some_iff.mp hn).1
  refine ⟨x, ⟨by simp [r.len], fun k zs q => ?_, fun k q => ?_, r.inj, fun b hb => ⟨?_, (r.hd b hb).2⟩⟩⟩
  · by_cases hk : k = n
    · subst hk
      simp [hl] at q
      subst q
      exact ⟨a, ha, ho⟩
    · rw [List.getElem?_set_ne (Ne.symm hk)] at q
      obtain ⟨b, h1, h2⟩ := r.ot k zs q
      refine ⟨b, h1, h2.wk x.wk fun u e => ?_⟩
      rw [upd_ne]; exact e
      rintro rfl; exact hk (r.inj _ _ _ h1 ha)
  · by_cases hk : k = n
    · subst hk
      simp [hl] at q
    · rw [List.getElem?_set_ne (Ne.symm hk)] at q
      exact r.dead k q
  · by_cases hba : b = a
    · subst hba; rw [upd_same]; exact fun z => nomatch z
    · rw [upd_ne hba]; exact (r.hd b hb).1
/-- a list of the store is changed -/
theorem RS.put (r : RS K m H s) {n : Nat} {a : Addr} {vs : List Vl} {ws : List V} {us : List Vl} (hn : s[n]? = some (some (.lst us))) (ha : m.l[n]? = some (some a)) (hv : RVs K m H vs ws) :
    Ext m H m (upd H a (.lst ws)) ∧ RS K m (upd H a (.lst ws)) (putL n vs s) :=
  r.putO hn ha ⟨ws, upd_same, RVs.ext (Ext.put ha) hv⟩
/-- a thing of the store is told as data, and lost as a place -/
theorem RS.killO (r : RS K m H s) {n : Nat} {a : Addr} {o : Ob} (hn : s[n]? = some (some o)) (ha : m.l[n]? = some (some a)) (hk : ∀ b u, b ≠ a → H b = some u → H' b = some u) (hz : H' a ≠ none) :
    Ext m H (m.kill n) H' ∧ RS K (m.kill n) H' (s.set n none) ∧ ¬ inM (m.kill n) a := by
  have hl : n < s.length := (List.getElem?_eq_some_iff.mp hn).1
  have hm : n < m.l.length := by rw [r.len]; exact hl
  have at1 : ∀ (i : Nat) (b : Addr), (m.kill n).l[i]? = some (some b) → m.l[i]? = some (some b) ∧ i ≠ n := fun i b e => by
    have e : (m.l.set n none)[i]? = some (some b) := e
    by_cases hin : i = n
    · rw [hin, List.getElem?_set_self hm] at e; cases e
    · rw [List.getElem?_set_ne (Ne.symm hin)] at e
      exact ⟨e, hin⟩
  have sub : ∀ b, inL (m.kill n) b → inL m b ∧ b ≠ a := fun b z => by
    obtain ⟨i, hi, e⟩ := List.getElem_of_mem z
    have e : (m.kill n).l[i]? = some (some b) := by rw [List.getElem?_eq_getElem hi, e]
    obtain ⟨e, hin⟩ := at1 i b e
    refine ⟨List.mem_of_getElem? e, ?_⟩
    rintro rfl; exact hin (r.inj _ _ _ e ha)
  have x : Ext m H (m.kill n) H' := by
    refine ⟨fun b o q nb => ⟨hk b o (fun e => nb (e ▸ List.mem_of_getElem? ha)) q, fun z => nb (sub b z).1⟩, by simp [Mu.kill], fun k hk => ?_, rfl⟩
    by_cases hkn : k = n
    · subst hkn; exact .inr (by simp [Mu.kill, hk])
    · exact .inl (by show (m.l.set n none)[k]? = _; rw [List.getElem?_set_ne (Ne.symm hkn)])
  refine ⟨x, ⟨by simp [Mu.kill, r.len], fun k zs q => ?_, fun k q => ?_, fun i j b h1 h2 => r.inj i j b (at1 i b h1).1 (at1 j b h2).1, fun b hb => ⟨?_, fun z => (r.hd b hb).2 (sub b z).1⟩⟩, ?_⟩
  · by_cases hkn : k = n
    · subst hkn; simp [hl] at q
    · rw [List.getElem?_set_ne (Ne.symm hkn)] at q
      obtain ⟨b, h1, h2⟩ := r.ot k zs q
      exact ⟨b, by show (m.l.set n none)[k]? = _; rw [List.getElem?_set_ne (Ne.symm hkn)]; exact h1, h2.wk x.wk fun u e => hk b u (fun e => hkn (r.inj _ _ _ (e ▸ h1) ha)) e⟩
  · show (m.l.set n none)[k]? = _
    by_cases hk : k = n
    · subst hk; simp [hm]
    · rw [List.getElem?_set_ne (Ne.symm hk)] at q ⊢
      exact r.dead k q
  · by_cases hba : b = a
    · rw [hba]; exact hz
    · cases q : H b with
      | none => exact absurd q (r.hd b hb).1
      | some u => rw [hk b u hba q]; exact fun z => nomatch z
  · exact fun z => z.elim (fun z => (sub a z).2 rfl) fun z => (r.hd a z).2 (List.mem_of_getElem? ha)
/-- a list of the store becomes data -/
theorem RS.freeze (r : RS K m H s) {n : Nat} {a : Addr} {vs : List Vl} {ws : List V} {ds : List PyData} (hn : s[n]? = some (some (.lst vs))) (ha : m.l[n]? = some (some a)) (hw : H a = some (.lst ws)) (hd : Reps K m H ds ws) :
    Ext m H (m.kill n) H ∧ RS K (m.kill n) H (s.set n none) ∧ Rep K (m.kill n) H (.list ds) (.ref a) := by
  obtain ⟨x, rs, na⟩ := r.killO hn ha (H' := H) (fun _ _ _ q => q) (by rw [hw]; exact fun z => nomatch z)
  exact ⟨x, rs, a, ws, rfl, .inl ⟨na, .inl hw⟩, Reps.ext x hd⟩
/-- a dict of the store becomes data -/
theorem RS.freezeD (r : RS K m H s) {n : Nat} {kvs : List (PyData × PyData)} {v : V} (hn : s[n]? = some (some (.dct kvs))) (rv : RV K m H (.r n) v) :
    ∃ a xs, v = .ref a ∧ H a = some (DctO a xs) ∧ ∀ o, Ext m H (m.kill n) (upd H a (.frz o (DctO a xs))) ∧ RS K (m.kill n) (upd H a (.frz o (DctO a xs))) (s.set n none) ∧ Rep K (m.kill n) (upd H a (.frz o (DctO a xs))) (.dict kvs) v := by
  obtain ⟨a, xs, ha, h1, h2⟩ := r.at_d n kvs hn
  refine ⟨a, xs, rv.2 a ha, h1, fun o => ?_⟩
  obtain ⟨x, rs, na⟩ := r.killO hn ha (H' := upd H a (.frz o (DctO a xs))) (fun b u hb q => by rw [upd_ne hb]; exact q) (by rw [upd_same]; exact fun z => nomatch z)
  exact ⟨x, rs, a, rv.2 a ha, na, .inr ⟨o, xs, upd_same, RepD.kp x.kp h2⟩⟩
/-- .. and the lists of the store in it -/
theorem RS.frzL : ∀ {vs : List Vl} {m : Mu} {s : Sto} {ws : List V} {p : List PyData × Sto}, RS K m H s → RVs K m H vs ws → frzL vs s = some p → ∃ m', Ext m H m' H ∧ RS K m' H p.2 ∧ Reps K m' H p.1 ws
  | [], m, s, ws, p, r, rv, h => by cases h; exact ⟨m, Ext.refl, r, rv⟩
  | .d x :: vs, m, s, ws, p, r, ⟨v, r', e, h1, h2⟩, h => by
    have h : (SM.frzL vs s).map (fun q => (x :: q.1, q.2)) = some p := h
    cases q : SM.frzL vs s with
    | none => rw [q] at h; cases h
    | some q' =>
      rw [q] at h
      cases h
      obtain ⟨m', e1, e2, e3⟩ := RS.frzL r h2 q
      exact ⟨m', e1, e2, v, r', e, Rep.ext e1 h1, e3⟩
  | .r k :: vs, m, s, ws, p, r, ⟨v, r', e, h1, h2⟩, h => by
    have h : (listAt k s).bind (fun us => (allD us).bind fun ds => (SM.frzL vs (s.set k none)).map fun p => (.list ds :: p.1, p.2)) = some p := h
    cases q1 : listAt k s with
    | none => rw [q1] at h; cases h
    | some us =>
      rw [q1] at h
      have h : (allD us).bind (fun ds => (SM.frzL vs (s.set k none)).map fun p => (PyData.list ds :: p.1, p.2)) = some p := h
      cases q2 : allD us with
      | none => rw [q2] at h; cases h
      | some ds =>
        rw [q2] at h
        have h : (SM.frzL vs (s.set k none)).map (fun p => (PyData.list ds :: p.1, p.2)) = some p := h
        have g : s[k]? = some (some (.lst us)) := by
          unfold listAt at q1
          split at q1
          · cases q1; assumption
          · cases q1
        obtain ⟨a, xs, g1, g2, g3⟩ := r.at_ k us g
        obtain ⟨f1, f2, f3⟩ := r.freeze g g1 g2 (RVs.reps g3 q2)
        cases q3 : SM.frzL vs (s.set k none) with
        | none => rw [q3] at h; cases h
        | some q' =>
          rw [q3] at h
          cases h
          obtain ⟨m', e1, e2, e3⟩ := RS.frzL f2 (RVs.ext f1 h2) q3
          have ev : v = .ref a := h1.2 a g1
          exact ⟨m', f1.trans e1, e2, v, r', e, by rw [ev]; exact Rep.ext e1 f3, e3⟩
/-- what was made within a call is forgotten -/
theorem mem_take {n : Nat} {a : Addr} (h : inL (m.cut n) a) : inL m a := List.mem_of_mem_take h
theorem Kp.take (n : Nat) : Kp m H (m.cut n) H := fun _ _ q z => ⟨q, fun y => z (y.imp mem_take id)⟩
theorem RV.take {n : Nat} (hn : n ≤ m.l.length) : ∀ {u : Vl} {v : V}, RV K m H u v → ltV n u → RV K (m.cut n) H u v
  | .d _, _, h, _ => Rep.kp (Kp.take n) h
  | .r k, v, ⟨h1, h2⟩, q => by
    have q : k < n := q
    refine ⟨by show k < (m.l.take n).length; rw [List.length_take]; omega, fun a z => h2 a ?_⟩
    have z : (m.l.take n)[k]? = some (some a) := z
    rw [List.getElem?_take_of_lt q] at z; exact z
theorem RVs.takeM {n : Nat} (hn : n ≤ m.l.length) : ∀ {us : List Vl} {vs : List V}, RVs K m H us vs → (∀ u ∈ us, ltV n u) → RVs K (m.cut n) H us vs
  | [], _, h, _ => h
  | x :: us, _, ⟨v, r, e, h1, h2⟩, q => ⟨v, r, e, RV.take hn h1 (q x List.mem_cons_self), RVs.takeM hn h2 fun u hu => q u (List.mem_cons_of_mem _ hu)⟩
theorem RV.lt : ∀ {u : Vl} {v : V}, RV K m H u v → ltV m.l.length u
  | .d _, _, _ => trivial
  | .r _, _, h => h.1
theorem RVs.lt : ∀ {us : List Vl} {vs : List V}, RVs K m H us vs → ∀ u ∈ us, ltV m.l.length u
  | x :: us, _, ⟨v, r, e, h1, h2⟩, u, hu => by
    rcases List.mem_cons.mp hu with rfl | hu
    · exact h1.lt
    · exact RVs.lt h2 u hu
theorem RS.cut {s₀ : Sto} (r₀ : RS K m H s₀) (x : Ext m H m' H') (r : RS K m' H' s) {v : Vl} {y : V} (rv : RV K m' H' v y) (c : Cut s₀ v s) :
    Ext m H (m'.cut s₀.length) H' ∧ RS K (m'.cut s₀.length) H' (s.take s₀.length) ∧ RV K (m'.cut s₀.length) H' v y := by
  have hl : s₀.length ≤ m'.l.length := by rw [← r₀.len]; exact x.len
  have tk : ∀ n, n < s₀.length → (m'.cut s₀.length).l[n]? = m'.l[n]? := fun n hn => List.getElem?_take_of_lt hn
  have tl : (m'.cut s₀.length).l.length = s₀.length := by show (m'.l.take _).length = _; rw [List.length_take]; omega
  have inb : ∀ {n : Nat} {o : Option Ob}, (s.take s₀.length)[n]? = some o → n < s₀.length ∧ s[n]? = some o := fun {n o} q => by
    have hn : n < s₀.length := by
      have := (List.getElem?_eq_some_iff.mp q).1
      simp at this; omega
    rw [List.getElem?_take_of_lt hn] at q
    exact ⟨hn, q⟩
  refine ⟨⟨fun a o q n => ⟨(x.kl a o q n).1, fun z => (x.kl a o q n).2 (mem_take z)⟩, by rw [tl, r₀.len]; exact Nat.le_refl _, fun n hn => ?_, x.hid⟩, ⟨?_, fun n o q => ?_, fun n q => ?_, fun i j a h1 h2 => ?_, fun a ha => ⟨(r.hd a ha).1, fun z => (r.hd a ha).2 (mem_take z)⟩⟩, RV.take hl rv c.1⟩
  · rw [tk n (by rw [← r₀.len]; exact hn)]
    exact x.pl n hn
  · rw [tl, List.length_take, ← r.len]; omega
  · obtain ⟨hn, q⟩ := inb q
    rw [tk n hn]
    cases o with
    | lst vs =>
      obtain ⟨a, ws, h1, h2, h3⟩ := r.at_ n vs q
      refine ⟨a, h1, ws, h2, RVs.takeM hl h3 ?_⟩
      rcases c.2 n hn with z | z
      · rw [z] at q
        obtain ⟨_, _, _, _, g⟩ := r₀.at_ n vs q
        have := g.lt
        rwa [r₀.len] at this
      · exact z _ q
    | dct kvs =>
      obtain ⟨a, xs, h1, h2, h3⟩ := r.at_d n kvs q
      exact ⟨a, h1, xs, h2, RepD.kp (Kp.take _) h3⟩
  · obtain ⟨hn, q⟩ := inb q
    rw [tk n hn]
    exact r.dead n q
  · have key : ∀ i, (m'.cut s₀.length).l[i]? = some (some a) → m'.l[i]? = some (some a) := fun i h => by
      have hi : i < s₀.length := by
        have := (List.getElem?_eq_some_iff.mp h).1
        rwa [tl] at this
      rwa [tk i hi] at h
    exact r.inj i j a (key i h1) (key j h2)
/-- a list beside the store -/
def Mu.hide (m : Mu) (p : Addr) : Mu := ⟨m.l, p :: m.hid⟩
theorem Wk.hide {p : Addr} {o : HO} (hp : H p = none) : Wk m H (m.hide p) (upd H p o) := by
  refine ⟨fun a u h n => ⟨upd_keep hp a u h, fun z => ?_⟩, Nat.le_refl _, fun _ _ => .inl rfl⟩
  rcases z with z | z
  · exact n (.inl z)
  · rcases List.mem_cons.mp z with z | z
    · subst z; rw [hp] at h; cases h
    · exact n (.inr z)
theorem RS.hide (r : RS K m H s) {p : Addr} {o : HO} (hp : H p = none) : RS K (m.hide p) (upd H p o) s := by
  refine ⟨r.len, fun n o' q => ?_, r.dead, r.inj, fun a ha => ?_⟩
  · obtain ⟨a, h1, h2⟩ := r.ot n o' q
    exact ⟨a, h1, h2.wk (Wk.hide hp) fun u e => upd_keep hp _ _ e⟩
  · rcases List.mem_cons.mp ha with rfl | ha
    · exact ⟨(by rw [upd_same]; exact fun z => nomatch z), r.freshL hp⟩
    · exact ⟨there_of (upd_keep hp) (r.hd a ha).1, (r.hd a ha).2⟩
/-- the hidden list is changed -/
theorem Wk.hidden {p : Addr} {o : HO} (h : p ∈ m.hid) : Wk m H m (upd H p o) := by
  refine ⟨fun a u q n => ⟨?_, n⟩, Nat.le_refl _, fun _ _ => .inl rfl⟩
  rw [upd_ne]; exact q
  rintro rfl; exact n (.inr h)
theorem RS.hidden (r : RS K m H s) {p : Addr} {o : HO} (h : p ∈ m.hid) : RS K m (upd H p o) s := by
  refine ⟨r.len, fun n o' q => ?_, r.dead, r.inj, fun a ha => ⟨?_, (r.hd a ha).2⟩⟩
  · obtain ⟨a, h1, h2⟩ := r.ot n o' q
    refine ⟨a, h1, h2.wk (Wk.hidden h) fun u e => ?_⟩
    rw [upd_ne]; exact e
    rintro rfl; exact (r.hd _ h).2 (List.mem_of_getElem? h1)
  · by_cases hba : a = p
    · subst hba; rw [upd_same]; exact fun z => nomatch z
    · rw [upd_ne hba]; exact (r.hd a ha).1
/-- it is hidden no more -/
def Mu.show (m : Mu) (h : List Addr) : Mu := ⟨m.l, h⟩
theorem Wk.show {p : Addr} {h : List Addr} (e : m.hid = p :: h) : Wk m H (m.show h) H := by
  refine ⟨fun a u q n => ⟨q, fun z => ?_⟩, Nat.le_refl _, fun _ _ => .inl rfl⟩
  rcases z with z | z
  · exact n (.inl z)
  · exact n (.inr (by rw [e]; exact List.mem_cons_of_mem _ z))
theorem RS.show (r : RS K m H s) {p : Addr} {h : List Addr} (e : m.hid = p :: h) : RS K (m.show h) H s := by
  refine ⟨r.len, fun n o q => ?_, r.dead, r.inj, fun a ha => r.hd a (by rw [e]; exact List.mem_cons_of_mem _ ha)⟩
  obtain ⟨a, h1, h2⟩ := r.ot n o q
  exact ⟨a, h1, h2.wk (Wk.show e) fun u q => q⟩

/-! ### ends -/
def Post {α β : Type} (K : PySem.W.Frag) (cl : Nat → Value) (R : Mu → Hp → α → β → Prop) (E : XK) (Q : β → Hp → Prop) (m : Mu) (H : Hp) : Rs α → Prop
  | .ok a s => ∀ m' H' b, Ext m H m' H' → RS K m' H' s → R m' H' a b → Q b H'
  | .ex c v s => ∀ m' H' d y, Ext m H m' H' → RS K m' H' s → RV K m' H' v y → H' d = some (.xd [("value", y)]) → E (cl c) (some d) H'
  | .no => False
section
variable {α β γ δ : Type} {cl : Nat → Value} {R : Mu → Hp → α → β → Prop} {R' : Mu → Hp → γ → δ → Prop} {E : XK} {Q Q' : β → Hp → Prop} {G : δ → Hp → Prop}
theorem Post.mono : ∀ {r : Rs α}, Post K cl R E Q m H r → (∀ m' H' b, Ext m H m' H' → Q b H' → Q' b H') → Post K cl R E Q' m H r
  | .ok _ _, h, f => fun m' H' b x r q => f m' H' b x (h m' H' b x r q)
  | .ex _ _ _, h, _ => h
  | .no, h, _ => h
theorem Post.ext (x : Ext m H m' H') : ∀ {r : Rs α}, Post K cl R E Q m H r → Post K cl R E Q m' H' r
  | .ok _ _, h => fun m' H' b y r q => h m' H' b (x.trans y) r q
  | .ex _ _ _, h => fun m' H' d y z r q e => h m' H' d y (x.trans z) r q e
  | .no, h => h
/-- one run behind another -/
theorem Post.bind {f : α → Sto → Rs γ} : ∀ {r : Rs α}, Post K cl R' E G m H (r.bind f) →
    Post K cl R E (fun b H1 => ∃ m1 a s1, Ext m H m1 H1 ∧ RS K m1 H1 s1 ∧ R m1 H1 a b ∧ Post K cl R' E G m1 H1 (f a s1)) m H r
  | .ok a s, h => fun m' H' b x r q => ⟨m', a, s, x, r, q, Post.ext x h⟩
  | .ex _ _ _, h => h
  | .no, h => h
end
end SM

/-! SM: operators, by values. -/
namespace SM
open PySem L2 PySem.Spec PyProof.Rows

def PostP (K : PySem.W.Frag) (Q : VK) (m : Mu) (H : Hp) : Po Vl → Prop
  | some (v, s) => ∀ m' H' x, Ext m H m' H' → RS K m' H' s → RV K m' H' v x → Q x H'
  | none => False
theorem Post.pure {K : PySem.W.Frag} {cl : Nat → Value} {E : XK} {Q : VK} {m : Mu} {H : Hp} : ∀ {p : Po Vl}, Post K cl (RV K) E Q m H (ofP p) → PostP K Q m H p
  | some (_, _), h => h
  | none, h => h
/-- by values: the operator f does what g tells -/
def rOp (K : PySem.W.Frag) (g : Vl → Vl → Sto → Po Vl) : R2 := fun x y H Q => ∃ m s v w, RV K m H v x ∧ RV K m H w y ∧ RS K m H s ∧ PostP K Q m H (g v w s)
def rFn (K : PySem.W.Frag) (g : List Vl → Sto → Po Vl) : List V → Hp → VK → Prop := fun xs H Q => ∃ m s vs, RVs K m H vs xs ∧ RS K m H s ∧ PostP K Q m H (g vs s)

section
variable {X : Cx} {pins : List (Addr × Obj)} {σ : L2.St} {H : Hp} {st : Shared} {m : Mu} {s : Sto} {Q : VK}
theorem OpR.weak {f : Value → Value → Sem Value} {r r' : R2} (h : OpR X f r) (w : ∀ x y H Q, r' x y H Q → r x y H Q) : OpR X f r' :=
  fun pins s σ H x y v u Q I rx ry q => h pins s σ H x y v u Q I rx ry (w _ _ _ _ q)
theorem CallR.weak {f : Value} {r r' : List V → Hp → VK → Prop} (h : CallR X f r) (w : ∀ x H Q, r' x H Q → r x H Q) : CallR X f r' :=
  fun pins s σ H x y Q I rx q => h pins s σ H x y Q I rx (w _ _ _ q)
/-- the end at the very state -/
theorem PostP.here {K : PySem.W.Frag} {v : Vl} {x : V} (r : RS K m H s) (rv : RV K m H v x) (h : PostP K Q m H (some (v, s))) : Q x H := h m H x Ext.refl r rv
/-- a new list -/
theorem mkL_new {K : PySem.W.Frag} {mf : Bool} {vs : List Vl} {ws : List V} {p : Addr} (r : RS K m H s) (rv : RVs K m H vs ws) (hp : H p = none) (h : PostP K Q m H (mkL mf vs s)) : Q (.ref p) (upd H p (.lst ws)) := by
  unfold mkL at h
  split at h
  · cases mf with
    | true =>
      simp only [if_true] at h
      obtain ⟨x, rs, rr⟩ := r.alloc hp rv
      exact h _ _ _ x rs rr
    | false =>
      simp only [Bool.false_eq_true, if_false] at h
      cases q : allD vs with
      | none => rw [q] at h; exact h.elim
      | some ds =>
        rw [q] at h
        have x : Ext m H m (upd H p (.lst ws)) := Ext.new hp
        exact h _ _ _ x (r.new hp) ⟨p, ws, rfl, .inl ⟨r.fresh hp, .inl upd_same⟩, Reps.ext x (rv.reps q)⟩
  · exact h.elim
theorem mkL_len {K : PySem.W.Frag} {mf : Bool} {vs : List Vl} (h : PostP K Q m H (mkL mf vs s)) : vs.length ≤ sizeLine := by
  unfold mkL at h
  split at h
  · rename_i z; rw [sizeLine_eq]; exact z
  · exact h.elim
/-- a new tuple -/
theorem tup_new {K : PySem.W.Frag} {ds : List PyData} {ws : List V} {p : Addr} (r : RS K m H s) (rv : Reps K m H ds ws) (hp : H p = none) (h : PostP K Q m H (some (.d (.tuple ds), s))) : Q (.ref p) (upd H p (.tup ws)) := by
  have x : Ext m H m (upd H p (.tup ws)) := Ext.new hp
  exact h _ _ _ x (r.new hp) ⟨p, ws, rfl, .inl ⟨r.fresh hp, .inl upd_same⟩, Reps.ext x rv⟩
theorem listAt_some {n : Nat} {vs : List Vl} (h : listAt n s = some vs) : s[n]? = some (some (.lst vs)) := by
  unfold listAt at h
  split at h
  · rename_i q; cases h; exact q
  · cases h
/-- the place of a list -/
theorem RS.get {K : PySem.W.Frag} (r : RS K m H s) {n : Nat} {vs : List Vl} {x : V} (h : listAt n s = some vs) (rx : RV K m H (.r n) x) : ∃ a ws, x = .ref a ∧ m.l[n]? = some (some a) ∧ H a = some (.lst ws) ∧ RVs K m H vs ws := by
  obtain ⟨a, ws, h1, h2, h3⟩ := r.at_ n vs (listAt_some h)
  exact ⟨a, ws, rx.2 a h1, h1, h2, h3⟩
/-- what is a list or tuple -/
theorem itemsV_sq {K : PySem.W.Frag} (r : RS K m H s) {v : Vl} {x : V} {vs : List Vl} (h : itemsV v s = some vs) (rx : RV K m H v x) : ∃ a ws, x = .ref a ∧ (SqL K H a ws ∨ SqT K H a ws) ∧ RVs K m H vs ws := by
  cases v with
  | r n =>
    obtain ⟨a, ws, e, _, h2, h3⟩ := r.get h rx
    exact ⟨a, ws, e, .inl (SqL.of h2), h3⟩
  | d x =>
    cases x with
    | list xs =>
      cases h
      obtain ⟨a, ws, e, h1, h2⟩ := rx
      exact ⟨a, ws, e, .inl h1.sq, h2.rvs⟩
    | tuple xs =>
      cases h
      obtain ⟨a, ws, e, h1, h2⟩ := rx
      exact ⟨a, ws, e, .inr h1.sq, h2.rvs⟩
    | _ => cases h

/-! ### binary operators -/
theorem op_powX : OpR X (binaryOp .Pow) (rI (fun i j => 0 ≤ j ∧ j ≤ 1000000 ∧ (i.natAbs.log2 + 1) * j.toNat ≤ 1000000) fun i j => .int (i ^ j.toNat)) := opI fun i j _ _ _ _ _ hc q => by
  refine pow_int hc.1 ?_ q
  have b : Builtin.Int.intBits i ≤ i.natAbs.log2 + 1 := by
    unfold Builtin.Int.intBits
    split <;> omega
  have h1 : Builtin.Int.intBits i * j.toNat ≤ 1000000 := Nat.le_trans (Nat.mul_le_mul_right _ b) hc.2.2
  have h2 : ((Builtin.Int.intBits i * j.toNat : Nat) : Int) = (Builtin.Int.intBits i : Int) * j := by
    rw [Int.natCast_mul, Int.toNat_of_nonneg hc.1]
  omega
theorem op_mulY : OpR X (binaryOp .Mult) (rI mulOk fun i j => .int (i * j)) := opI fun i j _ _ _ _ _ hc q => by
  refine mul_int q ?_
  rcases hc with h | h | h
  · exact .of_left (intBits_le_64 (by omega) (by omega))
  · exact .of_right (intBits_le_64 (by omega) (by omega))
  · exact CMulW.ok h
def opOf : BOp → Operator
  | .add => .Add | .sub => .Sub | .mul => .Mult | .fdiv => .FloorDiv | .mod => .Mod | .pow => .Pow | .shl => .LShift | .shr => .RShift | .bor => .BitOr | .band => .BitAnd
theorem rI_if {Cd : Int → Int → Prop} [∀ i j, Decidable (Cd i j)] {g : Int → Int → Int} {x y : V} {H : Hp} {Q : VK} {i j k : Int} (e1 : x = .int i) (e2 : y = .int j) (e3 : (if Cd i j then some (g i j) else none) = some k) (q : Q (.int k) H) : rI Cd (fun i j => .int (g i j)) x y H Q := by
  split at e3
  · cases e3
    exact ⟨i, j, e1, e2, by assumption, q⟩
  · cases e3
def rBinI (o : BOp) : R2 := fun x y H Q => ∃ i j k, x = .int i ∧ y = .int j ∧ binI o i j = some k ∧ Q (.int k) H
instance (i j : Int) : Decidable (CDivW i j) := by unfold CDivW; infer_instance
def CDivZ (_ j : Int) : Prop := j ≠ 0 ∧ j.natAbs.log2 < 9000
theorem op_fdivZ : OpR X (binaryOp .FloorDiv) (rI CDivZ fun i j => .int (i.fdiv j)) := opI fun i j _ _ _ _ _ hc q => floordiv_int hc.1 q (.inl (PyProof.noPylong_of_log2 hc.2))
theorem bin_int : (o : BOp) → OpR X (binaryOp (opOf o)) (rBinI o)
  | .add => OpR.weak op_add fun x y H Q ⟨i, j, k, e1, e2, e3, q⟩ => ⟨i, j, e1, e2, by cases e3; exact q⟩
  | .sub => OpR.weak op_sub fun x y H Q ⟨i, j, k, e1, e2, e3, q⟩ => ⟨i, j, e1, e2, by cases e3; exact q⟩
  | .mul => OpR.weak op_mulY fun x y H Q ⟨i, j, k, e1, e2, e3, q⟩ => rI_if (Cd := mulOk) e1 e2 e3 q
  | .fdiv => OpR.weak op_fdivZ fun x y H Q ⟨i, j, k, e1, e2, e3, q⟩ => by
      simp only [binI] at e3
      split at e3
      · rename_i hz
        cases e3
        refine ⟨i, j, e1, e2, ⟨by omega, hz.2⟩, ?_⟩
        show Q (.int (i.fdiv j)) H
        rw [Int.fdiv_eq_ediv_of_nonneg i (show 0 ≤ j by omega)]
        exact q
      · split at e3
        · rename_i hz
          cases e3
          exact ⟨i, j, e1, e2, ⟨by omega, hz.2⟩, q⟩
        · cases e3
  | .mod => OpR.weak op_modN fun x y H Q ⟨i, j, k, e1, e2, e3, q⟩ => by
      simp only [binI] at e3
      split at e3
      · rename_i hz
        cases e3
        refine ⟨i, j, e1, e2, by omega, ?_⟩
        show Q (.int (i.fmod j)) H
        rw [Int.fmod_eq_emod_of_nonneg i (show 0 ≤ j by omega)]
        exact q
      · split at e3
        · rename_i hz
          cases e3
          exact ⟨i, j, e1, e2, by omega, q⟩
        · cases e3
  | .pow => OpR.weak op_powX fun x y H Q ⟨i, j, k, e1, e2, e3, q⟩ => rI_if (Cd := fun i j => 0 ≤ j ∧ j ≤ 1000000 ∧ (i.natAbs.log2 + 1) * j.toNat ≤ 1000000) e1 e2 e3 q
  | .shl => OpR.weak op_shl fun x y H Q ⟨i, j, k, e1, e2, e3, q⟩ => by
      simp only [binI] at e3
      split at e3
      · cases e3
        exact ⟨i, j, e1, e2, by assumption, q⟩
      · cases e3
  | .shr => OpR.weak op_shr fun x y H Q ⟨i, j, k, e1, e2, e3, q⟩ => rI_if (Cd := fun _ j => 0 ≤ j) e1 e2 e3 q
  | .bor => OpR.weak op_or fun x y H Q ⟨i, j, k, e1, e2, e3, q⟩ => ⟨i, j, e1, e2, by cases e3; exact q⟩
  | .band => OpR.weak op_and fun x y H Q ⟨i, j, k, e1, e2, e3, q⟩ => ⟨i, j, e1, e2, by cases e3; exact q⟩
/-- list + list, whatever they stand in -/
def rCatL (K : PySem.W.Frag) : R2 := fun x y H Q => ∃ l b xs zs, x = .ref l ∧ y = .ref b ∧ SqL K H l xs ∧ SqL K H b zs ∧ xs.length + zs.length ≤ sizeLine ∧ ∀ p, H p = none → Q (.ref p) (upd H p (.lst (xs ++ zs)))
theorem op_catL : OpR X (binaryOp .Add) (rCatL X.K) := by
  intro pins st σ H x y v u Q I rx ry h
  obtain ⟨l, b, xs, zs, rfl, rfl, hH, hB, hz, q⟩ := h
  cases rx
  cases ry
  obtain ⟨its, r, ⟨⟨cls, dd, data, sl⟩, n, ho, hc, _, hd⟩, z⟩ := I.list hH
  obtain ⟨its2, r2, ⟨⟨cls2, dd2, data2, sl2⟩, n2, ho2, hc2, _, hd2⟩, z2⟩ := I.list hB
  simp only at hc hd hc2 hd2
  subst hc hd hc2 hd2
  have ea : its.toArray ++ its2.toArray = (its ++ its2).toArray := by simp
  have l1 := r.length
  have l2 := r2.length
  refine concat_meets ⟨_, ho, rfl⟩ ⟨_, ho2, rfl⟩ noFill_list_add seq_list_add PySem.F.slot_list_add PySem.F.entry_list_add (PySem.F.args_list_add_2 _ _) (list_addW l b its.toArray its2.toArray n n2 dd dd2 sl sl2 (by rw [List.size_toArray, List.size_toArray]; omega)) ⟨ho, ho2, ?_⟩
  rw [ea]
  exact ⟨.ref _, _, I.lnew (t' := st.toks) (r.append r2) (by rw [List.length_append]; omega), rfl, q _ I.fresh⟩
/-- () * k -/
theorem tuple_mul0 (l : Addr) (n : Nat) (dd : Option Addr) (sl : Array (Option Value)) (x : Int) (u : Tok) (c0 : (decide (x < -(2 ^ 63)) || decide (x ≥ 2 ^ 63)) = false) :
    Meets (Builtin.«tuple.__mul__» ⟨[.ref l, .int x u], []⟩) (fun _ R s => s.heap.get? l = some { cls := .type "tuple", dict := dd, data := .seq #[] n, slots := sl } ∧ R (.ok (.ret (Value.ref l))) s) :=
  .of_wp fun prog w A R s h => by
    obtain ⟨hp, g, d, tk, os⟩ := s
    obtain ⟨hl, h⟩ := h
    have f1 := AutoSeq1.idx_int
    wp_walk using wpAny_loadPart' hl
    repeat (first
      | (refine wpAny_ite_false (decide_eq_false (by rw [c0]; exact Bool.false_ne_true)) ?_; wp_walk using wpAny_loadPart' hl))
    exact ⟨_, rfl, h⟩
def rRepT0 (K : PySem.W.Frag) : R2 := fun x y H Q => ∃ l k, x = .ref l ∧ y = .int k ∧ SqT K H l [] ∧ 2 ≤ k ∧ k ≤ 1000 ∧ Q (.ref l) H
theorem op_repT0 : OpR X (binaryOp .Mult) (rRepT0 X.K) := by
  intro pins st σ H x y v u Q I rx ry h
  obtain ⟨l, k, rfl, rfl, hT, h1, h2, q⟩ := h
  cases rx
  obtain ⟨t, rfl⟩ := ry
  obtain ⟨its, r, ⟨⟨cls, dd, data, sl⟩, ho, hc, n, hd⟩, hs⟩ := I.tuple hT
  simp only at hc hd
  subst hc hd
  cases r
  have c0 : (decide (k < -(2 ^ 63)) || decide (k ≥ 2 ^ 63)) = false := by
    rw [decide_eq_false (by omega), decide_eq_false (by omega)] <;> rfl
  refine wpAny_binaryOp_repeat_ref (T := "tuple") (U := "int") (by decide) ⟨_, ho, rfl⟩ (fun s' => typeIs_int s' k t) noFill_tuple_mul F.fills_int_mul F.slot_int_rmul repeat_tuple F.slot_int_index.lookup
    (call_meets F.slot_int_rmul (typeIs_int st k t) F.entry_int_rmul (F.args_int_rmul_2 _ _) (int_rmul_tuple k t l #[] n dd sl)
      ⟨ho, rfl, ⟨_, ho, rfl⟩, call_meets F.slot_tuple_mul ⟨_, ho, rfl⟩ F.entry_tuple_mul (F.args_tuple_mul_2 _ _) (tuple_mul0 l n dd sl k t c0) ⟨ho, ⟨.ref l, H, I, rfl, q⟩⟩⟩)
theorem listV_sq {K : PySem.W.Frag} (r : RS K m H s) {v : Vl} {x : V} {vs : List Vl} (h : listV v s = some vs) (rx : RV K m H v x) : ∃ a ws, x = .ref a ∧ SqL K H a ws ∧ RVs K m H vs ws := by
  cases v with
  | r n =>
    obtain ⟨a, ws, e, _, h2, h3⟩ := r.get h rx
    exact ⟨a, ws, e, SqL.of h2, h3⟩
  | d x =>
    cases x with
    | list xs =>
      cases h
      obtain ⟨a, ws, e, h1, h2⟩ := rx
      exact ⟨a, ws, e, h1.sq, h2.rvs⟩
    | _ => cases h
theorem bin_ok (mf : Bool) (o : BOp) : OpR X (binaryOp (opOf o)) (rOp X.K (binV mf o)) := by
  intro pins st σ H x y v u Q I rx ry ⟨m, s, a, b, ra, rb, rs, h⟩
  have dd : ∀ (c d : PyData), Rep X.K m H c x → Rep X.K m H d y → PostP X.K Q m H (binD o c d s) → wpAny (model X.prog X.w) X.A (binaryOp (opOf o) v u) (EP X pins σ Q) X.xe st := by
    clear h
    intro c d rc rd h
    unfold binD at h
    split at h
    · rename_i i j
      cases q : binI o i j with
      | none => rw [q] at h; exact h.elim
      | some k =>
        rw [q] at h
        exact bin_int o pins st σ H x y v u Q I rx ry ⟨i, j, k, rc, rd, q, PostP.here rs (v := .d (.int k)) rfl h⟩
    · rename_i i j
      split at h
      · rename_i hc
        obtain ⟨rfl, hz⟩ := hc
        exact op_add_str pins st σ H x y v u Q I rx ry ⟨i, j, rc, rd, by rw [sizeLine_eq]; exact hz, PostP.here rs (v := .d (.str (i ++ j))) rfl h⟩
      · exact h.elim
    · rename_i i j
      split at h
      · rename_i hc
        obtain ⟨rfl, hz⟩ := hc
        obtain ⟨p, vs, ep, h1, h2⟩ := rc
        obtain ⟨p', vs', ep', h1', h2'⟩ := rd
        have rr : Reps X.K m H (i ++ j) (vs ++ vs') := by
          have := RVs.app h2.rvs h2'.rvs
          rw [← List.map_append] at this
          exact RVs.reps this (allD_map _)
        refine op_catA pins st σ H x y v u Q I rx ry ⟨p, p', vs, vs', ep, ep', h1.sq, h1'.sq, by rw [← h2.length, ← h2'.length, sizeLine_eq]; exact hz, fun e => ?_, fun _ e => ?_, fun _ _ q hq => ?_⟩
        · have : i = [] := List.eq_nil_of_length_eq_zero (by rw [h2.length, e]; rfl)
          subst this
          exact PostP.here rs (v := .d (.tuple j)) ⟨p', vs', rfl, h1', h2'⟩ h
        · have : j = [] := List.eq_nil_of_length_eq_zero (by rw [h2'.length, e]; rfl)
          subst this
          rw [List.append_nil] at h
          exact PostP.here rs (v := .d (.tuple i)) ⟨p, vs, rfl, h1, h2⟩ h
        · exact tup_new rs rr hq h
      · exact h.elim
    · rename_i i j
      split at h
      · rename_i hc
        obtain ⟨rfl, h2', h3', h4'⟩ := hc
        obtain ⟨p, vs, ep, h1, h2⟩ := rc
        by_cases hv : vs = []
        · have e0 : i = [] := List.eq_nil_of_length_eq_zero (by rw [h2.length, hv]; rfl)
          subst e0
          have e1 : (List.replicate j.toNat ([] : List PyData)).flatten = [] := by
            rw [List.flatten_eq_nil_iff]
            intro l hl
            exact (List.mem_replicate.mp hl).2
          rw [e1] at h
          subst hv
          exact op_repT0 pins st σ H x y v u Q I rx ry ⟨p, j, ep, rd, h1.sq, h2', h3', PostP.here rs (v := .d (.tuple [])) ⟨p, [], rfl, h1, h2⟩ h⟩
        · have rr : Reps X.K m H (List.replicate j.toNat i).flatten (List.replicate j.toNat vs).flatten := by
            have := RVs.rep j.toNat h2.rvs
            have e : (List.replicate j.toNat (List.map Vl.d i)).flatten = ((List.replicate j.toNat i).flatten).map Vl.d := by
              rw [List.map_flatten, List.map_replicate]
            rw [e] at this
            exact RVs.reps this (allD_map _)
          exact op_repT pins st σ H x y v u Q I rx ry ⟨p, j, vs, ep, rd, h1.sq, hv, h2', h3', by rw [← h2.length]; exact h4', fun q hq => tup_new rs rr hq h⟩
      · exact h.elim
    · exact h.elim
  unfold binV at h
  split at h
  · rename_i us vs q1 q2
    obtain ⟨p, ws, e1, h1, g1⟩ := listV_sq rs q1 ra
    obtain ⟨p', ws', e2, h2, g2⟩ := listV_sq rs q2 rb
    have hl := mkL_len h
    refine op_catL pins st σ H x y v u Q I rx ry ⟨p, p', ws, ws', e1, e2, h1, h2, ?_, fun q hq => mkL_new rs (RVs.app g1 g2) hq h⟩
    rw [List.length_append, g1.length, g2.length] at hl
    exact hl
  · split at h
    · exact dd _ _ ra rb h
    · exact h.elim
end
end SM

/-! SM: dicts whose keys are nested tuples. -/
namespace SM
open PySem L2 PySem.Spec PyProof.Rows
mutual
theorem nk_hash (w w' : World) : ∀ {d : PyData} {q : NestedKey}, nkD d = some q → q.hash w = q.hash w'
  | .int _, _, h => by cases h; rfl
  | .none, _, h => by cases h; rfl
  | .tuple xs, _, h => by
    simp only [nkD] at h
    cases hk : nkDs xs with
    | none => rw [hk] at h; cases h
    | some ks =>
      rw [hk] at h
      cases h
      show reduceHash (Builtin.Tuple.tupleHashOf (NestedKey.hashes w ks)) = reduceHash (Builtin.Tuple.tupleHashOf (NestedKey.hashes w' ks))
      rw [nks_hash w w' hk]
  | .bool _, _, h => by simp [nkD] at h
  | .str _, _, h => by simp [nkD] at h
  | .list _, _, h => by simp [nkD] at h
  | .dict _, _, h => by simp [nkD] at h
theorem nks_hash (w w' : World) : ∀ {ds : List PyData} {ks : List NestedKey}, nkDs ds = some ks → NestedKey.hashes w ks = NestedKey.hashes w' ks
  | [], _, h => by cases h; rfl
  | x :: xs, _, h => by
    simp only [nkDs] at h
    split at h
    · rename_i k ks e1 e2
      cases h
      show NestedKey.hash w k :: NestedKey.hashes w ks = NestedKey.hash w' k :: NestedKey.hashes w' ks
      rw [nk_hash w w' e1, nks_hash w w' e2]
    · cases h
end
theorem keyT_some {k : PyData} {q : NestedKey} (h : keyT k = some q) : ∃ xs, k = .tuple xs ∧ nkD k = some q ∧ q.depth ≤ 8 := by
  unfold keyT at h
  split at h
  · rename_i xs
    split at h
    · rename_i ks e
      split at h
      · rename_i c
        cases h
        exact ⟨xs, rfl, by simp [nkD, e], c⟩
      · cases h
    · cases h
  · cases h
section
variable {X : Cx} {pins : List (Addr × Obj)} {σ : L2.St} {H : Hp} {st : Shared} {m : Mu} {s : Sto} {Q : VK}
mutual
theorem rep_nk (I : Inv X pins σ H st) : ∀ {d : PyData} {v : V} {u : Value} {q : NestedKey}, nkD d = some q → Rep X.K m H d v → RelV v u → NestedIs st.heap q u
  | .int i, _, _, _, h, rv, r => by cases h; cases rv; obtain ⟨t, rfl⟩ := r; exact .int i t
  | .none, _, _, _, h, rv, r => by cases h; cases rv; cases r; exact .none
  | .tuple xs, _, _, _, h, ⟨a, vs, e, h1, h2⟩, r => by
    subst e
    cases r
    simp only [nkD] at h
    cases hk : nkDs xs with
    | none => rw [hk] at h; cases h
    | some ks =>
      rw [hk] at h
      cases h
      obtain ⟨its, rv, ⟨o, ho, hc, n, hd⟩, _⟩ := I.tuple h1.sq
      exact .tup ho hc hd (by simpa using reps_nk I hk h2 rv)
  | .bool _, _, _, _, h, _, _ => by simp [nkD] at h
  | .str _, _, _, _, h, _, _ => by simp [nkD] at h
  | .list _, _, _, _, h, _, _ => by simp [nkD] at h
  | .dict _, _, _, _, h, _, _ => by simp [nkD] at h
theorem reps_nk (I : Inv X pins σ H st) : ∀ {ds : List PyData} {vs : List V} {us : List Value} {ks : List NestedKey}, nkDs ds = some ks → Reps X.K m H ds vs → Vals vs us → NestedAll st.heap ks us
  | [], _, _, _, h, rv, r => by
    cases h
    have rv : _ = [] := rv
    subst rv
    cases r
    exact .nil
  | d :: ds, _, _, _, h, ⟨v, w, e, h1, h2⟩, r => by
    subst e
    simp only [nkDs] at h
    split at h
    · rename_i k ks e1 e2
      cases h
      cases r with
      | cons r1 r2 => exact .cons (rep_nk I e1 h1 r1) (reps_nk I e2 h2 r2)
    · cases h
end
theorem key_is (I : Inv X pins σ H st) {k : PyData} {q : NestedKey} {b : Addr} (h : keyT k = some q) (r : Rep X.K m H k (.ref b)) : (nestedKind X.prog X.w).is st.heap q b := by
  obtain ⟨xs, _, h1, h2⟩ := keyT_some h
  exact ⟨rep_nk I h1 r rfl, h2⟩
theorem repD_is (I : Inv X pins σ H st) : ∀ {kvs : List (PyData × PyData)} {xs : List (NestedKey × Addr × Value)}, RepD X.K m H kvs xs → ∀ x ∈ xs, (nestedKind X.prog X.w).is st.heap x.1 x.2.1
  | [], _, h, x, hx => by have h : _ = [] := h; subst h; cases hx
  | (k, y) :: r, _, ⟨q, b, v, u, ys, e, hk, h0, h1, rv, h2⟩, x, hx => by
    subst e
    rcases List.mem_cons.mp hx with rfl | hx
    · exact key_is I hk h0
    · exact repD_is I h2 x hx
theorem repD_hash {K : PySem.W.Frag} (P P' : Program) (w w' : World) : ∀ {kvs : List (PyData × PyData)} {xs : List (NestedKey × Addr × Value)}, RepD K m H kvs xs → xs.map (entryOfKey (nestedKind P w)) = xs.map (entryOfKey (nestedKind P' w'))
  | [], _, h => by have h : _ = [] := h; subst h; rfl
  | (k, y) :: r, _, ⟨q, b, v, u, ys, e, hk, h0, h1, rv, h2⟩ => by
    subst e
    rw [List.map_cons, List.map_cons, repD_hash P P' w w' h2]
    obtain ⟨xs, _, h1, _⟩ := keyT_some hk
    have : (nestedKind P w).hash q = (nestedKind P' w').hash q := nk_hash w w' h1
    simp only [entryOfKey, this]
theorem repD_len {K : PySem.W.Frag} : ∀ {kvs : List (PyData × PyData)} {xs : List (NestedKey × Addr × Value)}, RepD K m H kvs xs → kvs.length = xs.length
  | [], _, h => by have h : _ = [] := h; subst h; rfl
  | (k, y) :: r, _, ⟨q, b, v, u, ys, e, hk, h0, h1, rv, h2⟩ => by subst e; simp [repD_len h2]
theorem repD_nodup {K : PySem.W.Frag} : ∀ {kvs : List (PyData × PyData)} {xs : List (NestedKey × Addr × Value)}, RepD K m H kvs xs → kvs.map (fun p => keyT p.1) = xs.map fun x => some x.1
  | [], _, h => by have h : _ = [] := h; subst h; rfl
  | (k, y) :: r, _, ⟨q, b, v, u, ys, e, hk, h0, h1, rv, h2⟩ => by subst e; simp [repD_nodup h2, hk]
theorem DctP.stay {a : Addr} {xs : List (NestedKey × Addr × Value)} {h1 h2 : Heap} (x : DctP a xs h1) (k : ∀ o, h1.get? a = some o → h2.get? a = some o) : DctP a xs h2 := by
  obtain ⟨d, z, o, es, ep, ho, r⟩ := x
  exact ⟨d, z, o, es, ep, k _ ho, r⟩
theorem DctP.ok {P : Program} {w : World} {H : Hp} {a : Addr} {xs : List (NestedKey × Addr × Value)} {h : Heap} (x : DctP a xs h) : ObjOk P w H h a (DctO a xs) := by
  obtain ⟨_, _, o, es, ep, ho, _⟩ := id x
  exact ⟨x, ⟨o, ho⟩, fun h1 h2 y k => DctP.stay y k⟩
theorem dct_of (I : Inv X pins σ H st) {a : Addr} {xs : List (NestedKey × Addr × Value)} (r : Rd H a (DctO a xs)) : DctP a xs st.heap := (r.ok I.hok).1
theorem dct_H (I : Inv X pins σ H st) {a : Addr} {xs : List (NestedKey × Addr × Value)} {kvs : List (PyData × PyData)} (r : Rd H a (DctO a xs)) (rd : RepD X.K m H kvs xs) : (a == sysModules) = false ∧ xs.length ≤ sizeLine ∧ st.heap.DictOfH (nestedKind X.prog X.w) a xs := by
  obtain ⟨d, z, o, es, ep, ho, hx, hd, he, hn⟩ := dct_of I r
  exact ⟨d, z, o, es, ep, ho, hx, hd, he _ _, repD_is I rd, hn⟩
theorem repD_get {K : PySem.W.Frag} {k : PyData} {q : NestedKey} (hk : keyT k = some q) : ∀ {kvs : List (PyData × PyData)} {xs : List (NestedKey × Addr × Value)}, RepD K m H kvs xs →
    (match dGet kvs k with
    | some y => ∃ b u v, atKey xs q = some (b, u) ∧ Rep K m H y v ∧ RelV v u
    | none => atKey xs q = none)
  | [], _, h => by have h : _ = [] := h; subst h; rfl
  | (k', y) :: r, _, ⟨q', b, v, u, ys, e, hk', h0, h1, rv, h2⟩ => by
    subst e
    have ih := repD_get hk h2
    by_cases e : q' = q
    · subst e
      have : dGet ((k', y) :: r) k = some y := by simp [dGet, kIs, List.find?_cons, hk, hk']
      rw [this]
      exact ⟨b, u, v, by simp [atKey, List.find?_cons], h1, rv⟩
    · have h3 : dGet ((k', y) :: r) k = dGet r k := by simp [dGet, kIs, List.find?_cons, hk, hk', e]
      have h4 : atKey ((q', b, u) :: ys) q = atKey ys q := by simp [atKey, List.find?_cons, e]
      rw [h3, h4]
      exact ih
theorem repD_any {K : PySem.W.Frag} {k : PyData} {q : NestedKey} (hk : keyT k = some q) {kvs : List (PyData × PyData)} {xs : List (NestedKey × Addr × Value)} (rd : RepD K m H kvs xs) : kvs.any (kIs k) = (atKey xs q).isSome := by
  have h := repD_get hk rd
  have e : (dGet kvs k).isSome = kvs.any (kIs k) := by
    unfold dGet
    rw [Option.isSome_map, Bool.eq_iff_iff, List.find?_isSome, List.any_eq_true]
  rw [← e]
  cases q' : dGet kvs k with
  | none => rw [q'] at h; rw [h]; rfl
  | some y => rw [q'] at h; obtain ⟨b, u, v, h1, _⟩ := h; rw [h1]; rfl
theorem repD_map {K : PySem.W.Frag} {k x : PyData} {q : NestedKey} {v : V} {u : Value} (hk : keyT k = some q) (rx : Rep K m H x v) (rv : RelV v u) : ∀ {kvs : List (PyData × PyData)} {xs : List (NestedKey × Addr × Value)}, RepD K m H kvs xs → RepD K m H (kvs.map fun p => if kIs k p then (p.1, x) else p) (xs.map (putAt q u))
  | [], _, h => by have h : _ = [] := h; subst h; exact rfl
  | (k', y) :: r, _, ⟨q', b, v', u', ys, e, hk', h0, h1, rv', h2⟩ => by
    subst e
    have ih := repD_map hk rx rv h2
    rw [List.map_cons, List.map_cons]
    by_cases e : q' = q
    · subst e
      have e1 : kIs k (k', y) = true := by simp [kIs, hk, hk']
      rw [if_pos e1, putAt, if_pos rfl]
      exact ⟨q', b, v, u, _, rfl, hk', h0, rx, rv, ih⟩
    · have e1 : ¬ kIs k (k', y) = true := by simp [kIs, hk, hk', e]
      rw [if_neg e1, putAt, if_neg e]
      exact ⟨q', b, v', u', _, rfl, hk', h0, h1, rv', ih⟩
theorem repD_app {K : PySem.W.Frag} {k x : PyData} {q : NestedKey} {b : Addr} {v : V} {u : Value} (hk : keyT k = some q) (h0 : Rep K m H k (.ref b)) (rx : Rep K m H x v) (rv : RelV v u) : ∀ {kvs : List (PyData × PyData)} {xs : List (NestedKey × Addr × Value)}, RepD K m H kvs xs → RepD K m H (kvs ++ [(k, x)]) (xs ++ [(q, b, u)])
  | [], _, h => by have h : _ = [] := h; subst h; exact ⟨q, b, v, u, [], rfl, hk, h0, rx, rv, rfl⟩
  | (k', y) :: r, _, ⟨q', b', v', u', ys, e, hk', g0, g1, rv', h2⟩ => by
    subst e
    exact ⟨q', b', v', u', _, rfl, hk', g0, g1, rv', repD_app hk h0 rx rv h2⟩
theorem repD_put {K : PySem.W.Frag} {k x : PyData} {q : NestedKey} {b : Addr} {v : V} {u : Value} (hk : keyT k = some q) (h0 : Rep K m H k (.ref b)) (rx : Rep K m H x v) (rv : RelV v u) {kvs : List (PyData × PyData)} {xs : List (NestedKey × Addr × Value)} (rd : RepD K m H kvs xs) : RepD K m H (dPut kvs k x) (storedH xs q b u) := by
  unfold dPut storedH
  rw [repD_any hk rd]
  by_cases c : (atKey xs q).isSome = true
  · rw [if_pos c, if_pos c]; exact repD_map hk rx rv rd
  · rw [if_neg c, if_neg c]; exact repD_app hk h0 rx rv rd
theorem storedH_len {κ : Type} [DecidableEq κ] {xs : List (κ × Addr × Value)} {q : κ} {b : Addr} {u : Value} : (storedH xs q b u).length ≤ xs.length + 1 := by
  unfold storedH
  split <;> simp
/-- d[k] -/
theorem dD_get {A : Around} {E : Value → Shared → Prop} {R : Value → Shared → Prop} (hu : A.units + 10 < cLine) (I : Inv X pins σ H st) {a b : Addr} {kvs : List (PyData × PyData)} {xs : List (NestedKey × Addr × Value)} {k y : PyData} {q : NestedKey} (hk : keyT k = some q)
    (r : Rd H a (DctO a xs)) (rd : RepD X.K m H kvs xs) (rk : Rep X.K m H k (.ref b)) (hy : dGet kvs k = some y) (h : ∀ u v st', Inv X pins σ H st' → Rep X.K m H y v → RelV v u → R u st') : wpAny (model X.prog X.w) A (getItem (.ref a) (.ref b)) R E st := by
  obtain ⟨d, z, hm⟩ := dct_H I r rd
  have g := repD_get hk rd
  rw [hy] at g
  obtain ⟨b', u, v, g1, g2, g3⟩ := g
  exact wpAny_getItem_heap (by show A.units + 1 + 8 < cLine; omega) (key_is I hk rk) hm g1 (h u v _ (I.tok _) g2 g3)
/-- a dict's own object behind a store -/
theorem dct_new {P : Program} {w : World} {H' : Hp} {h' : Heap} {a : Addr} {xs : List (NestedKey × Addr × Value)} {kvs : List (PyData × PyData)} {K : PySem.W.Frag} (d : (a == sysModules) = false) (z : xs.length ≤ sizeLine) (rd : RepD K m H' kvs xs) (hm : h'.DictOfH (nestedKind P w) a xs) : ObjOk P w H' h' a (DctO a xs) := by
  obtain ⟨o, es, ep, ho, hx, hd, he, _, hn⟩ := hm
  refine DctP.ok ⟨d, z, o, es, ep, ho, hx, hd, fun P' w' => ?_, hn⟩
  rw [he, repD_hash P P' w w' rd]
/-- d[k] = v, by a statement -/
theorem dD_set {A : Around} {E : Value → Shared → Prop} {R : Unit → Shared → Prop} (hu : A.units + 10 < cLine) (I : Inv X pins σ H st) {a b : Addr} {kvs : List (PyData × PyData)} {xs : List (NestedKey × Addr × Value)} {k x : PyData} {q : NestedKey} {v : V} {u : Value} (hk : keyT k = some q)
    (r : H a = some (DctO a xs)) (hi : inM m a) (rd : RepD X.K m H kvs xs) (hl : kvs.length < sizeLine) (rk : Rep X.K m H k (.ref b)) (rx : Rep X.K m H x v) (rv : RelV v u)
    (h : ∀ st', Inv X pins σ (upd H a (DctO a (storedH xs q b u))) st' → RepD X.K m (upd H a (DctO a (storedH xs q b u))) (dPut kvs k x) (storedH xs q b u) → R () st') : wpAny (model X.prog X.w) A (setItem (.ref a) (.ref b) u) R E st := by
  obtain ⟨d, z, hm⟩ := dct_H I (.inl r) rd
  have hl' := repD_len rd
  have hs := storedH_len (xs := xs) (q := q) (b := b) (u := u)
  refine wpAny_setItem_heap (hsz := z) (by show A.units + 1 + 8 < cLine; omega) (key_is I hk rk) hm fun h' hm' sb => ?_
  have kp : Kp m H m (upd H a (DctO a (storedH xs q b u))) := fun c o e n => ⟨by rw [upd_ne]; exact e; rintro rfl; exact n hi, n⟩
  have rd' := RepD.kp kp (repD_put hk rk rx rv rd)
  refine h _ (d_write I (by rw [r]; exact True.intro) sb ?_ (dct_new (K := X.K) d (by omega) rd' hm')) rd'
  obtain ⟨o, _, _, ho, _⟩ := hm'
  exact ⟨o, ho⟩
/-- d[k] = v, by a comprehension -/
theorem dD_put {A : Around} {E : Value → Shared → Prop} {R : Unit → Shared → Prop} (hu : A.units + 10 < cLine) (I : Inv X pins σ H st) {a b : Addr} {kvs : List (PyData × PyData)} {xs : List (NestedKey × Addr × Value)} {k x : PyData} {q : NestedKey} {v : V} {u : Value} (hk : keyT k = some q)
    (r : H a = some (DctO a xs)) (hi : inM m a) (rd : RepD X.K m H kvs xs) (hl : kvs.length < sizeLine) (rk : Rep X.K m H k (.ref b)) (rx : Rep X.K m H x v) (rv : RelV v u)
    (h : ∀ st', Inv X pins σ (upd H a (DctO a (storedH xs q b u))) st' → RepD X.K m (upd H a (DctO a (storedH xs q b u))) (dPut kvs k x) (storedH xs q b u) → R () st') : wpAny (model X.prog X.w) A (dictSet a (.ref b) u) R E st := by
  obtain ⟨d, z, hm⟩ := dct_H I (.inl r) rd
  have hl' := repD_len rd
  have hs := storedH_len (xs := xs) (q := q) (b := b) (u := u)
  refine wpAny_dictSet_heap (hsz := z) (by show A.units + 8 < cLine; omega) (key_is I hk rk) hm fun h' hm' sb => ?_
  have kp : Kp m H m (upd H a (DctO a (storedH xs q b u))) := fun c o e n => ⟨by rw [upd_ne]; exact e; rintro rfl; exact n hi, n⟩
  have rd' := RepD.kp kp (repD_put hk rk rx rv rd)
  refine h _ (d_write I (by rw [r]; exact True.intro) sb ?_ (dct_new (K := X.K) d (by omega) rd' hm')) rd'
  obtain ⟨o, _, _, ho, _⟩ := hm'
  exact ⟨o, ho⟩
/-- {} -/
theorem dD_empty (h : Heap) (hb : sysModules < h.objs.size) : DctP h.objs.size [] (h.push { cls := .type "dict", data := .dict #[] }) := by
  refine ⟨?_, Nat.zero_le _, _, #[], 0, Heap.get?_push_size _ rfl, ⟨rfl, rfl, rfl⟩, rfl, fun _ _ => rfl, List.nodup_nil⟩
  rw [beq_eq_false_iff_ne]
  exact Nat.ne_of_gt hb
/-- a dict is known to its object from here on -/
theorem dD_frz (I : Inv X pins σ H st) {a : Addr} {xs : List (NestedKey × Addr × Value)} (r : H a = some (DctO a xs)) : ∃ o, Inv X pins σ (upd H a (.frz o (DctO a xs))) st := by
  have p := dct_of I (.inl r)
  obtain ⟨_, _, o, es, ep, ho, _⟩ := id p
  exact ⟨o, d_write (t' := st.toks) I (by rw [r]; exact True.intro) ⟨rfl, fun _ _ => rfl⟩ ⟨o, ho⟩ ⟨ho, DctP.ok p⟩⟩
end
end SM

/-! SM: new dicts, their lists, their walks. -/
namespace SM
open PySem L2 PySem.Spec PyProof.Rows
section
variable {X : Cx} {pins : List (Addr × Obj)} {σ : L2.St} {H : Hp} {st : Shared} {m : Mu} {s : Sto} {Q : VK}
theorem pe_dnewD {pos : Pos} : PE X (.Dict [] [] pos) (fun _ H Q => ∀ p, H p = none → Q (.ref p) (upd H p (DctO p []))) := ⟨fun pins s σ H Q I h =>
  wpAny_Dict_empty ⟨.ref s.heap.objs.size, _, I.laid (a := s.heap.objs.size) (o := DctO s.heap.objs.size []) (t' := s.toks) (fun _ _ q => Heap.get?_push_of_some _ q) (Nat.le_refl _) (DctP.ok (dD_empty s.heap I.big)), rfl, h _ (I.hok.fresh (Nat.le_refl _))⟩⟩
/-- the places of the keys -/
def keyRefs (xs : List (NestedKey × Addr × Value)) : List V := xs.map fun x => V.ref x.2.1
theorem repD_keys {K : PySem.W.Frag} : ∀ {kvs : List (PyData × PyData)} {xs : List (NestedKey × Addr × Value)}, RepD K m H kvs xs → Reps K m H (kvs.map (·.1)) (keyRefs xs)
  | [], _, h => by have h : _ = [] := h; subst h; rfl
  | (k, y) :: r, _, ⟨q, b, v, u, ys, e, hk, h0, h1, rv, h2⟩ => by subst e; exact ⟨_, _, rfl, h0, repD_keys h2⟩
theorem dct_raw (I : Inv X pins σ H st) {a : Addr} {xs : List (NestedKey × Addr × Value)} (r : Rd H a (DctO a xs)) : (a == sysModules) = false ∧ xs.length ≤ sizeLine ∧ ∃ es ep, st.heap.DictRaw a es ep ∧ es.size = xs.length ∧ ∀ i (hi : i < es.size), ∃ y, xs[i]? = some y ∧ es[i].key = .ref y.2.1 := by
  obtain ⟨d, z, o, es, ep, ho, hx, hd, he, hn⟩ := dct_of I r
  have hs := size_of_entries (he X.prog X.w)
  refine ⟨d, z, es, ep, ⟨o, ho, hx, hd⟩, hs, fun i hi => ?_⟩
  have hxi : i < xs.length := hs ▸ hi
  have e := entry_at (he X.prog X.w) i
  rw [Array.getElem?_eq_getElem hi, List.getElem?_eq_getElem hxi, Option.map_some] at e
  have e' := Option.some.inj e
  exact ⟨xs[i], List.getElem?_eq_getElem hxi, by rw [e']; rfl⟩
theorem vals_keys {xs : List (NestedKey × Addr × Value)} : ∀ (its : List Value), its.length = xs.length → (∀ (j : Nat) (v : Value), its[j]? = some v → ∃ y : NestedKey × Addr × Value, xs[j]? = some y ∧ v = Value.ref y.2.1) → Vals (keyRefs xs) its := by
  induction xs with
  | nil => intro its h _; cases its <;> first | exact .nil | cases h
  | cons x xs ih =>
    intro its h g
    cases its with
    | nil => cases h
    | cons v its =>
      refine .cons ?_ (ih its (by simpa using h) fun j w e => ?_)
      · obtain ⟨y, e1, e2⟩ := g 0 v rfl
        cases e1
        exact e2
      · obtain ⟨y, e1, e2⟩ := g (j + 1) w (by simpa using e)
        exact ⟨y, by simpa using e1, e2⟩
/-- list(d) -/
theorem call_list_dict (hc : X.calm = true) : CallR X (.type "list") (fun xs H Q => ∃ p ys, xs = [.ref p] ∧ Rd H p (DctO p ys) ∧ ∀ l, H l = none → Q (.ref l) (upd H l (.lst (keyRefs ys)))) := by
  intro pins s σ H xs us Q I r h
  obtain ⟨p, ys, rfl, hq, q⟩ := h
  obtain ⟨u, rfl, rx⟩ := vals1 r
  cases rx
  obtain ⟨d, z, es, ep, hr, hs, he⟩ := dct_raw I hq
  refine PySem.W.kdl_call (KdlSrc.rawDict (es := es) (ep := ep) d) (I.ok.hd hc) hr (by omega) fun h' tk acc' c' kp e hacc => ?_
  refine ⟨.ref s.heap.objs.size, _, I.laid (t' := tk) kp (Nat.le_refl _) (show ObjOk X.prog X.w _ h' _ (.lst (keyRefs ys)) from ⟨by unfold keyRefs; rw [List.length_map]; exact z, acc'.toList, c', vals_keys _ (by rw [Array.length_toList, hacc.1, hs]) fun j v e => ?_, by rw [Array.toArray_toList]; exact e⟩), rfl, q _ (I.hok.fresh (Nat.le_refl _))⟩
  obtain ⟨hi, e2⟩ := hacc.2 j v (by rw [← Array.getElem?_toList]; exact e)
  obtain ⟨y, e3, e4⟩ := he j hi
  exact ⟨y, e3, by rw [e2]; exact e4⟩
/-- the walk of a dict that is known to its object -/
def Itd (a : Addr) (o : Obj) (xs : List (NestedKey × Addr × Value)) : It where
  go := fun i H => H a = some (.frz o (DctO a xs)) ∧ i < xs.length
  yld := fun i H v H' => H' = H ∧ (keyRefs xs)[i]? = some v
  stop := fun i H => H a = some (.frz o (DctO a xs)) ∧ xs.length ≤ i
theorem frz_raw (I : Inv X pins σ H st) {a : Addr} {o : Obj} {xs : List (NestedKey × Addr × Value)} {es : Array DictEntry} {ep : Nat} (hd : o.data = .dict es ep) (r : H a = some (.frz o (DctO a xs))) : (a == sysModules) = false ∧ st.heap.DictRaw a es ep ∧ es.size = xs.length ∧ ∀ i (hi : i < es.size), ∃ y, xs[i]? = some y ∧ es[i].key = .ref y.2.1 := by
  obtain ⟨ho, _⟩ := (show ObjOk X.prog X.w H st.heap a (.frz o (DctO a xs)) from I.hok a _ r)
  obtain ⟨d, z, es', ep', hr, hs, he⟩ := dct_raw I (.inr ⟨o, r⟩)
  obtain ⟨o', ho', hx', hd'⟩ := id hr
  rw [ho] at ho'
  cases ho'
  rw [hd] at hd'
  cases hd'
  exact ⟨d, hr, hs, he⟩
theorem turn_dictD {P : Program} {w : World} {K : PySem.W.Frag} {tg : Expr} (a it : Addr) {o : Obj} {xs : List (NestedKey × Addr × Value)} {es : Array DictEntry} {ep : Nat} (hd : o.data = .dict es ep) : Turn P w K tg (Itd a o xs) [it] it (fun i h => h.IsKeyIter it a i es.size ep) where
  mem := by simp
  obj := fun i h st b hb => by
    have e : b = it := by simpa using hb
    subst e
    obtain ⟨o, e, c, d⟩ := st
    exact ⟨o, e, fun v z => by rw [d] at z; cases z⟩
  keep := fun i h h' st k => by
    obtain ⟨o, e, r⟩ := st
    exact ⟨o, k it (by simp) o e, r⟩
  item := by
    intro X hP hw hK hc i pins s σ H E I hf st hg
    subst hP hw hK
    obtain ⟨hH, hi⟩ := hg
    obtain ⟨nd, hr, hs, he⟩ := frz_raw I hd hH
    obtain ⟨f0, f1, f2, f3, f4, f5⟩ := hf it (by simp)
    have hi' : i < es.size := by omega
    obtain ⟨y, e1, e2⟩ := he i hi'
    refine wpAny_pyNext_keys_item_raw st hr hi' fun h' st' sb => ?_
    have I1 : Inv X pins σ H { s with heap := h' } := I.turned (t' := s.toks) (fun b o hb e => (sb.2 b hb).trans e) f0 f1 f3 f4 f5
    obtain ⟨o2, e3, c, d2⟩ := id st'
    exact ⟨_, rfl, go_of (s := { s with heap := h' }) e3 c d2 (by decide) ⟨.ref y.2.1, H, I1, e2, ⟨rfl, by unfold keyRefs; rw [List.getElem?_map, e1]; rfl⟩, st', fun b hb => (hf b hb).1⟩⟩
  done := by
    intro X hP hw hK hc i pins s σ H E I hf st hg
    subst hP hw hK
    obtain ⟨hH, hi⟩ := hg
    obtain ⟨nd, hr, hs, he⟩ := frz_raw I hd hH
    obtain ⟨f0, f1, f2, f3, f4, f5⟩ := hf it (by simp)
    exact wpAny_pyNext_keys_end_raw (I.ok.hd hc) st hr (by omega) fun h' eb => ⟨rfl, I.turned (t' := s.toks) (fun b o hb e => eb b o hb e) f0 f1 f3 f4 f5⟩
  self := fun _ _ _ _ _ st h => wpAny_pyIter_keyiter st h
/-- what is walked: a list, a tuple, a dict that stays -/
def iSeqD (K : PySem.W.Frag) (tl : TE) : TI := fun σ H R => tl σ H fun x H1 => ∃ a, x = .ref a ∧ (((∃ xs, SqL K H1 a xs) ∧ R (Itl K a) H1) ∨ ((∃ xs, SqT K H1 a xs) ∧ R (Itt K a) H1) ∨ ∃ o xs, H1 a = some (.frz o (DctO a xs)) ∧ R (Itd a o xs) H1)
theorem pi_seqD {tg l : Expr} {tl : TE} (hl : PE X l tl) : PI X tg l (iSeqD X.K tl) := by
  refine ⟨fun pins st σ H R I h => ?_⟩
  refine thn (hl.run pins st σ H _ I h) fun v s1 ⟨x, H1, I1, r1, a, e, q1⟩ => ?_
  subst e
  cases r1
  have fp : ∀ b ∈ [s1.heap.objs.size], FpOk X pins H1 b := fun b hb => by
    have e : b = s1.heap.objs.size := by simpa using hb
    subst e
    exact I1.fpOk (Nat.le_refl _) (I1.hok.fresh (Nat.le_refl _))
  rcases q1 with ⟨⟨xs, hq⟩, q⟩ | ⟨⟨xs, hq⟩, q⟩ | ⟨o, xs, hq, q⟩
  · obtain ⟨its, _, p, _⟩ := I1.list hq
    exact wpAny_pyIter_list p.isList ⟨_, _, _, _, H1, rfl, I1.kept (t' := s1.toks) fun b o e => Heap.get?_push_of_some _ e, turn_list a _, ⟨_, Heap.get?_push_size _ rfl, rfl, rfl⟩, fp, q⟩
  · obtain ⟨its, _, p, _⟩ := I1.tuple hq
    exact wpAny_pyIter_tuple (show s1.heap.IsTuple a its.toArray from p) ⟨_, _, _, _, H1, rfl, I1.kept (t' := s1.toks) fun b o e => Heap.get?_push_of_some _ e, turn_tuple a _, ⟨_, Heap.get?_push_size _ rfl, rfl, rfl⟩, fp, q⟩
  · obtain ⟨nd, z, es, ep, hr, hs, he⟩ := dct_raw I1 (.inr ⟨o, hq⟩)
    obtain ⟨ho, _⟩ := (show ObjOk X.prog X.w H1 s1.heap a (.frz o (DctO a xs)) from I1.hok a _ hq)
    obtain ⟨o', ho', hx', hd'⟩ := id hr
    rw [ho] at ho'
    cases ho'
    exact wpAny_pyIter_dict_raw nd hr ⟨_, _, _, _, H1, rfl, I1.kept (t' := s1.toks) fun b o e => Heap.get?_push_of_some _ e, turn_dictD a _ hd', ⟨_, Heap.get?_push_size _ rfl, rfl, rfl⟩, fp, q⟩
/-- isinstance of such a dict -/
theorem call_isiD : CallR X (.builtin "isinstance") (fun xs H Q => ∃ (a : Addr) (o : Obj) (ys : List (NestedKey × Addr × Value)) (t : String) (b : Bool), xs = [.ref a, .ty t] ∧ H a = some (.frz o (DctO a ys)) ∧ kitB "dict" t = some b ∧ Q (.bl b) H) := by
  intro pins s σ H xs us Q I r h
  obtain ⟨a, o, ys, t, b, rfl, hq, e, q⟩ := h
  obtain ⟨u1, u2, rfl, r1, r2⟩ := vals2 r
  cases (show u1 = Value.ref a from r1)
  have e2 : u2 = .type t := r2
  subst e2
  obtain ⟨_, _, _, _, hr, _, _⟩ := dct_raw I (.inr ⟨o, hq⟩)
  obtain ⟨o', ho', hx', _⟩ := hr
  exact PySem.W.kia_one PySem.W.kitx_dict I.kIn ⟨o', ho', hx'.1⟩ (kit_ty (K := X.K) e) (fun z => nomatch z) fun tk => ⟨.bl b, H, I.tok tk, rfl, q⟩
end
end SM

set_option maxHeartbeats 1000000
/-! SM: dict comprehensions whose keys are nested tuples. -/
namespace SM
open PySem L2 PySem.Spec PyProof.Rows
/-- a key and a value are put into the new dict at D -/
def PutD (K : PySem.W.Frag) (D : Addr) (Nx : Hp → Prop) (y z : V) (G : Hp) : Prop :=
  ∃ (m : Mu) (kvs : List (PyData × PyData)) (xs : List (NestedKey × Addr × Value)) (k x : PyData) (q : NestedKey) (b : Addr), y = .ref b ∧ keyT k = some q ∧ G D = some (DctO D xs) ∧ inM m D ∧ RepD K m G kvs xs ∧ kvs.length < sizeLine ∧ Rep K m G k y ∧ Rep K m G x z ∧
    ∀ u, RelV z u → RepD K m (upd G D (DctO D (storedH xs q b u))) (dPut kvs k x) (storedH xs q b u) → Nx (upd G D (DctO D (storedH xs q b u)))
/-- one turn of the block, from the store of the target on -/
def turnDc (K : PySem.W.Frag) (D : Addr) (g : TG) (tt : TT) (tk tv : TE) (vs : List Nat) (σ : L2.St) (Nx : Hp → Prop) (x : V) (G : Hp) : Prop :=
  g x (L2.wipe σ vs) G fun σ2 G2 => L2.wipe σ2 vs = L2.wipe σ vs ∧ tt σ2 G2 fun b G3 => if b = true then tk σ2 G3 fun y G4 => tv σ2 G4 fun z G5 => PutD K D Nx y z G5 else Nx G3
/-- the end: the dict as it is, or known to its object -/
def endDc (D : Addr) (Q : VK) (G : Hp) : Prop := Q (.ref D) G ∨ ∃ xs, G D = some (DctO D xs) ∧ ∀ o, Q (.ref D) (upd G D (.frz o (DctO D xs)))
def tDcD (K : PySem.W.Frag) (wi : TI) (g : TG) (tt : TT) (tk tv : TE) (vs : List Nat) : TE := fun σ H Q => wi σ H fun J G => ∀ D, G D = none → ∃ W : Nat → Nat → Hp → Prop, (∃ n, W 0 n (upd G D (DctO D []))) ∧
  ∀ i n G, W i n G → (J.stop i G ∧ endDc D Q G) ∨ (J.go i G ∧ ∃ Nx : Hp → Prop, (∀ G', Nx G' → ∃ n', n' < n ∧ W (i + 1) n' G') ∧ ∀ x G', J.yld i G x G' → turnDc K D g tt tk tv vs σ Nx x G')
section
variable {X : Cx} {pins : List (Addr × Obj)} {kx vx tg iter : Expr} {ifs : List Expr} {scope : Scope} {own : List (Str × Nat)} {pos : Pos} {wi : TI} {g : TG} {tt : TT} {tk tv : TE}
/-- a turn's run in the block's context B -/
theorem dc_turn {B : Cx} {D : Addr} {σ : L2.St} {Nx : Hp → Prop} {x : V} {G : Hp} {st : Shared} {u : Value} (hu : B.A.units + 10 < cLine) (hx : B.xe = fun _ _ => False) (pg : PG B tg g) (pt : PTs B ifs tt) (pk : PE B kx tk) (pv : PE B vx tv) {P : Shared → Prop}
    (I : Inv B pins (L2.wipe σ (own.map (·.2))) G st) (ru : RelV x u) (h : turnDc B.K D g tt tk tv (own.map (·.2)) σ Nx x G)
    (fin : ∀ {σ' : L2.St} {st' : Shared} {G' : Hp}, L2.wipe σ' (own.map (·.2)) = L2.wipe σ (own.map (·.2)) → Inv B pins σ' G' st' → Nx G' → P st') {R : Value → Shared → Prop} :
    wpAny (model B.prog B.w) B.A (assign tg B.env u) (fun _ s2 => wpAny (model B.prog B.w) B.A (forIn ifs true fun c r => if r = true then do let ok ← isTrue c B.env (eval c B.env); pure (ForInStep.yield ok) else pure (ForInStep.yield r)) (fun ok s3 =>
      if ok = true then wpAny (model B.prog B.w) B.A (eval kx B.env) (fun kv s4 => wpAny (model B.prog B.w) B.A (eval vx B.env) (fun vv s5 => wpAny (model B.prog B.w) B.A (dictSet D kv vv) (fun _ s6 => P s6) R s5) R s4) R s3 else P s3) R s2) R st := by
  refine thnF (hx ▸ pg.run _ _ _ G x u _ I ru h) fun _ s2 ⟨σ2, G2, I2, hw, q2⟩ => ?_
  refine thnF (hx ▸ pt.run _ s2 σ2 G2 _ I2 q2) fun b s3 ⟨G3, I3, q3⟩ => ?_
  by_cases hb : b = true
  · replace q3 := (if_pos hb).mp q3
    rw [if_pos hb]
    refine thnF (hx ▸ pk.run _ s3 σ2 G3 _ I3 q3) fun kv s4 ⟨y, G4, I4, ry, q4⟩ => ?_
    refine thnF (hx ▸ pv.run _ s4 σ2 G4 _ I4 q4) fun vv s5 ⟨z, G5, I5, rz, m, kvs, xs, k, x0, q, b0, ey, hk, hD, hi, rd, hl, rk, rx, nx⟩ => ?_
    subst ey
    obtain rfl : kv = Value.ref b0 := ry
    exact dD_put hu I5 hk hD hi rd hl rk rx rz fun s6 I6 rd' => fin hw I6 (nx vv rz rd')
  · replace q3 := (if_neg hb).mp q3
    rw [if_neg hb]
    exact fin hw I3 q3
theorem pe_dcD (hu : X.A.units + 10 < cLine) (hc : X.calm = true) (hN : X.N.Nodup) (hi : PI X tg iter wi) (ok : BlkOk X.N X.env.scope scope own)
    (hb : ∀ (s : Shared) (H : Hp) (C : Addr) (cs : List (Str × Addr)) (fp : List Addr), PG (X.blk s H scope (compEnvC scope cs C X.env) fp) tg g ∧ PTs (X.blk s H scope (compEnvC scope cs C X.env) fp) ifs tt ∧ PE (X.blk s H scope (compEnvC scope cs C X.env) fp) kx tk ∧ PE (X.blk s H scope (compEnvC scope cs C X.env) fp) vx tv)
    (hs : ∀ x, foldedSetIterable iter X.env x = pure x) : PE X (.DictComp kx vx [⟨tg, iter, ifs, 0⟩] scope pos) (tDcD X.K wi g tt tk tv (own.map (·.2))) := by
  refine ⟨fun pins s σ H Q I h => ?_⟩
  rw [arm_eval_DictComp]
  have free : ∀ y ∈ scope.names, y.2 = .free → ∃ c, X.env.cells.lookup y.1 = some c := fun y hy e => (ok.free y hy e).elim (fun k => I.ok.has _ (.inl k)) fun k => I.ok.has _ (.inr k)
  refine wpAny_comprehension_free rfl hs (closure_ok free) ok.kind (fun y hy e => (ok.uniq y hy).trans (by rw [e])) ?_
  refine thn (hi.run pins s σ H _ I h) fun xv s1 hx => thn hx fun itv s2 ⟨it, fp, tn, J, G, e, I2, T, t0, f2, q⟩ => ?_
  subst e
  refine wpAny_newObj_type (newEnv_comp ?_)
  obtain ⟨W, ⟨n0, w0⟩, turn⟩ := q s2.heap.objs.size (I2.hok.fresh (Nat.le_refl _))
  -- the new dict
  have Ia : Inv X pins σ (upd G s2.heap.objs.size (DctO s2.heap.objs.size [])) ({ s2 with heap := s2.heap.push { cls := .type "dict", data := .dict #[] } } : Shared) :=
    I2.laid (t' := s2.toks) (fun _ _ e => Heap.get?_push_of_some _ e) (Nat.le_refl _) (DctP.ok (dD_empty s2.heap I2.big))
  have small : ∀ b ∈ fp, b < s2.heap.objs.size := fun b hb => let ⟨_, e, _⟩ := T.obj _ _ t0 b hb; Heap.lt_size e
  generalize hD : s2.heap.objs.size = D at Ia w0 turn small
  generalize hsa : ({ s2 with heap := s2.heap.push { cls := .type "dict", data := .dict #[] } } : Shared) = sa at Ia
  have hha : sa.heap = s2.heap.push { cls := .type "dict", data := .dict #[] } := by rw [← hsa]
  generalize hGa : upd G D (DctO D []) = Ga at Ia w0
  have fa : ∀ b ∈ fp, FpOk X pins Ga b ∧ b < sa.heap.objs.size := fun b hb => by
    refine ⟨⟨?_, (f2 b hb).2⟩, by rw [hha, Heap.size_push, hD]; exact Nat.lt_succ_of_lt (small b hb)⟩
    rw [← hGa, upd_ne (Nat.ne_of_lt (small b hb))]
    exact (f2 b hb).1
  have ta : tn 0 sa.heap := T.keep _ _ _ t0 fun b _ o e => by rw [hha]; exact Heap.get?_push_of_some _ e
  have Ib := block_start Ia ok hN fa
  obtain ⟨pg, pt, pk, pv⟩ := hb sa Ga sa.heap.objs.size (cellsFrom (sa.heap.objs.size + 1) scope.names (cloFrom X.env.cells scope.names [])) fp
  show codeAny _ _ (.compStart (.DictComp kx vx [⟨tg, iter, ifs, 0⟩] scope pos) 0 (.ref it) (.ref D) (compEnvC scope (cellsFrom (sa.heap.objs.size + 1) scope.names (cloFrom X.env.cells scope.names [])) sa.heap.objs.size X.env)) (compPost (model X.prog X.w) X.A X.xe none (EP X pins σ Q) (.ref D) sa.heap.objs.size) { sa with heap := pushCells (sa.heap.push { cls := .type "dict", data := .dict #[] }) scope.names }
  generalize hen : compEnvC scope (cellsFrom (sa.heap.objs.size + 1) scope.names (cloFrom X.env.cells scope.names [])) sa.heap.objs.size X.env = en at Ib pg pt pk pv ⊢
  have loc : en.locals = sa.heap.objs.size := by subst hen; rfl
  generalize hsb : ({ sa with heap := pushCells (sa.heap.push { cls := .type "dict", data := .dict #[] }) scope.names } : Shared) = sb at Ib ⊢
  have tb : tn 0 sb.heap := T.keep _ _ _ ta fun b _ o e => by rw [← hsb]; exact pushCells_keeps _ _ _ _ (Heap.get?_push_of_some _ e)
  have fps : ∀ {σ' : L2.St} {G' : Hp} {s' : Shared}, Inv (X.blk sa Ga scope en fp) [] σ' G' s' → (∀ b ∈ fp, G' b = none) → ∀ b ∈ fp, FpOk (X.blk sa Ga scope en fp) [] G' b := fun {σ' G' s'} I' hn b hb =>
    ⟨hn b hb, (I'.ok.exf b hb).1, I'.ok.exfs b hb, .inl hb, fun x c e => (I'.ok.exf b hb).2 x c e, fun p hp => absurd (show p ∈ ([] : List (Addr × Obj)) ++ [] from hp) (by simp)⟩
  have nfp : ∀ b ∈ fp, Ga b = none := fun b hb => (fa b hb).1.1
  have loop : codeAny (model X.prog X.w) X.A (.compLoop (.DictComp kx vx [⟨tg, iter, ifs, 0⟩] scope pos) 0 (.ref it) (.ref D) en) (compPost (model X.prog X.w) X.A X.xe none (EP X pins σ Q) (.ref D) sa.heap.objs.size) sb := by
    refine compLoop_anyD (fun n s' => ∃ i G', W i n G' ∧ Inv (X.blk sa Ga scope en fp) [] (L2.wipe σ (own.map (·.2))) G' s' ∧ tn i s'.heap ∧ ∀ b ∈ fp, G' b = none) ?_ n0 ⟨0, Ga, w0, Ib, tb, nfp⟩
    rintro n sc ⟨i, Gc, wc, Ic, tc, nc⟩
    rcases turn i n Gc wc with ⟨stop, fine⟩ | ⟨go, Nx, hNx, step⟩
    · refine thnF (T.done (X.blk sa Ga scope en fp) rfl rfl rfl hc i [] sc _ Gc (fun _ _ => False) Ic (fps Ic nc) tc stop) fun r sd ⟨hr, Id'⟩ => ?_
      subst hr
      have Ie : Inv X pins σ Gc sd := Ia.call' (ch := fp) Id'.os Id'.base Id'.hok Id'.bare fun b hb => by
        obtain ⟨z1, z2, z3, z4, z5, z6⟩ := (fa b hb).1
        exact ⟨z4, z2, z5, z6⟩
      have nL : Gc sa.heap.objs.size = none := by rw [← loc]; exact Id'.free
      obtain ⟨mm, hns, _⟩ := Id'.loc
      have hns : sd.heap.Ns sa.heap.objs.size mm := by rw [← loc]; exact hns
      obtain ⟨z1, z2, z3, z4, z5, z6⟩ := Ia.fpOk (Nat.le_refl _) nL
      refine ⟨mm, hns, fun hz sbt => ?_⟩
      have If := Ie.turned (h' := hz) (t' := sd.toks) (fun b o hb e => (sbt.2 b hb).trans e) z1 z2 z4 z5 z6
      rcases fine with fine | ⟨xs, hx, fine⟩
      · exact ⟨.ref D, Gc, If, rfl, fine⟩
      · obtain ⟨o, Ig⟩ := dD_frz If hx
        exact ⟨.ref D, _, Ig, rfl, fine o⟩
    · refine thnF (T.item (X.blk sa Ga scope en fp) rfl rfl rfl hc i [] sc _ Gc (fun _ _ => False) Ic (fps Ic nc) tc go) fun r sd ⟨u, hr, hd⟩ => ?_
      subst hr
      refine thnF hd fun _ se ⟨x, Ge, Ie, re, ye, te, ne⟩ => ?_
      have Ip := Ie.pinned (fps Ie ne) (T.obj _ _ te)
      refine dc_turn (B := X.blk sa Ga scope en fp) (own := own) hu rfl pg pt pk pv Ip re (step x Ge ye) (P := fun s' => ∃ m, m < n ∧ ∃ i G', W i m G' ∧ Inv (X.blk sa Ga scope en fp) [] (L2.wipe σ (own.map (·.2))) G' s' ∧ tn i s'.heap ∧ ∀ b ∈ fp, G' b = none) fun {σ' s' G'} hw I' nx => ?_
      obtain ⟨n', hn', w'⟩ := hNx G' nx
      have pin : ∀ b ∈ fp, ∀ o, se.heap.get? b = some o → s'.heap.get? b = some o ∧ G' b = none := fun b hb o e => by
        have z := I'.pin (b, o) (List.mem_append_right _ (List.mem_append_right _ (mem_pinsAt hb e)))
        exact ⟨z.1, z.2.1⟩
      refine ⟨n', hn', i + 1, G', w', (I'.unpinned (pins := [])).weak (by rw [← hw, L2.wipe_length]) (fun j v e => ?_), T.keep _ _ _ te fun b hb o e => (pin b hb o e).1, fun b hb => ?_⟩
      · rw [← hw] at e
        exact (wipe_some e).1
      · obtain ⟨o, e, _⟩ := T.obj _ _ te b hb
        exact (pin b hb o e).2
  exact codeAny_compStart_dict loop (T.self X.A 0 _ _ _ tb loop)
end
end SM

/-! SM: comparisons, places, slices, by values. -/
namespace SM
open PySem L2 PySem.Spec PyProof.Rows
section
variable {X : Cx} {pins : List (Addr × Obj)} {σ : L2.St} {H : Hp} {st : Shared} {m : Mu} {s : Sto} {Q : VK}
mutual
theorem Rep.dp {K : PySem.W.Frag} : ∀ {d : PyData} {v : V}, d.canLay0 = true → Rep K m H d v → Dp K H v d
  | .none, _, _, h => by cases h; exact .non
  | .bool b, _, _, h => by cases h; exact .bl b
  | .int i, _, _, h => by cases h; exact .int i
  | .str x, _, _, h => by cases h; exact .str x
  | .list xs, _, c, ⟨a, vs, e, h1, h2⟩ => by subst e; exact .lst h1.sq (Reps.dp (by simpa [PyData.canLay0] using c) h2)
  | .tuple xs, _, c, ⟨a, vs, e, h1, h2⟩ => by subst e; exact .tup h1.sq (Reps.dp (by simpa [PyData.canLay0] using c) h2)
  | .dict _, _, c, _ => by simp [PyData.canLay0] at c
theorem Reps.dp {K : PySem.W.Frag} : ∀ {ds : List PyData} {vs : List V}, PyData.canLayAll0 ds = true → Reps K m H ds vs → DpAll K H vs ds
  | [], _, _, h => by have h : _ = [] := h; subst h; exact .nil
  | d :: ds, _, c, ⟨v, r, e, h1, h2⟩ => by
    subst e
    have c' : d.canLay0 = true ∧ PyData.canLayAll0 ds = true := by simpa [PyData.canLayAll0] using c
    exact .cons (Rep.dp c'.1 h1) (Reps.dp c'.2 h2)
end
theorem dataOf_dp {K : PySem.W.Frag} (rs : RS K m H s) {v : Vl} {x : V} {d : PyData} (rx : RV K m H v x) (h : dataOf v s = some d) (c : d.canLay0 = true) : Dp K H x d := by
  cases v with
  | d y => cases h; exact Rep.dp c rx
  | r n =>
    simp only [dataOf] at h
    cases q : listAt n s with
    | none => rw [q] at h; cases h
    | some vs =>
      rw [q] at h
      cases q2 : allD vs with
      | none => simp [q2] at h
      | some ds =>
        simp [q2] at h
        subst h
        obtain ⟨a, ws, e, _, h2, h3⟩ := rs.get q rx
        subst e
        exact .lst (SqL.of h2) (Reps.dp (by simpa [PyData.canLay0] using c) (h3.reps q2))
theorem dataV_dp {K : PySem.W.Frag} (rs : RS K m H s) {v : Vl} {x : V} {l : List PyData} (rx : RV K m H v x) (h : dataV v s = some l) (c : PyData.canLayAll0 l = true) : Dp K H x (.list l) ∨ Dp K H x (.tuple l) := by
  unfold dataV at h
  cases q : itemsV v s with
  | none => rw [q] at h; cases h
  | some vs =>
    rw [q] at h
    have h : allD vs = some l := h
    obtain ⟨a, ws, e, h1, h2⟩ := itemsV_sq rs q rx
    subst e
    rcases h1 with h1 | h1
    · exact .inl (.lst h1 (Reps.dp c (h2.reps h)))
    · exact .inr (.tup h1 (Reps.dp c (h2.reps h)))
theorem dataV_sq {K : PySem.W.Frag} (rs : RS K m H s) {v : Vl} {x : V} {l : List PyData} (rx : RV K m H v x) (h : dataV v s = some l) : ∃ a ws, x = .ref a ∧ (SqL K H a ws ∨ SqT K H a ws) ∧ Reps K m H l ws := by
  unfold dataV at h
  cases q : itemsV v s with
  | none => rw [q] at h; cases h
  | some vs =>
    rw [q] at h
    have h : allD vs = some l := h
    obtain ⟨a, ws, e, h1, h2⟩ := itemsV_sq rs q rx
    exact ⟨a, ws, e, h1, h2.reps h⟩
def copOf : COp → CmpOp
  | .eq => .Eq | .ne => .NotEq | .lt => .Lt | .le => .LtE | .gt => .Gt | .ge => .GtE | .inn => .In | .nin => .NotIn | .is => .Is | .isn => .IsNot | .din => .In | .dnin => .NotIn
def rCmp (K : PySem.W.Frag) (o : COp) : R2 := fun x y H Q => ∃ m s v w b, RV K m H v x ∧ RV K m H w y ∧ RS K m H s ∧ cmpV o v w s = some b ∧ Q (.bl b) H
def rInS (K : PySem.W.Frag) (neg : Bool) : R2 := fun x y H Q => ∃ d ds, Dp K H x d ∧ (Dp K H y (.list ds) ∨ Dp K H y (.tuple ds)) ∧ SeqAt.shaped d = true ∧ SeqAt.shaped (.list ds) = true ∧ Q (.bl (if neg then !ds.any fun z => PyData.eqv z d else ds.any fun z => PyData.eqv z d)) H
theorem op_inS (hu : X.A.units + 65 < cLine) : OpR X (compareOp .In) (rInS X.K false) := by
  intro pins s σ H x y v u Q I rx ry ⟨d, ds, hd, he, sd, se, q⟩
  rcases he with he | he
  · exact op_inD hu pins s σ H x y v u Q I rx ry ⟨d, ds, hd, he, sd, se, q⟩
  · obtain ⟨as, r1⟩ := Dp.reads I d x v hd rx
    obtain ⟨bs, r2⟩ := Dp.reads I (.tuple ds) y u he ry
    exact SeqAt.in_tuple_reads r2 r1 (SeqAt.canLay_of_shaped se) (SeqAt.canLay_of_shaped sd) (room_in_shaped sd hu) ⟨.bl _, H, I, rfl, q⟩
theorem op_notInS (hu : X.A.units + 65 < cLine) : OpR X (compareOp .NotIn) (rInS X.K true) := by
  intro pins s σ H x y v u Q I rx ry ⟨d, ds, hd, he, sd, se, q⟩
  rcases he with he | he
  · exact op_notInD hu pins s σ H x y v u Q I rx ry ⟨d, ds, hd, he, sd, se, q⟩
  · obtain ⟨as, r1⟩ := Dp.reads I d x v hd rx
    obtain ⟨bs, r2⟩ := Dp.reads I (.tuple ds) y u he ry
    exact SeqAt.notIn_tuple_reads r2 r1 (SeqAt.canLay_of_shaped se) (SeqAt.canLay_of_shaped sd) (room_in_shaped sd hu) ⟨.bl _, H, I, rfl, q⟩
theorem obind {α β : Type} {o : Option α} {f : α → Option β} {b : β} (h : o.bind f = some b) : ∃ a, o = some a ∧ f a = some b := by
  cases o with
  | none => cases h
  | some a => exact ⟨a, rfl, h⟩
theorem omap {α β : Type} {o : Option α} {f : α → β} {b : β} (h : o.map f = some b) : ∃ a, o = some a ∧ f a = b := by
  cases o with
  | none => cases h
  | some a => exact ⟨a, rfl, Option.some.inj h⟩
theorem eqD_some {a b : PyData} {r : Bool} (h : eqD a b = some r) : (∃ p q : Str, a = .str p ∧ b = .str q ∧ decide (p = q) = r) ∨ (SeqAt.shaped a = true ∧ SeqAt.shaped b = true ∧ PyData.eqv a b = r) ∨ (∃ c l, a = .list (c :: l) ∧ b = .list [] ∧ r = false) := by
  unfold eqD at h
  split at h
  · exact .inl ⟨_, _, rfl, rfl, Option.some.inj h⟩
  · exact .inr (.inr ⟨_, _, rfl, rfl, (Option.some.inj h).symm⟩)
  · refine .inr (.inl ?_)
    split at h
    · rename_i q; cases h; exact ⟨q.1, q.2, rfl⟩
    · cases h
theorem dataOf_sq {K : PySem.W.Frag} (rs : RS K m H s) {v : Vl} {x : V} {l : List PyData} (rx : RV K m H v x) (h : dataOf v s = some (.list l)) : ∃ a ws, x = .ref a ∧ SqL K H a ws ∧ ws.length = l.length := by
  cases v with
  | d y =>
    cases h
    obtain ⟨a, vs, e, h1, h2⟩ := rx
    exact ⟨a, vs, e, h1.sq, h2.length.symm⟩
  | r n =>
    simp only [dataOf] at h
    cases q : listAt n s with
    | none => rw [q] at h; cases h
    | some vs =>
      rw [q] at h
      cases q2 : allD vs with
      | none => simp [q2] at h
      | some ds =>
        simp [q2] at h
        subst h
        obtain ⟨a, ws, e, _, h2, h3⟩ := rs.get q rx
        subst e
        exact ⟨a, ws, rfl, SqL.of h2, (h3.reps q2).length.symm⟩
/-- a list that is not empty, and an empty one -/
def rLen (K : PySem.W.Frag) (r : Bool) : R2 := fun x y H Q => ∃ a b xs, x = .ref a ∧ y = .ref b ∧ SqL K H a xs ∧ SqL K H b [] ∧ 0 < xs.length ∧ Q (.bl r) H
theorem op_eqL (hu : X.A.units < cLine) : OpR X (compareOp .Eq) (rLen X.K false) := by
  intro pins s σ H x y v u Q I rx ry h
  obtain ⟨a, b, xs, rfl, rfl, ha, hb, hl, q⟩ := h
  obtain ⟨its, rv, pa, _⟩ := I.list ha
  obtain ⟨its2, rv2, pb, _⟩ := I.list hb
  cases rx
  cases ry
  have e1 := rv.length
  have e2 := rv2.length
  exact SeqAt.eq_list_lengthsAt pa.isList pb.isList (by simp at e1 e2 ⊢; omega) hu ⟨.bl _, H, I, rfl, q⟩
theorem op_neL (hu : X.A.units < cLine) : OpR X (compareOp .NotEq) (rLen X.K true) := by
  intro pins s σ H x y v u Q I rx ry h
  obtain ⟨a, b, xs, rfl, rfl, ha, hb, hl, q⟩ := h
  obtain ⟨its, rv, pa, _⟩ := I.list ha
  obtain ⟨its2, rv2, pb, _⟩ := I.list hb
  cases rx
  cases ry
  have e1 := rv.length
  have e2 := rv2.length
  exact SeqAt.RcNeAt.lists_lengths pa.isList pb.isList (by simp at e1 e2 ⊢; omega) hu _ _ _ _ ⟨.bl _, H, I, rfl, q⟩
theorem dataOf_str {K : PySem.W.Frag} {v : Vl} {x : V} {p : Str} (r : RV K m H v x) (h : dataOf v s = some (.str p)) : x = .str p := by
  cases v with
  | d y => cases h; exact r
  | r n =>
    obtain ⟨vs, q, h⟩ := obind h
    obtain ⟨ds, q2, h⟩ := omap h
    cases h
theorem OpR.or {f : Value → Value → Sem Value} {r r' : R2} (h : OpR X f r) (h' : OpR X f r') : OpR X f (fun x y H Q => r x y H Q ∨ r' x y H Q) :=
  fun pins s σ H x y v u Q I rx ry q => q.elim (h pins s σ H x y v u Q I rx ry) (h' pins s σ H x y v u Q I rx ry)
theorem dec_strV {p q : Str} : decide (V.str p = V.str q) = decide (p = q) := by simp
theorem inD_some {a : PyData} {l : List PyData} {r : Bool} (h : inD a l = some r) : SeqAt.shaped a = true ∧ SeqAt.shaped (.list l) = true ∧ (l.any fun z => PyData.eqv z a) = r := by
  unfold inD at h
  split at h
  · rename_i q; cases h; exact ⟨q.1, q.2, rfl⟩
  · cases h
theorem shaped_all {l : List PyData} (h : SeqAt.shaped (.list l) = true) : PyData.canLayAll0 l = true := by
  have := SeqAt.canLay_of_shaped h
  simpa [PyData.canLay0] using this
theorem noneV_ok {K : PySem.W.Frag} (rs : RS K m H s) {v : Vl} {x : V} {b : Bool} (rx : RV K m H v x) (h : noneV v s = some b) : decide (x = .non) = b := by
  cases v with
  | r n =>
    obtain ⟨vs, q, rfl⟩ := omap h
    obtain ⟨a, ws, e, _⟩ := rs.get q rx
    subst e; rfl
  | d y =>
    cases y with
    | none => cases h; cases rx; rfl
    | bool _ => cases h; cases rx; rfl
    | int _ => cases h; cases rx; rfl
    | str _ => cases h; cases rx; rfl
    | list _ => cases h; obtain ⟨a, ws, e, _⟩ := rx; subst e; rfl
    | tuple _ => cases h; obtain ⟨a, ws, e, _⟩ := rx; subst e; rfl
    | dict _ => cases h; obtain ⟨a, e, _⟩ := rx; subst e; rfl
def rOrd (o : COp) : R2 := fun x y H Q => ∃ i j b, x = .int i ∧ y = .int j ∧ ltI o i j = some b ∧ Q (.bl b) H
theorem dict_d {K : PySem.W.Frag} {k y : PyData} {r : List (PyData × PyData)} {x : V} (hk : (keyT k).isSome = true) (rx : Rep K m H (.dict ((k, y) :: r)) x) : ∃ a o xs, x = .ref a ∧ ¬ inM m a ∧ H a = some (.frz o (DctO a xs)) ∧ RepD K m H ((k, y) :: r) xs := by
  obtain ⟨a, e, n, ⟨ks, h1, h2⟩ | ⟨o, xs, h1, h2⟩⟩ := rx
  · obtain ⟨j, v, ys, _, hj, _⟩ := h2
    have : keyT k = none := by
      cases k <;> first | rfl | (cases hj; done)
    rw [this] at hk
    cases hk
  · exact ⟨a, o, xs, e, n, h1, h2⟩
theorem dictV_rd {K : PySem.W.Frag} (rs : RS K m H s) {v : Vl} {x : V} {kvs : List (PyData × PyData)} (rx : RV K m H v x) (h : dictV v s = some kvs) : ∃ a xs, x = .ref a ∧ Rd H a (DctO a xs) ∧ RepD K m H kvs xs := by
  unfold dictV at h
  split at h
  · split at h
    · rename_i hk
      cases h
      obtain ⟨a, o, xs, e, _, h1, h2⟩ := dict_d hk rx
      exact ⟨a, xs, e, .inr ⟨o, h1⟩, h2⟩
    · cases h
  · cases h
  · rename_i n
    unfold dictAt at h
    split at h
    · rename_i q
      cases h
      obtain ⟨a, xs, h1, h2, h3⟩ := rs.at_d n _ q
      exact ⟨a, xs, rx.2 a h1, .inl h2, h3⟩
    · cases h
theorem rep_ref {K : PySem.W.Frag} {k : PyData} {x : V} {q : NestedKey} (hk : keyT k = some q) (r : Rep K m H k x) : ∃ b, x = .ref b := by
  obtain ⟨xs, rfl, _⟩ := keyT_some hk
  obtain ⟨a, _, e, _⟩ := r
  exact ⟨a, e⟩
theorem isSome_ex {α : Type} {o : Option α} (h : o.isSome = true) : ∃ a, o = some a := by cases o with
  | none => cases h
  | some a => exact ⟨a, rfl⟩
theorem dct_some {k : PyData} {q : NestedKey} {K : PySem.W.Frag} (hk : keyT k = some q) {kvs : List (PyData × PyData)} {xs : List (NestedKey × Addr × Value)} (rd : RepD K m H kvs xs) : (atKey xs q).isSome = (dGet kvs k).isSome := by
  have g := repD_get hk rd
  cases e : dGet kvs k with
  | none => rw [e] at g; rw [g]; rfl
  | some y => rw [e] at g; obtain ⟨b, u, v, g, _⟩ := g; rw [g]; rfl
/-- the same key in a dict of the other kind is not there, and such a look is not served -/
def rDin (K : PySem.W.Frag) (neg : Bool) : R2 := fun x y H Q => ∃ m s k w kvs, Rep K m H k x ∧ RV K m H w y ∧ RS K m H s ∧ dictV w s = some kvs ∧ (keyT k).isSome = true ∧ Q (.bl (if neg then !(dGet kvs k).isSome else (dGet kvs k).isSome)) H
theorem op_dinD (hu : X.A.units + 65 < cLine) : OpR X (compareOp .In) (rDin X.K false) := by
  intro pins st σ H x y v u Q I rx ry ⟨m, s, k, w, kvs, ra, rb, rs, hv, hk, q⟩
  obtain ⟨q', hk'⟩ := isSome_ex hk
  obtain ⟨b, rfl⟩ := rep_ref hk' ra
  cases rx
  obtain ⟨a, xs, rfl, hr, rd⟩ := dictV_rd rs rb hv
  cases ry
  obtain ⟨d, z, hm⟩ := dct_H I hr rd
  refine wpAny_in_heap (by show X.A.units + 1 + 8 < cLine; omega) (key_is I hk' ra) d hm ?_
  rw [dct_some hk' rd]
  exact ⟨.bl _, H, I.tok _, rfl, q⟩
theorem op_dninD (hu : X.A.units + 65 < cLine) : OpR X (compareOp .NotIn) (rDin X.K true) := by
  intro pins st σ H x y v u Q I rx ry ⟨m, s, k, w, kvs, ra, rb, rs, hv, hk, q⟩
  obtain ⟨q', hk'⟩ := isSome_ex hk
  obtain ⟨b, rfl⟩ := rep_ref hk' ra
  cases rx
  obtain ⟨a, xs, rfl, hr, rd⟩ := dictV_rd rs rb hv
  cases ry
  obtain ⟨d, z, hm⟩ := dct_H I hr rd
  refine wpAny_notIn_heap (by show X.A.units + 1 + 8 < cLine; omega) (key_is I hk' ra) d hm ?_
  rw [dct_some hk' rd]
  exact ⟨.bl _, H, I.tok _, rfl, q⟩
theorem cmp_ok (hu : X.A.units + 65 < cLine) : (o : COp) → OpR X (compareOp (copOf o)) (rCmp X.K o)
  | .eq => OpR.weak (.or op_eq (.or (op_eqD (by omega)) (op_eqL (by omega)))) fun x y H Q ⟨m, s, v, w, b, ra, rb, rs, h, q⟩ => by
    obtain ⟨d, q1, h⟩ := obind h
    obtain ⟨e, q2, h⟩ := obind h
    rcases eqD_some h with ⟨p, p', rfl, rfl, rfl⟩ | ⟨s1, s2, rfl⟩ | ⟨c, l, rfl, rfl, rfl⟩
    · cases dataOf_str ra q1
      cases dataOf_str rb q2
      exact .inl ⟨rfl, by rw [dec_strV]; exact q⟩
    · exact .inr (.inl ⟨d, e, dataOf_dp rs ra q1 (SeqAt.canLay_of_shaped s1), dataOf_dp rs rb q2 (SeqAt.canLay_of_shaped s2), s1, s2, q⟩)
    · obtain ⟨a, xs, e1, h1, h2⟩ := dataOf_sq rs ra q1
      obtain ⟨b', ys, e2, h3, h4⟩ := dataOf_sq rs rb q2
      have e3 : ys = [] := List.eq_nil_of_length_eq_zero (by simpa using h4)
      subst e3
      exact .inr (.inr ⟨a, b', xs, e1, e2, h1, h3, by simp at h2; omega, q⟩)
  | .ne => OpR.weak (.or op_ne (.or (op_neD (by omega)) (op_neL (by omega)))) fun x y H Q ⟨m, s, v, w, b, ra, rb, rs, h, q⟩ => by
    obtain ⟨b', h0, rfl⟩ := omap h
    obtain ⟨d, q1, h1⟩ := obind h0
    obtain ⟨e, q2, h2⟩ := obind h1
    rcases eqD_some h2 with ⟨p, p', rfl, rfl, rfl⟩ | ⟨s1, s2, rfl⟩ | ⟨c, l, rfl, rfl, rfl⟩
    · cases dataOf_str ra q1
      cases dataOf_str rb q2
      exact .inl ⟨rfl, by rw [dec_strV]; exact q⟩
    · exact .inr (.inl ⟨d, e, dataOf_dp rs ra q1 (SeqAt.canLay_of_shaped s1), dataOf_dp rs rb q2 (SeqAt.canLay_of_shaped s2), s1, s2, q⟩)
    · obtain ⟨a, xs, e1, h1, h2⟩ := dataOf_sq rs ra q1
      obtain ⟨b', ys, e2, h3, h4⟩ := dataOf_sq rs rb q2
      have e3 : ys = [] := List.eq_nil_of_length_eq_zero (by simpa using h4)
      subst e3
      exact .inr (.inr ⟨a, b', xs, e1, e2, h1, h3, by simp at h2; omega, q⟩)
  | .inn => OpR.weak (op_inS hu) fun x y H Q ⟨m, s, v, w, b, ra, rb, rs, h, q⟩ => by
    obtain ⟨d, q1, h⟩ := obind h
    obtain ⟨e, q2, h⟩ := obind h
    obtain ⟨s1, s2, rfl⟩ := inD_some h
    exact ⟨d, e, dataOf_dp rs ra q1 (SeqAt.canLay_of_shaped s1), dataV_dp rs rb q2 (shaped_all s2), s1, s2, q⟩
  | .nin => OpR.weak (op_notInS hu) fun x y H Q ⟨m, s, v, w, b, ra, rb, rs, h, q⟩ => by
    obtain ⟨b', h0, rfl⟩ := omap h
    obtain ⟨d, q1, h1⟩ := obind h0
    obtain ⟨e, q2, h2⟩ := obind h1
    obtain ⟨s1, s2, rfl⟩ := inD_some h2
    exact ⟨d, e, dataOf_dp rs ra q1 (SeqAt.canLay_of_shaped s1), dataV_dp rs rb q2 (shaped_all s2), s1, s2, q⟩
  | .is => OpR.weak op_isN fun x y H Q ⟨m, s, v, w, b, ra, rb, rs, h, q⟩ => by
    simp only [cmpV] at h
    split at h
    · cases rb
      exact ⟨rfl, by rw [noneV_ok rs ra h]; exact q⟩
    · cases h
  | .isn => OpR.weak op_notN fun x y H Q ⟨m, s, v, w, b, ra, rb, rs, h, q⟩ => by
    simp only [cmpV] at h
    split at h
    · obtain ⟨b', h0, rfl⟩ := omap h
      cases rb
      exact ⟨rfl, by rw [noneV_ok rs ra h0]; exact q⟩
    · cases h
  | .din => OpR.weak (op_dinD hu) fun x y H Q ⟨m, s, v, w, b, ra, rb, rs, h, q⟩ => by
    obtain ⟨kvs, q1, h⟩ := obind h
    cases v with
    | r n => cases h
    | d k =>
      simp only at h
      split at h
      · rename_i hk
        cases h
        exact ⟨m, s, k, w, kvs, ra, rb, rs, q1, hk, q⟩
      · cases h
  | .dnin => OpR.weak (op_dninD hu) fun x y H Q ⟨m, s, v, w, b, ra, rb, rs, h, q⟩ => by
    obtain ⟨b', h0, rfl⟩ := omap h
    obtain ⟨kvs, q1, h⟩ := obind h0
    cases v with
    | r n => cases h
    | d k =>
      simp only at h
      split at h
      · rename_i hk
        cases h
        exact ⟨m, s, k, w, kvs, ra, rb, rs, q1, hk, q⟩
      · cases h
  | .lt => OpR.weak op_lt fun x y H Q ⟨m, s, v, w, b, ra, rb, rs, h, q⟩ => by
    simp only [cmpV] at h
    split at h
    · cases h; exact ⟨_, _, ra, rb, q⟩
    · cases h
  | .le => OpR.weak op_le fun x y H Q ⟨m, s, v, w, b, ra, rb, rs, h, q⟩ => by
    simp only [cmpV] at h
    split at h
    · cases h; exact ⟨_, _, ra, rb, q⟩
    · cases h
  | .gt => OpR.weak op_gt fun x y H Q ⟨m, s, v, w, b, ra, rb, rs, h, q⟩ => by
    simp only [cmpV] at h
    split at h
    · cases h; exact ⟨_, _, ra, rb, q⟩
    · cases h
  | .ge => OpR.weak op_ge fun x y H Q ⟨m, s, v, w, b, ra, rb, rs, h, q⟩ => by
    simp only [cmpV] at h
    split at h
    · cases h; exact ⟨_, _, ra, rb, q⟩
    · cases h

/-! ### places and slices -/
theorem atI_len {α β : Type} {xs : List α} {ys : List β} (h : xs.length = ys.length) {k : Int} {v : α} (e : atI xs k = some v) : ∃ j : Nat, xs[j]? = some v ∧ ∀ w, ys[j]? = some w → atI ys k = some w := by
  unfold atI at e ⊢
  obtain ⟨j, q, e⟩ := obind e
  exact ⟨j, e, fun w hw => by rw [← h, q]; exact hw⟩
theorem ix_dict (hu : X.A.units + 65 < cLine) : IxR X (fun x y H Q => ∃ m s k w kvs z, Rep X.K m H k y ∧ RV X.K m H w x ∧ RS X.K m H s ∧ dictV w s = some kvs ∧ (keyT k).isSome = true ∧ dGet kvs k = some z ∧ ∀ v, Rep X.K m H z v → Q v H) := by
  intro value slice pins st σ H x y v u Q I rx ry ⟨m, s, k, w, kvs, z, rk, rw', rs, hv, hk, hg, q⟩ hs
  obtain ⟨q', hk'⟩ := isSome_ex hk
  obtain ⟨b, rfl⟩ := rep_ref hk' rk
  cases ry
  obtain ⟨a, xs, rfl, hr, rd⟩ := dictV_rd rs rw' hv
  cases rx
  obtain ⟨_, _, hm⟩ := dct_H I hr rd
  exact tail_any hm.typeIs slot_dict_getitem.lookup (dD_get (by omega) I hk' hr rd rk hg fun u v st' I' rz rv => ⟨v, H, I', rv, q v rz⟩) hs
theorem ix_ok (hu : X.A.units + 65 < cLine) : IxR X (fun x y H Q => ∃ m s v w, RV X.K m H v x ∧ RV X.K m H w y ∧ RS X.K m H s ∧ PostP X.K Q m H (idxV v w s)) := by
  intro value slice pins st σ H x y v u Q I rx ry ⟨m, s, a, b, ra, rb, rs, h⟩ hs
  unfold idxV at h
  split at h
  · refine ix_seq value slice pins st σ H x y v u Q I rx ry ?_ hs
    rename_i k
    cases rb
    cases q1 : itemsV a s with
    | none => rw [q1] at h; exact h.elim
    | some vs =>
      rw [q1] at h
      have h : PostP X.K Q m H ((atI vs k).map (·, s)) := h
      cases q2 : atI vs k with
      | none => rw [q2] at h; exact h.elim
      | some z =>
        rw [q2] at h
        obtain ⟨p, ws, e, h1, h2⟩ := itemsV_sq rs q1 ra
        obtain ⟨j, g1, g2⟩ := atI_len (ys := ws) h2.length q2
        obtain ⟨z', e1, e2⟩ := h2.get g1
        have fin := PostP.here rs e2 h
        rcases h1 with h1 | h1
        · exact .inl ⟨p, ws, k, z', e, rfl, h1, g2 _ e1, fin⟩
        · exact .inr (.inl ⟨p, ws, k, z', e, rfl, h1, g2 _ e1, fin⟩)
  · rename_i ks
    split at h
    · rename_i hk
      cases q1 : dictV a s with
      | none => rw [q1] at h; exact h.elim
      | some kvs =>
        rw [q1] at h
        have h : PostP X.K Q m H ((dGet kvs (.tuple ks)).map fun v => (.d v, s)) := h
        cases q2 : dGet kvs (.tuple ks) with
        | none => rw [q2] at h; exact h.elim
        | some z =>
          rw [q2] at h
          exact ix_dict hu value slice pins st σ H x y v u Q I rx ry ⟨m, s, _, a, kvs, z, rb, ra, rs, q1, hk, q2, fun v' rz => PostP.here rs (v := .d z) rz h⟩ hs
    · exact h.elim
  · exact h.elim
theorem RVs.cutL {K : PySem.W.Frag} {us : List Vl} {vs : List V} (h : RVs K m H us vs) (lo hi : Option Int) : RVs K m H (SM.cutL us lo hi) (cutV vs lo hi) := by
  unfold SM.cutL cutV
  rw [h.length]
  exact RVs.take _ (RVs.drop _ h)
theorem cutL_map {α β : Type} (f : α → β) (us : List α) (lo hi : Option Int) : SM.cutL (us.map f) lo hi = (SM.cutL us lo hi).map f := by
  unfold SM.cutL
  rw [List.length_map, ← List.map_drop, ← List.map_take]
theorem cutL_whole {α : Type} {xs : List α} {lo hi : Option Int} (h1 : HT.sIx xs.length 0 lo = 0) (h2 : HT.sIx xs.length xs.length hi = xs.length) : SM.cutL xs lo hi = xs := by
  unfold SM.cutL
  rw [h1, h2]
  simp
theorem sl_ok (mf : Bool) : SlR X (fun x lo hi H Q => ∃ m s v, RV X.K m H v x ∧ RS X.K m H s ∧ PostP X.K Q m H (sliV mf v lo hi s)) := by
  intro pins st σ H x v vl vu lo hi sl Q I rx hs pl pu ⟨m, s, a, ra, rs, h⟩
  unfold sliV at h
  split at h
  · rename_i xs
    obtain ⟨p, ws, e, h1, h2⟩ := ra
    refine sl_tupA pins st σ H x v vl vu lo hi sl Q I rx hs pl pu ⟨p, ws, e, h1.sq, fun ⟨w1, w2⟩ => ?_, fun _ q hq => ?_⟩
    · rw [← h2.length] at w1 w2
      rw [cutL_whole w1 w2] at h
      exact PostP.here rs (v := .d (.tuple xs)) ⟨p, ws, rfl, h1, h2⟩ h
    · have := RVs.cutL h2.rvs lo hi
      rw [cutL_map] at this
      exact tup_new rs (this.reps (allD_map _)) hq h
  · rename_i xs
    obtain ⟨p, ws, e, h1, h2⟩ := ra
    refine sl_list pins st σ H x v vl vu lo hi sl Q I rx hs pl pu ⟨p, ws, e, h1.sq, fun q hq => ?_⟩
    have := RVs.cutL h2.rvs lo hi
    rw [cutL_map] at this
    exact mkL_new rs this hq h
  · rename_i n
    cases q : listAt n s with
    | none => rw [q] at h; exact h.elim
    | some vs =>
      rw [q] at h
      obtain ⟨p, ws, e, _, h1, h2⟩ := rs.get q ra
      exact sl_list pins st σ H x v vl vu lo hi sl Q I rx hs pl pu ⟨p, ws, e, SqL.of h1, fun q hq => mkL_new rs (RVs.cutL h2 lo hi) hq h⟩
  · exact h.elim
end
end SM

set_option maxHeartbeats 1000000
/-! SM: max and min of a tuple of ints. -/
namespace SM
open PySem L2 PySem.Spec PyProof.Rows
section
variable {prog : Program} {w : World} {A : Around} {E : Value → Shared → Prop} {s : Shared}
theorem iter_intTup {l : Addr} {xs : Array (Int × Tok)} {Q : Value → Shared → Prop} (hl : s.heap.IsTuple l (intItems xs))
    (h : ∀ s₂ : Shared, s₂ = { s with heap := s.heap.push { cls := .type "tuple_iterator", data := .fields #[.ref l, .int 0 0] } } →
      (s₂.heap.IsTupleIter s.heap.objs.size l 0 ∧ s₂.heap.IsTuple l (intItems xs)) → (∀ b ∈ [s.heap.objs.size, l], b < s₂.heap.objs.size) → l ≠ s.heap.objs.size → Q (.ref s.heap.objs.size) s₂) :
    wpAny (model prog w) A (pyIter (.ref l)) Q E s := by
  have hlt : l < s.heap.objs.size := by obtain ⟨_, e, _⟩ := hl; exact Heap.lt_size e
  refine wpAny_pyIter_tuple hl (h _ rfl ⟨⟨_, Heap.get?_push_size _ rfl, rfl, rfl⟩, hl.push _⟩ (fun b hb => ?_) (Nat.ne_of_lt hlt))
  show b < (s.heap.push _).objs.size
  rw [Heap.size_push]
  rcases List.mem_cons.mp hb with rfl | hb
  · exact Nat.lt_succ_self _
  · rcases List.mem_cons.mp hb with rfl | hb
    · exact Nat.lt_succ_of_lt hlt
    · cases hb
theorem old_keptT {l : Addr} {h' : Heap} {o : Obj} (hk : ∀ b ob, b ∉ [s.heap.objs.size] → (s.heap.push o).get? b = some ob → h'.get? b = some ob) : ∀ b ob, s.heap.get? b = some ob → h'.get? b = some ob := fun b ob e =>
  hk b ob (fun z => by rw [List.mem_singleton.mp z] at e; exact absurd (Heap.lt_size e) (Nat.lt_irrefl _)) (Heap.get?_push_of_some _ e)
theorem max_intTup {l : Addr} {xs : Array (Int × Tok)} {Q : Value → Shared → Prop} (hh : A.handled = none) (hl : s.heap.IsTuple l (intItems xs)) (hne : 0 < xs.size)
    (h : ∀ v h' tk, (intItems xs)[argBest (fun i j => decide (numAt xs i > numAt xs j)) (xs.size - 1)]? = some v → (∀ b o, s.heap.get? b = some o → h'.get? b = some o) → Q v { s with heap := h', toks := tk }) :
    wpAny (model prog w) A (call (.builtin "max") [.ref l]) Q E s := by
  refine call_max_walk (iter_intTup hl fun s₂ e st hfp hlI => ?_)
  subst e
  refine ⟨_, _, _, _, _, _, _, rfl, Walks.tuple (A := A.in1) hh _ l hlI (intItems xs), st, hfp, by simpa [intItems] using hne, CmpOf.ints_gt (numAt xs) (fun _ _ => intItems_at), fun v h' tk hP hk => ?_⟩
  exact h v h' tk (by simpa [intItems] using hP) (old_keptT (l := l) hk)
theorem min_intTup {l : Addr} {xs : Array (Int × Tok)} {Q : Value → Shared → Prop} (hh : A.handled = none) (hl : s.heap.IsTuple l (intItems xs)) (hne : 0 < xs.size)
    (h : ∀ v h' tk, (intItems xs)[argBest (fun i j => decide (numAt xs i < numAt xs j)) (xs.size - 1)]? = some v → (∀ b o, s.heap.get? b = some o → h'.get? b = some o) → Q v { s with heap := h', toks := tk }) :
    wpAny (model prog w) A (call (.builtin "min") [.ref l]) Q E s := by
  refine call_min_walk (iter_intTup hl fun s₂ e st hfp hlI => ?_)
  subst e
  refine ⟨_, _, _, _, _, _, _, rfl, Walks.tuple (A := A.in1) hh _ l hlI (intItems xs), st, hfp, by simpa [intItems] using hne, CmpOf.ints_lt (numAt xs) (fun _ _ => intItems_at), fun v h' tk hP hk => ?_⟩
  exact h v h' tk (by simpa [intItems] using hP) (old_keptT (l := l) hk)
theorem max_tupR {l : Addr} {its : List Value} {ns : List Int} {Q : Value → Shared → Prop} (hh : A.handled = none) (hl : s.heap.IsTuple l its.toArray) (hi : IntsAre its ns) (hne : 0 < ns.length)
    (h : ∀ h' tk M t', (∀ b o, s.heap.get? b = some o → h'.get? b = some o) → M ∈ ns → (∀ a, a ∈ ns → a ≤ M) → Q (.int M t') { s with heap := h', toks := tk }) : wpAny (model prog w) A (call (.builtin "max") [.ref l]) Q E s := by
  obtain ⟨xs, e⟩ := hi.allInts.items
  have hn : numsOf (intItems xs).toList = ns := by rw [← e]; exact hi.numsOf
  rw [nums_intItems] at hn
  subst hn
  rw [e] at hl
  have hsz : 0 < xs.size := by simpa using hne
  refine max_intTup hh hl hsz fun v h' tk hv hk => ?_
  obtain ⟨t, rfl⟩ := intItems_at hv
  obtain ⟨h1, h2⟩ := argBest_gt (numAt xs) (xs.size - 1)
  refine h h' tk _ t hk ?_ fun a ha => ?_
  · rw [numAt_eq]; exact PySem.getD_mem (by rw [List.length_map, Array.length_toList]; omega)
  · obtain ⟨j, hj, rfl⟩ := mem_getD ha
    rw [List.length_map, Array.length_toList] at hj
    rw [← numAt_eq]; exact h2 j (by omega)
theorem min_tupR {l : Addr} {its : List Value} {ns : List Int} {Q : Value → Shared → Prop} (hh : A.handled = none) (hl : s.heap.IsTuple l its.toArray) (hi : IntsAre its ns) (hne : 0 < ns.length)
    (h : ∀ h' tk M t', (∀ b o, s.heap.get? b = some o → h'.get? b = some o) → M ∈ ns → (∀ a, a ∈ ns → M ≤ a) → Q (.int M t') { s with heap := h', toks := tk }) : wpAny (model prog w) A (call (.builtin "min") [.ref l]) Q E s := by
  obtain ⟨xs, e⟩ := hi.allInts.items
  have hn : numsOf (intItems xs).toList = ns := by rw [← e]; exact hi.numsOf
  rw [nums_intItems] at hn
  subst hn
  rw [e] at hl
  have hsz : 0 < xs.size := by simpa using hne
  refine min_intTup hh hl hsz fun v h' tk hv hk => ?_
  obtain ⟨t, rfl⟩ := intItems_at hv
  obtain ⟨h1, h2⟩ := argBest_lt (numAt xs) (xs.size - 1)
  refine h h' tk _ t hk ?_ fun a ha => ?_
  · rw [numAt_eq]; exact PySem.getD_mem (by rw [List.length_map, Array.length_toList]; omega)
  · obtain ⟨j, hj, rfl⟩ := mem_getD ha
    rw [List.length_map, Array.length_toList] at hj
    rw [← numAt_eq]; exact h2 j (by omega)
end
section
variable {X : Cx}
def rMaxT (K : PySem.W.Frag) : List V → Hp → VK → Prop := fun vs H Q => ∃ (a : Addr) (ns : List Int), vs = [V.ref a] ∧ SqT K H a (ns.map V.int) ∧ 0 < ns.length ∧ ∀ m, m ∈ ns → (∀ y, y ∈ ns → y ≤ m) → Q (.int m) H
def rMinT (K : PySem.W.Frag) : List V → Hp → VK → Prop := fun vs H Q => ∃ (a : Addr) (ns : List Int), vs = [V.ref a] ∧ SqT K H a (ns.map V.int) ∧ 0 < ns.length ∧ ∀ m, m ∈ ns → (∀ y, y ∈ ns → m ≤ y) → Q (.int m) H
theorem cr_maxT (hc : X.calm = true) : CallR X (.builtin "max") (rMaxT X.K) := by
  intro pins s σ H vs us Q I r h
  obtain ⟨a, ns, rfl, hs, hne, q⟩ := h
  obtain ⟨its, rv, hl, _⟩ := I.tuple hs
  rw [Vals.ref1 r]
  exact max_tupR (I.ok.hd hc) hl rv.ints hne fun h' tk m t' hk h1 h2 => ⟨.int _, H, I.kept hk, ⟨_, rfl⟩, q m h1 h2⟩
theorem cr_minT (hc : X.calm = true) : CallR X (.builtin "min") (rMinT X.K) := by
  intro pins s σ H vs us Q I r h
  obtain ⟨a, ns, rfl, hs, hne, q⟩ := h
  obtain ⟨its, rv, hl, _⟩ := I.tuple hs
  rw [Vals.ref1 r]
  exact min_tupR (I.ok.hd hc) hl rv.ints hne fun h' tk m t' hk h1 h2 => ⟨.int _, H, I.kept hk, ⟨_, rfl⟩, q m h1 h2⟩
end
end SM

/-! SM: built-in functions and methods, by values. -/
namespace SM
open PySem L2 PySem.Spec PyProof.Rows
section
variable {X : Cx} {pins : List (Addr × Obj)} {σ : L2.St} {H : Hp} {st : Shared} {m : Mu} {s : Sto} {Q : VK}
theorem RVs.inv1 {K : PySem.W.Frag} {v : Vl} {xs : List V} (h : RVs K m H [v] xs) : ∃ x, xs = [x] ∧ RV K m H v x := by
  obtain ⟨x, r, e, h1, h2⟩ := h
  have h2 : r = [] := h2
  subst h2; exact ⟨x, e, h1⟩
theorem RVs.inv2 {K : PySem.W.Frag} {v w : Vl} {xs : List V} (h : RVs K m H [v, w] xs) : ∃ x y, xs = [x, y] ∧ RV K m H v x ∧ RV K m H w y := by
  obtain ⟨x, r, e, h1, h2⟩ := h
  obtain ⟨y, rfl, h3⟩ := RVs.inv1 h2
  exact ⟨x, y, e, h1, h3⟩
theorem RVs.inv3 {K : PySem.W.Frag} {v w z : Vl} {xs : List V} (h : RVs K m H [v, w, z] xs) : ∃ x y a, xs = [x, y, a] ∧ RV K m H v x ∧ RV K m H w y ∧ RV K m H z a := by
  obtain ⟨x, r, e, h1, h2⟩ := h
  obtain ⟨y, a, rfl, h3, h4⟩ := RVs.inv2 h2
  exact ⟨x, y, a, e, h1, h3, h4⟩
theorem maxL_ok : ∀ {l : List Int} {k : Int}, maxL l = some k → k ∈ l ∧ ∀ y ∈ l, y ≤ k
  | [], _, h => by cases h
  | x :: r, k, h => by
    simp only [maxL] at h
    split at h
    · rename_i q
      cases h
      have : r = [] := by
        cases r with
        | nil => rfl
        | cons a b =>
          simp only [maxL] at q
          split at q <;> cases q
      subst this
      simp
    · rename_i y q
      obtain ⟨h1, h2⟩ := maxL_ok q
      cases h
      split
      · refine ⟨List.mem_cons_of_mem _ h1, fun z hz => ?_⟩
        rcases List.mem_cons.mp hz with rfl | hz
        · omega
        · exact h2 z hz
      · refine ⟨List.mem_cons_self, fun z hz => ?_⟩
        rcases List.mem_cons.mp hz with rfl | hz
        · omega
        · have := h2 z hz; omega
theorem minL_ok : ∀ {l : List Int} {k : Int}, minL l = some k → k ∈ l ∧ ∀ y ∈ l, k ≤ y
  | [], _, h => by cases h
  | x :: r, k, h => by
    simp only [minL] at h
    split at h
    · rename_i q
      cases h
      have : r = [] := by
        cases r with
        | nil => rfl
        | cons a b =>
          simp only [minL] at q
          split at q <;> cases q
      subst this
      simp
    · rename_i y q
      obtain ⟨h1, h2⟩ := minL_ok q
      cases h
      split
      · refine ⟨List.mem_cons_of_mem _ h1, fun z hz => ?_⟩
        rcases List.mem_cons.mp hz with rfl | hz
        · omega
        · exact h2 z hz
      · refine ⟨List.mem_cons_self, fun z hz => ?_⟩
        rcases List.mem_cons.mp hz with rfl | hz
        · omega
        · have := h2 z hz; omega
theorem dataL_sq {K : PySem.W.Frag} (rs : RS K m H s) {v : Vl} {x : V} {l : List PyData} (rx : RV K m H v x) (h : dataL v s = some l) : ∃ a ws, x = .ref a ∧ SqL K H a ws ∧ Reps K m H l ws := by
  obtain ⟨vs, q, h⟩ := obind h
  obtain ⟨a, ws, e, h1, h2⟩ := listV_sq rs q rx
  exact ⟨a, ws, e, h1, h2.reps h⟩
theorem postP_map {α : Type} {K : PySem.W.Frag} {o : Option α} {f : α → Vl × Sto} (h : PostP K Q m H (o.map f)) : ∃ a, o = some a ∧ PostP K Q m H (some (f a)) := by
  cases o with
  | none => exact h.elim
  | some a => exact ⟨a, rfl, h⟩
theorem postP_bind {α : Type} {K : PySem.W.Frag} {o : Option α} {f : α → Po Vl} (h : PostP K Q m H (o.bind f)) : ∃ a, o = some a ∧ PostP K Q m H (f a) := by
  cases o with
  | none => exact h.elim
  | some a => exact ⟨a, rfl, h⟩
theorem postP_if {c : Prop} [Decidable c] {K : PySem.W.Frag} {p : Vl × Sto} (h : PostP K Q m H (if c then some p else none)) : c ∧ PostP K Q m H (some p) := by
  split at h
  · exact ⟨by assumption, h⟩
  · exact h.elim
/-- lcm -/
theorem call_lcm : CallR X (.builtin "math.lcm") (fun vs H Q => ∃ a b : Int, vs = [.int a, .int b] ∧ a.natAbs.log2 < 6000 ∧ b.natAbs.log2 < 6000 ∧ Q (.int (Int.lcm a b)) H) := by
  intro pins st σ H vs us Q I r ⟨a, b, e, h1, h2, q⟩
  subst e
  cases r with
  | cons ra r =>
    cases r with
    | cons rb r =>
      cases r
      obtain ⟨t, rfl⟩ := ra
      obtain ⟨u, rfl⟩ := rb
      have e1 : (((Nat.lcm 1 a.natAbs).lcm b.natAbs : Nat) : Int) = (Int.lcm a b : Int) := by rw [Nat.lcm_one_left]; rfl
      have hm : ∀ n : Nat, n.log2 < 6000 → n < 2 ^ 6000 := fun n h => by
        rcases Nat.eq_zero_or_pos n with z | z
        · subst z; exact Nat.two_pow_pos _
        · exact (Nat.log2_lt (Nat.ne_of_gt z)).mp h
      have n1 := hm _ h1
      have n2 := hm _ h2
      have l1 : ∀ n : Nat, n < 2 ^ 6000 → ¬ n.log2 / 30 + 1 > 450 := fun n h => by
        have : n.log2 < 6000 := by
          rcases Nat.eq_zero_or_pos n with z | z
          · subst z; exact by decide
          · exact (Nat.log2_lt (Nat.ne_of_gt z)).mpr h
        omega
      have big : (1 : Nat) < 2 ^ 6000 := Nat.one_lt_two_pow (by decide)
      have c0 : ¬ (max 1 a.natAbs).log2 / 30 + 1 > 450 := l1 _ (Nat.max_lt.mpr ⟨big, n1⟩)
      have c1 : ¬ (max a.natAbs b.natAbs).log2 / 30 + 1 > 450 := l1 _ (Nat.max_lt.mpr ⟨n1, n2⟩)
      have c2 : ((((Nat.lcm 1 a.natAbs).lcm b.natAbs : Nat) : Int)).natAbs.log2 < bitsLine := by
        rw [Int.natAbs_natCast, Nat.lcm_one_left]
        have h3 : a.natAbs.lcm b.natAbs ≤ a.natAbs * b.natAbs := by
          unfold Nat.lcm
          exact Nat.div_le_self _ _
        have h4 : a.natAbs * b.natAbs < 2 ^ 12000 := by
          rw [show (2 : Nat) ^ 12000 = 2 ^ 6000 * 2 ^ 6000 from by rw [← Nat.pow_add]]
          exact Nat.mul_lt_mul'' n1 n2
        have h5 : a.natAbs.lcm b.natAbs < 2 ^ 12000 := Nat.lt_of_le_of_lt h3 h4
        have h6 : (a.natAbs.lcm b.natAbs).log2 < 12000 := by
          rcases Nat.eq_zero_or_pos (a.natAbs.lcm b.natAbs) with z | z
          · rw [z]; decide
          · exact (Nat.log2_lt (Nat.ne_of_gt z)).mpr h5
        have : bitsLine = 134217728 := by decide
        omega
      refine call_function_meets PySem.W.MGF.kind_lcm PySem.W.MGF.plain_lcm PySem.W.MGF.entry_lcm (PySem.W.MGF.args_lcm _ _) (PySem.W.mg_run_lcm a t b u c0 c1 c2).meets ?_
      rw [e1]
      exact ⟨.int _, H, I.tok _, ⟨_, rfl⟩, q⟩
def biName : Bi → Str
  | .len => "len" | .abs => "abs" | .int => "int" | .gcd => "gcd" | .lcm => "lcm" | .max => "max" | .min => "min" | .sum => "sum" | .all => "all" | .any => "any" | .tuple => "tuple" | .list => "list" | .sorted => "sorted" | .repr => "repr" | .str => "str" | .dlist => "list"
def biVal : Bi → Value
  | .len => .builtin "len" | .abs => .builtin "abs" | .int => .type "int" | .gcd => .builtin "math.gcd" | .lcm => .builtin "math.lcm" | .max => .builtin "max" | .min => .builtin "min" | .sum => .builtin "sum" | .all => .builtin "all" | .any => .builtin "any" | .tuple => .type "tuple" | .list => .type "list" | .sorted => .builtin "sorted" | .repr => .builtin "repr" | .str => .type "str" | .dlist => .type "list"
abbrev BiOk (X : Cx) (mf : Bool) (b : Bi) : Prop := CallR X (biVal b) (rFn X.K (biV mf b))
theorem bi_len {mf : Bool} : BiOk X mf .len := CallR.weak call_len fun xs H Q ⟨m, s, vs, rv, rs, h⟩ => by
  simp only [biV, lenV] at h
  split at h
  · rename_i z
    obtain ⟨x, rfl, r1⟩ := rv.inv1
    obtain ⟨c, h⟩ := postP_if h
    cases r1
    exact ⟨_, z.length, rfl, ⟨by rw [sizeLine_eq]; exact c, rfl⟩, PostP.here rs (v := .d (.int z.length)) rfl h⟩
  · obtain ⟨x, rfl, r1⟩ := rv.inv1
    obtain ⟨l, q, h⟩ := postP_map h
    obtain ⟨a, ws, rfl, h1, h2⟩ := itemsV_sq rs q r1
    refine ⟨_, ws.length, rfl, h1.imp (fun z => ⟨ws, z, rfl⟩) (fun z => ⟨ws, z, rfl⟩), ?_⟩
    rw [← h2.length]
    exact PostP.here rs (v := .d (.int l.length)) rfl h
  · exact h.elim
theorem bi_abs {mf : Bool} : BiOk X mf .abs := CallR.weak call_abs fun xs H Q ⟨m, s, vs, rv, rs, h⟩ => by
  simp only [biV, absV] at h
  split at h
  · rename_i i
    obtain ⟨x, rfl, r1⟩ := rv.inv1
    cases r1
    exact ⟨i, rfl, PostP.here rs (v := .d (.int _)) rfl h⟩
  · exact h.elim
theorem bi_int {mf : Bool} : BiOk X mf .int := CallR.weak call_int1 fun xs H Q ⟨m, s, vs, rv, rs, h⟩ => by
  simp only [biV, intV] at h
  split at h
  · rename_i i
    obtain ⟨x, rfl, r1⟩ := rv.inv1
    cases r1
    exact .inl ⟨i, rfl, PostP.here rs (v := .d (.int i)) rfl h⟩
  · rename_i i
    obtain ⟨x, rfl, r1⟩ := rv.inv1
    cases r1
    exact .inr ⟨i, rfl, PostP.here rs (v := .d (.int _)) rfl h⟩
  · exact h.elim
theorem bi_gcd {mf : Bool} : BiOk X mf .gcd := CallR.weak cr_gcd fun xs H Q ⟨m, s, vs, rv, rs, h⟩ => by
  simp only [biV, gcdV] at h
  split at h
  · rename_i i j
    obtain ⟨x, y, rfl, r1, r2⟩ := rv.inv2
    cases r1
    cases r2
    exact ⟨i, j, rfl, PostP.here rs (v := .d (.int (Int.gcd i j))) rfl h⟩
  · exact h.elim
theorem bi_lcm {mf : Bool} : BiOk X mf .lcm := CallR.weak call_lcm fun xs H Q ⟨m, s, vs, rv, rs, h⟩ => by
  simp only [biV, lcmV] at h
  split at h
  · rename_i i j
    obtain ⟨x, y, rfl, r1, r2⟩ := rv.inv2
    cases r1
    cases r2
    obtain ⟨c, h⟩ := postP_if h
    exact ⟨i, j, rfl, c.1, c.2, PostP.here rs (v := .d (.int (Int.lcm i j))) rfl h⟩
  · exact h.elim
def rMax1 (K : PySem.W.Frag) : List V → Hp → VK → Prop := fun xs H Q => (∃ i j, xs = [.int i, .int j] ∧ Q (.int (if j > i then j else i)) H) ∨ rMax K xs H Q
def rMin1 (K : PySem.W.Frag) : List V → Hp → VK → Prop := fun xs H Q => (∃ i j, xs = [.int i, .int j] ∧ Q (.int (if j < i then j else i)) H) ∨ rMin K xs H Q
theorem call_or {f : Value} {r r' : List V → Hp → VK → Prop} (h : CallR X f r) (h' : CallR X f r') : CallR X f (fun x H Q => r x H Q ∨ r' x H Q) := fun pins s σ H x y Q I rx q => q.elim (h pins s σ H x y Q I rx) (h' pins s σ H x y Q I rx)
theorem bi_max {mf : Bool} (hc : X.calm = true) : BiOk X mf .max := CallR.weak (call_or (call_max2 hc) (call_or (cr_max hc) (cr_maxT hc))) fun xs H Q ⟨m, s, vs, rv, rs, h⟩ => by
  simp only [biV, maxV] at h
  split at h
  · rename_i i j
    obtain ⟨x, y, rfl, r1, r2⟩ := rv.inv2
    cases r1
    cases r2
    exact .inl ⟨i, j, rfl, PostP.here rs (v := .d (.int _)) rfl h⟩
  · obtain ⟨x, rfl, r1⟩ := rv.inv1
    obtain ⟨l, q, h⟩ := postP_bind h
    obtain ⟨ds, q1, q2⟩ := obind q
    obtain ⟨k, q3, h⟩ := postP_map h
    obtain ⟨a, ws, rfl, h1, h2⟩ := dataV_sq rs r1 q1
    have e := h2.ints q2
    subst e
    obtain ⟨g1, g2⟩ := maxL_ok q3
    rcases h1 with h1 | h1
    · refine .inr (.inl ⟨a, l, rfl, h1, List.length_pos_of_mem g1, fun k' m1 m2 => ?_⟩)
      have : k' = k := Int.le_antisymm (g2 _ m1) (m2 _ g1)
      subst this
      exact PostP.here rs (v := .d (.int k')) rfl h
    · refine .inr (.inr ⟨a, l, rfl, h1, List.length_pos_of_mem g1, fun k' m1 m2 => ?_⟩)
      have : k' = k := Int.le_antisymm (g2 _ m1) (m2 _ g1)
      subst this
      exact PostP.here rs (v := .d (.int k')) rfl h
  · exact h.elim
theorem bi_min {mf : Bool} (hc : X.calm = true) : BiOk X mf .min := CallR.weak (call_or (call_min3Nu hc) (call_or (call_min2 hc) (call_or (cr_min hc) (cr_minT hc)))) fun xs H Q ⟨m, s, vs, rv, rs, h⟩ => by
  simp only [biV, minV] at h
  split at h
  · rename_i i j
    obtain ⟨x, y, rfl, r1, r2⟩ := rv.inv2
    cases r1
    cases r2
    exact .inr (.inl ⟨i, j, rfl, PostP.here rs (v := .d (.int _)) rfl h⟩)
  · rename_i i j k
    obtain ⟨x, y, z, rfl, r1, r2, r3⟩ := rv.inv3
    cases r1
    cases r2
    cases r3
    refine .inl ⟨.int i, .int j, .int k, .int (if k < (if j < i then j else i) then k else (if j < i then j else i)), rfl, ?_, PostP.here rs (v := .d (.int _)) rfl h⟩
    have e : ∀ a b : Int, nuMin2 (.int a) (.int b) = some (.int (if b < a then b else a)) := fun a b => by
      show (some (decide (b < a))).map (fun c => if c = true then V.int b else V.int a) = _
      by_cases q : b < a <;> simp [q]
    show (nuMin2 (.int i) (.int j)).bind (fun m => nuMin2 m (.int k)) = _
    rw [e, Option.bind_some, e]
  · obtain ⟨x, rfl, r1⟩ := rv.inv1
    obtain ⟨l, q, h⟩ := postP_bind h
    obtain ⟨ds, q1, q2⟩ := obind q
    obtain ⟨k, q3, h⟩ := postP_map h
    obtain ⟨a, ws, rfl, h1, h2⟩ := dataV_sq rs r1 q1
    have e := h2.ints q2
    subst e
    obtain ⟨g1, g2⟩ := minL_ok q3
    rcases h1 with h1 | h1
    · refine .inr (.inr (.inl ⟨a, l, rfl, h1, List.length_pos_of_mem g1, fun k' m1 m2 => ?_⟩))
      have : k' = k := Int.le_antisymm (m2 _ g1) (g2 _ m1)
      subst this
      exact PostP.here rs (v := .d (.int k')) rfl h
    · refine .inr (.inr (.inr ⟨a, l, rfl, h1, List.length_pos_of_mem g1, fun k' m1 m2 => ?_⟩))
      have : k' = k := Int.le_antisymm (m2 _ g1) (g2 _ m1)
      subst this
      exact PostP.here rs (v := .d (.int k')) rfl h
  · exact h.elim
theorem bi_sum {mf : Bool} (hc : X.calm = true) : BiOk X mf .sum := CallR.weak (cr_sum hc) fun xs H Q ⟨m, s, vs, rv, rs, h⟩ => by
  simp only [biV, sumV] at h
  split at h
  · obtain ⟨x, rfl, r1⟩ := rv.inv1
    obtain ⟨l, q, h⟩ := postP_map h
    obtain ⟨ds, q1, q2⟩ := obind q
    obtain ⟨a, ws, rfl, h1, h2⟩ := dataL_sq rs r1 q1
    have e := h2.ints q2
    subst e
    exact ⟨a, l, rfl, h1, PostP.here rs (v := .d (.int l.sum)) rfl h⟩
  · exact h.elim
theorem bi_all {mf : Bool} (hc : X.calm = true) : BiOk X mf .all := CallR.weak (cr_all hc) fun xs H Q ⟨m, s, vs, rv, rs, h⟩ => by
  simp only [biV, allV] at h
  split at h
  · obtain ⟨x, rfl, r1⟩ := rv.inv1
    obtain ⟨l, q, h⟩ := postP_map h
    obtain ⟨ds, q1, q2⟩ := obind q
    obtain ⟨a, ws, rfl, h1, h2⟩ := dataL_sq rs r1 q1
    have e := h2.bools q2
    subst e
    exact ⟨a, l, rfl, h1, PostP.here rs (v := .d (.bool (l.all id))) rfl h⟩
  · exact h.elim
theorem bi_any {mf : Bool} (hc : X.calm = true) : BiOk X mf .any := CallR.weak (cr_any hc) fun xs H Q ⟨m, s, vs, rv, rs, h⟩ => by
  simp only [biV, anyV] at h
  split at h
  · obtain ⟨x, rfl, r1⟩ := rv.inv1
    obtain ⟨l, q, h⟩ := postP_map h
    obtain ⟨ds, q1, q2⟩ := obind q
    obtain ⟨a, ws, rfl, h1, h2⟩ := dataL_sq rs r1 q1
    have e := h2.bools q2
    subst e
    exact ⟨a, l, rfl, h1, PostP.here rs (v := .d (.bool (l.any id))) rfl h⟩
  · exact h.elim
theorem bi_list {mf : Bool} : BiOk X mf .list := CallR.weak call_list_of fun xs H Q ⟨m, s, vs, rv, rs, h⟩ => by
  simp only [biV, lisV] at h
  split at h
  · obtain ⟨x, rfl, r1⟩ := rv.inv1
    obtain ⟨l, q, h⟩ := postP_bind h
    obtain ⟨a, ws, rfl, h1, h2⟩ := itemsV_sq rs q r1
    exact ⟨a, ws, rfl, h1, fun p hp => mkL_new rs h2 hp h⟩
  · exact h.elim
theorem bi_dlist {mf : Bool} (hc : X.calm = true) : BiOk X mf .dlist := CallR.weak (call_list_dict hc) fun xs H Q ⟨m, s, vs, rv, rs, h⟩ => by
  simp only [biV, dlisV] at h
  split at h
  · obtain ⟨x, rfl, r1⟩ := rv.inv1
    obtain ⟨l, q, h⟩ := postP_bind h
    obtain ⟨a, ys, rfl, h1, h2⟩ := dictV_rd rs r1 q
    refine ⟨a, ys, rfl, h1, fun p hp => mkL_new rs ?_ hp h⟩
    have := (repD_keys h2).rvs
    rw [List.map_map] at this
    exact this
  · exact h.elim
theorem bi_tuple {mf : Bool} : BiOk X mf .tuple := CallR.weak call_tuple_of fun xs H Q ⟨m, s, vs, rv, rs, h⟩ => by
  simp only [biV, tupV] at h
  split at h
  · rename_i v
    obtain ⟨x, rfl, r1⟩ := rv.inv1
    obtain ⟨l, q, h0⟩ := postP_map h
    cases v with
    | r n =>
      obtain ⟨vs, q1, q2⟩ := obind q
      obtain ⟨a, ws, rfl, _, h1, h2⟩ := rs.get (n := n) q1 r1
      exact ⟨a, ws, rfl, .inl ⟨SqL.of h1, fun p hp => tup_new rs (h2.reps q2) hp h0⟩⟩
    | d y =>
      cases y with
      | list zs =>
        obtain ⟨vs, q1, q2⟩ := obind q
        cases q1
        rw [allD_map] at q2
        cases q2
        obtain ⟨a, ws, rfl, h1, h2⟩ := r1
        exact ⟨a, ws, rfl, .inl ⟨h1.sq, fun p hp => tup_new rs h2 hp h0⟩⟩
      | tuple zs =>
        obtain ⟨vs, q1, q2⟩ := obind q
        cases q1
        rw [allD_map] at q2
        cases q2
        obtain ⟨a, ws, rfl, h1, h2⟩ := r1
        exact ⟨a, ws, rfl, .inr ⟨h1.sq, PostP.here rs (v := .d (.tuple l)) ⟨a, ws, rfl, h1, h2⟩ h0⟩⟩
      | _ => cases q
  · exact h.elim
theorem bi_str {mf : Bool} : BiOk X mf .str := CallR.weak call_str_int fun xs H Q ⟨m, s, vs, rv, rs, h⟩ => by
  simp only [biV, strV] at h
  split at h
  · rename_i i
    obtain ⟨x, rfl, r1⟩ := rv.inv1
    cases r1
    obtain ⟨c, h⟩ := postP_if h
    exact ⟨i, rfl, c, PostP.here rs (v := .d (.str (toString i))) rfl h⟩
  · exact h.elim
end
end SM

/-! SM: repr, isinstance, methods, stores. -/
namespace SM
open PySem L2 PySem.Spec PyProof.Rows
section
variable {X : Cx} {pins : List (Addr × Obj)} {σ : L2.St} {H : Hp} {st : Shared} {m : Mu} {s : Sto} {Q : VK}
mutual
theorem Rep.reads (I : Inv X pins σ H st) : ∀ {d : PyData} {v : V} {u : Value}, d.hasDict = false → Rep X.K m H d v → RelV v u → ∃ as, Reads st.heap u d as
  | .none, _, _, _, h, r => by cases h; cases r; exact ⟨_, Reads.none⟩
  | .bool b, _, _, _, h, r => by cases h; cases r; exact ⟨_, Reads.bool b⟩
  | .int i, _, _, _, h, r => by cases h; obtain ⟨t, rfl⟩ := r; exact ⟨_, Reads.int i t⟩
  | .str x, _, _, _, h, r => by cases h; obtain ⟨t, rfl⟩ := r; exact ⟨_, Reads.str x t⟩
  | .list xs, _, _, c, ⟨a, vs, e, h1, h2⟩, r => by
    subst e; cases r
    obtain ⟨its, rv, ⟨o, n, ho, hc, _, hd⟩, _⟩ := I.list h1.sq
    obtain ⟨as, hr⟩ := Reps.reads I (by simpa [PyData.hasDict] using c) h2 rv
    exact ⟨_, Reads.list ho hc hd hr⟩
  | .tuple xs, _, _, c, ⟨a, vs, e, h1, h2⟩, r => by
    subst e; cases r
    obtain ⟨its, rv, ⟨o, ho, hc, n, hd⟩, _⟩ := I.tuple h1.sq
    obtain ⟨as, hr⟩ := Reps.reads I (by simpa [PyData.hasDict] using c) h2 rv
    exact ⟨_, Reads.tuple ho hc hd hr⟩
  | .dict _, _, _, c, _, _ => by simp [PyData.hasDict] at c
theorem Reps.reads (I : Inv X pins σ H st) : ∀ {ds : List PyData} {vs : List V} {us : List Value}, PyData.hasDictAll ds = false → Reps X.K m H ds vs → Vals vs us → ∃ as, ReadsAll st.heap us ds as
  | [], _, _, _, h, r => by have h : _ = [] := h; subst h; cases r; exact ⟨_, ReadsAll.nil⟩
  | d :: ds, _, _, c, ⟨v, w, e, h1, h2⟩, r => by
    subst e
    cases r with
    | cons r1 r2 =>
      have c' : d.hasDict = false ∧ PyData.hasDictAll ds = false := by simpa [PyData.hasDictAll] using c
      obtain ⟨as, q1⟩ := Rep.reads I c'.1 h1 r1
      obtain ⟨bs, q2⟩ := Reps.reads I c'.2 h2 r2
      exact ⟨_, ReadsAll.cons q1 q2⟩
end
mutual
theorem Rep.readsD (I : Inv X pins σ H st) : ∀ {d : PyData} {v : V} {u : Value}, noLst d = true → Rep X.K m H d v → RelV v u → ∃ as, Reads st.heap u d as ∧ sysModules ∉ as
  | .none, _, _, _, h, r => by cases h; cases r; exact ⟨_, Reads.none, by simp⟩
  | .bool b, _, _, _, h, r => by cases h; cases r; exact ⟨_, Reads.bool b, by simp⟩
  | .int i, _, _, _, h, r => by cases h; obtain ⟨t, rfl⟩ := r; exact ⟨_, Reads.int i t, by simp⟩
  | .str x, _, _, _, h, r => by cases h; obtain ⟨t, rfl⟩ := r; exact ⟨_, Reads.str x t, by simp⟩
  | .list xs, _, _, c, _, _ => by simp [noLst] at c
  | .tuple xs, _, _, c, ⟨a, vs, e, h1, h2⟩, r => by
    subst e; cases r
    obtain ⟨its, rv, ⟨o, ho, hc, n, hd⟩, _⟩ := I.tuple h1.sq
    obtain ⟨as, hr, ns⟩ := Reps.readsD I (by simpa [noLst] using c) h2 rv
    exact ⟨_, Reads.tuple ho hc hd hr, ns⟩
  | .dict kvs, _, _, c, ⟨a, e, _, .inl ⟨ks, h1, h2⟩⟩, r => by
    subst e; cases r
    obtain ⟨_, hs, vs, kv, o, es, ep, ho, hx, hd, _, hp, _⟩ := dk_of I.hok h1
    obtain ⟨as, bs, q1, q2, q3, q4⟩ := RepKv.readsD I (by simpa [noLst] using c) h2 kv hp
    refine ⟨_, Reads.dict ho hx.1 hd q1 q2, ?_⟩
    intro z
    rcases List.mem_append.mp z with z | z
    · rcases List.mem_cons.mp z with z | z
      · rw [z] at hs; simp at hs
      · exact q3 z
    · exact q4 z
  | .dict [], _, _, c, ⟨a, e, _, .inr ⟨o, xs, h1, h2⟩⟩, r => by
    subst e; cases r
    have h2 : xs = [] := h2
    subst h2
    obtain ⟨hs, _, o', es, ep, ho, hx, hd, he, _⟩ := dct_of I (.inr ⟨o, h1⟩)
    have he := he X.prog X.w
    have e1 : es = #[] := by
      obtain ⟨l⟩ := es
      simpa using he
    subst e1
    refine ⟨_, Reads.dict ho hx.1 hd ReadsAll.nil ReadsAll.nil, ?_⟩
    intro z
    have z : sysModules = a := by simpa using z
    rw [← z] at hs; simp at hs
  | .dict ((k, y) :: r'), _, _, c, ⟨a, e, _, .inr ⟨o, xs, h1, h2⟩⟩, r => by
    obtain ⟨q, b, v, u, ys, _, hk, _⟩ := h2
    obtain ⟨zs, rfl, _⟩ := keyT_some hk
    simp [noLst, noLstK] at c
theorem Reps.readsD (I : Inv X pins σ H st) : ∀ {ds : List PyData} {vs : List V} {us : List Value}, noLsts ds = true → Reps X.K m H ds vs → Vals vs us → ∃ as, ReadsAll st.heap us ds as ∧ sysModules ∉ as
  | [], _, _, _, h, r => by have h : _ = [] := h; subst h; cases r; exact ⟨_, ReadsAll.nil, by simp⟩
  | d :: ds, _, _, c, ⟨v, w, e, h1, h2⟩, r => by
    subst e
    cases r with
    | cons r1 r2 =>
      have c' : noLst d = true ∧ noLsts ds = true := by simpa [noLsts] using c
      obtain ⟨as, q1, n1⟩ := Rep.readsD I c'.1 h1 r1
      obtain ⟨bs, q2, n2⟩ := Reps.readsD I c'.2 h2 r2
      exact ⟨_, ReadsAll.cons q1 q2, fun z => (List.mem_append.mp z).elim n1 n2⟩
theorem RepKv.readsD (I : Inv X pins σ H st) : ∀ {kvs : List (PyData × PyData)} {ks : List (Key × V)} {vs : List (Key × Value)} {es : List DictEntry}, noLstK kvs = true → RepKv X.K m H kvs ks → KV ks vs → Pairs (mixKind X.prog X.w) es vs →
    ∃ as bs, ReadsAll st.heap (es.map (·.key)) (kvs.map (·.1)) as ∧ ReadsAll st.heap (es.map (·.val)) (kvs.map (·.2)) bs ∧ sysModules ∉ as ∧ sysModules ∉ bs
  | [], _, _, _, _, h, kv, p => by
    have h : _ = [] := h
    subst h
    cases kv
    cases p
    exact ⟨_, _, ReadsAll.nil, ReadsAll.nil, by simp, by simp⟩
  | (k, x) :: kvs, _, _, _, c, ⟨j, v, r, e, hk, h1, h2⟩, kv, p => by
    subst e
    have c' : noLst x = true ∧ noLstK kvs = true := by
      simp only [noLstK, Bool.and_eq_true] at c
      exact ⟨c.1.2, c.2⟩
    cases kv with
    | cons kv1 kv2 =>
    cases p with
    | @cons en _ _ _ p1 p2 p3 =>
    obtain ⟨e1, r1⟩ := kv1
    obtain ⟨as, bs, q1, q2, q3, q4⟩ := RepKv.readsD I c'.2 h2 kv2 p3
    obtain ⟨cs, q5, q6⟩ := Rep.readsD I c'.1 h1 r1
    rw [← e1] at p1
    have key : Reads st.heap en.key k [] := by
      rcases keyIs_shape p1 with ⟨i, t, z1, z2⟩ | ⟨y, t, z1, z2⟩
      · rw [z2]
        have z1 : j = .inl i := z1
        subst z1
        cases k <;> first | (cases hk; done) | skip
        cases hk
        exact Reads.int i t
      · rw [z2]
        have z1 : j = .inr y := z1
        subst z1
        cases k <;> first | (cases hk; done) | skip
        cases hk
        exact Reads.str y t
    refine ⟨_, _, ReadsAll.cons key q1, ReadsAll.cons (show Reads st.heap en.val x cs from p2 ▸ q5) q2, ?_, fun z => (List.mem_append.mp z).elim q6 q4⟩
    simpa using q3
end
theorem dataOf_rep {K : PySem.W.Frag} (rs : RS K m H s) {v : Vl} {x : V} {d : PyData} (rx : RV K m H v x) (h : dataOf v s = some d) : v = .d d ∨ ∃ ds a ws, d = .list ds ∧ x = .ref a ∧ SqL K H a ws ∧ Reps K m H ds ws := by
  cases v with
  | d y => cases h; exact .inl rfl
  | r n =>
    obtain ⟨vs, q, h⟩ := obind h
    obtain ⟨ds, q2, rfl⟩ := omap h
    obtain ⟨a, ws, e, _, h2, h3⟩ := rs.get q rx
    exact .inr ⟨ds, a, ws, rfl, e, SqL.of h2, h3.reps q2⟩
theorem bi_repr {mf : Bool} (hg : X.A.guards = some []) (hu : X.A.units + 200 < cLine) : BiOk X mf .repr := by
  intro pins st σ H xs us Q I r ⟨m, s, vs, rv, rs, h⟩
  simp only [biV, reprV] at h
  split at h
  · rename_i v
    obtain ⟨x, rfl, r1⟩ := rv.inv1
    obtain ⟨d, q, h⟩ := postP_bind h
    obtain ⟨⟨c1, c2, c3, c4⟩, h⟩ := postP_if h
    have fin : Q (.str d.shown) H := PostP.here rs (v := .d (.str d.shown)) rfl h
    cases r with
    | @cons _ u _ _ ru rn =>
      cases rn
      have rd : ∃ as, Reads st.heap u d as ∧ (d.hasDict = true → sysModules ∉ as) := by
        rcases c4 with c4 | c4
        · rcases dataOf_rep rs r1 q with rfl | ⟨ds, a, ws, rfl, rfl, h1, h2⟩
          · obtain ⟨as, z⟩ := Rep.reads I c4 r1 ru
            exact ⟨as, z, PyData.noDict_hsm c4⟩
          · cases ru
            obtain ⟨its, rv', ⟨o, n, ho, hc, _, hd⟩, _⟩ := I.list h1
            obtain ⟨as, hr⟩ := Reps.reads I (by simpa [PyData.hasDict] using c4) h2 rv'
            exact ⟨_, Reads.list ho hc hd hr, PyData.noDict_hsm c4⟩
        · rcases dataOf_rep rs r1 q with rfl | ⟨ds, a, ws, rfl, rfl, h1, h2⟩
          · obtain ⟨as, z, n⟩ := Rep.readsD I c4 r1 ru
            exact ⟨as, z, fun _ => n⟩
          · simp [noLst] at c4
      obtain ⟨as, rd, sm⟩ := rd
      cases rd with
      | none => exact P.repr_of_none ⟨.str _, H, I.tok _, ⟨_, rfl⟩, fin⟩
      | bool b => exact P.repr_of_bool ⟨.str _, H, I.tok _, ⟨_, rfl⟩, fin⟩
      | int i t => exact P.repr_of_int (by simpa [PyData.showable] using c1) ⟨.str _, H, I.tok _, ⟨_, rfl⟩, fin⟩
      | str z t => exact P.repr_of_str ⟨.str _, H, I.tok _, ⟨_, rfl⟩, fin⟩ (by rw [sizeLine_eq]; exact c2)
      | list h1 h2 h3 h4 => exact repr_of_reads' (.list h1 h2 h3 h4) c1 sm hg (by omega) (fun _ _ e => e) (fun h' u tk hk => ⟨.str _, H, I.kept hk, ⟨_, rfl⟩, fin⟩) (by rw [sizeLine_eq]; exact c2)
      | tuple h1 h2 h3 h4 => exact repr_of_reads' (.tuple h1 h2 h3 h4) c1 sm hg (by omega) (fun _ _ e => e) (fun h' u tk hk => ⟨.str _, H, I.kept hk, ⟨_, rfl⟩, fin⟩) (by rw [sizeLine_eq]; exact c2)
      | dict h1 h2 h3 h4 h5 => exact repr_of_reads' (.dict h1 h2 h3 h4 h5) c1 sm hg (by omega) (fun _ _ e => e) (fun h' u tk hk => ⟨.str _, H, I.kept hk, ⟨_, rfl⟩, fin⟩) (by rw [sizeLine_eq]; exact c2)
  · exact h.elim

/-! ### isinstance -/
def tyName : Ty → String
  | .int => "int" | .bool => "bool" | .str => "str" | .list => "list" | .tuple => "tuple" | .dict => "dict" | .float => "float"
def tyOfD : PyData → String
  | .none => "NoneType" | .bool _ => "bool" | .int _ => "int" | .str _ => "str" | .list _ => "list" | .tuple _ => "tuple" | .dict _ => "dict"
/-- a dict of the nested kind -/
def isND (H : Hp) (v : V) : Prop := ∃ a o xs, v = .ref a ∧ H a = some (.frz o (DctO a xs))
theorem rep_ty {K : PySem.W.Frag} : ∀ {d : PyData} {v : V}, Rep K m H d v → (tyOfD d = "dict" ∧ isND H v) ∨ TyX K H v (.type (tyOfD d))
  | .none, _, h => by cases h; exact .inr (.base .non)
  | .bool _, _, h => by cases h; exact .inr (.base (.bl _))
  | .int _, _, h => by cases h; exact .inr (.base (.int _))
  | .str _, _, h => by cases h; exact .inr (.base (.str _))
  | .list _, _, ⟨a, vs, e, h1, _⟩ => by
    subst e
    rcases h1 with ⟨_, h | ⟨o, h⟩⟩ | ⟨o, its, n, k, c, _⟩
    · exact .inr (.base (.lst h))
    · exact .inr (.base (.frz h))
    · exact .inr (.kList k c)
  | .tuple _, _, ⟨a, vs, e, h1, _⟩ => by
    subst e
    rcases h1 with ⟨_, h | ⟨o, h⟩⟩ | ⟨o, its, n, k, c, _⟩
    · exact .inr (.base (.tup h))
    · exact .inr (.fTuple h)
    · exact .inr (.kTuple k c)
  | .dict _, _, ⟨a, e, _, .inl ⟨ks, h1, _⟩⟩ => by subst e; exact .inr (.base (.dK h1))
  | .dict _, _, ⟨a, e, _, .inr ⟨o, xs, h1, _⟩⟩ => .inl ⟨rfl, a, o, xs, e, h1⟩
theorem kit_all (d : PyData) (t : Ty) : kitB (tyOfD d) (tyName t) = isT t (.d d) [] := by
  cases d <;> cases t <;> simp only [tyOfD, tyName, isT] <;> decide +kernel
theorem kit_lst (t : Ty) : kitB "list" (tyName t) = some (decide (t = .list)) := by
  cases t <;> decide +kernel
def rIs (K : PySem.W.Frag) (t : Ty) : List V → Hp → VK → Prop := fun xs H Q => ∃ m s v x, xs = [x, .ty (tyName t)] ∧ RV K m H v x ∧ RS K m H s ∧ ∃ b, isT t v s = some b ∧ Q (.bl b) H
theorem isT_d (t : Ty) (d : PyData) (s : Sto) : isT t (.d d) s = isT t (.d d) [] := by
  cases t <;> cases d <;> rfl
theorem is_ok (t : Ty) : CallR X (.builtin "isinstance") (rIs X.K t) := CallR.weak (call_or call_isiD call_isi) fun xs H Q ⟨m, s, v, x, e, rx, rs, b, h, q⟩ => by
  subst e
  cases v with
  | d y =>
    have hb : kitB (tyOfD y) (tyName t) = some b := by rw [kit_all, ← isT_d t y s]; exact h
    rcases rep_ty rx with ⟨e, a, o, ys, rfl, hd⟩ | hy
    · rw [e] at hb
      exact .inl ⟨a, o, ys, tyName t, b, rfl, hd, hb, q⟩
    · exact .inr ⟨x, .ty _, .type (tyOfD y), .type (tyName t), b, rfl, .ty _, hy, kit_ty hb, q⟩
  | r n =>
    have h : (listAt n s).map (fun _ => decide (t = .list)) = some b := by cases t <;> exact h
    obtain ⟨vs, q1, rfl⟩ := omap h
    obtain ⟨a, ws, rfl, _, h1, _⟩ := rs.get q1 rx
    exact .inr ⟨_, .ty _, .type "list", .type (tyName t), _, rfl, .ty _, .base (.lst h1), kit_ty (kit_lst t), q⟩
end
end SM

/-! SM: methods of lists, stores into them. -/
namespace SM
open PySem L2 PySem.Spec PyProof.Rows
section
variable {X : Cx} {pins : List (Addr × Obj)} {σ : L2.St} {H : Hp} {st : Shared} {m : Mu} {s : Sto} {Q : VK}
theorem MtR.weak {id : String} {r r' : V → List V → Hp → VK → Prop} (h : MtR X id r) (w : ∀ x xs H Q, r' x xs H Q → r x xs H Q) : MtR X id r' :=
  fun pins s σ H x xs v us Q I rx rxs q => h pins s σ H x xs v us Q I rx rxs (w _ _ _ _ q)
def rMe (K : PySem.W.Frag) (g : Vl → List Vl → Sto → Po Vl) : V → List V → Hp → VK → Prop := fun x xs H Q => ∃ m s v vs, RV K m H v x ∧ RVs K m H vs xs ∧ RS K m H s ∧ PostP K Q m H (g v vs s)
/-- a list of the store is changed, a value comes -/
theorem put_here {K : PySem.W.Frag} {n : Nat} {a : Addr} {vs us : List Vl} {ws zs : List V} {v : Vl} {x : V} (rs : RS K m H s) (h : listAt n s = some us) (ha : m.l[n]? = some (some a)) (rv : RVs K m H vs ws)
    (rx : RV K m H v x) (q : PostP K Q m H (some (v, putL n vs s))) : Q x (upd H a (.lst ws)) := by
  obtain ⟨e, r⟩ := rs.put (listAt_some h) ha rv
  exact q _ _ _ e r (RV.ext e rx)
theorem me_append : MtR X "list.append" (rMe X.K appendV) := MtR.weak mt_append fun x xs H Q ⟨m, s, v, vs, r1, r2, rs, h⟩ => by
  simp only [appendV] at h
  split at h
  · rename_i n u
    obtain ⟨y, rfl, r3⟩ := r2.inv1
    obtain ⟨us, q, h⟩ := postP_bind h
    obtain ⟨c, h⟩ := postP_if h
    obtain ⟨a, ws, rfl, ha, h1, h2⟩ := rs.get q r1
    exact ⟨a, ws, y, rfl, rfl, h1, by rw [← h2.length, sizeLine_eq]; exact c, put_here (zs := ws) rs q ha (h2.app (RVs.one r3)) (v := .d .none) rfl h⟩
  · exact h.elim
theorem me_insert : MtR X "list.insert" (rMe X.K insertV) := MtR.weak mt_insert fun x xs H Q ⟨m, s, v, vs, r1, r2, rs, h⟩ => by
  simp only [insertV] at h
  split at h
  · rename_i n k u
    obtain ⟨y, z, rfl, r3, r4⟩ := r2.inv2
    obtain ⟨us, q, h⟩ := postP_bind h
    obtain ⟨⟨c1, c2, c3⟩, h⟩ := postP_if h
    obtain ⟨a, ws, rfl, ha, h1, h2⟩ := rs.get q r1
    cases r3
    refine ⟨a, ws, k, z, rfl, rfl, h1, by rw [← h2.length, sizeLine_eq]; exact c3, c1, by omega, put_here (zs := ws) rs q ha ?_ (v := .d .none) rfl h⟩
    have := ((h2.take k.toNat).app (RVs.one r4)).app (h2.drop k.toNat)
    simpa [List.append_assoc] using this
  · exact h.elim
theorem seqIx {k : Int} {n : Nat} (h0 : 0 ≤ k) (h : k.toNat < n) : seqIndex? k n = some k.toNat := by
  unfold seqIndex?
  have h1 : ¬ k < 0 := by omega
  simp only [h1, if_false]
  have h2 : (decide (0 ≤ k) && decide (k < (n : Int))) = true := by
    rw [decide_eq_true h0, decide_eq_true (by omega)]; rfl
  rw [if_pos h2]
theorem me_pop : MtR X "list.pop" (rMe X.K popV) := by
  intro pins st σ H x xs v us Q I rx rxs ⟨m, s, o, vs, r1, r2, rs, h⟩
  simp only [popV] at h
  split at h
  · rename_i n
    have r2 : xs = [] := r2
    subst r2
    obtain ⟨ls, q, h⟩ := postP_bind h
    obtain ⟨y, q2, h⟩ := postP_map h
    obtain ⟨a, ws, rfl, ha, h1, h2⟩ := rs.get q r1
    obtain ⟨z, g1, g2⟩ := h2.get q2
    refine mt_pop pins st σ H _ _ v us Q I rx rxs ⟨a, ws, z, rfl, rfl, h1, by rw [← h2.length]; exact g1, put_here (zs := ws) rs q ha ?_ g2 h⟩
    have := h2.take (ls.length - 1)
    rw [List.dropLast_eq_take, List.dropLast_eq_take, ← h2.length]
    exact this
  · rename_i n k
    obtain ⟨y, rfl, r3⟩ := r2.inv1
    cases r3
    obtain ⟨ls, q, h⟩ := postP_bind h
    split at h
    · rename_i c
      obtain ⟨y, q2, h⟩ := postP_map h
      obtain ⟨a, ws, rfl, ha, h1, h2⟩ := rs.get q r1
      obtain ⟨z, g1, g2⟩ := h2.get q2
      have hl : k.toNat < ws.length := (List.getElem?_eq_some_iff.mp g1).1
      exact mt_popAt pins st σ H _ _ v us Q I rx rxs ⟨a, ws, k, k.toNat, z, rfl, rfl, h1, by omega, by omega, seqIx c.1 hl, g1, put_here (zs := ws) rs q ha (h2.erase k.toNat) g2 h⟩
    · exact h.elim
  · exact h.elim
theorem me_count : MtR X "list.count" (rMe X.K countV) := MtR.weak mt_lcount fun x xs H Q ⟨m, s, v, vs, r1, r2, rs, h⟩ => by
  simp only [countV] at h
  split at h
  · rename_i k
    obtain ⟨y, rfl, r3⟩ := r2.inv1
    cases r3
    obtain ⟨l, q, h⟩ := postP_map h
    obtain ⟨ds, q1, q2⟩ := obind q
    obtain ⟨a, ws, rfl, h1, h2⟩ := dataL_sq rs r1 q1
    have e := h2.ints q2
    subst e
    exact ⟨a, l, k, rfl, rfl, h1, PostP.here rs (v := .d (.int (l.count k : Nat))) rfl h⟩
  · exact h.elim
theorem me_clear : MtR X "list.clear" (rMe X.K clearV) := MtR.weak mt_clear fun x xs H Q ⟨m, s, v, vs, r1, r2, rs, h⟩ => by
  simp only [clearV] at h
  split at h
  · have r2 : xs = [] := r2
    subst r2
    obtain ⟨us, q, h⟩ := postP_map h
    obtain ⟨a, ws, rfl, ha, h1, h2⟩ := rs.get q r1
    exact ⟨a, ws, rfl, rfl, h1, put_here (ws := []) (zs := ws) (vs := []) rs q ha rfl (v := .d .none) rfl h⟩
  · exact h.elim
/-- what a list's method asks of its receiver -/
theorem ty_list {K : PySem.W.Frag} (rs : RS K m H s) {v : Vl} {x : V} {vs : List Vl} (h : listV v s = some vs) (rx : RV K m H v x) : tyV K "list" x H := by
  obtain ⟨a, ws, rfl, h1, _⟩ := listV_sq rs h rx
  exact .inl ⟨rfl, ws, h1⟩
/-- a store -/
def rSet (K : PySem.W.Frag) : TSet := fun o i v H Q => ∃ m s ov iv vv s', RV K m H ov o ∧ RV K m H iv i ∧ RV K m H vv v ∧ RS K m H s ∧ setV ov iv vv s = some s' ∧ ∀ m' H', Ext m H m' H' → RS K m' H' s' → Q H'
theorem set_ok (hu : X.A.units + 65 < cLine) : PSet X (rSet X.K) := by
  intro pins st σ H o i v ov iv u Q I ro ri rv ⟨m, s, a, b, c, s', r1, r2, r3, rs, h, q⟩
  unfold setV at h
  split at h
  · refine set_list pins st σ H o i v ov iv u Q I ro ri rv ?_
    rename_i n k
    obtain ⟨vs, q1, h⟩ := obind h
    obtain ⟨j, q2, rfl⟩ := omap h
    obtain ⟨p, ws, rfl, ha, h1, h2⟩ := rs.get q1 r1
    cases r2
    obtain ⟨e, r⟩ := rs.put (listAt_some q1) ha (h2.set j r3)
    exact ⟨p, ws, k, j, rfl, rfl, h1, by rw [← h2.length]; exact q2, q _ _ e r⟩
  · rename_i n ks
    split at h
    · rename_i x
      obtain ⟨kvs, q1, h⟩ := obind h
      obtain ⟨kvs', q2, rfl⟩ := omap h
      unfold dStep at q2
      split at q2
      · rename_i hk
        cases q2
        obtain ⟨q', hk'⟩ := isSome_ex hk.1
        obtain ⟨bb, rfl⟩ := rep_ref hk' r2
        have q1' : s[n]? = some (some (.dct kvs)) := by
          unfold dictAt at q1
          split at q1
          · cases q1; assumption
          · cases q1
        obtain ⟨p, xs, ha, h1, h2⟩ := rs.at_d n _ q1'
        have e0 := r1.2 p ha
        subst e0
        cases ro
        cases ri
        refine dD_set (by omega) I hk' h1 (.inl (List.mem_of_getElem? ha)) h2 (by rw [sizeLine_eq]; exact hk.2) r2 r3 rv fun st' I' rd => ?_
        obtain ⟨e, r⟩ := rs.putO (u := DctO p (storedH xs q' bb u)) (o := .dct (dPut kvs (.tuple ks) x)) q1' ha ⟨_, upd_same, rd⟩
        exact ⟨_, I', q _ _ e r⟩
      · cases q2
    · cases h
  · cases h
end
end SM

/-! SM: enumerate over a tuple. -/
namespace SM
open PySem L2 PySem.Spec PyProof.Rows
/-- iter of a tuple at t -/
abbrev itO (t : Addr) : Obj := { cls := .type "tuple_iterator", data := .fields #[.ref t, .int 0 0] }
/-- enumerate over the iterator at i -/
abbrev enO (i : Addr) : Obj := { cls := .type "enumerate", data := .fields #[.none, .bool false, .ref i, rawInt 0, .none, .none] }
set_option maxHeartbeats 1000000 in
theorem enT_new (t : Addr) (xs : Array Value) : Meets (Builtin.«enumerate.__new__» ⟨[.type "enumerate", .ref t], []⟩) (fun _ R s => s.heap.IsTuple t xs ∧
      R (.ok (.ret (.ref (s.heap.push (itO t)).objs.size))) { s with heap := (s.heap.push (itO t)).push (enO s.heap.objs.size) }) :=
  .of_wp fun prog w A R s z => by
    obtain ⟨hp, gs, dr, tk, os⟩ := s
    obtain ⟨ht, z⟩ := z
    have sub := sub_enumerate
    have tup : Heap.IsTuple (Shared.heap ⟨hp, gs, dr, tk, os⟩) t xs := ht
    obtain ⟨ob, got, c1, d1⟩ := ht
    wp_walk using AutoSeq1.wpAny_loadPart' got, wpAny_pyIter_tuple tup
    refine wpAny_stack_any fun st => wpAny_pure ?_
    split
    case h_2 =>
      wp_walk using AutoSeq1.wpAny_loadPart' got, wpAny_pyIter_tuple tup
      exact ⟨_, rfl, z⟩
    case h_1 =>
      rename_i u _ _ _ _ _
      generalize (u == Value.type "enumerate") = b
      cases b
      all_goals
        wp_walk using AutoSeq1.wpAny_loadPart' got, wpAny_pyIter_tuple tup
        exact ⟨_, rfl, z⟩
section
variable {prog : Program} {w : World} {A : Around} {E : Value → Shared → Prop} {s : Shared}
theorem call_enT {t : Addr} {xs : Array Value} {Q : Value → Shared → Prop} (ht : s.heap.IsTuple t xs)
    (q : ∀ k, IsEnum k (s.heap.objs.size + 1) s.heap.objs.size 0 .none → k.IsTupleIter s.heap.objs.size t 0 → k.objs.size = s.heap.objs.size + 2 → (∀ b o, s.heap.get? b = some o → k.get? b = some o) → Q (.ref (s.heap.objs.size + 1)) { s with heap := k }) :
    wpAny (model prog w) A (call (.type "enumerate") [.ref t]) Q E s := by
  refine callType_new F.called_enumerate (by decide) (F.typeCall_enumerate_1 _) (F.newCall_enumerate_1 _) (fun obj => F.args_object_init_2 obj _) F.entry_enumerate_new (enT_new t xs) ⟨ht, ?_⟩
  have sz : (s.heap.push (itO t)).objs.size = s.heap.objs.size + 1 := Heap.size_push ..
  have there := Heap.get?_push_size (s.heap.push (itO t)) (o := enO s.heap.objs.size) rfl
  rw [sz] at there
  show _ ∧ _
  rw [sz]
  have en : IsEnum ((s.heap.push (itO t)).push (enO s.heap.objs.size)) (s.heap.objs.size + 1) s.heap.objs.size 0 .none := there
  exact ⟨⟨_, en, rfl⟩, q _ en ⟨_, Heap.get?_push_of_some _ (Heap.get?_push_size _ rfl), rfl, rfl⟩ (by rw [Heap.size_push, sz]) fun b o z => Heap.get?_push_of_some _ (Heap.get?_push_of_some _ z)⟩
end
/-- the tuple at a, each item in a new pair behind its place -/
def ItEnT (K : PySem.W.Frag) (a : Addr) : It :=
  ⟨fun i H => ∃ (xs : List V) (x : V), SqT K H a xs ∧ xs[i]? = some x,
   fun i H v H' => ∃ T x, v = .ref T ∧ H T = none ∧ H' = upd H T (.tup [.int (i : Nat), x]) ∧ ∀ xs, SqT K H a xs → xs[i]? = some x,
   fun i H => ∃ xs : List V, SqT K H a xs ∧ xs.length = i⟩
theorem turnEnT {P : Program} {w : World} {K : PySem.W.Frag} {es : List Expr} {kk : Nat} {tp : Pos} {a e it : Addr} (ne : a ≠ it) (ne2 : e ≠ a) :
    Turn P w K (.Tuple es kk tp) (ItEnT K a) [e, it] e (fun i h => (∃ old, IsEnum h e it ((i : Nat) : Int) old) ∧ h.IsTupleIter it a i ∧ e ≠ it) where
  mem := by simp
  obj := fun i h st b hb => by
    obtain ⟨⟨old, he⟩, ⟨o, ho, hc, hd⟩, _⟩ := st
    rcases (show b = e ∨ b = it by simpa using hb) with rfl | rfl
    · exact ⟨_, he, fun v q => nomatch q⟩
    · exact ⟨o, ho, fun v q => by rw [hd] at q; cases q⟩
  keep := fun i h h' st k => ⟨st.1.imp fun old z => k e (by simp) _ z, st.2.1.at fun o q => k it (by simp) o q, st.2.2⟩
  item := by
    intro X hP hw hK hc i pins s σ H E I hf st hg
    subst hP hw hK
    obtain ⟨⟨old, he⟩, hit, nei⟩ := st
    obtain ⟨xs, x, sq, hx⟩ := hg
    obtain ⟨its, rv, p, _⟩ := I.tuple sq
    obtain ⟨u, hu, ru⟩ := rv.get hx
    have hh := I.ok.hd hc
    have hi : i < its.toArray.size := by
      have := (List.getElem?_eq_some_iff.mp hu).1
      simpa using this
    refine wpAny_pyNext_enum_itemD (Draws.tuple (A := X.A.in1) hh it a ne its.toArray) he ⟨hit, p⟩ hi nei (by simp [nei, ne2]) fun v h' tk hv ho st' hT hsz hk => ?_
    have ev : v = u := by
      have : its.toArray[i]? = some u := by simpa using hu
      rw [this] at hv
      exact (Option.some.inj hv).symm
    subst ev
    refine ⟨_, rfl, wpAny_letOwnedTupleGo_enum (s := { s with heap := h', toks := tk + 1 }) ho fun k he' sb => ?_⟩
    have l1 : e < s.heap.objs.size := Heap.lt_size he
    have l2 : it < s.heap.objs.size := by obtain ⟨_, z, _⟩ := hit; exact Heap.lt_size z
    have tup : k.get? s.heap.objs.size = some { cls := .type "tuple", data := .seq #[.int i tk, v] } := (sb.2 _ (Nat.ne_of_gt l1)).trans hT
    have ok : ObjOk X.prog X.w (upd H s.heap.objs.size (.tup [.int (i : Nat), x])) k s.heap.objs.size (.tup [.int (i : Nat), x]) := ⟨(by decide : 2 ≤ sizeLine), [.int i tk, v], .cons ⟨_, rfl⟩ (.cons ru .nil), _, tup, rfl, _, rfl⟩
    have J : Inv X pins σ (upd H s.heap.objs.size (.tup [.int (i : Nat), x])) { s with heap := k, toks := tk + 1 } :=
      I.turnedNew (ch := [e, it]) (fun b ob hb z => (sb.2 b (fun y => hb (by simp [y]))).trans (hk b ob (fun y => hb (by simp [y])) (fun y => hb (by simp [y])) z)) hf (Nat.le_refl _) ok
    refine ⟨.ref s.heap.objs.size, _, J, rfl, ⟨_, x, rfl, I.hok.fresh (Nat.le_refl _), rfl, fun ys hy => by rw [I.tuple_inj hy sq]; exact hx⟩, ⟨⟨v, ?_⟩, st'.1.at fun o z => (sb.2 it (Ne.symm nei)).trans z, nei⟩, fun b hb => ?_⟩
    · rw [show ((i + 1 : Nat) : Int) = (i : Int) + 1 by omega]
      exact he'
    · have lt : b < s.heap.objs.size := by
        rcases (show b = e ∨ b = it by simpa using hb) with rfl | rfl <;> assumption
      rw [upd_ne (Nat.ne_of_lt lt)]
      exact (hf b hb).1
  done := by
    intro X hP hw hK hc i pins s σ H E I hf st hg
    subst hP hw hK
    obtain ⟨⟨old, he⟩, hit, nei⟩ := st
    obtain ⟨xs, sq, hx⟩ := hg
    obtain ⟨its, rv, p, _⟩ := I.tuple sq
    have hh := I.ok.hd hc
    have hl := rv.length
    obtain ⟨f0, f1, f2, f3, f4, f5⟩ := hf it (by simp)
    subst hx
    have st : s.heap.IsTupleIter it a its.toArray.size ∧ s.heap.IsTuple a its.toArray := ⟨by rw [show its.toArray.size = xs.length by simp [hl]]; exact hit, p⟩
    exact wpAny_pyNext_enum_endD (Draws.tuple (A := X.A.in1) hh it a ne its.toArray) he st fun h' eb => ⟨rfl, I.turned (t' := s.toks) (fun b o hb z => eb b o hb z) f0 f1 f3 f4 f5⟩
  self := fun A i s Q E st h => wpAny_pyIter_enum st.1.choose_spec h
def iEnT (K : PySem.W.Frag) (ta : TA) : TI := fun σ H R => ta σ H fun vs H1 => ∃ a xs, vs = [.ref a] ∧ ((SqL K H1 a xs ∧ R (Ite K a) H1) ∨ (SqT K H1 a xs ∧ R (ItEnT K a) H1))
theorem pi_enT {X : Cx} {e : Expr} {ta : TA} {p pos tp : Pos} {es : List Expr} {kk : Nat} (hg : Gl X "enumerate") (hm : X.mg "enumerate" = none) (ha : PA X [e] ta) (hs : starEach [e] X.env = [(false, eval e X.env)] := by rfl) :
    PI X (.Tuple es kk tp) (.Call (.Name "enumerate" p) [e] [] pos) (iEnT X.K ta) := by
  refine ⟨fun pins s σ H R I h => ?_⟩
  refine Call_ (ld_blt I hg hm boot_enumerate (PyProof.Rows.callWith_type1 (thn (ha.run pos pins s σ H _ I h) fun us s1 ⟨vs, H1, I1, r1, q1⟩ => ?_) hs rfl))
  obtain ⟨a, xs, ex, q⟩ := q1
  subst ex
  obtain ⟨r, rr⟩ : ∃ u, us = [u] ∧ L2.RelV (.ref a) u := by
    cases r1 with
    | cons r rr => cases rr; exact ⟨_, rfl, r⟩
  obtain ⟨rfl, ru⟩ := rr
  cases ru
  have fresh : ∀ b, b ∈ [s1.heap.objs.size + 1, s1.heap.objs.size] → FpOk X pins H1 b := fun b hb => by
    have le : s1.heap.objs.size ≤ b := by
      rcases (show b = s1.heap.objs.size + 1 ∨ b = s1.heap.objs.size by simpa using hb) with rfl | rfl
      · exact Nat.le_succ _
      · exact Nat.le_refl _
    exact I1.fpOk le (I1.hok.fresh le)
  rcases q with ⟨hq, q⟩ | ⟨hq, q⟩
  · obtain ⟨its, rv, l, _⟩ := I1.list hq
    refine call_enumerate_list l.isList fun k en hit sz hk => wpAny_pyIter_enum en ?_
    exact ⟨s1.heap.objs.size + 1, [s1.heap.objs.size + 1, s1.heap.objs.size], _, _, H1, rfl, I1.kept (t' := s1.toks) hk, turn_enum a (s1.heap.objs.size + 1) s1.heap.objs.size, ⟨⟨.none, en⟩, hit, Nat.succ_ne_self _⟩, fresh, q⟩
  · obtain ⟨its, rv, l, _⟩ := I1.tuple hq
    have la : a < s1.heap.objs.size := by obtain ⟨o, z, _⟩ := l; exact Heap.lt_size z
    refine call_enT l fun k en hit sz hk => wpAny_pyIter_enum en ?_
    exact ⟨s1.heap.objs.size + 1, [s1.heap.objs.size + 1, s1.heap.objs.size], _, _, H1, rfl, I1.kept (t' := s1.toks) hk, turnEnT (Nat.ne_of_lt la) (Ne.symm (Nat.ne_of_lt (Nat.lt_succ_of_lt la))), ⟨⟨.none, en⟩, hit, Nat.succ_ne_self _⟩, fresh, q⟩
end SM

/-! SM: zip over lists and tuples, in any mixture. -/
namespace SM
open PySem L2 PySem.Spec PyProof.Rows
/-- the list (false) or tuple (true) at a -/
def SqK (k : Bool) (K : PySem.W.Frag) (H : Hp) (a : Addr) (xs : List V) : Prop := match k with
  | false => SqL K H a xs
  | true => SqT K H a xs
def IsK (k : Bool) (h : Heap) (a : Addr) (its : Array Value) : Prop := match k with
  | false => h.IsList a its
  | true => h.IsTuple a its
def IterK (k : Bool) (h : Heap) (it a : Addr) (i : Nat) : Prop := match k with
  | false => h.IsListIter it a i
  | true => h.IsTupleIter it a i
def objK (k : Bool) (a : Addr) : Obj := match k with
  | false => { cls := .type "list_iterator", data := .fields #[.ref a, .int 0 0] }
  | true => { cls := .type "tuple_iterator", data := .fields #[.ref a, .int 0 0] }
theorem beginsK (k : Bool) (a : Addr) (its : Array Value) : Begins (.ref a) (objK k a) fun h => IsK k h a its := by
  cases k
  · exact begins_list a its
  · exact begins_tuple a its
theorem iterK_new {k : Bool} {h : Heap} {it a : Addr} (e : h.get? it = some (objK k a)) : IterK k h it a 0 := by
  cases k
  · exact ⟨_, e, rfl, rfl⟩
  · exact ⟨_, e, rfl, rfl⟩
theorem iterK_at {k : Bool} {h h' : Heap} {it a : Addr} {i : Nat} (x : IterK k h it a i) (f : ∀ o, h.get? it = some o → h'.get? it = some o) : IterK k h' it a i := by
  cases k
  · exact Heap.IsListIter.at x f
  · exact Heap.IsTupleIter.at x f
theorem iterK_obj {k : Bool} {h : Heap} {it a : Addr} {i : Nat} (x : IterK k h it a i) : ∃ o, h.get? it = some o ∧ ∃ vs, o.data = .fields vs := by
  cases k
  · obtain ⟨o, e, _, d⟩ := x; exact ⟨o, e, _, d⟩
  · obtain ⟨o, e, _, d⟩ := x; exact ⟨o, e, _, d⟩
theorem drawsK (k : Bool) {prog : Program} {w : World} {A : Around} (hh : A.handled = none) (it a : Addr) (ne : a ≠ it) (its : Array Value) :
    Draws prog w A it [it, a] its.size (fun i v => its[i]? = some v) (fun i h => IterK k h it a i ∧ IsK k h a its) := by
  cases k
  · exact Draws.list hh it a ne its
  · exact Draws.tuple hh it a ne its
theorem inv_K {X : Cx} {pins : List (Addr × Obj)} {σ : L2.St} {H : Hp} {s : Shared} {k : Bool} {a : Addr} {xs : List V} (I : L2.Inv X pins σ H s) (q : SqK k X.K H a xs) : ∃ its : List Value, Vals xs its ∧ IsK k s.heap a its.toArray := by
  cases k
  · obtain ⟨its, rv, p, _⟩ := I.list q; exact ⟨its, rv, p.isList⟩
  · obtain ⟨its, rv, p, _⟩ := I.tuple q; exact ⟨its, rv, p⟩
theorem inv_K1 {X : Cx} {pins : List (Addr × Obj)} {σ : L2.St} {H : Hp} {s : Shared} {k : Bool} {a : Addr} {xs ys : List V} (I : L2.Inv X pins σ H s) (p : SqK k X.K H a xs) (q : SqK k X.K H a ys) : xs = ys := by
  cases k
  · exact I.list_inj p q
  · exact I.tuple_inj p q
/-- the items of both, in new pairs -/
def ItM (k l : Bool) (K : PySem.W.Frag) (a b : Addr) : It :=
  ⟨fun i H => ∃ (xs ys : List V) (x y : V), SqK k K H a xs ∧ SqK l K H b ys ∧ xs[i]? = some x ∧ ys[i]? = some y,
   fun i H v H' => ∃ T x y, v = .ref T ∧ H T = none ∧ H' = upd H T (.tup [x, y]) ∧ (∀ xs, SqK k K H a xs → xs[i]? = some x) ∧ ∀ ys, SqK l K H b ys → ys[i]? = some y,
   fun i H => ∃ xs ys : List V, SqK k K H a xs ∧ SqK l K H b ys ∧ i ≤ xs.length ∧ i ≤ ys.length ∧ (i = xs.length ∨ i = ys.length)⟩
theorem walk_M {k l : Bool} {K : PySem.W.Frag} {a b : Addr} {xs ys : List V} : Walk (ItM k l K a b) (min xs.length ys.length) (fun H => SqK k K H a xs ∧ SqK l K H b ys) (YPair (fun i => xs[i]?) (fun i => ys[i]?)) := by
  refine ⟨fun i _ hi q => ?_, fun _ q => ⟨xs, ys, q.1, q.2, by omega, by omega, by omega⟩, fun i H v H' _ q y => ?_⟩
  · have h1 : i < xs.length := by omega
    have h2 : i < ys.length := by omega
    exact ⟨xs, ys, xs[i], ys[i], q.1, q.2, by simp [h1], by simp [h2]⟩
  · obtain ⟨T, x, z, g1, g2, g3, g4, g5⟩ := y
    exact ⟨T, x, z, g1, g2, g3, g4 xs q.1, g5 ys q.2⟩
theorem turnM {P : Program} {w : World} {K : PySem.W.Frag} {es : List Expr} {kk : Nat} {tp : Pos} {k l : Bool} {a b z TI TO i1 i2 : Addr} (S : ZipSep2 z TI TO i1 i2 [i1, a] [i2, b]) (n1 : a ≠ i1) (n2 : b ≠ i2) :
    Turn P w K (.Tuple es kk tp) (ItM k l K a b) [z, TI, TO, i1, i2] z (fun i h => IsZip h z TI TO .none ∧ IsTupOf2 h TI (.ref i1) (.ref i2) ∧ (∃ x y, IsTupOf2 h TO x y) ∧ IterK k h i1 a i ∧ IterK l h i2 b i) where
  mem := by simp
  obj := fun i h st c hc => by
    obtain ⟨hz, hTI, ⟨x, y, hTO⟩, g1, g2⟩ := st
    obtain ⟨o1, e1, _, d1⟩ := iterK_obj g1
    obtain ⟨o2, e2, _, d2⟩ := iterK_obj g2
    rcases (show c = z ∨ c = TI ∨ c = TO ∨ c = i1 ∨ c = i2 by simpa using hc) with rfl | rfl | rfl | rfl | rfl
    · exact ⟨_, hz, fun v q => nomatch q⟩
    · exact ⟨_, hTI, fun v q => nomatch q⟩
    · exact ⟨_, hTO, fun v q => nomatch q⟩
    · exact ⟨o1, e1, fun v q => by rw [d1] at q; cases q⟩
    · exact ⟨o2, e2, fun v q => by rw [d2] at q; cases q⟩
  keep := fun i h h' st kp => by
    obtain ⟨hz, hTI, ⟨x, y, hTO⟩, g1, g2⟩ := st
    exact ⟨kp z (by simp) _ hz, kp TI (by simp) _ hTI, ⟨x, y, kp TO (by simp) _ hTO⟩, iterK_at g1 fun o q => kp i1 (by simp) o q, iterK_at g2 fun o q => kp i2 (by simp) o q⟩
  item := by
    intro X hP hw hK hc i pins s σ H E I hf st hg
    subst hP hw hK
    obtain ⟨hz, hTI, ⟨x0, y0, hTO⟩, g1, g2⟩ := st
    obtain ⟨xs, ys, x, y, qx, qy, hx, hy⟩ := hg
    obtain ⟨its, rv, p⟩ := inv_K I qx
    obtain ⟨its2, rv2, p2⟩ := inv_K I qy
    obtain ⟨u, hu, ru⟩ := rv.get hx
    obtain ⟨u2, hu2, ru2⟩ := rv2.get hy
    have hh := I.ok.hd hc
    have lz : z < s.heap.objs.size := Heap.lt_size hz
    have m1 : i < its.toArray.size := by simpa using (List.getElem?_eq_some_iff.mp hu).1
    have m2 : i < its2.toArray.size := by simpa using (List.getElem?_eq_some_iff.mp hu2).1
    refine wpAny_pyNext_zipD2_item S (drawsK k (A := X.A.in1) hh i1 a n1 its.toArray) (drawsK l (A := X.A.in1) hh i2 b n2 its2.toArray) hz hTI hTO ⟨g1, p⟩ ⟨g2, p2⟩ m1 m2 fun v1 v2 h' tk e1 e2 z' TO' st1 st2 hT sz hk => ?_
    have ev : v1 = u := Option.some.inj (e1.symm.trans (by simpa using hu))
    have ev2 : v2 = u2 := Option.some.inj (e2.symm.trans (by simpa using hu2))
    subst ev ev2
    refine ⟨_, rfl, wpAny_letOwnedTupleGo_zip (s := { s with heap := h', toks := tk }) z' fun h'' z'' sb => ?_⟩
    have tup : h''.get? s.heap.objs.size = some { cls := .type "tuple", data := .seq #[v1, v2] } := (sb.2 _ (Nat.ne_of_gt lz)).trans hT
    have ok : ObjOk X.prog X.w (upd H s.heap.objs.size (.tup [x, y])) h'' s.heap.objs.size (.tup [x, y]) := ⟨(by decide : 2 ≤ sizeLine), [v1, v2], .cons ru (.cons ru2 .nil), _, tup, rfl, _, rfl⟩
    have J : L2.Inv X pins σ (upd H s.heap.objs.size (.tup [x, y])) { s with heap := h'', toks := tk } :=
      I.turnedNew (ch := [z, TI, TO, i1, i2]) (fun c o hb q => (sb.2 c (fun q' => hb (by simp [q']))).trans (hk c o (fun q' => hb (by simp [q'])) (fun q' => hb (by simp [q'])) (fun q' => hb (by simp [q'])) (fun q' => hb (by simp [q'])) q)) hf (Nat.le_refl _) ok
    refine ⟨.ref s.heap.objs.size, _, J, rfl, ⟨_, x, y, rfl, I.hok.fresh (Nat.le_refl _), rfl, fun L hL => by rw [inv_K1 I hL qx]; exact hx, fun L hL => by rw [inv_K1 I hL qy]; exact hy⟩,
      ⟨z'', (sb.2 _ S.TIz).trans (hk _ _ S.TIz S.TITO S.TIi1 S.TIi2 hTI), ⟨v1, v2, (sb.2 _ S.TOz).trans TO'⟩, iterK_at st1.1 fun o q => (sb.2 _ (Ne.symm S.zi1)).trans q, iterK_at st2.1 fun o q => (sb.2 _ (Ne.symm S.zi2)).trans q⟩, fun c hcm => ?_⟩
    have lt : c < s.heap.objs.size := by
      rcases (show c = z ∨ c = TI ∨ c = TO ∨ c = i1 ∨ c = i2 by simpa using hcm) with rfl | rfl | rfl | rfl | rfl
      · exact lz
      · exact Heap.lt_size hTI
      · exact Heap.lt_size hTO
      · obtain ⟨_, e, _⟩ := iterK_obj g1; exact Heap.lt_size e
      · obtain ⟨_, e, _⟩ := iterK_obj g2; exact Heap.lt_size e
    rw [upd_ne (Nat.ne_of_lt lt)]
    exact (hf c hcm).1
  done := by
    intro X hP hw hK hc i pins s σ H E I hf st hg
    subst hP hw hK
    obtain ⟨hz, hTI, ⟨x0, y0, hTO⟩, g1, g2⟩ := st
    obtain ⟨xs, ys, qx, qy, t1, t2, t3⟩ := hg
    obtain ⟨its, rv, p⟩ := inv_K I qx
    obtain ⟨its2, rv2, p2⟩ := inv_K I qy
    have l1 := rv.length
    have l2 := rv2.length
    have hh := I.ok.hd hc
    exact wpAny_pyNext_zipD2_end S (drawsK k (A := X.A.in1) hh i1 a n1 its.toArray) (drawsK l (A := X.A.in1) hh i2 b n2 its2.toArray) hz hTI hTO ⟨g1, p⟩ ⟨g2, p2⟩ (by simp; omega) (by simp; omega) (by simp; omega) fun h' tk hk =>
      ⟨rfl, I.turnedL (t' := tk) (ch := [z, TI, TO, i1, i2]) (fun c o hb q => hk c o (fun q' => hb (by simp [q'])) (fun q' => hb (by simp [q'])) (fun q' => hb (by simp [q'])) (fun q' => hb (by simp [q'])) q) hf⟩
  self := fun A i s Q E st h => wpAny_pyIter_zip st.1 h
def iZipM (K : PySem.W.Frag) (ta : TA) : TI := fun σ H R => ta σ H fun vs H1 => ∃ a b k l xs ys, vs = [.ref a, .ref b] ∧ SqK k K H1 a xs ∧ SqK l K H1 b ys ∧ R (ItM k l K a b) H1
theorem pi_zipM {X : Cx} {e e2 : Expr} {ta : TA} {p pos tp : Pos} {es : List Expr} {kk : Nat} (hg : Gl X "zip") (hm : X.mg "zip" = none) (ha : PA X [e, e2] ta)
    (hs : starEach [e, e2] X.env = (false, eval e X.env) :: starEach [e2] X.env := by rfl) (hpl : (backTo pos (starEach [e2] X.env)).any (·.1) = false := by rfl) :
    PI X (.Tuple es kk tp) (.Call (.Name "zip" p) [e, e2] [] pos) (iZipM X.K ta) := by
  refine ⟨fun pins s σ H R I h => ?_⟩
  refine Call_ (ld_blt I hg hm PyProof.Rows.boot_zip (PyProof.Rows.callWith_type1 (thn (ha.run pos pins s σ H _ I h) fun us s1 ⟨vs, H1, I1, r1, q1⟩ => ?_) hs hpl))
  obtain ⟨a, b, k, l, xs, ys, ex, qx, qy, q⟩ := q1
  subst ex
  have r2 : us = [.ref a, .ref b] := by
    cases r1 with
    | cons r rr => cases rr with
      | cons r' rr => cases rr; cases r; cases r'; rfl
  subst r2
  obtain ⟨its, rv, p1⟩ := inv_K I1 qx
  obtain ⟨its2, rv2, p2⟩ := inv_K I1 qy
  have la : a < s1.heap.objs.size := by
    cases k
    · obtain ⟨o, z, _⟩ := p1; exact Heap.lt_size z
    · obtain ⟨o, z, _⟩ := p1; exact Heap.lt_size z
  have lb : b < s1.heap.objs.size := by
    cases l
    · obtain ⟨o, z, _⟩ := p2; exact Heap.lt_size z
    · obtain ⟨o, z, _⟩ := p2; exact Heap.lt_size z
  generalize hN : s1.heap.objs.size = N at la lb
  have fresh : ∀ c, c ∈ [N + 4, N + 2, N + 3, N, N + 1] → FpOk X pins H1 c := fun c hc => by
    have le : s1.heap.objs.size ≤ c := by
      rw [hN]
      rcases (show c = N + 4 ∨ c = N + 2 ∨ c = N + 3 ∨ c = N ∨ c = N + 1 by simpa using hc) with rfl | rfl | rfl | rfl | rfl
      all_goals first | exact Nat.le_refl _ | exact Nat.le_add_right _ _
    exact I1.fpOk le (I1.hok.fresh le)
  have nA : ∀ (i j : Nat), i ≠ j → (N + i : Nat) ≠ N + j := fun i j h z => h (Nat.add_left_cancel z)
  have aN : ∀ i : Nat, a ≠ N + i := fun i z => Nat.lt_irrefl a (Nat.lt_of_lt_of_le la (by rw [z]; exact Nat.le_add_right _ _))
  have bN : ∀ i : Nat, b ≠ N + i := fun i z => Nat.lt_irrefl b (Nat.lt_of_lt_of_le lb (by rw [z]; exact Nat.le_add_right _ _))
  have S : ZipSep2 (N + 4) (N + 2) (N + 3) N (N + 1) [N, a] [N + 1, b] := by
    refine ⟨nA 2 4 (by decide), nA 3 4 (by decide), nA 2 3 (by decide), nA 2 0 (by decide), by simp, ?_, ?_, nA 2 1 (by decide), by simp, ?_, ?_, ?_, ?_⟩
    · simp only [List.mem_cons, List.not_mem_nil, or_false, not_or]
      exact ⟨nA 4 0 (by decide), Ne.symm (aN 4)⟩
    · simp only [List.mem_cons, List.not_mem_nil, or_false, not_or]
      exact ⟨nA 3 0 (by decide), Ne.symm (aN 3)⟩
    · simp only [List.mem_cons, List.not_mem_nil, or_false, not_or]
      exact ⟨nA 4 1 (by decide), Ne.symm (bN 4)⟩
    · simp only [List.mem_cons, List.not_mem_nil, or_false, not_or]
      exact ⟨nA 3 1 (by decide), Ne.symm (bN 3)⟩
    · simp only [List.mem_cons, List.not_mem_nil, or_false, not_or]
      exact ⟨nA 0 1 (by decide), Ne.symm (bN 0)⟩
    · simp only [List.mem_cons, List.not_mem_nil, or_false, not_or]
      exact ⟨nA 1 0 (by decide), Ne.symm (aN 1)⟩
  refine zip_begins2 (beginsK k a its.toArray) (beginsK l b its2.toArray) p1 p2 fun h' hz hTI hTO o1 o2 sz hk => wpAny_pyIter_zip hz ?_
  rw [hN] at hz hTI hTO o1 o2
  rw [hN]
  exact ⟨N + 4, [N + 4, N + 2, N + 3, N, N + 1], _, _, H1, rfl, I1.kept (t' := s1.toks) hk, turnM S (aN 0) (bN 1), ⟨hz, hTI, ⟨_, _, hTO⟩, iterK_new o1, iterK_new o2⟩, fresh, q⟩
end SM

set_option maxHeartbeats 1000000
/-! SM: tuple[::-1]. -/
namespace SM
open PySem L2 PySem.Spec PyProof.Rows HT
section
variable {prog : Program} {w : World} {A : Around} {E : Value → Shared → Prop} {s : Shared}
theorem adjust_back (n : Nat) : Builtin.Slice.sliceAdjust none none (-1) (n : Int) = ((n : Int) - 1, -1) := by
  unfold Builtin.Slice.sliceAdjust
  simp
theorem places_back (n : Nat) : Builtin.Slice.slicePlaces ((n : Int) - 1) (-1) (-1) = n := by
  unfold Builtin.Slice.slicePlaces
  rw [if_neg (by decide)]
  split <;> simp <;> omega
theorem applied_back {sl : Addr} {m : Tok} {n : Nat} {Q : Int × Int × Nat → Shared → Prop} (hs : s.heap.IsSliceOf sl .none .none (.int (-1) m)) (h : Q ((n : Int) - 1, -1, n) s) :
    wpAny (model prog w) A (Builtin.Slice.sliceApplied (.ref sl) (pure (n : Int))) Q E s := by
  obtain ⟨rec, found, _, parts⟩ := id hs
  unfold Builtin.Slice.sliceApplied Builtin.Slice.sliceFields
  refine wpAny_bind (wpAny_bind (wpAny_field found parts (x := .none) rfl (wpAny_bind (wpAny_field found parts (x := .none) rfl (wpAny_bind (wpAny_field found parts (x := .int (-1) m) rfl (wpAny_pure ?_)))))))
  refine wpAny_bind (slicePart_ (.int (-1) m) ?_)
  show wpAny _ _ (if ((-1 : Int) == 0) = true then _ else _) _ _ s
  rw [if_neg (by decide)]
  refine wpAny_bind (slicePart_ .none (wpAny_bind (slicePart_ .none (wpAny_bind (wpAny_pure ?_)))))
  show wpAny _ _ (match Builtin.Slice.sliceAdjust none none (-1) (n : Int) with | (a, b) => pure (a, (-1 : Int), Builtin.Slice.slicePlaces a b (-1))) _ _ s
  rw [adjust_back]
  show wpAny _ _ (pure ((n : Int) - 1, (-1 : Int), Builtin.Slice.slicePlaces ((n : Int) - 1) (-1) (-1))) _ _ s
  rw [places_back]
  exact wpAny_pure h
theorem fm_congr {α β : Type} {f g : α → Option β} : ∀ l : List α, (∀ x ∈ l, f x = g x) → l.filterMap f = l.filterMap g
  | [], _ => rfl
  | a :: r, h => by
    rw [List.filterMap_cons, List.filterMap_cons, h a List.mem_cons_self, fm_congr r fun x hx => h x (List.mem_cons_of_mem _ hx)]
theorem pick_back (xs : Array Value) : ((List.range xs.size).filterMap fun (k : Nat) => xs[((xs.size : Int) - 1 + (k : Int) * -1).toNat]?).toArray = xs.toList.reverse.toArray := by
  congr 1
  have e : ∀ k ∈ List.range xs.size, xs[((xs.size : Int) - 1 + (k : Int) * -1).toNat]? = xs.toList.reverse[k]? := fun k hk => by
    have hk : k < xs.size := List.mem_range.mp hk
    rw [List.getElem?_reverse (by simpa using hk), ← Array.getElem?_toList]
    congr 1
    simp
    omega
  have e2 : (List.range xs.size).filterMap (fun (k : Nat) => xs[((xs.size : Int) - 1 + (k : Int) * -1).toNat]?) = (List.range xs.size).filterMap (fun k => xs.toList.reverse[k]?) := fm_congr _ e
  rw [e2]
  have hl : xs.size = xs.toList.reverse.length := by simp
  rw [hl]
  generalize xs.toList.reverse = l
  clear e e2 hl
  apply List.ext_getElem?
  intro i
  have : (List.range l.length).filterMap (fun k => l[k]?) = l := by
    induction l with
    | nil => rfl
    | cons a r ih =>
      rw [List.length_cons, List.range_succ_eq_map, List.filterMap_cons]
      simp only [List.getElem?_cons_zero, List.filterMap_map]
      congr 1
  rw [this]
theorem getItem_back {t sl : Addr} {items : Array Value} {m : Tok} {Q : Value → Shared → Prop} (ht : IsTup s.heap t items) (hs : s.heap.IsSliceOf sl .none .none (.int (-1) m)) (big : items.size ≤ sizeLine)
    (h : Q (.ref s.heap.objs.size) { s with heap := s.heap.push { cls := .type "tuple", data := .seq items.toList.reverse.toArray } }) : wpAny (model prog w) A (getItem (.ref t) (.ref sl)) Q E s := by
  have fits : sizeOk (.seq items.toList.reverse.toArray) := by
    show items.toList.reverse.toArray.size ≤ sizeLine
    simpa using big
  obtain ⟨rec, found, kindly, _⟩ := id hs
  have isSl : s.TypeIs (.ref sl) "slice" := ⟨rec, found, kindly⟩
  unfold getItem
  refine wpAny_holding ?_
  refine wpAny_bind (wpAny_sequenceKey ht.typeIs (by decide) (wpAny_bind (wpAny_callSpecial?_slot (name := Str.ofString "__getitem__") ht.typeIs PyProof.Rows.slot_tuple_getitem (wpAny_call_entry PyProof.Rows.slot_tuple_getitem ht.typeIs entry_tuple_getitem ?_ (args_tuple_getitem _ _)))))
  show wpAny _ _ (Builtin.Tuple.tupleItemsOf (.ref t) >>= _) _ _ s
  refine wpAny_bind (tupleItemsOf_ ht (wpAny_bind (wpAny_typeOf isSl ?_)))
  rw [if_pos (by decide)]
  refine wpAny_bind (applied_back hs ?_)
  show wpAny _ _ (if ((items.size : Int) - 1 == 0 && (-1 : Int) == 1 && items.size == items.size) = true then _ else _) _ _ s
  rw [if_neg (by simp), pick_back]
  first
    | exact wpAny_bind (m := Builtin.Tuple.tupleExact _) (wpAny_newObj_type (wpAny_pure ⟨_, rfl, wpAny_pure h⟩) fits)
    | exact wpAny_bind (m := Builtin.Tuple.tupleExact _) (wpAny_newObj_type (wpAny_bind (wpAny_pure (wpAny_pure ⟨_, rfl, wpAny_pure h⟩))) fits)
    | exact wpAny_bind (wpAny_bind (m := Builtin.Tuple.tupleExact _) (wpAny_newObj_type (wpAny_pure (wpAny_pure ⟨_, rfl, wpAny_pure h⟩)) fits))
end
/-- a list or a tuple, backwards -/
def tBack (K : PySem.W.Frag) (te : TE) : TE := fun σ H Q => te σ H fun x H1 => ∃ a xs, x = .ref a ∧ ((SqL K H1 a xs ∧ ∀ p, H1 p = none → Q (.ref p) (upd H1 p (.lst xs.reverse))) ∨ (SqT K H1 a xs ∧ ∀ p, H1 p = none → Q (.ref p) (upd H1 p (.tup xs.reverse))))
theorem pe_back {X : Cx} {e : Expr} {te : TE} {k : Nat} {p1 p2 p3 pos : Pos} (he : PE X e te) : PE X (.Subscript e (.Slice none none (some (.UnaryOp .USub (.Constant (.int 1) k p1) p2)) p3) pos) (tBack X.K te) := by
  refine ⟨fun pins st σ H Q I h => Subscript_ (thn (he.run pins st σ H _ I h) fun v s1 ⟨x, H1, I1, r1, a, xs, ex, q⟩ => ?_)⟩
  subst ex
  cases r1
  have part : PO X (some (.UnaryOp .USub (.Constant (.int 1) k p1) p2)) (tPart (tUn (rU fun i => .int (-i)) (L2.tC (.int 1)))) := po_some (pe_un un_neg pe_int)
  refine wpAny_Slice (thn (po_none.run pins s1 σ H1 (fun o G => o = none ∧ G = H1) I1 ⟨rfl, rfl⟩) fun vl s2 ⟨l, H2, I2, pl, el, e2⟩ => ?_)
  subst el e2
  refine thn (po_none.run pins s2 σ H2 (fun o G => o = none ∧ G = H2) I2 ⟨rfl, rfl⟩) fun vu s3 ⟨u, H3, I3, pu, eu, e3⟩ => ?_
  subst eu e3
  refine thn (part.run pins s3 σ H3 (fun o G => o = some (-1) ∧ G = H3) I3 ⟨1, rfl, -1, rfl, rfl, rfl⟩) fun vs s4 ⟨o, H4, I4, ps, eo, e4⟩ => ?_
  subst eo e4
  have I5 : Inv X pins σ H4 { s4 with heap := s4.heap.push { cls := .type "slice", data := .fields #[vl, vu, vs] } } := I4.kept (t' := s4.toks) fun b ob q => Heap.get?_push_of_some _ q
  show wpAny (model X.prog X.w) X.A (subscriptTail e (.Slice none none (some (.UnaryOp .USub (.Constant (.int 1) k p1) p2)) p3) (.ref a) (.ref s4.heap.objs.size)) (EP X pins σ Q) X.xe { s4 with heap := s4.heap.push { cls := .type "slice", data := .fields #[vl, vu, vs] } }
  rcases q with ⟨hx, q⟩ | ⟨hx, q⟩
  · obtain ⟨its, r, ht, hz⟩ := I5.list hx
    refine tail_any (ops := [.ref a, .ref s4.heap.objs.size]) ht.isList.typeIs (PySem.slot_list_getitem.lookup) ?_ (by with_unfolding_all rfl)
    refine wpAny_getItem_list_slice ht.isList (Heap.IsSliceOf.new _ vl vu vs) pl pu ps (by decide) ?_ (by rw [List.size_toArray, ← r.length]; exact hz)
    rw [PySem.W.krv_pick]
    exact ⟨.ref _, _, I5.laid (t' := s4.toks) (o := .lst xs.reverse) (fun b ob q => Heap.get?_push_of_some _ q) (Nat.le_refl _) ⟨by rw [List.length_reverse]; exact hz, _, 0, r.reverse, Heap.get?_push_size _ rfl⟩, rfl, q _ (I5.hok.fresh (Nat.le_refl _))⟩
  · obtain ⟨its, r, ht, hz⟩ := I5.tuple hx
    cases pl
    cases pu
    cases ps with
    | int _ tk =>
    refine tail_any (ops := [.ref a, .ref s4.heap.objs.size]) ht.typeIs (PyProof.Rows.slot_tuple_getitem.lookup) ?_ (by with_unfolding_all rfl)
    refine getItem_back ht (Heap.IsSliceOf.new _ _ _ _) (by rw [List.size_toArray, ← r.length]; exact hz) ?_
    exact ⟨.ref _, _, I5.laid (t' := s4.toks) (o := .tup xs.reverse) (fun b ob q => Heap.get?_push_of_some _ q) (Nat.le_refl _) ⟨by rw [List.length_reverse]; exact hz, _, r.reverse, IsTup.new _ _⟩, rfl, q _ (I5.hok.fresh (Nat.le_refl _))⟩
end SM

set_option maxHeartbeats 1000000
/-! SM: sorted. -/
namespace SM
open PySem L2
section
variable {X : Cx}
theorem CallR.or {f : Value} {r r' : List V → Hp → VK → Prop} (h : CallR X f r) (h' : CallR X f r') : CallR X f (fun x H Q => r x H Q ∨ r' x H Q) :=
  fun pins s σ H x y Q I rx q => q.elim (h pins s σ H x y Q I rx) (h' pins s σ H x y Q I rx)
theorem pairB_inv {d : PyData} (h : pairB d = true) : ∃ i j : Int, d = .tuple [.int i, .int j] ∧ 0 ≤ i ∧ i < 64 ∧ 0 ≤ j ∧ j < 64 := by
  unfold pairB at h
  split at h
  · rename_i i j
    simp only [Bool.and_eq_true, decide_eq_true_eq] at h
    exact ⟨i, j, rfl, h.1.1, h.1.2, h.2.1, h.2.2⟩
  · cases h
theorem kD_inj {a b : PyData} (ha : pairB a = true) (hb : pairB b = true) (h : kD a = kD b) : a = b := by
  obtain ⟨i, j, rfl, h1, h2, h3, h4⟩ := pairB_inv ha
  obtain ⟨k, l, rfl, g1, g2, g3, g4⟩ := pairB_inv hb
  have h : i * 64 + j = k * 64 + l := h
  have e1 : i = k := by omega
  have e2 : j = l := by omega
  rw [e1, e2]
/-- data of what was put into another sequence -/
theorem Reps.perm {K : PySem.W.Frag} {m : Mu} {H : Hp} : ∀ {ys xs : List V}, ys.Perm xs → ∀ {ds : List PyData}, Reps K m H ds xs → ∃ es, es.Perm ds ∧ Reps K m H es ys := by
  intro ys xs h
  induction h with
  | nil => exact fun {ds} r => ⟨ds, .refl _, r⟩
  | cons v _ ih =>
    intro ds r
    cases ds with
    | nil => exact nomatch (show _ = [] from r)
    | cons d ds =>
      obtain ⟨w, q, e, r1, r2⟩ := r
      cases e
      obtain ⟨es, p, z⟩ := ih r2
      exact ⟨d :: es, p.cons d, _, _, rfl, r1, z⟩
  | swap v w l =>
    intro ds r
    cases ds with
    | nil => exact nomatch (show _ = [] from r)
    | cons d ds =>
      obtain ⟨x, q, e, r1, r2⟩ := r
      cases e
      cases ds with
      | nil => exact nomatch (show _ = [] from r2)
      | cons d' ds =>
        obtain ⟨y, q', e, r3, r4⟩ := r2
        cases e
        exact ⟨d' :: d :: ds, .swap .., _, _, rfl, r3, _, _, rfl, r1, r4⟩
  | trans _ _ ih1 ih2 =>
    intro ds r
    obtain ⟨es, p, z⟩ := ih2 r
    obtain ⟨fs, p', z'⟩ := ih1 z
    exact ⟨fs, p'.trans p, z'⟩
theorem Reps.mem {K : PySem.W.Frag} {m : Mu} {H : Hp} : ∀ {ds : List PyData} {xs : List V} {x : V}, Reps K m H ds xs → x ∈ xs → ∃ d ∈ ds, Rep K m H d x
  | [], xs, x, r, h => by have r : xs = [] := r; subst r; cases h
  | d :: ds, xs, x, ⟨v, q, e, r1, r2⟩, h => by
    subst e
    rcases List.mem_cons.mp h with rfl | h
    · exact ⟨d, List.mem_cons_self, r1⟩
    · obtain ⟨d', hd, r⟩ := Reps.mem r2 h
      exact ⟨d', List.mem_cons_of_mem _ hd, r⟩
theorem pair_tup {K : PySem.W.Frag} {m : Mu} {H : Hp} {i j : Int} {x : V} (r : Rep K m H (.tuple [.int i, .int j]) x) : TupI K H x [i, j] := by
  obtain ⟨a, ws, rfl, h1, h2⟩ := r
  obtain ⟨v, q, rfl, e1, v2, q2, rfl, e2, e3⟩ := h2
  cases e1
  cases e2
  cases e3
  exact ⟨a, rfl, h1.sq⟩
theorem reps_pairwise {K : PySem.W.Frag} {m : Mu} {H : Hp} : ∀ {es : List PyData} {ys : List V}, Reps K m H es ys → (∀ d ∈ es, pairB d = true) → ys.Pairwise (fun x y => ∀ n m, TupI K H x n → TupI K H y m → TS.code 64 n ≤ TS.code 64 m) → es.Pairwise (fun a b => decide (kD a ≤ kD b) = true)
  | [], _, _, _, _ => .nil
  | d :: es, ys, ⟨v, q, e, r1, r2⟩, hp, pw => by
    subst e
    rw [List.pairwise_cons] at pw ⊢
    refine ⟨fun d' hd' => ?_, reps_pairwise r2 (fun z hz => hp z (List.mem_cons_of_mem _ hz)) pw.2⟩
    obtain ⟨i, j, rfl, _⟩ := pairB_inv (hp d List.mem_cons_self)
    obtain ⟨k, l, rfl, _⟩ := pairB_inv (hp d' (List.mem_cons_of_mem _ hd'))
    obtain ⟨y, hy, ry⟩ : ∃ y ∈ q, Rep K m H (.tuple [.int k, .int l]) y := by
      clear pw r1 hp
      induction es generalizing q with
      | nil => cases hd'
      | cons d es ih =>
        obtain ⟨w, q', rfl, s1, s2⟩ := r2
        rcases List.mem_cons.mp hd' with rfl | hd'
        · exact ⟨w, List.mem_cons_self, s1⟩
        · obtain ⟨y, hy, ry⟩ := ih q' s2 hd'
          exact ⟨y, List.mem_cons_of_mem _ hy, ry⟩
    have := pw.1 y hy [i, j] [k, l] (pair_tup r1) (pair_tup ry)
    rw [code_pair, code_pair] at this
    exact decide_eq_true this
theorem bi_sorted {mf : Bool} : BiOk X mf .sorted := CallR.weak (.or cr_sortedI (cr_sortT (d := 2) (B := 64) (by decide))) fun xs H Q ⟨m, s, vs, rv, rs, h⟩ => by
  simp only [biV, sortedV] at h
  split at h
  · obtain ⟨x, rfl, r1⟩ := rv.inv1
    obtain ⟨ds, q1, h⟩ := postP_bind h
    obtain ⟨a, ws, rfl, h1, h2⟩ := dataL_sq rs r1 q1
    split at h
    · rename_i is q2
      have e := h2.ints q2
      subst e
      refine .inl ⟨a, is, rfl, h1, fun ns' p pm pw hp => ?_⟩
      have es : ns' = sortI is := by
        refine List.Perm.eq_of_pairwise (le := fun a b => decide (a ≤ b) = true) (fun a b _ _ u v => ?_) (pw.imp fun z => decide_eq_true z) ?_ (pm.trans (List.mergeSort_perm _ _).symm)
        · have u := of_decide_eq_true u
          have v := of_decide_eq_true v
          omega
        · exact List.pairwise_mergeSort (fun a b c u v => by simp only [decide_eq_true_eq] at u v ⊢; omega) (fun a b => by simp only [Bool.or_eq_true, decide_eq_true_eq]; omega) _
      subst es
      have rr : RVs X.K m H ((sortI is).map fun i => Vl.d (.int i)) ((sortI is).map V.int) := by
        have := (RVs.ofInts (K := X.K) (m := m) (H := H) (sortI is)).rvs
        rwa [List.map_map] at this
      exact mkL_new rs rr hp h
    · split at h
      · rename_i hz
        obtain ⟨hl, hall⟩ := hz
        have hall := List.all_eq_true.mp hall
        refine .inr ⟨a, ws, rfl, h1, by rw [← h2.length]; exact hl, fun x hx => ?_, fun ys p pm pw hp => ?_⟩
        · obtain ⟨d, hd, r⟩ := Reps.mem h2 hx
          obtain ⟨i, j, rfl, b1, b2, b3, b4⟩ := pairB_inv (hall d hd)
          refine ⟨[i, j], pair_tup r, rfl, fun m hm => ?_⟩
          simp at hm
          rcases hm with rfl | rfl <;> omega
        · obtain ⟨es, pe, re⟩ := Reps.perm pm h2
          have hes : ∀ d ∈ es, pairB d = true := fun d hd => hall d (pe.subset hd)
          have e : es = sortP ds := by
            refine List.Perm.eq_of_pairwise (le := fun a b => decide (kD a ≤ kD b) = true) (fun a b ha hb u v => ?_) (reps_pairwise re hes pw) ?_ (pe.trans (List.mergeSort_perm _ _).symm)
            · have hb' : b ∈ ds := (List.mergeSort_perm _ _).subset hb
              have u := of_decide_eq_true u
              have v := of_decide_eq_true v
              exact kD_inj (hes a ha) (hall b hb') (by omega)
            · exact List.pairwise_mergeSort (fun a b c u v => by simp only [decide_eq_true_eq] at u v ⊢; omega) (fun a b => by simp only [Bool.or_eq_true, decide_eq_true_eq]; omega) _
          subst e
          exact mkL_new rs re.rvs hp h
      · exact h.elim
  · exact h.elim
end
end SM

/-! SM: what ties an IE to an expression of the text. -/
namespace SM
open PySem L2

structure Sg where
  fns : List Str
  cns : List (Str × PyData)
  bis : List Str
  mth : List Str
  kws : List (Str × List Str × List Nat)
  exs : List Str := []
  isx : List (Str × List Bool) := []
mutual
def eqB : PyData → PyData → Bool
  | .none, .none => true
  | .bool a, .bool b => a == b
  | .int a, .int b => a == b
  | .str a, .str b => decide (a = b)
  | .tuple a, .tuple b => eqBs a b
  | _, _ => false
def eqBs : List PyData → List PyData → Bool
  | [], [] => true
  | x :: xs, y :: ys => eqB x y && eqBs xs ys
  | _, _ => false
end
mutual
theorem eqB_eq : ∀ {x y : PyData}, eqB x y = true → x = y
  | .none, y, h => by cases y <;> first | rfl | (simp [eqB] at h; done)
  | .bool a, y, h => by cases y <;> simp [eqB] at h; subst h; rfl
  | .int a, y, h => by cases y <;> simp [eqB] at h; subst h; rfl
  | .str a, y, h => by cases y <;> simp [eqB] at h; subst h; rfl
  | .tuple a, y, h => by cases y <;> simp [eqB] at h; rw [eqBs_eq h]
  | .list _, y, h => by cases y <;> simp [eqB] at h
  | .dict _, y, h => by cases y <;> simp [eqB] at h
theorem eqBs_eq : ∀ {x y : List PyData}, eqBs x y = true → x = y
  | [], y, h => by cases y <;> first | rfl | (simp [eqBs] at h; done)
  | x :: xs, y, h => by
    cases y with
    | nil => simp [eqBs] at h
    | cons y ys =>
      simp [eqBs] at h
      rw [eqB_eq h.1, eqBs_eq h.2]
end
def visB (sc : Scope) (x : Str) : Bool := match sc.names.lookup x with
  | some .local => true
  | some .cell => true
  | some .free => true
  | _ => false
def locB (sc : Scope) (x : Str) : Bool := match sc.names.lookup x with
  | some .local => true
  | some .cell => true
  | _ => false
def isLoc (sc : Scope) (x : Str) : Bool := match sc.names.lookup x with
  | some .local => true
  | _ => false
def gloB (sc : Scope) (x : Str) : Bool := match sc.names.lookup x with
  | some .globalImplicit => !(x == ("__debug__" : Str))
  | _ => false
def blkF (scope : Scope) : Str → Bool := fun x => scope.names.lookup x == some .cell
def ownP (N : List Str) (own : List Nat) : List (Str × Nat) := own.map fun i => (N.getD i "", i)
def meName : Me → Str
  | .append => "append" | .insert => "insert" | .pop => "pop" | .index => "index" | .count => "count" | .clear => "clear" | .reverse => "reverse"
/-- the slots of a target -/
def tgS : IE → List Nat
  | .var i => [i]
  | .tup es => tgS es
  | .cons a r => tgS a ++ tgS r
  | _ => []
/-- a target of names -/
def chkG (fnB : Str → Bool) (sc : Scope) (N : List Str) : IE → Expr → Bool
  | .var i, .Name x _ => decide (N[i]? = some x) && locB sc x && (fnB x || isLoc sc x)
  | .tup es, .Tuple es' _ _ => chkGs fnB sc N es es'
  | _, _ => false
where chkGs (fnB : Str → Bool) (sc : Scope) (N : List Str) : IE → List Expr → Bool
  | .nil, [] => true
  | .cons a r, e :: es => chkG fnB sc N a e && chkGs fnB sc N r es
  | _, _ => false
/-- may it stand as a test? -/
def tstF : Expr → Bool
  | .IfExp .. => false
  | _ => true
def plainIx : Expr → Bool
  | .Slice .. => false
  | _ => true
def recvB : Expr → Bool
  | .Name .. => true
  | .Subscript .. => true
  | _ => false
def meB : Me → Bool → Bool
  | .append, b => !b
  | .insert, b => !b
  | .count, b => !b
  | .pop, _ => true
  | .clear, b => b
  | _, _ => false
/-- zip and enumerate want a written tuple as their target -/
def zipTg : IE → Expr → Bool
  | .zip .., .Tuple .. => true
  | .enum .., .Tuple .. => true
  | .zip .., _ => false
  | .enum .., _ => false
  | _, _ => true
def isMth : Bi → Bool
  | .gcd => true
  | .lcm => true
  | _ => false
def biG (G : Sg) (b : Bi) (x : Str) : Bool := if isMth b then decide (x ∈ G.mth) else decide (x ∈ G.bis)
def isNil : IE → Bool
  | .nil => true
  | _ => false
mutual
def chk (G : Sg) (N : List Str) (sc : Scope) : IE → Expr → Bool
  | .var i, .Name x _ => decide (N[i]? = some x) && visB sc x && !(x == ("__debug__" : Str)) && !(x == ("__classdict__" : Str))
  | .lit .none, .Constant .none _ _ => true
  | .lit (.bool a), .Constant (.bool b) _ _ => a == b
  | .lit (.int a), .Constant (.int b) _ _ => a == b
  | .lit (.str a), .Constant (.str b) _ _ => decide (a = b)
  | .glob x d, .Name y _ => decide (x = y) && gloB sc x && G.cns.any fun p => decide (p.1 = x) && eqB p.2 d
  | .bop _ o a b, .BinOp a' op b' _ => decide (opOf o = op) && chk G N sc a a' && chk G N sc b b'
  | .rep _ es k, .BinOp (.List es' _) op k' _ => decide (op = .Mult) && chks G N sc es es' && chk G N sc k k'
  | .neg a, .UnaryOp op a' _ => decide (op = .USub) && chk G N sc a a'
  | .not a, .UnaryOp op a' _ => decide (op = .Not) && tstF a' && chk G N sc a a'
  | .cmp o a b, .Compare a' [op] [b'] _ => decide (copOf o = op) && !behindInMarks op b' && chk G N sc a a' && chk G N sc b b'
  | .chain o p a b c, .Compare a' [op, op'] [b', c'] _ => decide (copOf o = op) && decide (copOf p = op') && !lastMarks [op, op'] [b', c'] && chk G N sc a a' && chk G N sc b b' && chk G N sc c c'
  | .and es, .BoolOp op es' _ => decide (op = .And) && chks G N sc es es' && es'.all tstF && !es'.isEmpty
  | .or es, .BoolOp op es' _ => decide (op = .Or) && chks G N sc es es' && es'.all tstF && !es'.isEmpty
  | .ite c a b, .IfExp c' a' b' _ => tstF c' && chk G N sc c c' && chk G N sc a a' && chk G N sc b b'
  | .tup es, .Tuple es' _ _ => chks G N sc es es'
  | .lst _ es, .List es' _ => chks G N sc es es'
  | .idx a i, .Subscript a' i' _ => plainIx i' && chk G N sc a a' && chk G N sc i i'
  | .sli _ a lo hi, .Subscript a' (.Slice lo' hi' none _) _ => chk G N sc a a' && chko G N sc lo lo' && chko G N sc hi hi'
  | .rev _ a, .Subscript a' (.Slice none none (some (.UnaryOp op (.Constant (.int k) _ _) _)) _) _ => decide (op = .USub) && decide (k = 1) && chk G N sc a a'
  | .bi _ b es, .Call (.Name x _) es' [] _ => decide (biName b = x) && gloB sc x && biG G b x && chks G N sc es es' && !es'.isEmpty
  | .isi a t, .Call (.Name x _) [a', .Name y _] [] _ => decide (x = "isinstance") && gloB sc x && decide (x ∈ G.bis) && decide (y = tyName t) && gloB sc y && decide (y ∈ G.bis) && chk G N sc a a'
  | .me f a es, .Call (.Attribute o n apos) es' [] cpos => decide (meName f = n) && recvB o && (apos.endLine == cpos.line) && decide (es'.length < 28) && chk G N sc a o && chks G N sc es es' && meB f es'.isEmpty
  | .call f es, .Call (.Name x _) es' [] _ => decide (G.fns[f]? = some x) && gloB sc x && chks G N sc es es' && !es'.isEmpty
  | .comp _ elt tg it cnd own, .ListComp elt' [⟨tg', it', ifs', 0⟩] scope _ => zipTg it tg' && chki G N sc it it' && blkC N sc scope (ownP N own) && chkG (blkF scope) (relS scope sc) N tg tg' && (tgS tg).all (fun i => decide (i ∈ own)) &&
      chkc G N (relS scope sc) cnd ifs' && chk G N (relS scope sc) elt elt'
  | .comp2 _ elt tg it tg2 it2 cnd own own2, .ListComp elt' [⟨tg', it', [], 0⟩, ⟨tg2', it2', ifs', 0⟩] scope _ => zipTg it tg' && chki G N sc it it' && blkC N sc scope (ownP N own) && chkG (blkF scope) (relS scope sc) N tg tg' && (tgS tg).all (fun i => decide (i ∈ own)) &&
      zipTg it2 tg2' && chki G N (relS scope sc) it2 it2' && chkG (blkF scope) (relS scope sc) N tg2 tg2' && (tgS tg2).all (fun i => decide (i ∈ own2)) && own2.all (fun i => decide (i ∈ own)) &&
      chkc G N (relS scope sc) cnd ifs' && chk G N (relS scope sc) elt elt'
  | .dcomp _ kx vx tg it cnd own, .DictComp kx' vx' [⟨tg', it', ifs', 0⟩] scope _ => zipTg it tg' && chki G N sc it it' && blkC N sc scope (ownP N own) && chkG (blkF scope) (relS scope sc) N tg tg' && (tgS tg).all (fun i => decide (i ∈ own)) &&
      chkc G N (relS scope sc) cnd ifs' && chk G N (relS scope sc) kx kx' && chk G N (relS scope sc) vx vx'
  | .dnew, .Dict [] [] _ => true
  | .dic ks vs, .Dict ks' vs' _ => chkd G N sc vs ks ks' vs'
  | .callk f es ks nms perm, .Call (.Name x _) as kws _ => isNil es && as.isEmpty && decide (G.fns[f]? = some x) && gloB sc x && chkk G N sc ks kws && decide (kws.map (·.arg) = nms.map some) && decide ((x, nms, perm) ∈ G.kws) && !kws.isEmpty
  | .frz a, e => chk G N sc a e
  | .frd a, .Name x p => chk G N sc a (.Name x p)
  | .lrg _ a, .Call (.Name x _) [.Call (.Name y _) [a'] [] _] [] _ => decide (x = "list") && gloB sc x && decide (x ∈ G.bis) && decide (y = "range") && gloB sc y && decide (y ∈ G.bis) && chk G N sc a a'
  | _, _ => false
def chkd (G : Sg) (N : List Str) (sc : Scope) : IE → IE → List (Option Expr) → List Expr → Bool
  | .nil, .nil, [], [] => true
  | .cons v .nil, .cons (.lit (.str y)) .nil, [some (.Constant (.str z) _ _)], [w] => decide (y = z) && chk G N sc v w
  | _, _, _, _ => false
def chkk (G : Sg) (N : List Str) (sc : Scope) : IE → List Keyword → Bool
  | .nil, [] => true
  | .cons a r, ⟨_, e, _⟩ :: kws => chk G N sc a e && chkk G N sc r kws
  | _, _ => false
def chks (G : Sg) (N : List Str) (sc : Scope) : IE → List Expr → Bool
  | .nil, [] => true
  | .cons a r, e :: es => chk G N sc a e && chks G N sc r es
  | _, _ => false
def chko (G : Sg) (N : List Str) (sc : Scope) : IE → Option Expr → Bool
  | .nil, none => true
  | .cons a _, some e => chk G N sc a e
  | _, _ => false
def chkc (G : Sg) (N : List Str) (sc : Scope) : IE → List Expr → Bool
  | .nil, [] => true
  | .cons a _, [e] => tstF e && chk G N sc a e
  | _, _ => false
def chki (G : Sg) (N : List Str) (sc : Scope) : IE → Expr → Bool
  | .rng1 a, .Call (.Name x _) [a'] [] _ => decide (x = "range") && gloB sc x && decide (x ∈ G.bis) && chk G N sc a a'
  | .rng2 a b, .Call (.Name x _) [a', b'] [] _ => decide (x = "range") && gloB sc x && decide (x ∈ G.bis) && chk G N sc a a' && chk G N sc b b'
  | .zip a b, .Call (.Name x _) [a', b'] [] _ => decide (x = "zip") && gloB sc x && decide (x ∈ G.bis) && chk G N sc a a' && chk G N sc b b'
  | .enum a, .Call (.Name x _) [a'] [] _ => decide (x = "enumerate") && gloB sc x && decide (x ∈ G.bis) && chk G N sc a a'
  | .itv a, e => chk G N sc a e
  | .itd a, e => chk G N sc a e
  | _, _ => false
end
/-! ### except suites: n is the name of the error -/
mutual
def chkH (G : Sg) (N : List Str) (sc : Scope) (n : Str) : HE → Expr → Bool
  | .var i, .Name x _ => decide (N[i]? = some x) && visB sc x && !(x == ("__debug__" : Str)) && !(x == ("__classdict__" : Str))
  | .lit .none, .Constant .none _ _ => true
  | .lit (.bool a), .Constant (.bool b) _ _ => a == b
  | .lit (.int a), .Constant (.int b) _ _ => a == b
  | .lit (.str a), .Constant (.str b) _ _ => decide (a = b)
  | .exv, .Attribute (.Name x _) y _ => decide (x = n) && decide (y = "value")
  | .exi l, .Call (.Name x _) [.Name z _, .Name y _] [] _ => decide (x = "isinstance") && gloB sc x && decide (x ∈ G.bis) && decide (z = n) && gloB sc y && decide ((y, l) ∈ G.isx)
  | .lst _ es, .List es' _ => chkHs G N sc n es es'
  | .tup es, .Tuple es' _ _ => chkHs G N sc n es es'
  | .add _ a b, .BinOp a' op b' _ => decide (op = .Add) && chkH G N sc n a a' && chkH G N sc n b b'
  | _, _ => false
def chkHs (G : Sg) (N : List Str) (sc : Scope) (n : Str) : HE → List Expr → Bool
  | .nil, [] => true
  | .cons a r, e :: es => chkH G N sc n a e && chkHs G N sc n r es
  | _, _ => false
end
def chkHS (G : Sg) (N : List Str) (sc : Scope) (n : Str) : List (Nat × HE) → List Stmt → Bool
  | [], [] => true
  | p :: r, .Assign [.Name x _] e _ :: sts => decide (N[p.1]? = some x) && isLoc sc x && !(x == n) && chkH G N sc n p.2 e && chkHS G N sc n r sts
  | _, _ => false
end SM

/-! SM: where one stands; how a run's end is handed on. -/
namespace SM
open PySem L2 PySem.Spec PyProof.Rows

/-- a def's promise, where nothing is being shown (repr) -/
structure FnG (P : Program) (w : World) (K : PySem.W.Frag) (mg : Str → Option Value) (base : Heap) (k : Nat) (f : Addr) (fd : FuncData) (ps : List Str) (sp : Sp) : Prop where
  len : ∀ vs H Q E, sp vs H Q E → vs.length = ps.length
  run : ∀ (A : Around) (outer : List Env) (s : Shared) (H : Hp) (args : Args) (us : List Value) (vs : List V) (Q : VK) (E : XK), Room k A → A.guards = some [] → Env0 P w K mg base A outer s H → BindsTo s fd args (ps.zip us) → Vals vs us → sp vs H Q E →
    codeAny (model P w) A (.call (.ref f) args) (CR (L2.CX P w) outer P w H s Q E) s
def spI (K : PySem.W.Frag) (cl : Nat → Value) (C : Cal) (f np : Nat) : Sp := fun xs H Q E => xs.length = np ∧ ∃ m s vs, RVs K m H vs xs ∧ RS K m H s ∧ Post K cl (RV K) E Q m H (C f vs s)
/-- a call by keywords, in this sequence -/
def KwB (fd : FuncData) (ps nms : List Str) (perm : List Nat) : Prop := ∀ (s : Shared) (us zs : List Value), us.length = nms.length → permL us perm = some zs → BindsTo s fd ⟨[], nms.zip us⟩ (ps.zip zs)
/-- an error class by the module's name x: its calls make errors -/
def XcF (P : Program) (w : World) (K : PySem.W.Frag) (mg : Str → Option Value) (base : Heap) (x : Str) (cv : Value) : Prop := ∃ (C D fI : Addr) (fd : FuncData), mg x = some (.ref C) ∧ cv = .ref C ∧ IniC K D C ∧ PySem.W.findIn K (.ref C) "__init__" = some (some (.ref fI)) ∧ PySem.W.typeIn K (.ref fI) = some (.type "function") ∧
  FnOk P w K mg base (L2.CX P w) 1 fI fd ["self", "value"] (spIni K D) ∧ Binds K fd ["self", "value"] []
/-- a class that errors are asked for by the name y -/
structure XiF (K : PySem.W.Frag) (mg : Str → Option Value) (cl : Nat → Value) (y : Str) (l : List Bool) : Prop where
  ex : ∃ (v : V) (cv : Value), (mg y = some cv ∨ (mg y = none ∧ bootBuiltins y = some cv ∧ y ≠ "__name__")) ∧ L2.RelV v cv ∧ (∀ u, L2.RelV v u → u = cv) ∧ ∀ n, PySem.W.kitOne K (cl n) cv = some (inCls l n) ∧ PySem.W.exmOne K (cl n) cv = some (inCls l n)
  all : ∀ n, ∃ C, cl n = .ref C ∧ ExcC K C ∧ PySem.W.findIn K (.ref C) "value" = some none
structure Cok (G : Sg) (N : List Str) (cl : Nat → Value) (C : Cal) (k : Nat) (fnB : Str → Bool) (sc : Scope) (W : WX) (X : Cx) : Prop where
  n : X.N = N
  sc : X.env.scope = sc
  fnB : X.fn = fnB
  calm : X.calm = true
  nd : N.Nodup
  tk : Takes X W
  gd : X.A.guards = some []
  rm : Room k X.A
  fn : ∀ (f : Nat) (x : Str), G.fns[f]? = some x → ∃ (a : Addr) (fd : FuncData) (ps : List Str), X.mg x = some (.ref a) ∧ PySem.W.keepIn X.K (.ref a) = true ∧ Binds X.K fd ps [] ∧ (∀ (vs : List Vl) (s : Sto), vs.length ≠ ps.length → C f vs s = .no) ∧ (∀ (nms : List Str) (perm : List Nat), (x, nms, perm) ∈ G.kws → KwB fd ps nms perm) ∧ FnG X.prog X.w X.K X.mg X.base k a fd ps (spI X.K cl C f ps.length)
  cn : ∀ (x : Str) (d : PyData), (x, d) ∈ G.cns → ∃ u v, X.mg x = some u ∧ L2.RelV v u ∧ ∀ m H, Rep X.K m H d v
  bi : ∀ x ∈ G.bis, X.mg x = none
  gc : ((("gcd" : Str) ∈ G.mth) → X.mg "gcd" = some (.builtin "math.gcd")) ∧ ((("lcm" : Str) ∈ G.mth) → X.mg "lcm" = some (.builtin "math.lcm"))
  k2 : 2 ≤ k
  xc : ∀ (x : Str) (n : Nat), G.exs[n]? = some x → XcF X.prog X.w X.K X.mg X.base x (cl n)
  xi : ∀ (y : Str) (l : List Bool), (y, l) ∈ G.isx → XiF X.K X.mg cl y l

abbrev noW : WX := fun _ _ _ _ => False
theorem noW_takes (X : Cx) : Takes X noW := fun u s' x => by
  obtain ⟨_, _, _, _, _, _, _, _, _, _, _, _, _, _, _, _, w⟩ := x
  exact w.elim
section
variable {G : Sg} {N : List Str} {cl : Nat → Value} {C : Cal} {k : Nat} {fnB : Str → Bool} {sc : Scope} {W : WX} {X : Cx}
theorem Cok.blk (c : Cok G N cl C k fnB sc W X) (s : Shared) (H : Hp) (scope : Scope) (Ca : Addr) (cls : List (Str × Addr)) (fp : List Addr) :
    Cok G N cl C k (blkF scope) (relS scope sc) noW (X.blk s H scope (compEnvC scope cls Ca X.env) fp) where
  n := c.n
  sc := by rw [← c.sc]; rfl
  fnB := rfl
  calm := c.calm
  nd := c.nd
  tk := noW_takes _
  gd := c.gd
  rm := c.rm
  fn := c.fn
  cn := c.cn
  bi := c.bi
  gc := c.gc
  k2 := c.k2
  xc := c.xc
  xi := c.xi
theorem PE.weak {e : Expr} {t t' : TE} (h : PE X e t) (w : ∀ σ H Q, t' σ H Q → t σ H Q) : PE X e t' := ⟨fun pins s σ H Q I q => h.run pins s σ H Q I (w _ _ _ q)⟩
theorem PT.weak {e : Expr} {t t' : TT} (h : PT X e t) (w : ∀ σ H Q, t' σ H Q → t σ H Q) : PT X e t' := ⟨fun pins s σ H Q I q => h.run pins s σ H Q I (w _ _ _ q)⟩
theorem PW.weak {e : Expr} {t t' : TT} (h : PW X e t) (w : ∀ σ H Q, t' σ H Q → t σ H Q) : PW X e t' := ⟨fun wh pins s σ H Q I q => h.run wh pins s σ H Q I (w _ _ _ q)⟩
theorem PA.weak {e : List Expr} {t t' : TA} (h : PA X e t) (w : ∀ σ H Q, t' σ H Q → t σ H Q) : PA X e t' := ⟨fun pos pins s σ H Q I q => h.run pos pins s σ H Q I (w _ _ _ q)⟩
theorem PI.weak {tg e : Expr} {t t' : TI} (h : PI X tg e t) (w : ∀ σ H Q, t' σ H Q → t σ H Q) : PI X tg e t' := ⟨fun pins s σ H Q I q => h.run pins s σ H Q I (w _ _ _ q)⟩
theorem PO.weak {e : Option Expr} {t t' : TO} (h : PO X e t) (w : ∀ σ H Q, t' σ H Q → t σ H Q) : PO X e t' := ⟨fun pins s σ H Q I q => h.run pins s σ H Q I (w _ _ _ q)⟩
theorem PTs.weak {e : List Expr} {t t' : TT} (h : PTs X e t) (w : ∀ σ H Q, t' σ H Q → t σ H Q) : PTs X e t' := ⟨fun pins s σ H Q I q => h.run pins s σ H Q I (w _ _ _ q)⟩
end

/-! ### readings by runs -/
def At (K : PySem.W.Frag) (σ : L2.St) (H : Hp) (P : Mu → Sl → Sto → Prop) : Prop := ∃ m e s, RE K m H e σ ∧ RS K m H s ∧ P m e s
abbrev REq {α : Type} : Mu → Hp → α → α → Prop := fun _ _ a b => a = b
def evT (C : Cal) (c : IE) (e : Sl) (s : Sto) : Rs Bool := (ev C c e s).bind fun v s => ofO (isTrue? v) s
section
variable (K : PySem.W.Frag) (cl : Nat → Value) (C : Cal) (W : WX)
def tE (ie : IE) : TE := fun σ H Q => At K σ H fun m e s => Post K cl (RV K) (WE W σ) Q m H (ev C ie e s)
def tT (ie : IE) : TT := fun σ H Q => At K σ H fun m e s => Post K cl REq (WE W σ) Q m H (evT C ie e s)
def tA (ie : IE) : TA := fun σ H Q => At K σ H fun m e s => Post K cl (RVs K) (WE W σ) Q m H (evs C ie e s)
def tO (ie : IE) : TO := fun σ H Q => At K σ H fun m e s => Post K cl REq (WE W σ) Q m H (evo C ie e s)
def tC (ie : IE) : TT := fun σ H Q => At K σ H fun m e s => Post K cl REq (WE W σ) Q m H (tst C ie e s)
end
section
variable {K : PySem.W.Frag} {cl : Nat → Value} {C : Cal} {W : WX} {m : Mu} {H : Hp} {e : Sl} {σ : L2.St} {s : Sto} {α β : Type} {R' : Mu → Hp → α → β → Prop} {Q : β → Hp → Prop}
theorem post_k {γ δ : Type} {R : Mu → Hp → γ → δ → Prop} {E : XK} {f : γ → Sto → Rs α} {r : Rs γ} {T : δ → Hp → Prop} (h : Post K cl R' E Q m H (r.bind f))
    (k : ∀ x H1 m1 v s1, Ext m H m1 H1 → RS K m1 H1 s1 → R m1 H1 v x → Post K cl R' E Q m1 H1 (f v s1) → T x H1) : Post K cl R E T m H r :=
  h.bind.mono fun m' H' b _ ⟨m1, a, s1, x, rs, rv, p⟩ => k b H' m1 a s1 x rs rv p
theorem tE_k {ie : IE} {f : Vl → Sto → Rs α} {T : VK} (re : RE K m H e σ) (rs : RS K m H s) (h : Post K cl R' (WE W σ) Q m H ((ev C ie e s).bind f))
    (k : ∀ x H1 m1 v s1, RE K m1 H1 e σ → Ext m H m1 H1 → RS K m1 H1 s1 → RV K m1 H1 v x → Post K cl R' (WE W σ) Q m1 H1 (f v s1) → T x H1) : tE K cl C W ie σ H T :=
  ⟨m, e, s, re, rs, post_k h fun x H1 m1 v s1 x1 r1 rv p => k x H1 m1 v s1 (re.ext x1) x1 r1 rv p⟩
theorem tA_k {ie : IE} {f : List Vl → Sto → Rs α} {T : List V → Hp → Prop} (re : RE K m H e σ) (rs : RS K m H s) (h : Post K cl R' (WE W σ) Q m H ((evs C ie e s).bind f))
    (k : ∀ x H1 m1 v s1, RE K m1 H1 e σ → Ext m H m1 H1 → RS K m1 H1 s1 → RVs K m1 H1 v x → Post K cl R' (WE W σ) Q m1 H1 (f v s1) → T x H1) : tA K cl C W ie σ H T :=
  ⟨m, e, s, re, rs, post_k h fun x H1 m1 v s1 x1 r1 rv p => k x H1 m1 v s1 (re.ext x1) x1 r1 rv p⟩
theorem tO_k {ie : IE} {f : Option Int → Sto → Rs α} {T : Option Int → Hp → Prop} (re : RE K m H e σ) (rs : RS K m H s) (h : Post K cl R' (WE W σ) Q m H ((evo C ie e s).bind f))
    (k : ∀ x H1 m1 s1, RE K m1 H1 e σ → Ext m H m1 H1 → RS K m1 H1 s1 → Post K cl R' (WE W σ) Q m1 H1 (f x s1) → T x H1) : tO K cl C W ie σ H T :=
  ⟨m, e, s, re, rs, post_k h fun x H1 m1 v s1 x1 r1 rv p => by cases rv; exact k _ H1 m1 s1 (re.ext x1) x1 r1 p⟩
theorem tT_k {ie : IE} {f : Bool → Sto → Rs α} {T : Bool → Hp → Prop} (re : RE K m H e σ) (rs : RS K m H s) (h : Post K cl R' (WE W σ) Q m H ((evT C ie e s).bind f))
    (k : ∀ x H1 m1 s1, RE K m1 H1 e σ → Ext m H m1 H1 → RS K m1 H1 s1 → Post K cl R' (WE W σ) Q m1 H1 (f x s1) → T x H1) : tT K cl C W ie σ H T :=
  ⟨m, e, s, re, rs, post_k h fun x H1 m1 v s1 x1 r1 rv p => by cases rv; exact k _ H1 m1 s1 (re.ext x1) x1 r1 p⟩
theorem Post.no {R : Mu → Hp → α → β → Prop} {E : XK} (h : Post K cl R E Q m H .no) {P : Prop} : P := h.elim
theorem Post.ofO {R : Mu → Hp → α → β → Prop} {E : XK} {o : Option α} (h : Post K cl R E Q m H (ofO o s)) : ∃ a, o = some a ∧ Post K cl R E Q m H (.ok a s) := by
  cases o with
  | none => exact h.elim
  | some a => exact ⟨a, rfl, h⟩
/-- a value as it stands -/
theorem Post.here {R : Mu → Hp → α → β → Prop} {E : XK} {a : α} {b : β} (rs : RS K m H s) (r : R m H a b) (h : Post K cl R E Q m H (.ok a s)) : Q b H := h m H b Ext.refl rs r
theorem Rs.bind_assoc {γ : Type} {δ : Type} (r : Rs γ) (f : γ → Sto → Rs δ) (g : δ → Sto → Rs α) : (r.bind f).bind g = r.bind fun a s => (f a s).bind g := by
  cases r <;> rfl
theorem tT_e {ie : IE} {σ : L2.St} {H : Hp} {T : Bool → Hp → Prop} (h : tT K cl C W ie σ H T) : tE K cl C W ie σ H fun x H1 => ∃ c, x = .bl c ∧ T c H1 := by
  obtain ⟨m, e, s, re, rs, h⟩ := h
  refine tE_k re rs h fun x H1 m1 v s1 _ _ r1 rv p => ?_
  obtain ⟨b, q, p⟩ := p.ofO
  unfold isTrue? at q
  split at q
  · cases q
    exact ⟨_, rv, Post.here r1 rfl p⟩
  · cases q
end
section
variable {G : Sg} {N : List Str} {sc : Scope}
theorem chk_star {v : Expr} {p : Pos} : ∀ ie, chk G N sc ie (.Starred v p) = false := by
  intro ie
  induction ie with
  | frz a ih => exact ih
  | lit d => cases d <;> rfl
  | _ => rfl
theorem chk_set {a b p} : ∀ ie, chk G N sc ie (.Set a b p) = false := by
  intro ie
  induction ie with
  | frz a ih => exact ih
  | lit d => cases d <;> rfl
  | _ => rfl
theorem star_ok {ie : IE} {e : Expr} (h : chk G N sc ie e = true) (es : List Expr) (env : Env) : starEach (e :: es) env = (false, eval e env) :: starEach es env := by
  cases e <;> first | rfl | (rw [chk_star] at h; cases h)
theorem fold_ok {ie : IE} {e : Expr} (h : chk G N sc ie e = true) (env : Env) (x : Value) : foldedSetIterable e env x = pure x := by
  cases e <;> first | rfl | (rw [chk_set] at h; cases h)
theorem stars_ok {env : Env} : ∀ {ie : IE} {es : List Expr}, chks G N sc ie es = true → starEach es env = es.map fun e => (false, eval e env) := by
  intro ie
  induction ie with
  | cons a r _ ih =>
    intro es h
    cases es with
    | nil => rfl
    | cons e es =>
      simp only [chks, Bool.and_eq_true] at h
      rw [star_ok h.1, ih h.2]; rfl
  | nil =>
    intro es h
    cases es with
    | nil => rfl
    | cons e es => cases h
  | _ => intro es h; cases h
theorem noStars_map {env : Env} {pos : Pos} : ∀ es : List Expr, (backTo pos (es.map fun e => (false, eval e env))).any (·.1) = false
  | [] => rfl
  | a :: r => by
    have ih := noStars_map (env := env) (pos := pos) r
    unfold backTo at ih ⊢
    simp only [List.map_cons, List.any_cons, ih]
    rfl
theorem noStars {env : Env} {ie : IE} {es : List Expr} {pos : Pos} (h : chks G N sc ie es = true) : (backTo pos (starEach es env)).any (·.1) = false := by
  rw [stars_ok h]
  exact noStars_map es
end
end SM

set_option maxHeartbeats 1000000
/-! SM: expressions. -/
namespace SM
open PySem L2 PySem.Spec PyProof.Rows
section
variable {G : Sg} {N : List Str} {cl : Nat → Value} {C : Cal} {k : Nat}
/-- an expression's run is the model's -/
def OkE (G : Sg) (N : List Str) (cl : Nat → Value) (C : Cal) (k : Nat) (ie : IE) : Prop := ∀ {sc : Scope} {fnB : Str → Bool} {W : WX} {X : Cx}, Cok G N cl C k fnB sc W X → ∀ {x : Expr}, chk G N sc ie x = true → PE X x (tE X.K cl C W ie)
def OkT (G : Sg) (N : List Str) (cl : Nat → Value) (C : Cal) (k : Nat) (ie : IE) : Prop := ∀ {sc : Scope} {fnB : Str → Bool} {W : WX} {X : Cx}, Cok G N cl C k fnB sc W X → ∀ {x : Expr}, chk G N sc ie x = true → tstF x = true → PT X x (tT X.K cl C W ie)
def OkA (G : Sg) (N : List Str) (cl : Nat → Value) (C : Cal) (k : Nat) (ie : IE) : Prop := ∀ {sc : Scope} {fnB : Str → Bool} {W : WX} {X : Cx}, Cok G N cl C k fnB sc W X → ∀ {x : List Expr}, chks G N sc ie x = true → PA X x (tA X.K cl C W ie)
def OkK (G : Sg) (N : List Str) (cl : Nat → Value) (C : Cal) (k : Nat) (ie : IE) : Prop := ∀ {sc : Scope} {fnB : Str → Bool} {W : WX} {X : Cx}, Cok G N cl C k fnB sc W X → ∀ {x : List Keyword}, chkk G N sc ie x = true → PK X x (tA X.K cl C W ie)
def OkO (G : Sg) (N : List Str) (cl : Nat → Value) (C : Cal) (k : Nat) (ie : IE) : Prop := ∀ {sc : Scope} {fnB : Str → Bool} {W : WX} {X : Cx}, Cok G N cl C k fnB sc W X → ∀ {x : Option Expr}, chko G N sc ie x = true → PO X x (tO X.K cl C W ie)
def OkC (G : Sg) (N : List Str) (cl : Nat → Value) (C : Cal) (k : Nat) (ie : IE) : Prop := ∀ {sc : Scope} {fnB : Str → Bool} {W : WX} {X : Cx}, Cok G N cl C k fnB sc W X → ∀ {x : List Expr}, chkc G N sc ie x = true → PTs X x (SM.tC X.K cl C W ie)
def OkAnd (G : Sg) (N : List Str) (cl : Nat → Value) (C : Cal) (k : Nat) (ie : IE) : Prop := ∀ {sc : Scope} {fnB : Str → Bool} {W : WX} {X : Cx}, Cok G N cl C k fnB sc W X → ∀ {x : List Expr} {pos : Pos}, chks G N sc ie x = true → x.all tstF = true → x ≠ [] →
  PE X (.BoolOp .And x pos) (tE X.K cl C W (.and ie)) ∧ PW X (.BoolOp .And x pos) (tT X.K cl C W (.and ie))
def OkOr (G : Sg) (N : List Str) (cl : Nat → Value) (C : Cal) (k : Nat) (ie : IE) : Prop := ∀ {sc : Scope} {fnB : Str → Bool} {W : WX} {X : Cx}, Cok G N cl C k fnB sc W X → ∀ {x : List Expr} {pos : Pos}, chks G N sc ie x = true → x.all tstF = true → x ≠ [] →
  PE X (.BoolOp .Or x pos) (tE X.K cl C W (.or ie)) ∧ PW X (.BoolOp .Or x pos) (tT X.K cl C W (.or ie))

theorem visB_ok {sc : Scope} {x : Str} (h : visB sc x = true) : Vis sc x := by
  unfold visB at h
  split at h <;> first | (cases h; done) | skip
  · exact .inl (by assumption)
  · exact .inr (.inl (by assumption))
  · exact .inr (.inr (by assumption))
theorem gloB_ok {sc : Scope} {x : Str} (h : gloB sc x = true) : sc.names.lookup x = some .globalImplicit ∧ (x == ("__debug__" : Str)) = false := by
  unfold gloB at h
  split at h
  · refine ⟨by assumption, ?_⟩
    simpa using h
  · cases h
theorem Cok.gl {sc : Scope} {fnB : Str → Bool} {W : WX} {X : Cx} (c : Cok G N cl C k fnB sc W X) {x : Str} (h : gloB sc x = true) : Gl X x := by
  show X.env.scope.names.lookup x = _
  rw [c.sc]; exact (gloB_ok h).1
/-- a value that tests: it is no and, or, not, comparison -/
def plainT : Expr → Bool
  | .UnaryOp .Not _ _ => false
  | .BoolOp .. => false
  | .IfExp .. => false
  | .Compare .. => false
  | _ => true
theorem pt_plain {W : WX} {X : Cx} {x : Expr} {ie : IE} (h : PE X x (tE X.K cl C W ie)) (p : plainT x = true) : PT X x (tT X.K cl C W ie) := by
  refine PT.weak (pt_val h fun whole => ?_) fun σ H Q q => tT_e q
  cases x <;> first | rfl | (cases p; done) | skip
  rename_i op _ _
  cases op <;> first | rfl | (cases p; done)

theorem snd_var {i : Nat} : OkE G N cl C k (.var i) := by
  intro sc fnB W X c x h
  cases x <;> first | (cases h; done) | skip
  rename_i y pos
  simp only [chk, Bool.and_eq_true, decide_eq_true_eq, Bool.not_eq_true'] at h
  obtain ⟨⟨⟨h1, h2⟩, h3⟩, h4⟩ := h
  refine PE.weak (pe_var (i := i) (by rw [c.n]; exact h1) (by rw [c.sc]; exact visB_ok h2) h3 h4) fun σ H Q ⟨m, e, s, re, rs, h⟩ => ?_
  simp only [ev] at h
  split at h
  · rename_i v q
    obtain ⟨x, q1, q2⟩ := re.at_ i v q
    exact ⟨x, q1, Post.here rs q2 h⟩
  · exact h.no
theorem snd_lit {d : PyData} : OkE G N cl C k (.lit d) := by
  intro sc fnB W X c x h
  cases x <;> first | (cases d <;> cases h; done) | skip
  rename_i a j pos
  cases d <;> cases a <;> first | (cases h; done) | skip
  · exact PE.weak pe_non fun σ H Q ⟨m, e, s, re, rs, h⟩ => Post.here rs (a := Vl.d .none) rfl h
  · have e := beq_iff_eq.mp h
    subst e
    exact PE.weak pe_bl fun σ H Q ⟨m, e, s, re, rs, h⟩ => Post.here rs (a := Vl.d (.bool _)) rfl h
  · have e := beq_iff_eq.mp h
    subst e
    exact PE.weak pe_int fun σ H Q ⟨m, e, s, re, rs, h⟩ => Post.here rs (a := Vl.d (.int _)) rfl h
  · have e := of_decide_eq_true h
    subst e
    exact PE.weak pe_str fun σ H Q ⟨m, e, s, re, rs, h⟩ => Post.here rs (a := Vl.d (.str _)) rfl h
theorem snd_glob {y : Str} {d : PyData} : OkE G N cl C k (.glob y d) := by
  intro sc fnB W X c x h
  cases x <;> first | (cases h; done) | skip
  rename_i z pos
  simp only [chk, Bool.and_eq_true, decide_eq_true_eq, List.any_eq_true] at h
  obtain ⟨⟨e, h2⟩, p, h3, e1, h4⟩ := h
  subst e
  obtain ⟨p1, p2⟩ := p
  have e1 : p1 = y := e1
  have e2 : p2 = d := eqB_eq h4
  subst e1; subst e2
  obtain ⟨u, v, q1, q2, q3⟩ := c.cn _ _ h3
  exact PE.weak (pe_glob (c.gl h2) q1 q2 (gloB_ok h2).2) fun σ H Q ⟨m, e, s, re, rs, h⟩ => Post.here rs (a := Vl.d p2) (q3 m H) h
theorem snd_bop {mf : Bool} {o : BOp} {a b : IE} (ha : OkE G N cl C k a) (hb : OkE G N cl C k b) : OkE G N cl C k (.bop mf o a b) := by
  intro sc fnB W X c x h
  cases x <;> first | (cases h; done) | skip
  simp only [chk, Bool.and_eq_true, decide_eq_true_eq] at h
  obtain ⟨⟨e, h1⟩, h2⟩ := h
  subst e
  refine PE.weak (pe_op (bin_ok mf o) (ha c h1) (hb c h2)) fun σ H Q ⟨m, e, s, re, rs, h⟩ => ?_
  exact tE_k re rs h fun x H1 m1 v s1 re1 _ rs1 rv1 h1 => tE_k re1 rs1 h1 fun y H2 m2 w s2 _ x2 rs2 rv2 h2 => ⟨m2, s2, v, w, rv1.ext x2, rv2, rs2, h2.pure⟩
theorem snd_neg {a : IE} (ha : OkE G N cl C k a) : OkE G N cl C k (.neg a) := by
  intro sc fnB W X c x h
  cases x <;> first | (cases h; done) | skip
  simp only [chk, Bool.and_eq_true, decide_eq_true_eq] at h
  obtain ⟨e, h1⟩ := h
  subst e
  refine PE.weak (pe_un un_neg (ha c h1)) fun σ H Q ⟨m, e, s, re, rs, h⟩ => ?_
  refine tE_k re rs h fun x H1 m1 v s1 re1 _ rs1 rv1 h1 => ?_
  split at h1
  · exact ⟨_, rv1, Post.here rs1 (a := Vl.d (.int _)) rfl h1⟩
  · exact h1.no
theorem snd_not {a : IE} (ha : OkE G N cl C k a) (ht : OkT G N cl C k a) : OkE G N cl C k (.not a) ∧ OkT G N cl C k (.not a) := by
  refine ⟨fun {sc fnB W X} c {x} h => ?_, fun {sc fnB W X} c {x} h _ => ?_⟩
  · cases x <;> first | (cases h; done) | skip
    simp only [chk, Bool.and_eq_true, decide_eq_true_eq] at h
    obtain ⟨⟨e, ht⟩, h1⟩ := h
    subst e
    refine PE.weak (pe_not (ha c h1)) fun σ H Q ⟨m, e, s, re, rs, h⟩ => ?_
    refine tE_k re rs h fun x H1 m1 v s1 re1 _ rs1 rv1 h1 => ?_
    unfold isTrue? at h1
    split at h1
    · rename_i b q
      split at q
      · cases q
        exact ⟨b, rv1, Post.here rs1 (a := Vl.d (.bool _)) rfl h1⟩
      · cases q
    · exact h1.no
  · cases x <;> first | (cases h; done) | skip
    simp only [chk, Bool.and_eq_true, decide_eq_true_eq] at h
    obtain ⟨⟨e, h0⟩, h1⟩ := h
    subst e
    refine PT.weak (pt_not (ht c h1 h0)) fun σ H Q ⟨m, e, s, re, rs, h⟩ => ?_
    refine tT_k (ie := a) (f := fun b s => .ok (!b) s) re rs ?_ fun x H1 m1 s1 _ _ rs1 p => Post.here rs1 rfl p
    simp only [evT, ev, Rs.bind_assoc] at h ⊢
    refine Eq.mp ?_ h
    congr 1
    congr 1
    funext v s
    unfold isTrue?
    split <;> simp_all [Rs.bind, ofO, isTrue?]
theorem snd_cmp {o : COp} {a b : IE} (ha : OkE G N cl C k a) (hb : OkE G N cl C k b) : OkE G N cl C k (.cmp o a b) ∧ OkT G N cl C k (.cmp o a b) := by
  refine ⟨fun {sc fnB W X} c {x} h => ?_, fun {sc fnB W X} c {x} h h9 => ?_⟩
  · cases x <;> first | (cases h; done) | skip
    rename_i l ops cs pos
    cases ops with
    | nil => cases h
    | cons op ops =>
    cases ops with
    | cons _ _ => cases h
    | nil =>
    cases cs with
    | nil => cases h
    | cons r cs =>
    cases cs with
    | cons _ _ => cases h
    | nil =>
    simp only [chk, Bool.and_eq_true, decide_eq_true_eq, Bool.not_eq_true'] at h
    obtain ⟨⟨⟨e, h0⟩, h1⟩, h2⟩ := h
    subst e
    refine PE.weak (pe_cmpR (cmp_ok (by have := c.rm.un; omega) o) (ha c h1) (hb c h2) h0) fun σ H Q ⟨m, e, s, re, rs, h⟩ => ?_
    refine tE_k re rs h fun x H1 m1 v s1 re1 _ rs1 rv1 h1 => tE_k re1 rs1 h1 fun y H2 m2 w s2 _ x2 rs2 rv2 h2 => ?_
    obtain ⟨a, q, p⟩ := h2.ofO
    obtain ⟨b, q1, rfl⟩ := omap q
    exact ⟨m2, s2, v, w, b, rv1.ext x2, rv2, rs2, q1, Post.here rs2 (a := Vl.d (.bool b)) rfl p⟩
  · clear h9
    cases x <;> first | (cases h; done) | skip
    rename_i l ops cs pos
    cases ops with
    | nil => cases h
    | cons op ops =>
    cases ops with
    | cons _ _ => cases h
    | nil =>
    cases cs with
    | nil => cases h
    | cons r cs =>
    cases cs with
    | cons _ _ => cases h
    | nil =>
    simp only [chk, Bool.and_eq_true, decide_eq_true_eq, Bool.not_eq_true'] at h
    obtain ⟨⟨⟨e, h0⟩, h1⟩, h2⟩ := h
    subst e
    refine PT.weak (pt_cmpR (cmp_ok (by have := c.rm.un; omega) o) (ha c h1) (hb c h2) h0) fun σ H Q ⟨m, e, s, re, rs, h⟩ => ?_
    simp only [evT, ev, Rs.bind_assoc] at h
    refine tE_k re rs h fun x H1 m1 v s1 re1 _ rs1 rv1 h1 => tE_k re1 rs1 h1 fun y H2 m2 w s2 _ x2 rs2 rv2 h2 => ?_
    cases q1 : cmpV o v w s2 with
    | none => rw [q1] at h2; exact h2.elim
    | some b =>
      rw [q1] at h2
      exact ⟨m2, s2, v, w, b, rv1.ext x2, rv2, rs2, q1, b, rfl, Post.here rs2 rfl h2⟩
theorem snd_chain {o p : COp} {a b c' : IE} (ha : OkE G N cl C k a) (hb : OkE G N cl C k b) (hc : OkE G N cl C k c') : OkE G N cl C k (.chain o p a b c') ∧ OkT G N cl C k (.chain o p a b c') := by
  have main : ∀ {sc : Scope} {fnB : Str → Bool} {W : WX} {X : Cx}, Cok G N cl C k fnB sc W X → ∀ {x : Expr}, chk G N sc (.chain o p a b c') x = true → PE X x (tE X.K cl C W (.chain o p a b c')) ∧ PT X x (tTest (tE X.K cl C W (.chain o p a b c'))) := by
    intro sc fnB W X c x h
    cases x <;> first | (cases h; done) | skip
    rename_i l ops cs pos
    cases ops with
    | nil => cases h
    | cons op ops =>
    cases ops with
    | nil => cases h
    | cons op' ops =>
    cases ops with
    | cons _ _ => cases h
    | nil =>
    cases cs with
    | nil => cases h
    | cons r cs =>
    cases cs with
    | nil => cases h
    | cons r' cs =>
    cases cs with
    | cons _ _ => cases h
    | nil =>
    simp only [chk, Bool.and_eq_true, decide_eq_true_eq, Bool.not_eq_true'] at h
    obtain ⟨⟨⟨⟨⟨e, e'⟩, h0⟩, h1⟩, h2⟩, h3⟩ := h
    subst e
    subst e'
    have hu : X.A.units + 65 < cLine := by have := c.rm.un; omega
    have w : ∀ σ H Q, tE X.K cl C W (.chain o p a b c') σ H Q → tChain (rCmp X.K o) (rCmp X.K p) (tE X.K cl C W a) (tE X.K cl C W b) (tE X.K cl C W c') σ H Q := fun σ H Q ⟨m, e, s, re, rs, h⟩ => by
      refine tE_k re rs h fun x H1 m1 v s1 re1 _ rs1 rv1 h1 => tE_k re1 rs1 h1 fun y H2 m2 w s2 re2 x2 rs2 rv2 h2 => ?_
      cases q1 : cmpV o v w s2 with
      | none => rw [q1] at h2; exact h2.elim
      | some b1 =>
        rw [q1] at h2
        refine ⟨m2, s2, v, w, b1, rv1.ext x2, rv2, rs2, q1, b1, rfl, ?_⟩
        cases b1 with
        | false =>
          rw [if_neg Bool.false_ne_true]
          exact Post.here rs2 (a := Vl.d (.bool false)) rfl h2
        | true =>
          rw [if_pos rfl]
          refine tE_k re2 rs2 h2 fun z H3 m3 u s3 re3 x3 rs3 rv3 h3 => ?_
          obtain ⟨a, q, p⟩ := h3.ofO
          obtain ⟨b, q1, rfl⟩ := omap q
          exact ⟨m3, s3, w, u, b, rv2.ext x3, rv3, rs3, q1, Post.here rs3 (a := Vl.d (.bool b)) rfl p⟩
    exact ⟨PE.weak (pe_chain (cmp_ok hu o) (cmp_ok hu p) (ha c h1) (hb c h2) (hc c h3) h0) w, PT.weak (pt_chain (cmp_ok hu o) (cmp_ok hu p) (ha c h1) (hb c h2) (hc c h3) h0) fun σ H Q h => w σ H _ h⟩
  exact ⟨fun {sc fnB W X} c {x} h => (main c h).1, fun {sc fnB W X} c {x} h _ => PT.weak (main c h).2 fun σ H Q h => tT_e h⟩
theorem snd_ite {c' a b : IE} (ht : OkT G N cl C k c') (ha : OkE G N cl C k a) (hb : OkE G N cl C k b) : OkE G N cl C k (.ite c' a b) := by
  intro sc fnB W X c x h
  cases x <;> first | (cases h; done) | skip
  simp only [chk, Bool.and_eq_true] at h
  obtain ⟨⟨⟨h0, h1⟩, h2⟩, h3⟩ := h
  refine PE.weak (pe_ifExp (ht c h1 h0) (ha c h2) (hb c h3)) fun σ H Q ⟨m, e, s, re, rs, h⟩ => ?_
  refine tT_k (R' := RV X.K) (Q := Q) (ie := c') (f := fun b' s => if b' = true then ev C a e s else ev C b e s) re rs ?_ fun x H1 m1 s1 re1 _ rs1 p => ?_
  · simp only [evT, ev, Rs.bind_assoc] at h ⊢
    refine Eq.mp ?_ h
    congr 1
    congr 1
    funext v s
    unfold isTrue?
    split <;> simp_all [Rs.bind, ofO, isTrue?]
  · cases x with
    | true => simp only [if_true] at p ⊢; exact ⟨m1, e, s1, re1, rs1, p⟩
    | false => simp only [Bool.false_eq_true, if_false] at p ⊢; exact ⟨m1, e, s1, re1, rs1, p⟩
theorem snd_nil : OkA G N cl C k .nil := by
  intro sc fnB W X c x h
  cases x <;> first | (cases h; done) | skip
  exact PA.weak pa_nil fun σ H Q ⟨m, e, s, re, rs, h⟩ => Post.here rs (a := ([] : List Vl)) rfl h
theorem snd_cons {a r : IE} (ha : OkE G N cl C k a) (hr : OkA G N cl C k r) : OkA G N cl C k (.cons a r) := by
  intro sc fnB W X c x h
  cases x <;> first | (cases h; done) | skip
  simp only [chks, Bool.and_eq_true] at h
  refine PA.weak (pa_cons (ha c h.1) (hr c h.2) (star_ok h.1 _ _)) fun σ H Q ⟨m, e, s, re, rs, h⟩ => ?_
  refine tE_k re rs h fun x H1 m1 v s1 re1 _ rs1 rv1 h1 => tA_k re1 rs1 h1 fun y H2 m2 w s2 _ x2 rs2 rv2 h2 => ?_
  exact Post.here rs2 ⟨x, y, rfl, rv1.ext x2, rv2⟩ h2
theorem snd_tup {es : IE} (hs : OkA G N cl C k es) : OkE G N cl C k (.tup es) := by
  intro sc fnB W X c x h
  cases x <;> first | (cases h; done) | skip
  simp only [chk] at h
  refine PE.weak (pe_tup (hs c h)) fun σ H Q ⟨m, e, s, re, rs, h⟩ => ?_
  refine tA_k re rs h fun x H1 m1 v s1 re1 _ rs1 rv1 h1 => ?_
  split at h1
  · rename_i hz
    obtain ⟨a, q, p⟩ := h1.ofO
    obtain ⟨ds, q1, rfl⟩ := omap q
    exact ⟨by rw [← rv1.length, sizeLine_eq]; exact hz, fun p' hp => tup_new rs1 (rv1.reps q1) hp p⟩
  · exact h1.no
theorem snd_lst {mf : Bool} {es : IE} (hs : OkA G N cl C k es) : OkE G N cl C k (.lst mf es) := by
  intro sc fnB W X c x h
  cases x <;> first | (cases h; done) | skip
  simp only [chk] at h
  refine PE.weak (pe_lst (hs c h)) fun σ H Q ⟨m, e, s, re, rs, h⟩ => ?_
  refine tA_k re rs h fun x H1 m1 v s1 re1 _ rs1 rv1 h1 => ?_
  have p := h1.pure
  exact ⟨by rw [← rv1.length]; exact mkL_len p, fun p' hp => mkL_new rs1 rv1 hp p⟩
theorem snd_rep {mf : Bool} {es k' : IE} (hs : OkA G N cl C k es) (hk : OkE G N cl C k k') : OkE G N cl C k (.rep mf es k') := by
  intro sc fnB W X c x h
  cases x <;> first | (cases h; done) | skip
  rename_i l op r pos
  cases l <;> first | (cases h; done) | skip
  simp only [chk, Bool.and_eq_true, decide_eq_true_eq] at h
  obtain ⟨⟨e, h1⟩, h2⟩ := h
  subst e
  refine PE.weak (pe_op op_rep (pe_lst (hs c h1)) (hk c h2)) fun σ H Q ⟨m, e, s, re, rs, h⟩ => ?_
  refine tA_k re rs h fun x H1 m1 v s1 re1 _ rs1 rv1 h1 => ?_
  split at h1
  · rename_i hz
    refine ⟨by rw [← rv1.length, sizeLine_eq]; omega, fun p' hp => ?_⟩
    have x1 : Ext m1 H1 m1 (upd H1 p' (.lst x)) := Ext.new hp
    refine tE_k (re1.ext x1) (rs1.new hp) (h1.ext x1) fun y H2 m2 w s2 _ x2 rs2 rv2 h2 => ?_
    split at h2
    · rename_i j
      split at h2
      · rename_i hj
        obtain ⟨g1, g2⟩ := x2.keep p' _ upd_same (rs1.fresh hp)
        refine ⟨p', j, x, rfl, rv2, g1, by omega, by omega, ?_, fun q hq => mkL_new rs2 (RVs.rep j.toNat ((rv1.ext x1).ext x2)) hq h2.pure⟩
        rw [← rv1.length, sizeLine_eq]
        have : v.length * j.toNat ≤ 1000 * 1000 := Nat.mul_le_mul hz (by omega)
        omega
      · exact h2.no
    · exact h2.no
  · exact h1.no
theorem plainIx_ok {b : Expr} (h : plainIx b = true) : PlainIx b := by
  intro o i
  cases b <;> first | rfl | (cases h; done)
theorem snd_idx {a i : IE} (ha : OkE G N cl C k a) (hi : OkE G N cl C k i) : OkE G N cl C k (.idx a i) := by
  intro sc fnB W X c x h
  cases x <;> first | (cases h; done) | skip
  simp only [chk, Bool.and_eq_true] at h
  obtain ⟨⟨h0, h1⟩, h2⟩ := h
  refine PE.weak (pe_ix (ix_ok (by have := c.rm.un; omega)) (ha c h1) (hi c h2) (plainIx_ok h0)) fun σ H Q ⟨m, e, s, re, rs, h⟩ => ?_
  exact tE_k re rs h fun x H1 m1 v s1 re1 _ rs1 rv1 h1 => tE_k re1 rs1 h1 fun y H2 m2 w s2 _ x2 rs2 rv2 h2 => ⟨m2, s2, v, w, rv1.ext x2, rv2, rs2, h2.pure⟩
theorem snd_o {a r : IE} (ha : OkE G N cl C k a) : OkO G N cl C k (.cons a r) := by
  intro sc fnB W X c x h
  cases x with
  | none => cases h
  | some x =>
  refine PO.weak (po_some (ha c (x := x) h)) fun σ H Q ⟨m, e, s, re, rs, h⟩ => ?_
  refine tE_k re rs h fun x H1 m1 v s1 re1 _ rs1 rv1 h1 => ?_
  obtain ⟨o, q, p⟩ := h1.ofO
  obtain ⟨j, q1, rfl⟩ := omap q
  unfold optI at q1
  split at q1
  · cases q1
    exact ⟨_, rv1, Post.here rs1 rfl p⟩
  · cases q1
theorem snd_onil : OkO G N cl C k .nil := by
  intro sc fnB W X c x h
  cases x with
  | some x => cases h
  | none => exact PO.weak po_none fun σ H Q ⟨m, e, s, re, rs, h⟩ => Post.here rs (a := (none : Option Int)) rfl h
theorem snd_sli {mf : Bool} {a lo hi : IE} (ha : OkE G N cl C k a) (hl : OkO G N cl C k lo) (hh : OkO G N cl C k hi) : OkE G N cl C k (.sli mf a lo hi) := by
  intro sc fnB W X c x h
  cases x <;> first | (cases h; done) | skip
  rename_i b sl pos
  cases sl <;> first | (cases h; done) | skip
  rename_i l u st p2
  cases st <;> first | (cases h; done) | skip
  simp only [chk, Bool.and_eq_true] at h
  obtain ⟨⟨h0, h1⟩, h2⟩ := h
  refine PE.weak (pe_slice (sl_ok mf) (ha c h0) (hl c h1) (hh c h2)) fun σ H Q ⟨m, e, s, re, rs, h⟩ => ?_
  exact tE_k re rs h fun x H1 m1 v s1 re1 _ rs1 rv1 h1 => tO_k re1 rs1 h1 fun l H2 m2 s2 re2 x2 rs2 h2 => tO_k re2 rs2 h2 fun u H3 m3 s3 _ x3 rs3 h3 => ⟨m3, s3, v, (rv1.ext x2).ext x3, rs3, h3.pure⟩
end
end SM

set_option maxHeartbeats 1000000
/-! SM: except suites. -/
namespace SM
open PySem L2 PySem.Spec PyProof.Rows
/-! ### isinstance of an error that has its dict -/
theorem is_caught {X : Cx} {a D d : Addr} {oe : Obj} {pn : List (Addr × Obj)} (C : ExcC X.K D) (hz : Zc (.ref D) (some d) oe) (hf : ∃ vs, oe.data = .fields vs) {v : V} {cv : Value} (hcv : ∀ u, L2.RelV v u → u = cv) {b : Bool} (hk : PySem.W.kitOne X.K (.ref D) cv = some b) :
    CallR (X.suite a ((a, oe) :: pn)) (.builtin "isinstance") (fun xs H Q => xs = [.ref a, v] ∧ (∃ fs, H d = some (.xd fs)) ∧ Q (.bl b) H) := by
  intro pins s σ H xs us Q I r h
  obtain ⟨rfl, ⟨fs, hd⟩, q⟩ := h
  cases r with
  | cons rx rr =>
    cases rr with
    | cons rt rr =>
      cases rr
      cases rx
      rw [hcv _ rt]
      obtain ⟨hget, _⟩ := I.pin (a, oe) (List.mem_append.mpr (.inl List.mem_cons_self))
      obtain ⟨vs, hv⟩ := hf
      have hx : ObjOk X.prog X.w H s.heap d (.xd fs) := I.hok d _ hd
      obtain ⟨mA, hns, hr⟩ := hx
      obtain ⟨od, ho, hl⟩ := lookIn_ns hns
      have J : PySem.W.InstAt s.heap a oe D (some od) := ⟨hget, hz.1, by unfold PySem.W.notCls; rw [hv] <;> rfl, by rw [hz.2]; exact ho⟩
      have hcl : (PySem.W.clsIn X.K D).isSome = true := by
        obtain ⟨cd, hc, _⟩ := PySem.W.any_some C.hd
        rw [hc]; rfl
      exact PySem.W.kia_one (PySem.W.kitx_exc hcl C.hg C.hk C.hs C.ha C.hn C.ht C.hm) I.kIn J hk (fun z => nomatch z) fun tk => ⟨.bl b, H, I.kept (t' := tk) fun _ _ z => z, rfl, q⟩
section
variable {G : Sg} {N : List Str} {cl : Nat → Value} {C : Cal} {k : Nat} {fnB : Str → Bool} {sc : Scope} {W : WX} {X : Cx}
/-- the error that is handled: at a, its dict at d, its value v; the name for it in the slot i -/
structure Hx (K : PySem.W.Frag) (a d : Addr) (i : Nat) (v : Vl) (m : Mu) (H : Hp) (e : Sl) (σ : L2.St) (s : Sto) : Prop where
  re : RE K m H e σ
  rs : RS K m H s
  at_ : σ[i]? = some (some (.ref a))
  vl : ∃ y, RV K m H v y ∧ H d = some (.xd [("value", y)])
  nd : ¬ inL m d
theorem Hx.ext {K : PySem.W.Frag} {a d : Addr} {i : Nat} {v : Vl} {m m' : Mu} {H H' : Hp} {e : Sl} {σ : L2.St} {s s' : Sto} (h : Hx K a d i v m H e σ s) (x : Ext m H m' H') (rs : RS K m' H' s') : Hx K a d i v m' H' e σ s' := by
  obtain ⟨y, h1, h2⟩ := h.vl
  obtain ⟨g1, g2⟩ := x.kl d _ h2 h.nd
  exact ⟨h.re.ext x, rs, h.at_, ⟨y, h1.ext x, g1⟩, g2⟩
abbrev noE : XK := fun _ _ _ => False
def tH (K : PySem.W.Frag) (cl : Nat → Value) (a d : Addr) (i c : Nat) (v : Vl) (he : HE) : TE := fun σ H Q => ∃ m e s, Hx K a d i v m H e σ s ∧ Post K cl (RV K) noE Q m H (evH c v he e s)
def tHs (K : PySem.W.Frag) (cl : Nat → Value) (a d : Addr) (i c : Nat) (v : Vl) (he : HE) : TA := fun σ H Q => ∃ m e s, Hx K a d i v m H e σ s ∧ Post K cl (RVs K) noE Q m H (evHs c v he e s)
section
variable {K : PySem.W.Frag} {a d : Addr} {i cn : Nat} {v : Vl} {m : Mu} {H : Hp} {e : Sl} {σ : L2.St} {s : Sto} {α β : Type} {R' : Mu → Hp → α → β → Prop} {Q : β → Hp → Prop}
theorem tH_k {he : HE} {f : Vl → Sto → Rs α} {T : VK} (hx : Hx K a d i v m H e σ s) (h : Post K cl R' noE Q m H ((evH cn v he e s).bind f))
    (k : ∀ x H1 m1 u s1, Hx K a d i v m1 H1 e σ s1 → Ext m H m1 H1 → RV K m1 H1 u x → Post K cl R' noE Q m1 H1 (f u s1) → T x H1) : tH K cl a d i cn v he σ H T :=
  ⟨m, e, s, hx, post_k h fun x H1 m1 u s1 x1 r1 rv p => k x H1 m1 u s1 (hx.ext x1 r1) x1 rv p⟩
theorem tHs_k {he : HE} {f : List Vl → Sto → Rs α} {T : List V → Hp → Prop} (hx : Hx K a d i v m H e σ s) (h : Post K cl R' noE Q m H ((evHs cn v he e s).bind f))
    (k : ∀ x H1 m1 u s1, Hx K a d i v m1 H1 e σ s1 → Ext m H m1 H1 → RVs K m1 H1 u x → Post K cl R' noE Q m1 H1 (f u s1) → T x H1) : tHs K cl a d i cn v he σ H T :=
  ⟨m, e, s, hx, post_k h fun x H1 m1 u s1 x1 r1 rv p => k x H1 m1 u s1 (hx.ext x1 r1) x1 rv p⟩
end
/-- an error class by its number -/
theorem xi_of {K : PySem.W.Frag} {mg : Str → Option Value} {y : Str} {l : List Bool} (h : XiF K mg cl y l) (n : Nat) : ∃ D, cl n = .ref D ∧ ExcC K D ∧ PySem.W.findIn K (.ref D) "value" = some none := h.all n
theorem chkH_star {n : Str} {v : Expr} {p : Pos} {he : HE} : chkH G N sc n he (.Starred v p) = false := by
  cases he <;> first | rfl | (rename_i d; cases d <;> rfl)
theorem starH {n : Str} {he : HE} {x : Expr} (h : chkH G N sc n he x = true) (es : List Expr) (env : Env) : starEach (x :: es) env = (false, eval x env) :: starEach es env := by
  cases x <;> first | rfl | (rw [chkH_star] at h; cases h)
theorem swapH {n : Str} {he : HE} {x : Expr} (h : chkH G N sc n he x = true) (t : Option Expr) (l : Nat) (env : Env) : swapsWith x t l env = pure false := by
  cases x <;> first | rfl | skip
  all_goals (cases he <;> first | (cases h; done) | skip)
  all_goals (rename_i d; cases d <;> cases h)
/-- the names that a suite reads; the class of the error -/
structure CxH (G : Sg) (N : List Str) (cl : Nat → Value) (C : Cal) (k : Nat) (fnB : Str → Bool) (sc : Scope) (W : WX) (X : Cx) (n : Str) (i cn : Nat) (a d : Addr) (oe : Obj) : Prop where
  c : Cok G N cl C k fnB sc W X
  hz : Zc (cl cn) (some d) oe
  hf : ∃ vs, oe.data = .fields vs
  hi : N[i]? = some n
  hl : isLoc sc n = true
  hd : (n == ("__debug__" : Str)) = false ∧ (n == ("__classdict__" : Str)) = false
  all : ∃ D, cl cn = .ref D ∧ ExcC X.K D ∧ PySem.W.findIn X.K (.ref D) "value" = some none
theorem isLocV {n : Str} (h : isLoc sc n = true) : sc.names.lookup n = some .local := by
  unfold isLoc at h
  split at h
  · assumption
  · cases h
theorem pe_own {n : Str} {i cn : Nat} {a d : Addr} {oe : Obj} {pn : List (Addr × Obj)} (h : CxH G N cl C k fnB sc W X n i cn a d oe) (p : Pos) : PE (X.suite a ((a, oe) :: pn)) (.Name n p) (tVar i) :=
  pe_var (by show X.N[i]? = _; rw [h.c.n]; exact h.hi) (by show Vis X.env.scope n; rw [h.c.sc]; exact .inl (isLocV h.hl)) h.hd.1 h.hd.2
theorem okH {n : Str} {i cn : Nat} {a d : Addr} {oe : Obj} {pn : List (Addr × Obj)} {v : Vl} (z : CxH G N cl C k fnB sc W X n i cn a d oe) : ∀ he : HE,
    (∀ {x : Expr}, chkH G N sc n he x = true → PE (X.suite a ((a, oe) :: pn)) x (tH X.K cl a d i cn v he)) ∧ (∀ {xs : List Expr}, chkHs G N sc n he xs = true → PA (X.suite a ((a, oe) :: pn)) xs (tHs X.K cl a d i cn v he)) := by
  have c := z.c
  intro he
  induction he with
  | nil =>
    refine ⟨fun {x} h => (by cases x <;> cases h), fun {xs} h => ?_⟩
    cases xs <;> first | (cases h; done) | skip
    exact PA.weak pa_nil fun σ H Q ⟨m, e, s, hx, h⟩ => Post.here hx.rs (a := ([] : List Vl)) rfl h
  | cons ha hr iha ihr =>
    refine ⟨fun {x} h => (by cases x <;> cases h), fun {xs} h => ?_⟩
    cases xs <;> first | (cases h; done) | skip
    simp only [chkHs, Bool.and_eq_true] at h
    refine PA.weak (pa_cons (iha.1 h.1) (ihr.2 h.2) (starH h.1 _ _)) fun σ H Q ⟨m, e, s, hx, h⟩ => ?_
    refine tH_k hx h fun x H1 m1 u s1 hx1 _ rv1 h1 => tHs_k hx1 h1 fun y H2 m2 w s2 hx2 x2 rv2 h2 => ?_
    exact Post.here hx2.rs ⟨x, y, rfl, rv1.ext x2, rv2⟩ h2
  | var j =>
    refine ⟨fun {x} h => ?_, fun {xs} h => (by cases xs <;> cases h)⟩
    cases x <;> first | (cases h; done) | skip
    rename_i y pos
    simp only [chkH, Bool.and_eq_true, decide_eq_true_eq, Bool.not_eq_true'] at h
    obtain ⟨⟨⟨h1, h2⟩, h3⟩, h4⟩ := h
    refine PE.weak (pe_var (X := X.suite a ((a, oe) :: pn)) (i := j) (by show X.N[j]? = _; rw [c.n]; exact h1) (by show Vis X.env.scope y; rw [c.sc]; exact visB_ok h2) h3 h4) fun σ H Q ⟨m, e, s, hx, h⟩ => ?_
    simp only [evH] at h
    split at h
    · rename_i u q
      obtain ⟨w, q1, q2⟩ := hx.re.at_ j u q
      exact ⟨w, q1, Post.here hx.rs q2 h⟩
    · exact h.no
  | lit dd =>
    refine ⟨fun {x} h => ?_, fun {xs} h => (by cases xs <;> cases h)⟩
    cases x <;> first | (cases dd <;> cases h; done) | skip
    rename_i q j pos
    cases dd <;> cases q <;> first | (cases h; done) | skip
    · exact PE.weak pe_non fun σ H Q ⟨m, e, s, hx, h⟩ => Post.here hx.rs (a := Vl.d .none) rfl h
    · have e := beq_iff_eq.mp h
      subst e
      exact PE.weak pe_bl fun σ H Q ⟨m, e, s, hx, h⟩ => Post.here hx.rs (a := Vl.d (.bool _)) rfl h
    · have e := beq_iff_eq.mp h
      subst e
      exact PE.weak pe_int fun σ H Q ⟨m, e, s, hx, h⟩ => Post.here hx.rs (a := Vl.d (.int _)) rfl h
    · have e := of_decide_eq_true h
      subst e
      exact PE.weak pe_str fun σ H Q ⟨m, e, s, hx, h⟩ => Post.here hx.rs (a := Vl.d (.str _)) rfl h
  | exv =>
    refine ⟨fun {x} h => ?_, fun {xs} h => (by cases xs <;> cases h)⟩
    cases x <;> first | (cases h; done) | skip
    rename_i o f pos
    cases o <;> first | (cases h; done) | skip
    rename_i y p
    simp only [chkH, Bool.and_eq_true, decide_eq_true_eq] at h
    obtain ⟨rfl, rfl⟩ := h
    obtain ⟨D, hD, hE, hv⟩ := z.all
    refine PE.weak (pe_xf (C := D) (cls := cl cn) (d := some d) ⟨hE.hg, hE.hk, hE.hs, hE.hd⟩ hv z.hz z.hf (pe_own z p)) fun σ H Q ⟨m, e, s, hx, h⟩ => ?_
    obtain ⟨y, r1, r2⟩ := hx.vl
    exact ⟨_, hx.at_, rfl, hD, d, _, y, rfl, r2, rfl, Post.here hx.rs r1 h⟩
  | exi l =>
    refine ⟨fun {x} h => ?_, fun {xs} h => (by cases xs <;> cases h)⟩
    cases x <;> first | (cases h; done) | skip
    rename_i f as ks pos
    cases f <;> first | (cases h; done) | skip
    rename_i y p
    cases as with
    | nil => cases ks <;> cases h
    | cons a1 as =>
    cases as with
    | nil => cases a1 <;> cases ks <;> cases h
    | cons a2 as =>
    cases as with
    | cons _ _ => cases a1 <;> cases a2 <;> cases ks <;> cases h
    | nil =>
    cases a1 <;> first | (cases h; done) | skip
    rename_i z1 p1
    cases a2 <;> first | (cases h; done) | skip
    rename_i z2 p2
    cases ks <;> first | (cases h; done) | skip
    simp only [chkH, Bool.and_eq_true, decide_eq_true_eq] at h
    obtain ⟨⟨⟨⟨⟨e1, h1⟩, h2⟩, e2⟩, h3⟩, h4⟩ := h
    subst e1
    subst e2
    obtain ⟨D, hD, hE, hv⟩ := z.all
    obtain ⟨⟨w, cv, hm, rw1, rw2, hk⟩, _⟩ := c.xi _ _ h4
    have hz := z.hz
    rw [hD] at hz
    have hk1 := (hk cn).1
    rw [hD] at hk1
    have hB : PE (X.suite a ((a, oe) :: pn)) (.Name z2 p2) (L2.tC w) := by
      rcases hm with hm | ⟨hm, hb, hn⟩
      · exact pe_glob (X := X.suite a ((a, oe) :: pn)) (c.gl h3) hm rw1 (gloB_ok h3).2
      · exact pe_bltn (X := X.suite a ((a, oe) :: pn)) (c.gl h3) hm hb rw1 hn (gloB_ok h3).2
    have hA := pa_cons (pe_own (pn := pn) z p1) (pa_cons hB pa_nil)
    refine PE.weak (pe_callB (X := X.suite a ((a, oe) :: pn)) (is_caught hE hz z.hf rw2 hk1) (c.gl h1) (c.bi _ h2) (by decide +kernel) hA (by decide +kernel) (gloB_ok h1).2) fun σ H Q ⟨m, e, s, hx, h⟩ => ?_
    obtain ⟨y, r1, r2⟩ := hx.vl
    exact ⟨_, hx.at_, rfl, ⟨_, r2⟩, Post.here hx.rs (a := Vl.d (.bool _)) rfl h⟩
  | lst mf es ih =>
    refine ⟨fun {x} h => ?_, fun {xs} h => (by cases xs <;> cases h)⟩
    cases x <;> first | (cases h; done) | skip
    simp only [chkH] at h
    refine PE.weak (pe_lst (ih.2 h)) fun σ H Q ⟨m, e, s, hx, h⟩ => ?_
    refine tHs_k hx h fun x H1 m1 u s1 hx1 _ rv1 h1 => ?_
    have p := h1.pure
    exact ⟨by rw [← rv1.length]; exact mkL_len p, fun p' hp => mkL_new hx1.rs rv1 hp p⟩
  | tup es ih =>
    refine ⟨fun {x} h => ?_, fun {xs} h => (by cases xs <;> cases h)⟩
    cases x <;> first | (cases h; done) | skip
    simp only [chkH] at h
    refine PE.weak (pe_tup (ih.2 h)) fun σ H Q ⟨m, e, s, hx, h⟩ => ?_
    refine tHs_k hx h fun x H1 m1 u s1 hx1 _ rv1 h1 => ?_
    split at h1
    · rename_i hz
      obtain ⟨a, q, p⟩ := h1.ofO
      obtain ⟨ds, q1, rfl⟩ := omap q
      exact ⟨by rw [← rv1.length, sizeLine_eq]; exact hz, fun p' hp => tup_new hx1.rs (rv1.reps q1) hp p⟩
    · exact h1.no
  | add mf ha hb iha ihb =>
    refine ⟨fun {x} h => ?_, fun {xs} h => (by cases xs <;> cases h)⟩
    cases x <;> first | (cases h; done) | skip
    simp only [chkH, Bool.and_eq_true, decide_eq_true_eq] at h
    obtain ⟨⟨e, h1⟩, h2⟩ := h
    subst e
    refine PE.weak (pe_op (bin_ok mf .add) (iha.1 h1) (ihb.1 h2)) fun σ H Q ⟨m, e, s, hx, h⟩ => ?_
    exact tH_k hx h fun x H1 m1 u s1 hx1 _ rv1 h1 => tH_k hx1 h1 fun y H2 m2 w s2 hx2 x2 rv2 h2 => ⟨m2, s2, u, w, rv1.ext x2, rv2, hx2.rs, h2.pure⟩
end
end SM

set_option maxHeartbeats 1000000
/-! SM: calls. -/
namespace SM
open PySem L2 PySem.Spec PyProof.Rows
section
variable {G : Sg} {N : List Str} {cl : Nat → Value} {C : Cal} {k : Nat}
theorem snd_rev {mf : Bool} {a : IE} (ha : OkE G N cl C k a) : OkE G N cl C k (.rev mf a) := by
  intro sc fnB W X c x h
  cases x <;> first | (cases h; done) | skip
  rename_i b sl pos
  cases sl <;> first | (cases h; done) | skip
  rename_i l u st p2
  cases l <;> first | (cases h; done) | skip
  cases u <;> first | (cases h; done) | skip
  cases st <;> first | (cases h; done) | skip
  rename_i st
  cases st <;> first | (cases h; done) | skip
  rename_i op w p3
  cases w <;> first | (cases h; done) | skip
  rename_i w j p4
  cases w <;> first | (cases h; done) | skip
  simp only [chk, Bool.and_eq_true, decide_eq_true_eq] at h
  obtain ⟨⟨e1, e2⟩, h0⟩ := h
  subst e1
  subst e2
  refine PE.weak (pe_back (ha c h0)) fun σ H Q ⟨m, e, s, re, rs, h⟩ => ?_
  refine tE_k re rs h fun x H1 m1 v s1 re1 _ rs1 rv1 h1 => ?_
  have p := h1.pure
  unfold revV at p
  split at p
  · rename_i xs
    obtain ⟨a, ws, e, g1, g2⟩ := rv1
    refine ⟨a, ws, e, .inl ⟨g1.sq, fun q hq => mkL_new rs1 ?_ hq p⟩⟩
    have := g2.rvs.rev
    rw [← List.map_reverse] at this
    exact this
  · rename_i xs
    obtain ⟨a, ws, e, g1, g2⟩ := rv1
    refine ⟨a, ws, e, .inr ⟨g1.sq, fun q hq => tup_new rs1 ?_ hq p⟩⟩
    have g3 := g2.rvs.rev
    rw [← List.map_reverse] at g3
    exact g3.reps (allD_map _)
  · rename_i n
    obtain ⟨vs, q, p⟩ := postP_bind p
    obtain ⟨a, ws, e, _, g1, g2⟩ := rs1.get q rv1
    exact ⟨a, ws, e, .inl ⟨SqL.of g1, fun q hq => mkL_new rs1 g2.rev hq p⟩⟩
  · exact p.elim
theorem bi_ok {mf : Bool} {X : Cx} (hc : X.calm = true) (hg : X.A.guards = some []) (hu : X.A.units + 200 < cLine) : (b : Bi) → BiOk X mf b
  | .len => bi_len
  | .abs => bi_abs
  | .int => bi_int
  | .gcd => bi_gcd
  | .lcm => bi_lcm
  | .max => bi_max hc
  | .min => bi_min hc
  | .sum => bi_sum hc
  | .all => bi_all hc
  | .any => bi_any hc
  | .tuple => bi_tuple
  | .list => bi_list
  | .dlist => bi_dlist hc
  | .repr => bi_repr hg hu
  | .str => bi_str
  | .sorted => bi_sorted
def isTyB : Bi → Bool
  | .int => true | .tuple => true | .list => true | .str => true | _ => false
theorem boot_bi (b : Bi) (h1 : b ≠ .gcd) (h2 : b ≠ .lcm) : bootBuiltins (biName b) = some (biVal b) := by
  cases b <;> first | exact absurd rfl h1 | exact absurd rfl h2 | decide +kernel
theorem bi_nn (b : Bi) : biName b ≠ "__name__" := by cases b <;> decide +kernel
theorem Cok.units {fnB : Str → Bool} {sc : Scope} {W : WX} {X : Cx} (c : Cok G N cl C k fnB sc W X) : X.A.units + 200 < cLine := by have := c.rm.un; omega
theorem snd_bi {mf : Bool} {b : Bi} {es : IE} (hs : OkA G N cl C k es) : OkE G N cl C k (.bi mf b es) := by
  intro sc fnB W X c x h
  cases x <;> first | (cases h; done) | skip
  rename_i f as ks pos
  cases f <;> first | (cases h; done) | skip
  rename_i y p
  cases ks <;> first | (cases h; done) | skip
  cases as with
  | nil => simp only [chk, Bool.and_eq_true, List.isEmpty_nil, Bool.not_true] at h; exact absurd h.2 Bool.false_ne_true
  | cons a as =>
  simp only [chk, Bool.and_eq_true, decide_eq_true_eq] at h
  obtain ⟨⟨⟨⟨e, h1⟩, h2⟩, h3⟩, _⟩ := h
  subst e
  have hR := bi_ok (mf := mf) c.calm c.gd c.units b
  cases es <;> first | (simp only [chks] at h3; exact absurd h3 Bool.false_ne_true) | skip
  rename_i ia ir
  have h4 : chk G N sc ia a = true ∧ chks G N sc ir as = true := by simpa only [chks, Bool.and_eq_true] using h3
  have hst := star_ok h4.1 as X.env
  have hpl : (backTo pos (starEach as X.env)).any (·.1) = false := noStars h4.2
  have w : ∀ σ H Q, tE X.K cl C W (.bi mf b (.cons ia ir)) σ H Q → tCB (rFn X.K (biV mf b)) (tA X.K cl C W (.cons ia ir)) σ H Q := fun σ H Q ⟨m, e, s, re, rs, h⟩ =>
    tA_k re rs h fun x H1 m1 v s1 _ _ rs1 rv1 h1 => ⟨m1, s1, v, rv1, rs1, h1.pure⟩
  cases hm : isMth b with
  | true =>
    have hmt : biName b ∈ G.mth := by
      unfold biG at h2
      rw [hm] at h2
      simpa using h2
    cases b <;> first | (cases hm; done) | skip
    · exact PE.weak (pe_callBfun hR (c.gl h1) (c.gc.1 hmt) (hs c h3) (gloB_ok h1).2 hst hpl) w
    · exact PE.weak (pe_callBfun hR (c.gl h1) (c.gc.2 hmt) (hs c h3) (gloB_ok h1).2 hst hpl) w
  | false =>
    have n1 : b ≠ .gcd := fun z => by subst z; cases hm
    have n2 : b ≠ .lcm := fun z => by subst z; cases hm
    have hin : biName b ∈ G.bis := by
      unfold biG at h2
      rw [hm] at h2
      simpa using h2
    have hb := boot_bi b n1 n2
    have hn := bi_nn b
    have hd := (gloB_ok h1).2
    have hg := c.gl h1
    have hmg := c.bi _ hin
    have hA := hs c h3
    cases b <;> first | exact absurd rfl n1 | exact absurd rfl n2 | exact PE.weak (pe_callB hR hg hmg hb hA hn hd hst hpl) w | exact PE.weak (pe_callTy hR hg hmg hb hA hn hd hst hpl) w
theorem boot_ty (t : Ty) : bootBuiltins (tyName t) = some (.type (tyName t)) := by cases t <;> decide +kernel
theorem ty_nn (t : Ty) : (tyName t : Str) ≠ "__name__" := by cases t <;> decide +kernel
theorem snd_isi {a : IE} {t : Ty} (ha : OkE G N cl C k a) : OkE G N cl C k (.isi a t) := by
  intro sc fnB W X c x h
  cases x <;> first | (cases h; done) | skip
  rename_i f as ks pos
  cases f <;> first | (cases h; done) | skip
  rename_i y p
  cases as with
  | nil => cases ks <;> cases h
  | cons a1 as =>
  cases as with
  | nil => cases ks <;> cases h
  | cons a2 as =>
  cases as with
  | cons _ _ => cases a2 <;> cases ks <;> cases h
  | nil =>
  cases a2 <;> first | (cases h; done) | skip
  rename_i z p2
  cases ks <;> first | (cases h; done) | skip
  simp only [chk, Bool.and_eq_true, decide_eq_true_eq] at h
  obtain ⟨⟨⟨⟨⟨⟨e1, h1⟩, h2⟩, e2⟩, h3⟩, h4⟩, h5⟩ := h
  subst e1
  subst e2
  have hA := pa_cons (ha c h5) (pa_cons (pe_bltn (v := .ty (tyName t)) (pos := p2) (c.gl h3) (c.bi _ h4) (boot_ty t) rfl (ty_nn t) (gloB_ok h3).2) pa_nil) (star_ok h5 _ X.env)
  refine PE.weak (pe_callB (is_ok t) (c.gl h1) (c.bi _ h2) (by decide +kernel) hA (by decide +kernel) (gloB_ok h1).2 (star_ok h5 _ X.env) (by rfl)) fun σ H Q ⟨m, e, s, re, rs, h⟩ => ?_
  refine tE_k re rs h fun x H1 m1 v s1 re1 _ rs1 rv1 h1 => ?_
  obtain ⟨a, q, p⟩ := h1.ofO
  obtain ⟨b, q1, rfl⟩ := omap q
  exact ⟨m1, s1, v, x, rfl, rv1, rs1, b, q1, Post.here rs1 (a := Vl.d (.bool b)) rfl p⟩
def meId : Me → String
  | .append => "list.append" | .insert => "list.insert" | .pop => "list.pop" | .count => "list.count" | .index => "" | .clear => "list.clear" | .reverse => ""
theorem me_ok {X : Cx} (f : Me) (h : meId f ≠ "") : MtR X (meId f) (rMe X.K (meV f)) := by
  cases f
  · exact me_append
  · exact me_insert
  · exact me_pop
  · exact absurd rfl h
  · exact me_count
  · exact me_clear
  · exact absurd rfl h
theorem recv_base {o : Expr} (h : recvB o = true) (name : Str) (env : Env) : attributeBase o name env (eval o env) = eval o env := by
  cases o <;> first | rfl | (cases h; done)
theorem few_ok {env : Env} {cpos : Pos} {ie : IE} {es : List Expr} (hc : chks G N sc ie es = true) (hl : es.length < 28) :
    ((backTo cpos (starEach es env)).all (fun x => !x.1) && (backToKw cpos (keywordEach [] env)).all (fun x => x.1.isSome) && decide (es.length + ([] : List Keyword).length + (if ([] : List Keyword).isEmpty then 0 else 1) < 30)) = true := by
  rw [stars_ok hc]
  have h1 : (backTo cpos (es.map fun e => (false, eval e env))).all (fun x => !x.1) = true := by
    unfold backTo
    clear hc hl
    induction es with
    | nil => rfl
    | cons a r ih => simp only [List.map_cons, List.all_cons, ih]; rfl
  rw [h1]
  have h2 : decide (es.length + ([] : List Keyword).length + (if ([] : List Keyword).isEmpty then 0 else 1) < 30) = true := decide_eq_true (by
    show es.length + 0 + (if true = true then 0 else 1) < 30
    rw [if_pos rfl]; omega)
  rw [h2]
  rfl
theorem snd_me {f : Me} {a es : IE} (ha : OkE G N cl C k a) (hs : OkA G N cl C k es) : OkE G N cl C k (.me f a es) := by
  intro sc fnB W X c x h
  cases x <;> first | (cases h; done) | skip
  rename_i fe as ks pos
  cases fe <;> first | (cases h; done) | skip
  rename_i o n apos
  cases ks <;> first | (cases h; done) | skip
  simp only [chk, Bool.and_eq_true, decide_eq_true_eq] at h
  obtain ⟨⟨⟨⟨⟨⟨e1, h0⟩, h1⟩, h2⟩, h3⟩, h4⟩, hmb⟩ := h
  subst e1
  have hid : meId f ≠ "" := by cases f <;> first | (cases hmb; done) | decide
  have hm := me_ok (X := X) f hid
  have w0 : ∀ σ H Q, tE X.K cl C W (.me f a es) σ H Q → tBM X.K "list" (rMe X.K (meV f)) (tE X.K cl C W a) (tA X.K cl C W es) σ H Q := fun σ H Q ⟨m, e, s, re, rs, h⟩ => by
    refine tE_k re rs h fun x H1 m1 v s1 re1 _ rs1 rv1 h1 => ?_
    split at h1
    · exact h1.no
    · rename_i l q
      exact ⟨ty_list rs1 q rv1, tA_k re1 rs1 h1 fun y H2 m2 w s2 _ x2 rs2 rv2 h2 => ⟨m2, s2, v, w, rv1.ext x2, rv2, rs2, h2.pure⟩⟩
  cases as with
  | cons b bs =>
    cases es <;> first | (simp only [chks] at h4; exact absurd h4 Bool.false_ne_true) | skip
    rename_i ia ir
    have h5 : chk G N sc ia b = true ∧ chks G N sc ir bs = true := by simpa only [chks, Bool.and_eq_true] using h4
    have A := hs c h4
    have hst := star_ok h5.1 bs X.env
    have hpl : (backTo pos (starEach bs X.env)).any (·.1) = false := noStars h5.2
    have hf := few_ok (env := X.env) (cpos := pos) h4 h2
    have B := recv_base h0 (meName f) X.env
    cases f <;> first | exact absurd rfl hid | (cases hmb; done) | skip
    · exact PE.weak (pe_bm PySem.F.plainAttrs_list PySem.F.slot_list_append PySem.F.type_list_append hm (ha c h3) A B hf h1 hst hpl) w0
    · exact PE.weak (pe_bm PySem.F.plainAttrs_list PySem.F.slot_list_insert PySem.F.type_list_insert hm (ha c h3) A B hf h1 hst hpl) w0
    · exact PE.weak (pe_bm PySem.F.plainAttrs_list PySem.F.slot_list_pop PySem.F.type_list_pop hm (ha c h3) A B hf h1 hst hpl) w0
    · exact PE.weak (pe_bm PySem.F.plainAttrs_list PySem.F.slot_list_count PySem.F.type_list_count hm (ha c h3) A B hf h1 hst hpl) w0
  | nil =>
    cases es <;> first | (simp only [chks] at h4; exact absurd h4 Bool.false_ne_true) | skip
    have B := recv_base h0 (meName f) X.env
    cases f <;> first | exact absurd rfl hid | (cases hmb; done) | skip
    · refine PE.weak (pe_bm0 PySem.F.plainAttrs_list PySem.F.slot_list_pop PySem.F.type_list_pop hm (ha c h3) B h1) fun σ H Q ⟨m, e, s, re, rs, h⟩ => ?_
      refine tE_k re rs h fun x H1 m1 v s1 re1 _ rs1 rv1 h1 => ?_
      split at h1
      · exact h1.no
      · rename_i l q
        exact ⟨ty_list rs1 q rv1, ⟨m1, s1, v, [], rv1, rfl, rs1, Post.pure (cl := cl) (E := WE W σ) h1⟩⟩
    · refine PE.weak (pe_bm0 PySem.F.plainAttrs_list PySem.F.slot_list_clear PySem.F.type_list_clear hm (ha c h3) B h1) fun σ H Q ⟨m, e, s, re, rs, h⟩ => ?_
      refine tE_k re rs h fun x H1 m1 v s1 re1 _ rs1 rv1 h1 => ?_
      split at h1
      · exact h1.no
      · rename_i l q
        exact ⟨ty_list rs1 q rv1, ⟨m1, s1, v, [], rv1, rfl, rs1, Post.pure (cl := cl) (E := WE W σ) h1⟩⟩
/-- a def of the text -/
theorem snd_call {f : Nat} {es : IE} (hs : OkA G N cl C k es) : OkE G N cl C k (.call f es) := by
  intro sc fnB W X c x h
  cases x <;> first | (cases h; done) | skip
  rename_i fe as ks pos
  cases fe <;> first | (cases h; done) | skip
  rename_i y p
  cases ks <;> first | (cases h; done) | skip
  simp only [chk, Bool.and_eq_true, decide_eq_true_eq] at h
  obtain ⟨⟨⟨e1, h1⟩, h2⟩, h3⟩ := h
  cases as with
  | nil => simp at h3
  | cons b bs =>
  cases es <;> first | (simp only [chks] at h2; exact absurd h2 Bool.false_ne_true) | skip
  rename_i ia ir
  have h5 : chk G N sc ia b = true ∧ chks G N sc ir bs = true := by simpa only [chks, Bool.and_eq_true] using h2
  have hst := star_ok h5.1 bs X.env
  have hpl : (backTo pos (starEach bs X.env)).any (·.1) = false := noStars h5.2
  obtain ⟨a, fd, ps, g1, g2, g3, ar, _, F⟩ := c.fn f y e1
  have ha := hs c h2
  refine ⟨fun pins st σ H Q I ⟨m, e, s, re, rs, h⟩ => ?_⟩
  refine wpAny_Call_Name_kw (ld_glob I (c.gl h1) g1 ?_ (gloB_ok h1).2)
  have hA : tA X.K cl C W (.cons ia ir) σ H (fun xs H1 => ∃ m1 vs s1, RS X.K m1 H1 s1 ∧ RVs X.K m1 H1 vs xs ∧ Post X.K cl (RV X.K) (WE W σ) Q m1 H1 (C f vs s1)) :=
    tA_k re rs h fun x H1 m1 v s1 re1 _ rs1 rv1 h1 => ⟨m1, v, s1, rs1, rv1, h1⟩
  refine PySem.W.callWith_K (h₀ := X.base) I.ok.mod.kin g2 (thn (ha.run pos pins st σ H _ I hA) fun us s1 ⟨vs, H1, I1, r, m1, ws, t1, rs1, rv1, q⟩ => ⟨I1.kIn, ?_⟩) hst hpl
  have hlen : us.length = ps.length → wpAny (model X.prog X.w) X.A (call (.ref a) us) (EP X pins σ Q) X.xe s1 := fun hl => by
    have b := g3 s1 us I1.kIn (by rw [List.append_nil]; exact hl)
    rw [List.append_nil] at b
    have hv : vs.length = ps.length := by rw [← hl]; exact r.length
    refine wpAny_call (codeAny_mono (F.run X.A X.stack s1 H1 ⟨us, []⟩ us vs Q (WE W σ) c.rm c.gd I1.env0 b r ⟨hv, m1, t1, ws, rv1, rs1, q⟩) fun r s' hq => ?_)
    cases r with
    | error e => exact passAt c.tk σ pins H1 s1 e s' I1 hq
    | ok fl =>
      cases fl with
      | ret u => exact I1.after hq
      | next => exact False.elim hq
      | brk => exact False.elim hq
      | cont => exact False.elim hq
  refine hlen ?_
  by_cases hl : ws.length = ps.length
  · rw [← hl, ← r.length, rv1.length]
  · rw [ar ws t1 hl] at q
    exact q.elim
/-! ### and, or, tests -/
/-! ### keywords -/
theorem PK.weak {X : Cx} {e : List Keyword} {t t' : TA} (h : PK X e t) (w : ∀ σ H Q, t' σ H Q → t σ H Q) : PK X e t' := ⟨fun pos pins s σ H Q I q => h.run pos pins s σ H Q I (w _ _ _ q)⟩
theorem snd_knil : OkK G N cl C k .nil := by
  intro sc fnB W X c x h
  cases x with
  | cons _ _ => cases h
  | nil => exact PK.weak pk_nil fun σ H Q ⟨m, e, s, re, rs, h⟩ => Post.here (R := RVs X.K) (a := []) rs rfl h
theorem snd_kcons {a r : IE} (ha : OkE G N cl C k a) (hr : OkK G N cl C k r) : OkK G N cl C k (.cons a r) := by
  intro sc fnB W X c x h
  cases x with
  | nil => cases h
  | cons kw kws =>
    obtain ⟨nm, e, kp⟩ := kw
    have h : (chk G N sc a e && chkk G N sc r kws) = true := h
    simp only [Bool.and_eq_true] at h
    refine PK.weak (pk_cons (ha c h.1) (hr c h.2)) fun σ H Q ⟨m, e, s, re, rs, h⟩ => ?_
    refine tE_k re rs h fun x H1 m1 v s1 re1 _ rs1 rv1 h1 => tA_k re1 rs1 h1 fun y H2 m2 w s2 _ x2 rs2 rv2 h2 => ?_
    exact Post.here (R := RVs X.K) (a := v :: w) rs2 ⟨_, _, rfl, rv1.ext x2, rv2⟩ h2
theorem kw_all {env : Env} {pos : Pos} : ∀ {kws : List Keyword} {nms : List Str}, kws.map (·.arg) = nms.map some → (backToKw pos (keywordEach kws env)).all (·.1.isSome) = true ∧ (backToKw pos (keywordEach kws env)).filterMap (·.1) = nms ∧ (backToKw pos (keywordEach kws env)).any (·.1.isNone) = false
  | [], nms, h => by
    cases nms with
    | nil => exact ⟨rfl, rfl, rfl⟩
    | cons _ _ => cases h
  | ⟨nm, e, kp⟩ :: kws, nms, h => by
    cases nms with
    | nil => cases h
    | cons n nms =>
      simp only [List.map_cons, List.cons.injEq] at h
      obtain ⟨h1, h2⟩ := h
      subst h1
      obtain ⟨q1, q2, q3⟩ := kw_all (env := env) (pos := pos) h2
      refine ⟨?_, ?_, ?_⟩
      · show (true && _) = true
        rw [Bool.true_and]; exact q1
      · show n :: (backToKw pos (keywordEach kws env)).filterMap (·.1) = _
        rw [q2]
      · show (false || _) = false
        rw [Bool.false_or]; exact q3
theorem perm_rel {K : PySem.W.Frag} {m : Mu} {H : Hp} {vs : List Vl} {xs : List V} {us : List Value} (rv : RVs K m H vs xs) (r : Vals xs us) : ∀ (perm : List Nat) {ws : List Vl}, permL vs perm = some ws → ∃ ys zs, permL us perm = some zs ∧ RVs K m H ws ys ∧ Vals ys zs
  | [], ws, h => by cases h; exact ⟨[], [], rfl, rfl, .nil⟩
  | i :: perm, ws, h => by
    obtain ⟨w, h1, h2⟩ := obind h
    obtain ⟨ws', h3, rfl⟩ := omap h2
    obtain ⟨ys, zs, q1, q2, q3⟩ := perm_rel rv r perm h3
    obtain ⟨y, g1, g2⟩ := rv.get h1
    obtain ⟨z, g3, g4⟩ := r.get g1
    refine ⟨y :: ys, z :: zs, ?_, ⟨y, ys, rfl, g2, q2⟩, .cons g4 q3⟩
    show (us[i]?).bind (fun v => (permL us perm).map (v :: ·)) = _
    rw [g3, q1]
    rfl
theorem snd_callk {f : Nat} {es ks : IE} {nms : List Str} {perm : List Nat} (hs : OkK G N cl C k ks) : OkE G N cl C k (.callk f es ks nms perm) := by
  intro sc fnB W X c x h
  cases x <;> first | (cases h; done) | skip
  rename_i fe as kws pos
  cases fe <;> first | (cases h; done) | skip
  rename_i y p
  have h : (isNil es && as.isEmpty && decide (G.fns[f]? = some y) && gloB sc y && chkk G N sc ks kws && decide (kws.map (·.arg) = nms.map some) && decide ((y, nms, perm) ∈ G.kws) && !kws.isEmpty) = true := h
  simp only [Bool.and_eq_true, decide_eq_true_eq] at h
  obtain ⟨⟨⟨⟨⟨⟨⟨h8, h9⟩, e1⟩, h1⟩, h2⟩, h3⟩, h4⟩, _⟩ := h
  cases es <;> first | (cases h8; done) | skip
  cases as with
  | cons _ _ => cases h9
  | nil =>
  obtain ⟨q1, q2, q3⟩ := kw_all (env := X.env) (pos := pos) h3
  obtain ⟨a, fd, ps, g1, g2, g3, ar, kb, F⟩ := c.fn f y e1
  have hk := hs c h2
  refine ⟨fun pins st σ H Q I ⟨m, e, s, re, rs, h⟩ => ?_⟩
  refine wpAny_Call_Name_kw (ld_glob I (c.gl h1) g1 ?_ (gloB_ok h1).2)
  have h : Post X.K cl (RV X.K) (WE W σ) Q m H ((evs C ks e s).bind fun vs s => if vs.length = nms.length then (match permL vs perm with
    | some ws => C f ws s
    | none => .no) else .no) := h
  have hA : tA X.K cl C W ks σ H (fun xs H1 => ∃ m1 vs s1, RS X.K m1 H1 s1 ∧ RVs X.K m1 H1 vs xs ∧ Post X.K cl (RV X.K) (WE W σ) Q m1 H1 (if vs.length = nms.length then (match permL vs perm with
    | some ws => C f ws s1
    | none => .no) else .no)) := tA_k re rs h fun x H1 m1 v s1 re1 _ rs1 rv1 h1 => ⟨m1, v, s1, rs1, rv1, h1⟩
  refine PySem.W.callWith_KW0 (h₀ := X.base) I.ok.mod.kin g2 q1 (thn (hk.run pos pins st σ H _ I hA) fun us s1 ⟨xs, H1, I1, r, m1, vs, t1, rs1, rv1, q⟩ => ⟨I1.kIn, ?_⟩) (by rw [q3]; rfl)
  rw [q2]
  by_cases hn : vs.length = nms.length
  case neg => rw [if_neg hn] at q; exact q.elim
  rw [if_pos hn] at q
  cases hp : permL vs perm with
  | none => rw [hp] at q; exact q.elim
  | some ws =>
  rw [hp] at q
  simp only at q
  obtain ⟨ys, zs, p1, p2, p3⟩ := perm_rel rv1 r perm hp
  by_cases hl : ws.length = ps.length
  · have b : us.length = nms.length → BindsTo s1 fd ⟨[], nms.zip us⟩ (ps.zip zs) := fun hl => kb nms perm h4 s1 us zs hl p1
    have hy : ys.length = ps.length := by rw [← hl, p2.length]
    have run : us.length = nms.length → wpAny (model X.prog X.w) X.A (call (.ref a) [] (nms.zip us)) (EP X pins σ Q) X.xe s1 := fun hn => by
      refine wpAny_call (codeAny_mono (F.run X.A X.stack s1 H1 ⟨[], nms.zip us⟩ zs ys Q (WE W σ) c.rm c.gd I1.env0 (b hn) p3 ⟨hy, m1, t1, ws, p2, rs1, q⟩) fun r s' hq => ?_)
      cases r with
      | error e => exact passAt c.tk σ pins H1 s1 e s' I1 hq
      | ok fl =>
        cases fl with
        | ret u => exact I1.after hq
        | next => exact False.elim hq
        | brk => exact False.elim hq
        | cont => exact False.elim hq
    exact run (by rw [← r.length, ← rv1.length]; exact hn)
  · rw [ar ws t1 hl] at q
    exact q.elim
theorem snd_and1 {a : IE} (ha : OkE G N cl C k a) (ht : OkT G N cl C k a) : OkAnd G N cl C k (.cons a .nil) := by
  intro sc fnB W X c x pos h h0 h9
  clear h9
  cases x <;> first | (cases h; done) | skip
  rename_i b bs
  have h5 : chk G N sc a b = true ∧ chks G N sc .nil bs = true := by simpa only [chks, Bool.and_eq_true] using h
  cases bs with
  | cons _ _ => cases h5.2
  | nil =>
  simp only [List.all_cons, Bool.and_eq_true] at h0
  exact ⟨PE.weak (pe_one (ha c h5.1)) fun σ H Q q => q, PW.weak (pw_and1 (ht c h5.1 h0.1)) fun σ H Q q => q⟩
theorem snd_or1 {a : IE} (ha : OkE G N cl C k a) (ht : OkT G N cl C k a) : OkOr G N cl C k (.cons a .nil) := by
  intro sc fnB W X c x pos h h0 h9
  clear h9
  cases x <;> first | (cases h; done) | skip
  rename_i b bs
  have h5 : chk G N sc a b = true ∧ chks G N sc .nil bs = true := by simpa only [chks, Bool.and_eq_true] using h
  cases bs with
  | cons _ _ => cases h5.2
  | nil =>
  simp only [List.all_cons, Bool.and_eq_true] at h0
  exact ⟨PE.weak (pe_one (ha c h5.1)) fun σ H Q q => q, PW.weak (pw_or1 (ht c h5.1 h0.1)) fun σ H Q q => q⟩
theorem isTrue_rep {K : PySem.W.Frag} {m : Mu} {H : Hp} {v : Vl} {x : V} {b : Bool} (r : RV K m H v x) (h : isTrue? v = some b) : v = .d (.bool b) ∧ x = .bl b := by
  unfold isTrue? at h
  split at h
  · cases h; exact ⟨rfl, r⟩
  · cases h
theorem snd_and {a b r : IE} (ha : OkE G N cl C k a) (ht : OkT G N cl C k a) (hr : OkAnd G N cl C k (.cons b r)) : OkAnd G N cl C k (.cons a (.cons b r)) := by
  intro sc fnB W X c x pos h h0 h9
  clear h9
  cases x <;> first | (cases h; done) | skip
  rename_i y ys
  have h5 : chk G N sc a y = true ∧ chks G N sc (.cons b r) ys = true := by simpa only [chks, Bool.and_eq_true] using h
  cases ys with
  | nil => cases h5.2
  | cons z zs =>
  have h6 : tstF y = true ∧ (z :: zs).all tstF = true := by simpa only [List.all_cons, Bool.and_eq_true] using h0
  obtain ⟨r1, r2⟩ := hr c (pos := pos) h5.2 h6.2 (by simp)
  constructor
  · refine PE.weak (pe_and (ha c h5.1) r1) fun σ H Q ⟨m, e, s, re, rs, h⟩ => ?_
    refine tE_k re rs h fun x H1 m1 v s1 re1 _ rs1 rv1 h1 => ?_
    split at h1
    · rename_i q
      obtain ⟨rfl, rfl⟩ := isTrue_rep rv1 q
      refine ⟨true, rfl, ?_⟩
      rw [if_pos rfl]
      exact ⟨m1, e, s1, re1, rs1, h1⟩
    · rename_i q
      obtain ⟨rfl, rfl⟩ := isTrue_rep rv1 q
      refine ⟨false, rfl, ?_⟩
      rw [if_neg Bool.false_ne_true]
      exact Post.here rs1 (a := Vl.d (.bool false)) rfl h1
    · exact h1.no
  · refine PW.weak (pw_and (ht c h5.1 h6.1) r2) fun σ H Q ⟨m, e, s, re, rs, h⟩ => ?_
    refine tT_k (R' := REq) (Q := Q) (ie := a) (f := fun t s => if t = true then evT C (.and (.cons b r)) e s else .ok false s) re rs ?_ fun x H1 m1 s1 re1 _ rs1 p => ?_
    · simp only [evT, ev, ands, Rs.bind_assoc] at h ⊢
      refine Eq.mp ?_ h
      congr 1
      congr 1
      funext v s
      unfold isTrue?
      split <;> simp_all [Rs.bind, ofO, isTrue?]
    · cases x with
      | true => simp only [if_true] at p ⊢; exact ⟨m1, e, s1, re1, rs1, p⟩
      | false => simp only [Bool.false_eq_true, if_false] at p ⊢; exact Post.here rs1 rfl p
theorem snd_or {a b r : IE} (ha : OkE G N cl C k a) (ht : OkT G N cl C k a) (hr : OkOr G N cl C k (.cons b r)) : OkOr G N cl C k (.cons a (.cons b r)) := by
  intro sc fnB W X c x pos h h0 h9
  clear h9
  cases x <;> first | (cases h; done) | skip
  rename_i y ys
  have h5 : chk G N sc a y = true ∧ chks G N sc (.cons b r) ys = true := by simpa only [chks, Bool.and_eq_true] using h
  cases ys with
  | nil => cases h5.2
  | cons z zs =>
  have h6 : tstF y = true ∧ (z :: zs).all tstF = true := by simpa only [List.all_cons, Bool.and_eq_true] using h0
  obtain ⟨r1, r2⟩ := hr c (pos := pos) h5.2 h6.2 (by simp)
  constructor
  · refine PE.weak (pe_or (ha c h5.1) r1) fun σ H Q ⟨m, e, s, re, rs, h⟩ => ?_
    refine tE_k re rs h fun x H1 m1 v s1 re1 _ rs1 rv1 h1 => ?_
    split at h1
    · rename_i q
      obtain ⟨rfl, rfl⟩ := isTrue_rep rv1 q
      refine ⟨false, rfl, ?_⟩
      rw [if_neg Bool.false_ne_true]
      exact ⟨m1, e, s1, re1, rs1, h1⟩
    · rename_i q
      obtain ⟨rfl, rfl⟩ := isTrue_rep rv1 q
      refine ⟨true, rfl, ?_⟩
      rw [if_pos rfl]
      exact Post.here rs1 (a := Vl.d (.bool true)) rfl h1
    · exact h1.no
  · refine PW.weak (pw_or (ht c h5.1 h6.1) r2) fun σ H Q ⟨m, e, s, re, rs, h⟩ => ?_
    refine tT_k (R' := REq) (Q := Q) (ie := a) (f := fun t s => if t = true then .ok true s else evT C (.or (.cons b r)) e s) re rs ?_ fun x H1 m1 s1 re1 _ rs1 p => ?_
    · simp only [evT, ev, ors, Rs.bind_assoc] at h ⊢
      refine Eq.mp ?_ h
      congr 1
      congr 1
      funext v s
      unfold isTrue?
      split <;> simp_all [Rs.bind, ofO, isTrue?]
    · cases x with
      | true => simp only [if_true] at p ⊢; exact Post.here rs1 rfl p
      | false => simp only [Bool.false_eq_true, if_false] at p ⊢; exact ⟨m1, e, s1, re1, rs1, p⟩
theorem snd_bool {es : IE} (h1 : OkAnd G N cl C k es) (h2 : OkOr G N cl C k es) : (OkE G N cl C k (.and es) ∧ OkT G N cl C k (.and es)) ∧ (OkE G N cl C k (.or es) ∧ OkT G N cl C k (.or es)) := by
  refine ⟨⟨?_, ?_⟩, ?_, ?_⟩
  · intro sc fnB W X c x h
    cases x <;> first | (cases h; done) | skip
    simp only [chk, Bool.and_eq_true, decide_eq_true_eq] at h
    obtain ⟨⟨⟨e, h3⟩, h4⟩, h5⟩ := h
    subst e
    exact (h1 c h3 h4 (by rintro rfl; cases h5)).1
  · intro sc fnB W X c x h h9
    clear h9
    cases x <;> first | (cases h; done) | skip
    simp only [chk, Bool.and_eq_true, decide_eq_true_eq] at h
    obtain ⟨⟨⟨e, h3⟩, h4⟩, h5⟩ := h
    subst e
    exact (h1 c h3 h4 (by rintro rfl; cases h5)).2.pt
  · intro sc fnB W X c x h
    cases x <;> first | (cases h; done) | skip
    simp only [chk, Bool.and_eq_true, decide_eq_true_eq] at h
    obtain ⟨⟨⟨e, h3⟩, h4⟩, h5⟩ := h
    subst e
    exact (h2 c h3 h4 (by rintro rfl; cases h5)).1
  · intro sc fnB W X c x h h9
    clear h9
    cases x <;> first | (cases h; done) | skip
    simp only [chk, Bool.and_eq_true, decide_eq_true_eq] at h
    obtain ⟨⟨⟨e, h3⟩, h4⟩, h5⟩ := h
    subst e
    exact (h2 c h3 h4 (by rintro rfl; cases h5)).2.pt
end
end SM

set_option maxHeartbeats 1000000
/-! SM: targets, what is walked, comprehensions. -/
namespace SM
open PySem L2 PySem.Spec PyProof.Rows
section
variable {G : Sg} {N : List Str} {cl : Nat → Value} {C : Cal} {k : Nat}
/-! ### targets -/
def SameS (is : List Nat) (σ σ' : L2.St) : Prop := σ'.length = σ.length ∧ ∀ i, i ∉ is → σ'[i]? = σ[i]?
theorem SameS.refl {is : List Nat} {σ : L2.St} : SameS is σ σ := ⟨rfl, fun _ _ => rfl⟩
theorem SameS.trans {is js : List Nat} {σ σ' σ'' : L2.St} (a : SameS is σ σ') (b : SameS js σ' σ'') : SameS (is ++ js) σ σ'' :=
  ⟨b.1.trans a.1, fun i h => by
    rw [List.mem_append, not_or] at h
    exact (b.2 i h.2).trans (a.2 i h.1)⟩
theorem SameS.set {σ : L2.St} {i : Nat} {v : V} : SameS [i] σ (σ.set i (some v)) := ⟨by simp, fun j h => by rw [List.getElem?_set_ne]; simpa using fun e => h (by simp [e])⟩
theorem RE.set {K : PySem.W.Frag} {m : Mu} {H : Hp} {e : Sl} {σ : L2.St} (r : RE K m H e σ) {i : Nat} {u : Vl} {v : V} (rv : RV K m H u v) : RE K m H (e.set i (some u)) (σ.set i (some v)) := by
  refine ⟨by simp [r.len], fun j w h => ?_⟩
  by_cases hj : j = i
  · subst hj
    have hl : j < e.length := by
      have := (List.getElem?_eq_some_iff.mp h).1
      simpa using this
    rw [List.getElem?_set_self hl] at h
    cases h
    exact ⟨v, List.getElem?_set_self (by rw [← r.len]; exact hl), rv⟩
  · rw [List.getElem?_set_ne (Ne.symm hj)] at h ⊢
    exact r.at_ j w h
def tG (K : PySem.W.Frag) (tg : IE) : TG := fun v σ H Q => ∃ m e u e', RE K m H e σ ∧ RV K m H u v ∧ setTgV tg u e = some e' ∧ ∀ σ', RE K m H e' σ' → SameS (tgS tg) σ σ' → Q σ' H
def tGd (K : PySem.W.Frag) (tg : IE) : TG := fun v σ H Q => ∃ m e u e', RE K m H e σ ∧ Rep K m H u v ∧ setTg tg u e = some e' ∧ ∀ σ', RE K m H e' σ' → SameS (tgS tg) σ σ' → Q σ' H
def tGs (K : PySem.W.Frag) (tg : IE) : TGs := fun vs σ H Q => ∃ m e us e', RE K m H e σ ∧ Reps K m H us vs ∧ setTg.setTgs tg us e = some e' ∧ ∀ σ', RE K m H e' σ' → SameS (tgS tg) σ σ' → Q σ' H
theorem PG.weak {X : Cx} {e : Expr} {t t' : TG} (h : PG X e t) (w : ∀ v σ H Q, t' v σ H Q → t v σ H Q) : PG X e t' := ⟨fun pins s σ H v u Q I r q => h.run pins s σ H v u Q I r (w _ _ _ _ q)⟩
theorem PGs.weak {X : Cx} {e : List Expr} {t t' : TGs} (h : PGs X e t) (w : ∀ v σ H Q, t' v σ H Q → t v σ H Q) : PGs X e t' := ⟨fun pins s σ H v u Q I r q => h.run pins s σ H v u Q I r (w _ _ _ _ q)⟩
theorem locB_ok {sc : Scope} {x : Str} (h : locB sc x = true) : Loc sc x := by
  unfold locB at h
  split at h
  · exact .inl (by assumption)
  · exact .inr (by assumption)
  · cases h
theorem isLoc_ok {sc : Scope} {x : Str} (h : isLoc sc x = true) : sc.names.lookup x = some .local := by
  unfold isLoc at h
  split at h
  · assumption
  · cases h
theorem pg_nm {fnB : Str → Bool} {sc : Scope} {W : WX} {X : Cx} (c : Cok G N cl C k fnB sc W X) {i : Nat} {x : Str} {pos : Pos} (h1 : N[i]? = some x) (h2 : locB sc x = true) (h3 : (fnB x || isLoc sc x) = true) : PG X (.Name x pos) (gName i) := by
  refine pg_name (by rw [c.n]; exact c.nd) (by rw [c.n]; exact h1) (by rw [c.sc]; exact locB_ok h2) ?_
  rw [c.fnB, c.sc]
  rcases Bool.or_eq_true_iff.mp h3 with z | z
  · exact .inl z
  · exact .inr (isLoc_ok z)
theorem tgNoStar {fnB : Str → Bool} {sc : Scope} {tg : IE} {e : Expr} (h : chkG fnB sc N tg e = true) (es : List Expr) (env : Env) : assignEach (e :: es) env = (false, assign e env) :: assignEach es env := by
  cases e <;> first | rfl | skip
  cases tg <;> cases h
theorem tgsNoStar {fnB : Str → Bool} {sc : Scope} {env : Env} : ∀ {tg : IE} {es : List Expr}, chkG.chkGs fnB sc N tg es = true → assignEach es env = es.map fun e => (false, assign e env) := by
  intro tg
  induction tg with
  | cons a r _ ih =>
    intro es h
    cases es with
    | nil => rfl
    | cons e es =>
      simp only [chkG.chkGs, Bool.and_eq_true] at h
      rw [tgNoStar h.1, ih h.2]; rfl
  | nil =>
    intro es h
    cases es with
    | nil => rfl
    | cons e es => cases h
  | _ => intro es h; cases h
theorem findStar {env : Env} : ∀ es : List Expr, List.findIdx? (fun x : Bool × (Value → Sem Unit) => x.1) (es.map fun e => (false, assign e env)) = none
  | [] => rfl
  | a :: r => by
    simp only [List.map_cons, List.findIdx?_cons, findStar r]
    rfl
theorem snd_tg {fnB : Str → Bool} {sc : Scope} {W : WX} {X : Cx} (c : Cok G N cl C k fnB sc W X) : ∀ tg : IE, (∀ e, chkG fnB sc N tg e = true → PG X e (tGd X.K tg)) ∧ ∀ es, chkG.chkGs fnB sc N tg es = true → PGs X es (tGs X.K tg) := by
  intro tg
  induction tg with
  | var i =>
    refine ⟨fun e h => ?_, fun es h => (by cases es <;> cases h)⟩
    cases e <;> first | (cases h; done) | skip
    rename_i x pos
    simp only [chkG, Bool.and_eq_true, decide_eq_true_eq] at h
    exact PG.weak (pg_nm c h.1.1 h.1.2 h.2) fun v σ H Q ⟨m, e, u, e', re, rv, hs, q⟩ => by cases hs; exact q _ (re.set (u := .d u) rv) SameS.set
  | tup es ih =>
    refine ⟨fun e h => ?_, fun es h => (by cases es <;> cases h)⟩
    cases e <;> first | (cases h; done) | skip
    rename_i es' kk pos
    have h : chkG.chkGs fnB sc N es es' = true := h
    have hl : ∀ (t : IE) (us : List PyData) (es : List Expr) (e e' : Sl), chkG.chkGs fnB sc N t es = true → setTg.setTgs t us e = some e' → us.length = es.length := by
      intro t
      induction t with
      | nil =>
        intro us es e e' h1 h2
        cases es <;> first | (cases h1; done) | skip
        cases us <;> first | rfl | (cases h2; done)
      | cons a r _ ih =>
        intro us es e e' h1 h2
        cases es <;> first | (cases h1; done) | skip
        cases us <;> first | (cases h2; done) | skip
        simp only [chkG.chkGs, Bool.and_eq_true] at h1
        simp only [setTg.setTgs] at h2
        obtain ⟨e1, _, h3⟩ := obind h2
        simp [ih _ _ _ _ h1.2 h3]
      | _ => intro us es e e' h1 h2; cases es <;> cases h1
    refine ⟨fun pins st σ H v w Q I r ⟨m, e, u, e', re, rv, hs, q⟩ => ?_⟩
    cases u <;> first | (cases hs; done) | skip
    · rename_i us
      obtain ⟨a, ws, ev, h1, h2⟩ := rv
      exact (pg_lst (pos := pos) (k := kk) (n := es'.length) c.calm (ih.2 es' h) (by rw [tgsNoStar h, List.length_map]) (by rw [tgsNoStar h]; exact findStar es')).run pins st σ H v w Q I r ⟨a, ws, ev, h1.sq, by rw [← h2.length]; exact hl _ _ _ _ _ h hs, m, e, us, e', re, h2, hs, q⟩
    · rename_i us
      obtain ⟨a, ws, ev, h1, h2⟩ := rv
      exact (pg_tup (pos := pos) (k := kk) (n := es'.length) c.calm (ih.2 es' h) (by rw [tgsNoStar h, List.length_map]) (by rw [tgsNoStar h]; exact findStar es')).run pins st σ H v w Q I r ⟨a, ws, ev, h1.sq, by rw [← h2.length]; exact hl _ _ _ _ _ h hs, m, e, us, e', re, h2, hs, q⟩
  | nil =>
    refine ⟨fun e h => (by cases e <;> cases h), fun es h => ?_⟩
    cases es <;> first | (cases h; done) | skip
    refine PGs.weak pgs_nil fun v σ H Q ⟨m, e, u, e', re, rv, hs, q⟩ => ?_
    cases u <;> first | (cases hs; done) | skip
    cases hs
    exact ⟨rv, q σ re SameS.refl⟩
  | cons a r ih1 ih2 =>
    refine ⟨fun e h => (by cases e <;> cases h), fun es h => ?_⟩
    cases es <;> first | (cases h; done) | skip
    rename_i x xs
    simp only [chkG.chkGs, Bool.and_eq_true] at h
    refine PGs.weak (pgs_cons (ih1.1 x h.1) (ih2.2 xs h.2) (by rw [tgNoStar h.1]; rfl)) fun v σ H Q ⟨m, e, u, e', re, rv, hs, q⟩ => ?_
    cases u <;> first | (cases hs; done) | skip
    rename_i u us
    obtain ⟨w, ws, ev, r1, r2⟩ := rv
    simp only [setTg.setTgs] at hs
    obtain ⟨e1, hs1, hs2⟩ := obind hs
    exact ⟨w, ws, ev, m, e, u, e1, re, r1, hs1, fun σ1 re1 s1 => ⟨m, e1, us, e', re1, r2, hs2, fun σ2 re2 s2 => q σ2 re2 (s1.trans s2)⟩⟩
  | _ => exact ⟨fun e h => (by cases e <;> cases h), fun es h => (by cases es <;> cases h)⟩
theorem snd_tgV {fnB : Str → Bool} {sc : Scope} {W : WX} {X : Cx} (c : Cok G N cl C k fnB sc W X) (tg : IE) (e : Expr) (h : chkG fnB sc N tg e = true) : PG X e (tG X.K tg) := by
  cases tg with
  | var i =>
    cases e <;> first | (cases h; done) | skip
    rename_i x pos
    simp only [chkG, Bool.and_eq_true, decide_eq_true_eq] at h
    exact PG.weak (pg_nm c h.1.1 h.1.2 h.2) fun v σ H Q ⟨m, e, u, e', re, rv, hs, q⟩ => by cases hs; exact q _ (re.set rv) SameS.set
  | tup es =>
    refine PG.weak ((snd_tg c (.tup es)).1 e h) fun v σ H Q ⟨m, e, u, e', re, rv, hs, q⟩ => ?_
    cases u with
    | r n => cases hs
    | d y => exact ⟨m, e, y, e', re, rv, hs, q⟩
  | _ => cases e <;> cases h

/-! ### what is walked -/
def WalkD (K : PySem.W.Frag) (m : Mu) (H : Hp) (ds : List PyData) (J : It) : Prop := ∃ (Gd : Hp → Prop) (Y : Nat → Hp → V → Hp → Prop), Walk J ds.length Gd Y ∧ (∀ m' H', Wk m H m' H' → Gd H') ∧
  ∀ m' H' s' i x H'', Wk m H m' H' → RS K m' H' s' → i < ds.length → Y i H' x H'' → (∀ a o, H' a = some o → H'' a = some o) ∧ ∃ d, ds[i]? = some d ∧ Rep K m' H'' d x
def RI (K : PySem.W.Frag) (m : Mu) (H : Hp) : Itr → It → Prop
  | .vals ds, J => WalkD K m H ds J
  | .ref n, J => ∃ a, m.l[n]? = some (some a) ∧ J = Itl K a
def tI (K : PySem.W.Frag) (cl : Nat → Value) (C : Cal) (W : WX) (ie : IE) : TI := fun σ H R => At K σ H fun m e s => Post K cl (RI K) (WE W σ) R m H (itr C ie e s)
def OkI (G : Sg) (N : List Str) (cl : Nat → Value) (C : Cal) (k : Nat) (ie : IE) : Prop := ∀ {sc : Scope} {fnB : Str → Bool} {W : WX} {X : Cx}, Cok G N cl C k fnB sc W X → ∀ {tg x : Expr}, zipTg ie tg = true → chki G N sc ie x = true → PI X tg x (tI X.K cl C W ie)
def iSeq (K : PySem.W.Frag) (tl : TE) : TI := fun σ H R => tl σ H fun x H1 => ∃ a, x = .ref a ∧ (((∃ xs, SqL K H1 a xs) ∧ R (Itl K a) H1) ∨ ((∃ xs, SqT K H1 a xs) ∧ R (Itt K a) H1))
theorem pi_seq {X : Cx} {tg l : Expr} {tl : TE} (hl : PE X l tl) : PI X tg l (iSeq X.K tl) := by
  refine ⟨fun pins st σ H R I h => ?_⟩
  refine thn (hl.run pins st σ H _ I h) fun v s1 ⟨x, H1, I1, r1, a, e, q1⟩ => ?_
  subst e
  cases r1
  have fp : ∀ b ∈ [s1.heap.objs.size], FpOk X pins H1 b := fun b hb => by
    have e : b = s1.heap.objs.size := by simpa using hb
    subst e
    exact I1.fpOk (Nat.le_refl _) (I1.hok.fresh (Nat.le_refl _))
  rcases q1 with ⟨⟨xs, hq⟩, q⟩ | ⟨⟨xs, hq⟩, q⟩
  · obtain ⟨its, _, p, _⟩ := I1.list hq
    exact wpAny_pyIter_list p.isList ⟨_, _, _, _, H1, rfl, I1.kept (t' := s1.toks) fun b o e => Heap.get?_push_of_some _ e, turn_list a _, ⟨_, Heap.get?_push_size _ rfl, rfl, rfl⟩, fp, q⟩
  · obtain ⟨its, _, p, _⟩ := I1.tuple hq
    exact wpAny_pyIter_tuple (show s1.heap.IsTuple a its.toArray from p) ⟨_, _, _, _, H1, rfl, I1.kept (t' := s1.toks) fun b o e => Heap.get?_push_of_some _ e, turn_tuple a _, ⟨_, Heap.get?_push_size _ rfl, rfl, rfl⟩, fp, q⟩
theorem Reps.get {K : PySem.W.Frag} {m : Mu} {H : Hp} {us : List PyData} {vs : List V} (h : Reps K m H us vs) {i : Nat} {v : V} (q : vs[i]? = some v) : ∃ d, us[i]? = some d ∧ Rep K m H d v := by
  obtain ⟨u, e, r⟩ := RVs.get' h.rvs q
  rw [List.getElem?_map] at e
  obtain ⟨d, e1, rfl⟩ := omap e
  exact ⟨d, e1, r⟩
theorem walk_ls {K : PySem.W.Frag} {m : Mu} {H : Hp} {ds : List PyData} {a : Addr} {ws : List V} (h1 : LsA K m H a ws) (h2 : Reps K m H ds ws) : WalkD K m H ds (Itl K a) := by
  refine ⟨_, _, by rw [h2.length]; exact walk_list (xs := ws), fun m' H' x => (h1.kp x.kp).sq, fun m' H' s' i v H'' x rs hi y => ?_⟩
  obtain ⟨rfl, y⟩ := y
  exact ⟨fun _ _ h => h, (h2.kp x.kp).get y⟩
theorem walk_tp {K : PySem.W.Frag} {m : Mu} {H : Hp} {ds : List PyData} {a : Addr} {ws : List V} (h1 : TpA K m H a ws) (h2 : Reps K m H ds ws) : WalkD K m H ds (Itt K a) := by
  refine ⟨_, _, by rw [h2.length]; exact walk_tup (xs := ws), fun m' H' x => (h1.kp x.kp).sq, fun m' H' s' i v H'' x rs hi y => ?_⟩
  obtain ⟨rfl, y⟩ := y
  exact ⟨fun _ _ h => h, (h2.kp x.kp).get y⟩
theorem snd_itv {a : IE} (ha : OkE G N cl C k a) : OkI G N cl C k (.itv a) := by
  intro sc fnB W X c tg x _ h
  refine PI.weak (pi_seq (ha c (x := x) h)) fun σ H R ⟨m, e, s, re, rs, h⟩ => ?_
  refine tE_k re rs h fun x H1 m1 v s1 re1 _ rs1 rv1 h1 => ?_
  obtain ⟨I, q, p⟩ := h1.ofO
  cases v with
  | r n =>
    obtain ⟨vs, q1, rfl⟩ := omap q
    obtain ⟨a, ws, rfl, g1, g2, g3⟩ := rs1.get q1 rv1
    exact ⟨a, rfl, .inl ⟨⟨ws, SqL.of g2⟩, Post.here rs1 (a := Itr.ref n) ⟨a, g1, rfl⟩ p⟩⟩
  | d y =>
    cases y with
    | list ds =>
      cases q
      obtain ⟨a, ws, rfl, g1, g2⟩ := rv1
      exact ⟨a, rfl, .inl ⟨⟨ws, g1.sq⟩, Post.here rs1 (a := Itr.vals ds) (walk_ls g1 g2) p⟩⟩
    | tuple ds =>
      cases q
      obtain ⟨a, ws, rfl, g1, g2⟩ := rv1
      exact ⟨a, rfl, .inr ⟨⟨ws, g1.sq⟩, Post.here rs1 (a := Itr.vals ds) (walk_tp g1 g2) p⟩⟩
    | _ => cases q
theorem walk_dt {K : PySem.W.Frag} {m : Mu} {H : Hp} {kvs : List (PyData × PyData)} {a : Addr} {o : Obj} {xs : List (NestedKey × Addr × Value)} (n : ¬ inM m a) (h1 : H a = some (.frz o (DctO a xs))) (h2 : RepD K m H kvs xs) : WalkD K m H (kvs.map (·.1)) (Itd a o xs) := by
  have hl : (kvs.map (·.1)).length = xs.length := by rw [List.length_map, repD_len h2]
  refine ⟨fun H => H a = some (.frz o (DctO a xs)), fun i H v H' => H' = H ∧ (keyRefs xs)[i]? = some v, ⟨fun i H hi g => ⟨g, by omega⟩, fun H g => ⟨g, by omega⟩, fun i H v H' _ g y => y⟩, fun m' H' x => (x.kp a _ h1 n).1, fun m' H' s' i v H'' x rs hi y => ?_⟩
  obtain ⟨rfl, y⟩ := y
  exact ⟨fun _ _ h => h, (repD_keys (RepD.kp x.kp h2)).get y⟩
theorem snd_itd {a : IE} (ha : OkE G N cl C k a) : OkI G N cl C k (.itd a) := by
  intro sc fnB W X c tg x _ h
  refine PI.weak (pi_seqD (ha c (x := x) h)) fun σ H R ⟨m, e, s, re, rs, h⟩ => ?_
  refine tE_k re rs h fun x H1 m1 v s1 re1 _ rs1 rv1 h1 => ?_
  obtain ⟨I, q, p⟩ := h1.ofO
  unfold itdV at q
  split at q
  · split at q
    · rename_i hk
      cases q
      obtain ⟨a, o, xs, rfl, n, g1, g2⟩ := dict_d hk rv1
      exact ⟨a, rfl, .inr (.inr ⟨o, xs, g1, Post.here rs1 (R := RI X.K) (a := SM.Itr.vals _) (show RI X.K _ _ (SM.Itr.vals _) _ from walk_dt n g1 g2) p⟩)⟩
    · cases q
  · cases q
theorem walk_rg {K : PySem.W.Frag} {m : Mu} {H : Hp} {lo : Int} {n : Nat} : WalkD K m H ((List.range n).map fun k : Nat => PyData.int (lo + (k : Int))) (L2.Itr lo n) := by
  refine ⟨_, _, by rw [List.length_map, List.length_range]; exact walk_range, fun _ _ _ => trivial, fun m' H' s' i v H'' x rs hi y => ?_⟩
  obtain ⟨rfl, rfl⟩ := y
  rw [List.length_map, List.length_range] at hi
  exact ⟨fun _ _ h => h, .int (lo + (i : Int)), by rw [List.getElem?_map, List.getElem?_range hi]; rfl, rfl⟩
theorem rngV_some {i j : Int} {I : SM.Itr} (h : rngV i j = some I) : (-1000000 ≤ i ∧ i ≤ 1000000) ∧ (-1000000 ≤ j ∧ j ≤ 1000000) ∧ I = .vals ((List.range (j - i).toNat).map fun k : Nat => PyData.int (i + (k : Int))) := by
  unfold rngV at h
  split at h
  · rename_i c; cases h; exact ⟨c.1, c.2, rfl⟩
  · cases h
theorem optI_rep {K : PySem.W.Frag} {m : Mu} {H : Hp} {v : Vl} {x : V} {i : Int} (r : RV K m H v x) (h : optI v = some i) : x = .int i := by
  unfold optI at h
  split at h
  · cases h; exact r
  · cases h
theorem snd_rng1 {a : IE} (ha : OkE G N cl C k a) : OkI G N cl C k (.rng1 a) := by
  intro sc fnB W X c tg x _ h
  cases x <;> first | (cases h; done) | skip
  rename_i f as ks pos
  cases f <;> first | (cases h; done) | skip
  cases as with
  | nil => cases ks <;> cases h
  | cons a1 as =>
  cases as with
  | cons _ _ => cases ks <;> cases h
  | nil =>
  cases ks <;> first | (cases h; done) | skip
  simp only [chki, Bool.and_eq_true, decide_eq_true_eq] at h
  obtain ⟨⟨⟨e1, h1⟩, h2⟩, h3⟩ := h
  subst e1
  refine PI.weak (pi_range1 (c.gl h1) (c.bi _ h2) (pa_cons (ha c h3) pa_nil (star_ok h3 _ _)) (star_ok h3 _ _)) fun σ H R ⟨m, e, s, re, rs, h⟩ => ?_
  refine tE_k re rs h fun x H1 m1 v s1 re1 _ rs1 rv1 h1 => ?_
  obtain ⟨I, q, p⟩ := h1.ofO
  obtain ⟨j, q1, q2⟩ := obind q
  obtain ⟨_, g2, rfl⟩ := rngV_some q2
  have ex := optI_rep rv1 q1
  subst ex
  refine ⟨j, rfl, by omega, by omega, Post.here rs1 ?_ p⟩
  rw [Int.sub_zero]
  exact walk_rg
theorem snd_rng2 {a b : IE} (ha : OkE G N cl C k a) (hb : OkE G N cl C k b) : OkI G N cl C k (.rng2 a b) := by
  intro sc fnB W X c tg x _ h
  cases x <;> first | (cases h; done) | skip
  rename_i f as ks pos
  cases f <;> first | (cases h; done) | skip
  cases as with
  | nil => cases ks <;> cases h
  | cons a1 as =>
  cases as with
  | nil => cases ks <;> cases h
  | cons a2 as =>
  cases as with
  | cons _ _ => cases ks <;> cases h
  | nil =>
  cases ks <;> first | (cases h; done) | skip
  simp only [chki, Bool.and_eq_true, decide_eq_true_eq] at h
  obtain ⟨⟨⟨⟨e1, h1⟩, h2⟩, h3⟩, h4⟩ := h
  subst e1
  have st2 := star_ok h4 [] X.env
  have st1 := star_ok h3 [a2] X.env
  refine PI.weak (pi_range2 (c.gl h1) (c.bi _ h2) (pa_cons (ha c h3) (pa_cons (hb c h4) pa_nil st2) st1) (by rw [st1, st2]; rfl) st2) fun σ H R ⟨m, e, s, re, rs, h⟩ => ?_
  refine tE_k re rs h fun x H1 m1 v s1 re1 _ rs1 rv1 h1 => tE_k re1 rs1 h1 fun y H2 m2 w s2 _ x2 rs2 rv2 h2 => ?_
  obtain ⟨I, q, p⟩ := h2.ofO
  obtain ⟨i, q1, q2⟩ := obind q
  obtain ⟨j, q3, q4⟩ := obind q2
  obtain ⟨g1, g2, rfl⟩ := rngV_some q4
  have ex := optI_rep rv1 q1
  subst ex
  have ey := optI_rep rv2 q3
  subst ey
  refine ⟨i, j, rfl, ⟨by omega, by omega, by omega, by omega⟩, ?_⟩
  exact Post.here (R := RI X.K) (a := SM.Itr.vals ((List.range (j - i).toNat).map fun k : Nat => PyData.int (i + (k : Int)))) (b := L2.Itr i (j - i).toNat) rs2 walk_rg p
/-- a new pair -/
theorem pair_rep {K : PySem.W.Frag} {m : Mu} {H : Hp} {s : Sto} {T : Addr} {a b : PyData} {x y : V} (rs : RS K m H s) (hT : H T = none) (ra : Rep K m H a x) (rb : Rep K m H b y) : Rep K m (upd H T (.tup [x, y])) (.tuple [a, b]) (.ref T) := by
  have e : Ext m H m (upd H T (.tup [x, y])) := Ext.new hT
  exact ⟨T, [x, y], rfl, .inl ⟨rs.fresh hT, .inl upd_same⟩, x, [y], rfl, ra.ext e, y, [], rfl, rb.ext e, rfl⟩
/-- a list (false) or a tuple (true) -/
def seqD (k : Bool) (xs : List PyData) : PyData := match k with
  | false => .list xs
  | true => .tuple xs
theorem zipV_some {v w : Vl} {I : SM.Itr} (h : zipV v w = some I) : ∃ us vs k l, v = .d (seqD k us) ∧ w = .d (seqD l vs) ∧ I = .vals (List.zipWith (fun u v => PyData.tuple [u, v]) us vs) := by
  unfold zipV at h
  split at h
  · cases h; exact ⟨_, _, false, false, rfl, rfl, rfl⟩
  · cases h; exact ⟨_, _, true, true, rfl, rfl, rfl⟩
  · cases h; exact ⟨_, _, false, true, rfl, rfl, rfl⟩
  · cases h; exact ⟨_, _, true, false, rfl, rfl, rfl⟩
  · cases h
theorem rep_K {K : PySem.W.Frag} {m : Mu} {H : Hp} {v : Vl} {y : V} {k : Bool} {us : List PyData} (e : v = .d (seqD k us)) (r : RV K m H v y) : ∃ a ws, y = .ref a ∧ (∀ m' H', Wk m H m' H' → SqK k K H' a ws) ∧ Reps K m H us ws := by
  subst e
  cases k with
  | false => obtain ⟨a, ws, e, g1, g2⟩ := r; exact ⟨a, ws, e, fun m' H' x => (g1.kp x.kp).sq, g2⟩
  | true => obtain ⟨a, ws, e, g1, g2⟩ := r; exact ⟨a, ws, e, fun m' H' x => (g1.kp x.kp).sq, g2⟩
theorem snd_zip {a b : IE} (ha : OkE G N cl C k a) (hb : OkE G N cl C k b) : OkI G N cl C k (.zip a b) := by
  intro sc fnB W X c tg x hz h
  cases tg <;> first | (cases hz; done) | skip
  cases x <;> first | (cases h; done) | skip
  rename_i f as ks pos
  cases f <;> first | (cases h; done) | skip
  cases as with
  | nil => cases ks <;> cases h
  | cons a1 as =>
  cases as with
  | nil => cases ks <;> cases h
  | cons a2 as =>
  cases as with
  | cons _ _ => cases ks <;> cases h
  | nil =>
  cases ks <;> first | (cases h; done) | skip
  simp only [chki, Bool.and_eq_true, decide_eq_true_eq] at h
  obtain ⟨⟨⟨⟨e1, h1⟩, h2⟩, h3⟩, h4⟩ := h
  subst e1
  have st2 := star_ok h4 [] X.env
  have st1 := star_ok h3 [a2] X.env
  refine PI.weak (pi_zipM (c.gl h1) (c.bi _ h2) (pa_cons (ha c h3) (pa_cons (hb c h4) pa_nil st2) st1) st1 (by rw [st2]; rfl)) fun σ H R ⟨m, e, s, re, rs, h⟩ => ?_
  refine tE_k re rs h fun x H1 m1 v s1 re1 _ rs1 rv1 h1 => tE_k re1 rs1 h1 fun y H2 m2 w s2 _ x2 rs2 rv2 h2 => ?_
  obtain ⟨I, q, p⟩ := h2.ofO
  obtain ⟨us, vs, k1, k2, e1, e2, rfl⟩ := zipV_some q
  obtain ⟨a1, w1, rfl, g1, g2⟩ := rep_K e1 (rv1.ext x2)
  obtain ⟨a2, w2, rfl, g3, g4⟩ := rep_K e2 rv2
  refine ⟨a1, a2, k1, k2, w1, w2, rfl, (g1 _ _ Ext.refl.wk), (g3 _ _ Ext.refl.wk), ?_⟩
  refine Post.here (R := RI X.K) (a := SM.Itr.vals (List.zipWith (fun u v => PyData.tuple [u, v]) us vs)) (b := ItM k1 k2 X.K a1 a2) rs2 ?_ p
  refine ⟨fun H => SqK k1 X.K H a1 w1 ∧ SqK k2 X.K H a2 w2, YPair (fun i => w1[i]?) (fun i => w2[i]?), by rw [List.length_zipWith, g2.length, g4.length]; exact walk_M (xs := w1) (ys := w2), fun m' H' x => ⟨g1 _ _ x, g3 _ _ x⟩, fun m' H' s' i v H'' x rs hi y => ?_⟩
  obtain ⟨T, x1, y1, rfl, hT, rfl, e1, e2⟩ := y
  obtain ⟨d1, f1, r1⟩ := (g2.kp x.kp).get e1
  obtain ⟨d2, f2, r2⟩ := (g4.kp x.kp).get e2
  refine ⟨upd_keep hT, .tuple [d1, d2], ?_, pair_rep rs hT r1 r2⟩
  rw [List.getElem?_zipWith, f1, f2]
theorem enumV_some {v : Vl} {I : SM.Itr} (h : enumV v = some I) : ∃ us k, v = .d (seqD k us) ∧ I = .vals (us.zipIdx.map fun p => PyData.tuple [.int p.2, p.1]) := by
  unfold enumV at h
  split at h
  · cases h; exact ⟨_, false, rfl, rfl⟩
  · cases h; exact ⟨_, true, rfl, rfl⟩
  · cases h
theorem walk_enT {K : PySem.W.Frag} {a : Addr} {xs : List V} : Walk (ItEnT K a) xs.length (fun H => SqT K H a xs) (YPair (fun i => some (.int (i : Nat))) (fun i => xs[i]?)) := by
  refine ⟨fun i _ hi q => ⟨xs, xs[i], q, by simp [hi]⟩, fun _ q => ⟨xs, q, rfl⟩, fun i H v H' _ q y => ?_⟩
  obtain ⟨T, x, h1, h2, h3, h4⟩ := y
  exact ⟨T, .int (i : Nat), x, h1, h2, h3, rfl, h4 xs q⟩
theorem snd_enum {a : IE} (ha : OkE G N cl C k a) : OkI G N cl C k (.enum a) := by
  intro sc fnB W X c tg x hz h
  cases tg <;> first | (cases hz; done) | skip
  cases x <;> first | (cases h; done) | skip
  rename_i f as ks pos
  cases f <;> first | (cases h; done) | skip
  cases as with
  | nil => cases ks <;> cases h
  | cons a1 as =>
  cases as with
  | cons _ _ => cases ks <;> cases h
  | nil =>
  cases ks <;> first | (cases h; done) | skip
  simp only [chki, Bool.and_eq_true, decide_eq_true_eq] at h
  obtain ⟨⟨⟨e1, h1⟩, h2⟩, h3⟩ := h
  subst e1
  have st1 := star_ok h3 [] X.env
  refine PI.weak (pi_enT (c.gl h1) (c.bi _ h2) (pa_cons (ha c h3) pa_nil st1) st1) fun σ H R ⟨m, e, s, re, rs, h⟩ => ?_
  refine tE_k re rs h fun x H1 m1 v s1 re1 _ rs1 rv1 h1 => ?_
  obtain ⟨I, q, p⟩ := h1.ofO
  obtain ⟨us, k1, e1, rfl⟩ := enumV_some q
  obtain ⟨a1, w1, rfl, g1, g2⟩ := rep_K e1 rv1
  cases k1 with
  | false =>
    refine ⟨a1, w1, rfl, .inl ⟨g1 _ _ Ext.refl.wk, ?_⟩⟩
    refine Post.here (R := RI X.K) (a := SM.Itr.vals (us.zipIdx.map fun p => PyData.tuple [.int p.2, p.1])) (b := Ite X.K a1) rs1 ?_ p
    refine ⟨_, _, by rw [List.length_map, List.length_zipIdx, g2.length]; exact walk_enum (xs := w1), fun m' H' x => g1 _ _ x, fun m' H' s' i v H'' x rs hi y => ?_⟩
    obtain ⟨T, x1, y1, rfl, hT, rfl, e1, e2⟩ := y
    cases e1
    obtain ⟨d2, f2, r2⟩ := (g2.kp x.kp).get e2
    refine ⟨upd_keep hT, .tuple [.int i, d2], ?_, pair_rep rs hT rfl r2⟩
    rw [List.getElem?_map, List.getElem?_zipIdx, f2]
    simp
  | true =>
    refine ⟨a1, w1, rfl, .inr ⟨g1 _ _ Ext.refl.wk, ?_⟩⟩
    refine Post.here (R := RI X.K) (a := SM.Itr.vals (us.zipIdx.map fun p => PyData.tuple [.int p.2, p.1])) (b := ItEnT X.K a1) rs1 ?_ p
    refine ⟨_, _, by rw [List.length_map, List.length_zipIdx, g2.length]; exact walk_enT (xs := w1), fun m' H' x => g1 _ _ x, fun m' H' s' i v H'' x rs hi y => ?_⟩
    obtain ⟨T, x1, y1, rfl, hT, rfl, e1, e2⟩ := y
    cases e1
    obtain ⟨d2, f2, r2⟩ := (g2.kp x.kp).get e2
    refine ⟨upd_keep hT, .tuple [.int i, d2], ?_, pair_rep rs hT rfl r2⟩
    rw [List.getElem?_map, List.getElem?_zipIdx, f2]
    simp
/-! ### tests of a comprehension -/
theorem snd_cnil : OkC G N cl C k .nil := by
  intro sc fnB W X c x h
  cases x <;> first | (cases h; done) | skip
  refine PTs.weak pts_nil fun σ H Q ⟨m, e, s, re, rs, h⟩ => ?_
  exact Post.here (R := REq) (a := true) rs rfl h
theorem snd_ccons {a r : IE} (ht : OkT G N cl C k a) : OkC G N cl C k (.cons a r) := by
  intro sc fnB W X c x h
  cases x with
  | nil => cases h
  | cons e es =>
  cases es with
  | cons _ _ => cases h
  | nil =>
  simp only [chkc, Bool.and_eq_true] at h
  exact PTs.weak (pts_one (ht c h.2 h.1)) fun σ H Q ⟨m, e, s, re, rs, h⟩ => ⟨m, e, s, re, rs, h⟩
/-! ### the slots of a comprehension -/
theorem wipe_in {σ : L2.St} : ∀ {vs : List Nat} {i : Nat}, i ∈ vs → i < σ.length → (L2.wipe σ vs)[i]? = some none
  | [], _, h, _ => by cases h
  | v :: vs, i, h, hl => by
    unfold L2.wipe
    by_cases e : v = i
    · subst e
      exact List.getElem?_set_self (by rw [L2.wipe_length]; exact hl)
    · rw [List.getElem?_set_ne e]
      exact wipe_in ((List.mem_cons.mp h).resolve_left fun z => e z.symm) hl
theorem wipe_wipe {σ σ2 : L2.St} {vs : List Nat} (h : SameS vs (L2.wipe σ vs) σ2) : L2.wipe σ2 vs = L2.wipe σ vs := by
  have hl : σ2.length = σ.length := by rw [h.1, L2.wipe_length]
  apply List.ext_getElem?
  intro i
  by_cases hi : i ∈ vs
  · by_cases hb : i < σ.length
    · rw [wipe_in hi (by rw [hl]; exact hb), wipe_in hi hb]
    · rw [List.getElem?_eq_none (by rw [L2.wipe_length, hl]; omega), List.getElem?_eq_none (by rw [L2.wipe_length]; omega)]
  · rw [L2.wipe_out hi]
    exact h.2 i hi
theorem SameS.sub {is js : List Nat} {σ σ' : L2.St} (h : SameS is σ σ') (s : ∀ i ∈ is, i ∈ js) : SameS js σ σ' := ⟨h.1, fun i hi => h.2 i fun z => hi (s i z)⟩
theorem wipeS_length (e : Sl) : ∀ vs : List Nat, (wipe e vs).length = e.length
  | [] => rfl
  | v :: vs => by unfold wipe; rw [List.length_set, wipeS_length e vs]
theorem wipeS_some {e : Sl} {i : Nat} {x : Vl} : ∀ {vs : List Nat}, (wipe e vs)[i]? = some (some x) → e[i]? = some (some x) ∧ i ∉ vs
  | [], h => ⟨h, by simp⟩
  | v :: vs, h => by
    unfold wipe at h
    by_cases hi : v = i
    · subst hi
      by_cases hv : v < (wipe e vs).length
      · rw [List.getElem?_set_self hv] at h; cases h
      · rw [List.getElem?_eq_none (by simpa using hv)] at h; cases h
    · rw [List.getElem?_set_ne hi] at h
      obtain ⟨h1, h2⟩ := wipeS_some h
      exact ⟨h1, by simp only [List.mem_cons, not_or]; exact ⟨fun e => hi e.symm, h2⟩⟩
theorem RE.wipe {K : PySem.W.Frag} {m : Mu} {H : Hp} {e : Sl} {σ : L2.St} (r : RE K m H e σ) (vs : List Nat) : RE K m H (wipe e vs) (L2.wipe σ vs) :=
  ⟨by rw [wipeS_length, L2.wipe_length, r.len], fun i v h => by
    obtain ⟨h1, h2⟩ := wipeS_some h
    rw [L2.wipe_out h2]
    exact r.at_ i v h1⟩
theorem own_map (N : List Str) (own : List Nat) : (ownP N own).map (·.2) = own := by
  unfold ownP
  rw [List.map_map]
  exact List.map_id own
/-! ### the new list, hidden -/
theorem Wk.trans {m m' m'' : Mu} {H H' H'' : Hp} (a : Wk m H m' H') (b : Wk m' H' m'' H'') : Wk m H m'' H'' where
  kp := fun x o h n => let ⟨h1, n1⟩ := a.kp x o h n; b.kp x o h1 n1
  len := Nat.le_trans a.len b.len
  pl := fun n hn => by
    rcases b.pl n (Nat.lt_of_lt_of_le hn a.len) with h | h
    · rcases a.pl n hn with h' | h'
      · exact .inl (h.trans h')
      · exact .inr (h.trans h')
    · exact .inr h
def del (H : Hp) (D : Addr) : Hp := fun a => if a = D then none else H a
theorem del_self {H : Hp} {D : Addr} : del H D D = none := if_pos rfl
theorem del_ne {H : Hp} {a D : Addr} (h : a ≠ D) : del H D a = H a := if_neg h
theorem upd_del {H : Hp} {D : Addr} {o : HO} : upd (del H D) D o = upd H D o := by
  funext a
  by_cases h : a = D
  · subst h; rw [upd_same, upd_same]
  · rw [upd_ne h, upd_ne h, del_ne h]
theorem upd_del' {H : Hp} {D : Addr} {o : HO} (h : H D = some o) : upd (del H D) D o = H := by
  rw [upd_del]
  funext a
  by_cases e : a = D
  · subst e; rw [upd_same, h]
  · rw [upd_ne e]
section
variable {K : PySem.W.Frag} {m m' : Mu} {H H' : Hp} {s s' : Sto} {D : Addr}
theorem Wk.unhide {h : List Addr} (e : m.hid = D :: h) : Wk m H (m.show h) (del H D) := by
  refine ⟨fun a u q n => ⟨?_, fun z => n ?_⟩, Nat.le_refl _, fun _ _ => .inl rfl⟩
  · rw [del_ne]; exact q
    rintro rfl
    exact n (.inr (by rw [e]; exact List.mem_cons_self))
  · rcases z with z | z
    · exact .inl z
    · exact .inr (by rw [e]; exact List.mem_cons_of_mem _ z)
theorem RS.unhide (r : RS K m H s) {h : List Addr} (e : m.hid = D :: h) (hn : D ∉ h) : RS K (m.show h) (del H D) s := by
  have dm : D ∈ m.hid := by rw [e]; exact List.mem_cons_self
  refine ⟨r.len, fun n o q => ?_, r.dead, r.inj, fun a ha => ⟨?_, (r.hd a (by rw [e]; exact List.mem_cons_of_mem _ ha)).2⟩⟩
  · obtain ⟨a, h1, h2⟩ := r.ot n o q
    refine ⟨a, h1, h2.wk (Wk.unhide e) fun u q => ?_⟩
    rw [del_ne]; exact q
    rintro rfl
    exact (r.hd _ dm).2 (List.mem_of_getElem? h1)
  · rw [del_ne]
    · exact (r.hd a (by rw [e]; exact List.mem_cons_of_mem _ ha)).1
    · rintro rfl; exact hn ha
/-- out of a turn's run -/
theorem unhide_all {u : HO} (rs : RS K m H s) (hD : H D = none) (x : Ext (m.hide D) (upd H D u) m' H') (rs' : RS K m' H' s') :
    H' D = some u ∧ Ext m H (m'.show m.hid) (del H' D) ∧ RS K (m'.show m.hid) (del H' D) s' ∧ Wk m' H' (m'.show m.hid) (del H' D) := by
  have nl := rs.freshL hD
  have e : m'.hid = D :: m.hid := x.hid
  have nh : D ∉ m.hid := fun z => (rs.hd D z).1 hD
  refine ⟨(x.kl D _ upd_same nl).1, ⟨fun a o q n => ?_, x.len, x.pl, rfl⟩, rs'.unhide e nh, Wk.unhide e⟩
  have ne : a ≠ D := ne_of_none q hD
  obtain ⟨h1, h2⟩ := x.kl a o (by rw [upd_ne ne]; exact q) n
  exact ⟨by rw [del_ne ne]; exact h1, h2⟩
end
theorem Rs.bind_ok {α β : Type} {r : Rs α} {f : α → Sto → Rs β} {b : β} {s : Sto} (h : r.bind f = .ok b s) : ∃ a s1, r = .ok a s1 ∧ f a s1 = .ok b s := by
  cases r with
  | ok a s1 => exact ⟨a, s1, rfl, h⟩
  | ex _ _ _ => cases h
  | no => cases h
/-- a comprehension's turn -/
def turnF (C : Cal) (elt tg cnd : IE) (e : Sl) : Vl → Sto → Rs (Option Vl) := fun v s => match setTgV tg v e with
  | none => .no
  | some e1 => (tst C cnd e1 s).bind fun b s => if b then (ev C elt e1 s).bind fun x s => .ok (some x) s else .ok none s
theorem post_ok {α β : Type} {K : PySem.W.Frag} {m : Mu} {H : Hp} {s : Sto} {R : Mu → Hp → α → β → Prop} {E : XK} {Q : β → Hp → Prop} {r : Rs α} {a : α} (h : r = .ok a s) (f : ∀ m' H' b, Ext m H m' H' → RS K m' H' s → R m' H' a b → Q b H') : Post K cl R E Q m H r := by
  subst h; exact f
theorem comp_turn {K : PySem.W.Frag} {m : Mu} {Gh H'' : Hp} {s s' : Sto} {D : Addr} {acc : List Vl} {ws : List V} {e : Sl} {σ : L2.St} {elt tg cnd : IE} {own : List Nat} {u : Vl} {x : V} {o : Option Vl} {P : Hp → Prop}
    (rs : RS K m Gh s) (hD : Gh D = none) (rv : RVs K m Gh acc ws) (re : RE K m Gh e σ) (hk : ∀ a o, upd Gh D (.lst ws) a = some o → H'' a = some o) (ru : RV K (m.hide D) H'' u x)
    (ht : turnF C elt tg cnd (wipe e own) u s = .ok o s') (hsub : ∀ i ∈ tgS tg, i ∈ own) (hsz : ∀ v, o = some v → acc.length < sizeLine)
    (cont : ∀ m' G' ws', Ext m Gh m' G' → G' D = none → RS K m' G' s' → RVs K m' G' (acc ++ o.toList) ws' → P (upd G' D (.lst ws'))) :
    tG K tg x (L2.wipe σ own) H'' fun σ2 H2 => L2.wipe σ2 own = L2.wipe σ own ∧ tC K cl C noW cnd σ2 H2 fun b H3 =>
      if b = true then tE K cl C noW elt σ2 H3 fun y H4 => ∃ acc, H4 D = some (.lst acc) ∧ acc.length < sizeLine ∧ P (upd H4 D (.lst (acc ++ [y]))) else P H3 := by
  have x1 : Ext (m.hide D) (upd Gh D (.lst ws)) (m.hide D) H'' := Ext.same hk
  have w1 : Wk m Gh (m.hide D) H'' := (Wk.hide hD).trans x1.wk
  have rs1 : RS K (m.hide D) H'' s := (rs.hide hD).same hk
  have re1 : RE K (m.hide D) H'' (wipe e own) (L2.wipe σ own) := (re.wk w1).wipe own
  unfold turnF at ht
  cases hs : setTgV tg u (wipe e own) with
  | none => rw [hs] at ht; cases ht
  | some e1 =>
  rw [hs] at ht
  obtain ⟨b, s1, ht1, ht2⟩ := Rs.bind_ok ht
  refine ⟨_, _, _, _, re1, ru, hs, fun σ2 re2 hsame => ⟨wipe_wipe (hsame.sub hsub), _, _, _, re2, rs1, post_ok ht1 fun m3 H3 b' x3 rs3 eb => ?_⟩⟩
  have eb : b = b' := eb
  subst eb
  cases b with
  | false =>
    simp only [Bool.false_eq_true, if_false] at ht2 ⊢
    cases ht2
    obtain ⟨g1, g2, g3, g4⟩ := unhide_all rs hD (x1.trans x3) rs3
    have := cont _ _ ws g2 del_self g3 (by
      rw [show acc ++ (none : Option Vl).toList = acc from List.append_nil acc]
      exact rv.ext g2)
    rwa [upd_del' g1] at this
  | true =>
    simp only [if_true] at ht2 ⊢
    obtain ⟨v, s2, ht3, ht4⟩ := Rs.bind_ok ht2
    cases ht4
    refine ⟨_, _, _, re2.ext x3, rs3, post_ok ht3 fun m4 H4 y x4 rs4 ry => ?_⟩
    obtain ⟨g1, g2, g3, g4⟩ := unhide_all rs hD (x1.trans (x3.trans x4)) rs4
    refine ⟨ws, g1, by rw [← rv.length]; exact hsz v rfl, ?_⟩
    have := cont _ _ (ws ++ [y]) g2 del_self g3 (RVs.app (rv.ext g2) (RVs.one (ry.wk g4)))
    rwa [upd_del] at this
end
end SM

set_option maxHeartbeats 1000000
/-! SM: comprehensions, and every expression. -/
namespace SM
open PySem L2 PySem.Spec PyProof.Rows
section
variable {G : Sg} {N : List Str} {cl : Nat → Value} {C : Cal} {k : Nat}
theorem snd_frz {a : IE} (ha : OkE G N cl C k a) : OkE G N cl C k (.frz a) := by
  intro sc fnB W X c x h
  refine PE.weak (ha c (x := x) h) fun σ H Q ⟨m, e, s, re, rs, h⟩ => ?_
  refine tE_k re rs h fun x H1 m1 v s1 re1 _ rs1 rv1 h1 => ?_
  cases v with
  | d y => exact Post.here (R := RV X.K) (a := Vl.d y) rs1 rv1 h1
  | r n =>
    have h1 : Post X.K cl (RV X.K) (WE W σ) Q m1 H1 (ofP ((listAt n s1).bind fun vs => (frzL vs s1).bind fun p => (listAt n p.2).map fun _ => (Vl.d (.list p.1), p.2.set n none))) := h1
    have lst : ∀ {st : Sto} {us : List Vl}, listAt n st = some us → st[n]? = some (some (.lst us)) := fun {st us} q => by
      unfold listAt at q
      split at q
      · cases q; assumption
      · cases q
    cases q : listAt n s1 with
    | none => rw [q] at h1; exact h1.elim
    | some vs =>
      rw [q] at h1
      cases q2 : frzL vs s1 with
      | none => simp [q2] at h1; exact h1.elim
      | some p =>
        simp [q2] at h1
        cases q3 : listAt n p.2 with
        | none => simp [q3] at h1; exact h1.elim
        | some us =>
          simp [q3] at h1
          obtain ⟨a, ws, rfl, g1, g2, g3⟩ := rs1.get q rv1
          obtain ⟨m2, f1, f2, f3⟩ := RS.frzL rs1 g3 q2
          obtain ⟨a2, ws2, k1, k2, _⟩ := f2.at_ n us (lst q3)
          have ea : a2 = a := by
            rcases f1.pl n (List.getElem?_eq_some_iff.mp g1).1 with z | z
            · rw [z, g1] at k1; cases k1; rfl
            · rw [z] at k1; cases k1
          subst ea
          obtain ⟨e1, e2, e3⟩ := f2.freeze (lst q3) k1 g2 f3
          exact h1 _ _ _ (f1.trans e1) e2 e3
theorem snd_frd {a : IE} (ha : OkE G N cl C k a) : OkE G N cl C k (.frd a) := by
  intro sc fnB W X c x h
  cases x <;> first | (cases h; done) | skip
  refine ⟨fun pins st σ H Q I ⟨m, e, s, re, rs, h0⟩ => ?_⟩
  refine thn ((ha c (show chk G N sc a _ = true from h)).run pins st σ H (fun x H1 => ∃ m1 v s1, RS X.K m1 H1 s1 ∧ RV X.K m1 H1 v x ∧ Post X.K cl (RV X.K) (WE W σ) Q m1 H1 (ofP (frdV v s1))) I (tE_k re rs h0 fun x H1 m1 v s1 re1 _ rs1 rv1 h1 => ⟨m1, v, s1, rs1, rv1, h1⟩)) fun u st1 ⟨x, H1, I1, rx, m1, v, s1, rs1, rv1, h1⟩ => ?_
  cases v with
  | d y => exact h1.elim
  | r n =>
    unfold frdV at h1
    cases qd : dictAt n s1 with
    | some kvs =>
      simp only [qd] at h1
      have q1' : s1[n]? = some (some (.dct kvs)) := by
        unfold dictAt at qd
        split at qd
        · cases qd; assumption
        · cases qd
      obtain ⟨a, xs, rfl, hH, fr⟩ := rs1.freezeD q1' rv1
      obtain ⟨o, I2⟩ := dD_frz I1 hH
      exact ⟨.ref a, _, I2, rx, h1 _ _ _ (fr o).1 (fr o).2.1 (fr o).2.2⟩
    | none =>
      simp only [qd] at h1
      exact h1.elim
/-- list(range(j)) -/
theorem lrg_fin {mf : Bool} {a : IE} (ha : OkE G N cl C k a) {sc : Scope} {fnB : Str → Bool} {W : WX} {X : Cx} (c : Cok G N cl C k fnB sc W X) {y z : Str} {p p2 pos pos2 : Pos} {a2 : Expr} (h : chk G N sc (.lrg mf a) (.Call (.Name y p) [.Call (.Name z p2) [a2] [] pos2] [] pos) = true) :
    PE X (.Call (.Name y p) [.Call (.Name z p2) [a2] [] pos2] [] pos) (tE X.K cl C W (.lrg mf a)) := by
  simp only [chk, Bool.and_eq_true, decide_eq_true_eq] at h
  obtain ⟨⟨⟨⟨⟨⟨e1, h1⟩, h2⟩, e2⟩, h3⟩, h4⟩, h5⟩ := h
  subst e1
  subst e2
  refine PE.weak (pe_listRg c.calm (c.gl h1) (c.bi _ h2) (prg_1 (c.gl h3) (c.bi _ h4) (ha c h5) (star_ok h5 _ _)) (by rfl)) fun σ H Q ⟨m, e, s, re, rs, h⟩ => ?_
  refine tE_k re rs h fun x H1 m1 v s1 re1 _ rs1 rv1 h1 => ?_
  have pp := h1.pure
  unfold lrgV at pp
  split at pp
  · rename_i j
    split at pp
    · rename_i hj
      have ex : x = .int j := rv1
      subst ex
      have rr : ∀ l : List Nat, RVs X.K m1 H1 (l.map fun i : Nat => Vl.d (.int i)) (l.map fun i => V.int (0 + (i : Nat))) := fun l => by
        induction l with
        | nil => exact rfl
        | cons i l ih => exact ⟨_, _, rfl, by show V.int _ = V.int _; rw [Int.zero_add], ih⟩
      refine ⟨j, rfl, ⟨by omega, by omega, by omega, by omega, by omega⟩, fun q hq => ?_⟩
      have rv : RVs X.K m1 H1 ((List.range j.toNat).map fun i : Nat => Vl.d (.int i)) (rgV 0 j) := by
        unfold rgV
        rw [Int.sub_zero]
        exact rr _
      exact mkL_new rs1 rv hq pp
    · exact pp.elim
  · exact pp.elim
theorem snd_lrg {mf : Bool} {a : IE} (ha : OkE G N cl C k a) : OkE G N cl C k (.lrg mf a) := by
  intro sc fnB W X c x h
  cases x <;> first | (cases h; done) | skip
  rename_i f as ks pos
  cases f <;> first | (cases h; done) | skip
  rename_i y p
  cases as with
  | nil => cases ks <;> cases h
  | cons a1 as =>
  cases a1
  case Call f2 as2 ks2 pos2 =>
    cases f2
    case Name z p2 =>
      cases as2 with
      | nil => cases ks2 <;> cases as <;> cases ks <;> cases h
      | cons a2 as2 =>
      cases as2 with
      | cons _ _ => cases ks2 <;> cases as <;> cases ks <;> cases h
      | nil =>
      cases ks2 <;> cases as <;> cases ks <;> first | (cases h; done) | skip
      exact lrg_fin ha c h
    all_goals (cases as2 <;> cases ks2 <;> cases as <;> cases ks <;> cases h)
  all_goals (cases as <;> cases ks <;> cases h)
theorem foldi {sc : Scope} {ie : IE} {tg e : Expr} (h : chki G N sc ie e = true) (env : Env) (x : Value) : foldedSetIterable e env x = pure x := by
  cases ie with
  | itv a => exact fold_ok h env x
  | itd a => exact fold_ok h env x
  | _ => cases e <;> first | rfl | (cases h; done)
theorem listAt_of {n : Nat} {s : Sto} {vs : List Vl} (q : listAt n s = some vs) : s[n]? = some (some (.lst vs)) := by
  unfold listAt at q
  split at q
  · cases q; assumption
  · cases q
/-- the end of a comprehension -/
theorem comp_end {K : PySem.W.Frag} {mf : Bool} {m1 m : Mu} {H1 Gh : Hp} {s2 : Sto} {D : Addr} {vs : List Vl} {ws : List V} {E : XK} {Q : VK} (p : Post K cl (RV K) E Q m1 H1 (ofP (mkL mf vs s2))) (x : Ext m1 H1 m Gh) (rs : RS K m Gh s2) (hD : Gh D = none) (rv : RVs K m Gh vs ws) : Q (.ref D) (upd Gh D (.lst ws)) := by
  have p := Post.ext x p
  refine mkL_new (K := K) (mf := mf) rs rv hD ?_
  cases q : mkL mf vs s2 with
  | none => rw [q] at p; exact p.elim
  | some r => rw [q] at p; obtain ⟨a, s'⟩ := r; exact p
theorem mkL_le {K : PySem.W.Frag} {mf : Bool} {m : Mu} {H : Hp} {s : Sto} {vs : List Vl} {E : XK} {Q : VK} (p : Post K cl (RV K) E Q m H (ofP (mkL mf vs s))) : vs.length ≤ sizeLine := by
  unfold mkL at p
  split at p
  · assumption
  · exact p.elim
theorem appO {acc r : List Vl} (o : Option Vl) : acc ++ (match o with | some v => v :: r | none => r) = (acc ++ o.toList) ++ r := by
  cases o <;> simp
theorem comp_reads {fnB : Str → Bool} {sc : Scope} {W : WX} {X : Cx} {mf : Bool} {elt tg it cnd : IE} {own : List Nat} (hsub : ∀ i ∈ tgS tg, i ∈ own) : ∀ σ H Q, tE X.K cl C W (.comp mf elt tg it cnd own) σ H Q → tLc (tI X.K cl C W it) (tG X.K tg) (tC X.K cl C noW cnd) (tE X.K cl C noW elt) own σ H Q := by
  intro σ H Q ⟨m, e, s, re, rs, h⟩
  refine ⟨m, e, s, re, rs, post_k h fun J H1 m1 I s1 x1 rs1 ri p => ?_⟩
  have re1 := re.ext x1
  intro D hD
  replace p : Post X.K cl (RV X.K) (WE W σ) Q m1 H1 ((noex (cmI (turnF C elt tg cnd (wipe e own)) I s1)).bind fun vs s => ofP (mkL mf vs s)) := p
  cases hq : cmI (turnF C elt tg cnd (wipe e own)) I s1 with
  | ex _ _ _ => rw [hq] at p; exact p.elim
  | no => rw [hq] at p; exact p.elim
  | ok vs s2 =>
  rw [hq] at p
  replace p : Post X.K cl (RV X.K) (WE W σ) Q m1 H1 (ofP (mkL mf vs s2)) := p
  have hlen := mkL_le p
  cases I with
  | vals ds =>
    obtain ⟨Gd, Y, wk, hg, hy⟩ := ri
    have hq : cmL (turnF C elt tg cnd (wipe e own)) ds s1 = .ok vs s2 := hq
    refine lc_it wk (fun i Hh => ∃ (m' : Mu) (Gh : Hp) (s' : Sto) (acc : List Vl) (ws : List V) (rest : List Vl), Hh = upd Gh D (.lst ws) ∧ Gh D = none ∧ Ext m1 H1 m' Gh ∧ RS X.K m' Gh s' ∧ RVs X.K m' Gh acc ws ∧
      cmL (turnF C elt tg cnd (wipe e own)) (ds.drop i) s' = .ok rest s2 ∧ vs = acc ++ rest) ?_ ?_ ?_ ?_
    · exact ⟨m1, H1, s1, [], [], vs, rfl, hD, Ext.refl, rs1, rfl, hq, rfl⟩
    · rintro i Hh - ⟨m', Gh, s', acc, ws, rest, rfl, g1, g2, g3, g4, g5, g6⟩
      exact hg m' _ (g2.trans (Ext.new g1)).wk
    · rintro i x Hh H'' hi ⟨m', Gh, s', acc, ws, rest, rfl, g1, g2, g3, g4, g5, g6⟩ y
      rw [List.drop_eq_getElem_cons hi] at g5
      obtain ⟨o, s3, t1, t2⟩ := Rs.bind_ok g5
      obtain ⟨r', s4, t3, t4⟩ := Rs.bind_ok t2
      injection t4 with t4 t5
      subst t5
      have wkh : Wk m1 H1 (m'.hide D) (upd Gh D (.lst ws)) := g2.wk.trans (Wk.hide g1)
      obtain ⟨k1, d, k2, k3⟩ := hy _ _ _ _ _ _ wkh (g3.hide g1) hi y
      rw [List.getElem?_eq_getElem hi] at k2
      injection k2 with k2
      have hvs : vs = (acc ++ o.toList) ++ r' := by rw [g6, ← t4]; exact appO o
      refine comp_turn (u := .d d) g3 g1 g4 (re1.ext g2) k1 k3 (by rw [← k2]; exact t1) hsub (fun v ho => ?_) (fun m'' G'' ws'' q1 q2 q3 q4 => ?_)
      · subst ho
        have : vs.length = acc.length + 1 + r'.length := by rw [hvs]; simp; omega
        omega
      · exact ⟨m'', G'', s3, _, ws'', r', rfl, q2, g2.trans q1, q3, q4, t3, hvs⟩
    · rintro Hh ⟨m', Gh, s', acc, ws, rest, rfl, g1, g2, g3, g4, g5, g6⟩
      rw [List.drop_length] at g5
      cases g5
      rw [List.append_nil] at g6
      subst g6
      exact comp_end p g2 g3 g1 g4
  | ref n =>
    obtain ⟨a, ha, rfl⟩ := ri
    have hq : cmR (turnF C elt tg cnd (wipe e own)) n ((listAt n s1).map List.length |>.getD 0) 0 s1 = .ok vs s2 := hq
    refine ⟨fun i f Hh => ∃ (m' : Mu) (Gh : Hp) (s' : Sto) (acc : List Vl) (ws : List V) (rest : List Vl), Hh = upd Gh D (.lst ws) ∧ Gh D = none ∧ Ext m1 H1 m' Gh ∧ RS X.K m' Gh s' ∧ RVs X.K m' Gh acc ws ∧
      cmR (turnF C elt tg cnd (wipe e own)) n f i s' = .ok rest s2 ∧ vs = acc ++ rest, ⟨_, m1, H1, s1, [], [], vs, rfl, hD, Ext.refl, rs1, rfl, hq, rfl⟩, ?_⟩
    rintro i f Hh ⟨m', Gh, s', acc, ws, rest, rfl, g1, g2, g3, g4, g5, g6⟩
    unfold cmR at g5
    cases ql : listAt n s' with
    | none => rw [ql] at g5; cases g5
    | some us =>
    rw [ql] at g5
    simp only at g5
    obtain ⟨a', zs, z1, z2, z3⟩ := g3.at_ n us (listAt_of ql)
    have hn1 : n < m1.l.length := (List.getElem?_eq_some_iff.mp ha).1
    have ea : a' = a := by
      rcases g2.pl n hn1 with z | z
      · rw [z, ha] at z1; cases z1; rfl
      · rw [z] at z1; cases z1
    subst ea
    have na : a' ≠ D := ne_of_none z2 g1
    have za : (upd Gh D (.lst ws)) a' = some (.lst zs) := by rw [upd_ne na]; exact z2
    cases qi : us[i]? with
    | none =>
      rw [qi] at g5
      cases g5
      rw [List.append_nil] at g6
      subst g6
      refine .inl ⟨⟨zs, SqL.of za, ?_⟩, comp_end p g2 g3 g1 g4⟩
      rw [← z3.length]
      exact List.getElem?_eq_none_iff.mp qi
    | some u =>
      rw [qi] at g5
      simp only at g5
      cases f with
      | zero => cases g5
      | succ f =>
      simp only at g5
      obtain ⟨o, s3, t1, t2⟩ := Rs.bind_ok g5
      obtain ⟨r', s4, t3, t4⟩ := Rs.bind_ok t2
      injection t4 with t4 t5
      subst t5
      obtain ⟨x, w1, w2⟩ := z3.get qi
      have hvs : vs = (acc ++ o.toList) ++ r' := by rw [g6, ← t4]; exact appO o
      refine .inr ⟨⟨zs, x, SqL.of za, w1⟩, fun Hh => ∃ (m' : Mu) (Gh : Hp) (s' : Sto) (acc : List Vl) (ws : List V) (rest : List Vl), Hh = upd Gh D (.lst ws) ∧ Gh D = none ∧ Ext m1 H1 m' Gh ∧ RS X.K m' Gh s' ∧ RVs X.K m' Gh acc ws ∧
        cmR (turnF C elt tg cnd (wipe e own)) n f (i + 1) s' = .ok rest s4 ∧ vs = acc ++ rest, fun H' q => ⟨f, Nat.lt_succ_self f, q⟩, fun x' H' y => ?_⟩
      obtain ⟨rfl, y⟩ := y
      have := y zs (SqL.of za)
      rw [w1] at this
      cases this
      refine comp_turn (u := u) g3 g1 g4 (re1.ext g2) (fun _ _ h => h) (RV.wk (Wk.hide g1) w2) t1 hsub (fun v ho => ?_) (fun m'' G'' ws'' q1 q2 q3 q4 => ?_)
      · subst ho
        have : vs.length = acc.length + 1 + r'.length := by rw [hvs]; simp; omega
        omega
      · exact ⟨m'', G'', s3, _, ws'', r', rfl, q2, g2.trans q1, q3, q4, t3, hvs⟩
theorem snd_comp {mf : Bool} {elt tg it cnd : IE} {own : List Nat} (he : OkE G N cl C k elt) (hi : OkI G N cl C k it) (hcnd : OkC G N cl C k cnd) : OkE G N cl C k (.comp mf elt tg it cnd own) := by
  intro sc fnB W X c x h
  cases x <;> first | (cases h; done) | skip
  rename_i elt' gens scope pos
  cases gens with
  | nil => cases h
  | cons g gs =>
  cases gs with
  | cons _ _ =>
    obtain ⟨_, _, _, nn⟩ := g
    cases nn with
    | negSucc _ => cases h
    | ofNat n => cases n <;> cases h
  | nil =>
  obtain ⟨tg', it', ifs', nn⟩ := g
  cases nn with
  | negSucc _ => cases h
  | ofNat nn =>
  cases nn with
  | succ _ => cases h
  | zero =>
  have h : (zipTg it tg' && chki G N sc it it' && blkC N sc scope (ownP N own) && chkG (blkF scope) (relS scope sc) N tg tg' && (tgS tg).all (fun i => decide (i ∈ own)) && chkc G N (relS scope sc) cnd ifs' && chk G N (relS scope sc) elt elt') = true := h
  simp only [Bool.and_eq_true] at h
  obtain ⟨⟨⟨⟨⟨⟨h1, h2⟩, h3⟩, h4⟩, h5⟩, h6⟩, h7⟩ := h
  have hsub : ∀ i ∈ tgS tg, i ∈ own := fun i hi => by
    have := List.all_eq_true.mp h5 i hi
    exact of_decide_eq_true this
  have blk := c.blk
  refine PE.weak (pe_lc (wi := tI X.K cl C W it) (g := tG X.K tg) (tt := tC X.K cl C noW cnd) (te := tE X.K cl C noW elt) (own := ownP N own) c.calm (by rw [c.n]; exact c.nd) (hi c h1 h2) (by rw [c.n, c.sc]; exact blkOk_by h3)
    (fun s H Ca cls fp => snd_tgV (c.blk s H scope Ca cls fp) tg tg' h4) (fun s H Ca cls fp => hcnd (c.blk s H scope Ca cls fp) h6) (fun s H Ca cls fp => he (c.blk s H scope Ca cls fp) h7) (fun x => foldi (tg := tg') h2 X.env x)) fun σ H Q q => by
    rw [own_map]
    exact comp_reads (sc := sc) (fnB := fnB) hsub σ H Q q
/-! ### a comprehension of two clauses -/
theorem comp2_reads {X : Cx} {W : WX} {mf : Bool} {elt tg it tg2 it2 cnd : IE} {own own2 : List Nat} (hsub : ∀ i ∈ tgS tg, i ∈ own) (hsub2 : ∀ i ∈ tgS tg2, i ∈ own2) : ∀ σ H Q, tE X.K cl C W (.comp2 mf elt tg it tg2 it2 cnd own own2) σ H Q →
    tLc2 (tI X.K cl C W it) (tG X.K tg) (fun σ H Q => Q true H) (tI X.K cl C noW it2) (tG X.K tg2) (tC X.K cl C noW cnd) (tE X.K cl C noW elt) own own2 σ H Q := by
  intro σ H Q ⟨m, e, s, re, rs, h⟩
  refine ⟨m, e, s, re, rs, post_k h fun J H1 m1 I s1 x1 rs1 ri p => ?_⟩
  have re1 := re.ext x1
  intro D hD
  cases I with
  | ref n => exact p.elim
  | vals ds =>
  let T : Vl → Sto → Rs (List Vl) := fun v s => match setTgV tg v (wipe e own) with
    | none => .no
    | some e1 => (itr C it2 e1 s).bind fun J s => match J with
      | .vals ys => cmL (turnF C elt tg2 cnd (wipe e1 own2)) ys s
      | .ref _ => .no
  replace p : Post X.K cl (RV X.K) (WE W σ) Q m1 H1 ((noex (cmLL T ds s1)).bind fun vs s => ofP (mkL mf vs s)) := p
  cases hq : cmLL T ds s1 with
  | ex _ _ _ => rw [hq] at p; exact p.elim
  | no => rw [hq] at p; exact p.elim
  | ok vs s2 =>
  rw [hq] at p
  replace p : Post X.K cl (RV X.K) (WE W σ) Q m1 H1 (ofP (mkL mf vs s2)) := p
  have hlen := mkL_le p
  obtain ⟨Gd, Y, wk, hg, hy⟩ := ri
  refine ⟨fun i k Hh => k = ds.length - i ∧ i ≤ ds.length ∧ ∃ (m' : Mu) (Gh : Hp) (s' : Sto) (acc : List Vl) (ws : List V) (rest : List Vl), Hh = upd Gh D (.lst ws) ∧ Gh D = none ∧ Ext m1 H1 m' Gh ∧ RS X.K m' Gh s' ∧ RVs X.K m' Gh acc ws ∧
      cmLL T (ds.drop i) s' = .ok rest s2 ∧ vs = acc ++ rest, ⟨_, rfl, Nat.zero_le _, m1, H1, s1, [], [], vs, rfl, hD, Ext.refl, rs1, rfl, hq, rfl⟩, ?_⟩
  rintro i k Hh ⟨rfl, hi, m', Gh, s', acc, ws, rest, rfl, g1, g2, g3, g4, g5, g6⟩
  have gd := hg (m'.hide D) (upd Gh D (.lst ws)) (g2.wk.trans (Wk.hide g1))
  by_cases hlt : i < ds.length
  · refine .inr ⟨wk.goes i _ hlt gd, ?_⟩
    rw [List.drop_eq_getElem_cons hlt] at g5
    obtain ⟨a, s3, t1, t2⟩ := Rs.bind_ok g5
    obtain ⟨r', s4, t3, t4⟩ := Rs.bind_ok t2
    injection t4 with t4 t5
    subst t5
    have hvs : vs = (acc ++ a) ++ r' := by rw [g6, ← t4, List.append_assoc]
    refine ⟨fun Hh => ∃ (m' : Mu) (Gh : Hp) (ws : List V), Hh = upd Gh D (.lst ws) ∧ Gh D = none ∧ Ext m1 H1 m' Gh ∧ RS X.K m' Gh s3 ∧ RVs X.K m' Gh (acc ++ a) ws, fun H' ⟨m', Gh, ws, q1, q2, q3, q4, q5⟩ => ⟨ds.length - (i + 1), by omega, rfl, hlt, m', Gh, s3, acc ++ a, ws, r', q1, q2, q3, q4, q5, t3, hvs⟩, fun x H' y => ?_⟩
    have y := wk.yields i _ x H' hlt gd y
    obtain ⟨k1, d, k2, k3⟩ := hy _ _ _ _ _ _ (g2.wk.trans (Wk.hide g1)) (g3.hide g1) hlt y
    rw [List.getElem?_eq_getElem hlt] at k2
    injection k2 with k2
    subst k2
    have x1 : Ext (m'.hide D) (upd Gh D (.lst ws)) (m'.hide D) H' := Ext.same k1
    have w1 : Wk m' Gh (m'.hide D) H' := (Wk.hide g1).trans x1.wk
    have rs1' : RS X.K (m'.hide D) H' s' := (g3.hide g1).same k1
    have re1' : RE X.K (m'.hide D) H' (wipe e own) (L2.wipe σ own) := ((re1.ext g2).wk w1).wipe own
    have t1 : (match setTgV tg (Vl.d ds[i]) (wipe e own) with
      | none => Rs.no
      | some e1 => (itr C it2 e1 s').bind fun J s => match J with
        | .vals ys => cmL (turnF C elt tg2 cnd (wipe e1 own2)) ys s
        | .ref _ => .no) = .ok a s3 := t1
    cases hs : setTgV tg (Vl.d ds[i]) (wipe e own) with
    | none => rw [hs] at t1; cases t1
    | some e1 =>
    rw [hs] at t1
    obtain ⟨J2, s5, u1, u2⟩ := Rs.bind_ok t1
    cases J2 with
    | ref n => cases u2
    | vals ys =>
    have u2 : cmL (turnF C elt tg2 cnd (wipe e1 own2)) ys s5 = .ok a s3 := u2
    refine ⟨_, _, _, _, re1', (show RV X.K (m'.hide D) H' (Vl.d ds[i]) x from k3), hs, fun σ2 re2 hsame => ⟨wipe_wipe (hsame.sub hsub), ?_⟩⟩
    refine (if_pos rfl).mpr ?_
    refine ⟨_, _, _, re2, rs1', post_ok u1 fun m3 H3 J1 x3 rs3 ri1 => ?_⟩
    obtain ⟨Gd1, Y1, wk1, hg1, hy1⟩ := ri1
    obtain ⟨b1, b2, b3, b4⟩ := unhide_all g3 g1 (x1.trans x3) rs3
    have re3 : RE X.K m3 H3 e1 σ2 := re2.ext x3
    refine ⟨fun j k Hh => k = ys.length - j ∧ j ≤ ys.length ∧ ∃ (mm : Mu) (Gh : Hp) (s' : Sto) (acc' : List Vl) (ws : List V) (rest' : List Vl), Hh = upd Gh D (.lst ws) ∧ Gh D = none ∧ Ext (m3.show m'.hid) (SM.del H3 D) mm Gh ∧ RS X.K mm Gh s' ∧ RVs X.K mm Gh (acc ++ acc') ws ∧
        cmL (turnF C elt tg2 cnd (wipe e1 own2)) (ys.drop j) s' = .ok rest' s3 ∧ a = acc' ++ rest', ⟨_, rfl, Nat.zero_le _, m3.show m'.hid, SM.del H3 D, s5, [], ws, a, (upd_del' b1).symm, del_self, Ext.refl, b3, by rw [List.append_nil]; exact g4.ext b2, u2, rfl⟩, ?_⟩
    rintro j k Hh ⟨rfl, hj, m4, G4, s6, acc', ws', rest', rfl, c1, c2, c3, c4, c5, c6⟩
    have wk4 : Wk m3 H3 (m4.hide D) (upd G4 D (.lst ws')) := (b4.trans c2.wk).trans (Wk.hide c1)
    have gd1 := hg1 _ _ wk4
    by_cases hjl : j < ys.length
    · refine .inr ⟨wk1.goes j _ hjl gd1, ?_⟩
      rw [List.drop_eq_getElem_cons hjl] at c5
      obtain ⟨o, s7, v1, v2⟩ := Rs.bind_ok c5
      obtain ⟨r2, s8, v3, v4⟩ := Rs.bind_ok v2
      injection v4 with v4 v5
      subst v5
      have ha : a = (acc' ++ o.toList) ++ r2 := by rw [c6, ← v4]; exact appO o
      refine ⟨fun Hh => ∃ (m' : Mu) (Gh : Hp) (ws : List V), Hh = upd Gh D (.lst ws) ∧ Gh D = none ∧ Ext m4 G4 m' Gh ∧ RS X.K m' Gh s7 ∧ RVs X.K m' Gh (acc ++ (acc' ++ o.toList)) ws, fun H' ⟨m5, G5, ws5, q1, q2, q3, q4, q5⟩ => ⟨ys.length - (j + 1), by omega, rfl, hjl, m5, G5, s7, acc' ++ o.toList, ws5, r2, q1, q2, ?_, q4, q5, v3, ha⟩, fun x2 H'' y2 => ?_⟩
      · exact c2.trans q3
      · have y2 := wk1.yields j _ x2 H'' hjl gd1 y2
        obtain ⟨k1', d', k2', k3'⟩ := hy1 _ _ _ _ _ _ wk4 (c3.hide c1) hjl y2
        rw [List.getElem?_eq_getElem hjl] at k2'
        injection k2' with k2'
        subst k2'
        have reD : RE X.K m4 G4 e1 σ2 := (re3.wk b4).wk c2.wk
        refine comp_turn (u := .d ys[j]) c3 c1 c4 reD k1' k3' v1 hsub2 (fun v ho => ?_) (fun m'' G'' ws'' q1 q2 q3 q4 => ?_)
        · subst ho
          have : vs.length = (acc.length + (acc'.length + 1 + r2.length)) + r'.length := by rw [hvs, ha]; simp; omega
          simp only [List.length_append]
          omega
        · exact ⟨m'', G'', ws'', rfl, q2, q1, q3, by rw [← List.append_assoc]; exact q4⟩
    · have ej : j = ys.length := by omega
      subst ej
      rw [List.drop_length] at c5
      injection c5 with c5 c7
      subst c7
      rw [← c5, List.append_nil] at c6
      subst c6
      refine .inl ⟨wk1.stops _ gd1, m4, G4, ws', rfl, c1, ?_, c3, c4⟩
      exact g2.trans (b2.trans c2)
  · have ei : i = ds.length := by omega
    subst ei
    rw [List.drop_length] at g5
    injection g5 with g5 g7
    subst g7
    rw [← g5, List.append_nil] at g6
    subst g6
    exact .inl ⟨wk.stops _ gd, comp_end p g2 g3 g1 g4⟩
theorem snd_comp2 {mf : Bool} {elt tg it tg2 it2 cnd : IE} {own own2 : List Nat} (he : OkE G N cl C k elt) (hi : OkI G N cl C k it) (hi2 : OkI G N cl C k it2) (hcnd : OkC G N cl C k cnd) : OkE G N cl C k (.comp2 mf elt tg it tg2 it2 cnd own own2) := by
  intro sc fnB W X c x h
  cases x <;> first | (cases h; done) | skip
  rename_i elt' gens scope pos
  rcases gens with _ | ⟨⟨tg', it', ifs', nn⟩, _ | ⟨⟨tg2', it2', ifs2', nn2⟩, _ | ⟨_, _⟩⟩⟩
  · cases h
  · exact absurd h (by simp [chk])
  · by_cases h0 : nn = 0 ∧ nn2 = 0 ∧ ifs' = []
    · obtain ⟨rfl, rfl, rfl⟩ := h0
      simp only [chk, Bool.and_eq_true] at h
      obtain ⟨⟨⟨⟨⟨⟨⟨⟨⟨⟨⟨h1, h2⟩, h3⟩, h4⟩, h5⟩, g1⟩, g2⟩, g3⟩, g4⟩, g5⟩, h6⟩, h7⟩ := h
      have hsub : ∀ i ∈ tgS tg, i ∈ own := fun i hi => of_decide_eq_true (List.all_eq_true.mp h5 i hi)
      have hsub2 : ∀ i ∈ tgS tg2, i ∈ own2 := fun i hi => of_decide_eq_true (List.all_eq_true.mp g4 i hi)
      have hsub3 : ∀ i ∈ own2, i ∈ own := fun i hi => of_decide_eq_true (List.all_eq_true.mp g5 i hi)
      refine PE.weak (pe_lc2 (wi := tI X.K cl C W it) (g := tG X.K tg) (tt := fun σ H Q => Q true H) (wi1 := tI X.K cl C noW it2) (g1 := tG X.K tg2) (tt1 := tC X.K cl C noW cnd) (te := tE X.K cl C noW elt) (own := ownP N own) (vs1 := own2) c.calm (by rw [c.n]; exact c.nd) (hi c h1 h2) (by rw [c.n, c.sc]; exact blkOk_by h3) (by rw [own_map]; exact hsub3)
        (fun s H Ca cls fp => snd_tgV (c.blk s H scope Ca cls fp) tg tg' h4) (fun s H Ca cls fp => pts_nil) (fun s H Ca cls fp => hi2 (c.blk s H scope Ca cls fp) g1 g2) (fun s H Ca cls fp => snd_tgV (c.blk s H scope Ca cls fp) tg2 tg2' g3) (fun s H Ca cls fp => hcnd (c.blk s H scope Ca cls fp) h6)
        (fun s H Ca cls fp => he (c.blk s H scope Ca cls fp) h7) (fun x => foldi (tg := tg') h2 X.env x) (fun env x => foldi (tg := tg2') g2 env x)) fun σ H Q q => by
        rw [own_map]
        exact comp2_reads hsub hsub2 σ H Q q
    · exfalso
      unfold chk at h
      split at h <;> simp_all
  · exact absurd h (by simp [chk])
/-! ### dict comprehensions -/
theorem snd_dnew : OkE G N cl C k .dnew := by
  intro sc fnB W X c x h
  cases x <;> first | (cases h; done) | skip
  rename_i ks vs pos
  cases ks with
  | cons _ _ => cases h
  | nil =>
  cases vs with
  | cons _ _ => cases h
  | nil =>
  refine PE.weak pe_dnewD fun σ H Q ⟨m, e, s, re, rs, h⟩ => ?_
  intro p hp
  obtain ⟨x, rs', rv⟩ := rs.allocO (u := DctO p []) (o := .dct []) hp ⟨[], upd_same, rfl⟩
  exact h _ _ _ x rs' rv
def turnD (C : Cal) (kx vx tg cnd : IE) (e : Sl) : Vl → Sto → Rs (Option (PyData × PyData)) := fun v s => match setTgV tg v e with
  | none => .no
  | some e1 => (tst C cnd e1 s).bind fun b s => if b then (ev C kx e1 s).bind fun x s => (ev C vx e1 s).bind fun y s => ofO ((pairD x y).map some) s else .ok none s
theorem pairD_some {x y : Vl} {p : PyData × PyData} (h : pairD x y = some p) : x = .d p.1 ∧ y = .d p.2 := by
  unfold pairD at h
  split at h
  · cases h; exact ⟨rfl, rfl⟩
  · cases h
theorem dStep_some {acc acc' : List (PyData × PyData)} {k v : PyData} (h : dStep acc k v = some acc') : (keyT k).isSome = true ∧ acc.length < sizeLine ∧ acc' = dPut acc k v := by
  unfold dStep at h
  split at h
  · rename_i c; cases h; exact ⟨c.1, by rw [sizeLine_eq]; exact c.2, rfl⟩
  · cases h
theorem ofO_ok {α : Type} {o : Option α} {s s' : Sto} {a : α} (h : ofO o s = .ok a s') : o = some a ∧ s' = s := by
  cases o with
  | none => cases h
  | some b => cases h; exact ⟨rfl, rfl⟩
theorem dcomp_reads {X : Cx} {W : WX} {mf : Bool} {kx vx tg it cnd : IE} {own : List Nat} (hsub : ∀ i ∈ tgS tg, i ∈ own) : ∀ σ H Q, tE X.K cl C W (.dcomp mf kx vx tg it cnd own) σ H Q →
    tDcD X.K (tI X.K cl C W it) (tG X.K tg) (tC X.K cl C noW cnd) (tE X.K cl C noW kx) (tE X.K cl C noW vx) own σ H Q := by
  intro σ H Q ⟨m, e, s, re, rs, h⟩
  refine ⟨m, e, s, re, rs, post_k h fun J H1 m1 I s1 x1 rs1 ri p => ?_⟩
  have re1 := re.ext x1
  intro D hD
  cases I with
  | ref n => exact p.elim
  | vals ds =>
  replace p : Post X.K cl (RV X.K) (WE W σ) Q m1 H1 ((noex (cmD (turnD C kx vx tg cnd (wipe e own)) ds [] s1)).bind fun kvs s => .ok (mkD mf kvs s).1 (mkD mf kvs s).2) := p
  cases hq : cmD (turnD C kx vx tg cnd (wipe e own)) ds [] s1 with
  | ex _ _ _ => rw [hq] at p; exact p.elim
  | no => rw [hq] at p; exact p.elim
  | ok kvs s2 =>
  rw [hq] at p
  replace p : Post X.K cl (RV X.K) (WE W σ) Q m1 H1 (.ok (mkD mf kvs s2).1 (mkD mf kvs s2).2) := p
  obtain ⟨Gd, Y, wk, hg, hy⟩ := ri
  refine ⟨fun i k Hh => k = ds.length - i ∧ i ≤ ds.length ∧ ∃ (m' : Mu) (Gh : Hp) (s' : Sto) (acc : List (PyData × PyData)) (xs : List (NestedKey × Addr × Value)), Hh = upd Gh D (DctO D xs) ∧ Gh D = none ∧ Ext m1 H1 m' Gh ∧ RS X.K m' Gh s' ∧ RepD X.K m' Gh acc xs ∧
      cmD (turnD C kx vx tg cnd (wipe e own)) (ds.drop i) acc s' = .ok kvs s2, ⟨_, rfl, Nat.zero_le _, m1, H1, s1, [], [], rfl, hD, Ext.refl, rs1, rfl, hq⟩, ?_⟩
  rintro i k Hh ⟨rfl, hi, m', Gh, s', acc, xs, rfl, g1, g2, g3, g4, g5⟩
  have gd := hg (m'.hide D) (upd Gh D (DctO D xs)) (g2.wk.trans (Wk.hide g1))
  by_cases hlt : i < ds.length
  · refine .inr ⟨wk.goes i _ hlt gd, ?_⟩
    rw [List.drop_eq_getElem_cons hlt] at g5
    obtain ⟨o, s3, t1, t2⟩ := Rs.bind_ok g5
    refine ⟨fun Hh => ∃ (m' : Mu) (Gh : Hp) (acc' : List (PyData × PyData)) (xs : List (NestedKey × Addr × Value)), Hh = upd Gh D (DctO D xs) ∧ Gh D = none ∧ Ext m1 H1 m' Gh ∧ RS X.K m' Gh s3 ∧ RepD X.K m' Gh acc' xs ∧ cmD (turnD C kx vx tg cnd (wipe e own)) (ds.drop (i + 1)) acc' s3 = .ok kvs s2,
      fun H' ⟨m', Gh, acc', xs, q1, q2, q3, q4, q5, q6⟩ => ⟨ds.length - (i + 1), by omega, rfl, hlt, m', Gh, s3, acc', xs, q1, q2, q3, q4, q5, q6⟩, fun x H' y => ?_⟩
    have y := wk.yields i _ x H' hlt gd y
    obtain ⟨k1, d, k2, k3⟩ := hy _ _ _ _ _ _ (g2.wk.trans (Wk.hide g1)) (g3.hide g1) hlt y
    rw [List.getElem?_eq_getElem hlt] at k2
    injection k2 with k2
    subst k2
    have x1 : Ext (m'.hide D) (upd Gh D (DctO D xs)) (m'.hide D) H' := Ext.same k1
    have w1 : Wk m' Gh (m'.hide D) H' := (Wk.hide g1).trans x1.wk
    have rs1' : RS X.K (m'.hide D) H' s' := (g3.hide g1).same k1
    have re1' : RE X.K (m'.hide D) H' (wipe e own) (L2.wipe σ own) := ((re1.ext g2).wk w1).wipe own
    unfold turnD at t1
    cases hs : setTgV tg (Vl.d ds[i]) (wipe e own) with
    | none => rw [hs] at t1; cases t1
    | some e1 =>
    rw [hs] at t1
    obtain ⟨b, s4, ht1, ht2⟩ := Rs.bind_ok t1
    refine ⟨_, _, _, _, re1', (show RV X.K (m'.hide D) H' (Vl.d ds[i]) x from k3), hs, fun σ2 re2 hsame => ⟨wipe_wipe (hsame.sub hsub), _, _, _, re2, rs1', post_ok ht1 fun m3 H3 b' x3 rs3 eb => ?_⟩⟩
    have eb : b = b' := eb
    subst eb
    cases b with
    | false =>
      simp only [Bool.false_eq_true, if_false] at ht2 ⊢
      injection ht2 with h1 h2
      subst h1 h2
      obtain ⟨b1, b2, b3, b4⟩ := unhide_all g3 g1 (x1.trans x3) rs3
      exact ⟨m3.show m'.hid, SM.del H3 D, acc, xs, (upd_del' b1).symm, del_self, g2.trans b2, b3, RepD.kp b2.kp g4, t2⟩
    | true =>
      simp only [if_true] at ht2 ⊢
      obtain ⟨vk, s5, ht3, ht4⟩ := Rs.bind_ok ht2
      obtain ⟨vv, s6, ht5, ht6⟩ := Rs.bind_ok ht4
      obtain ⟨ho, rfl⟩ := ofO_ok ht6
      obtain ⟨pr, hp1, rfl⟩ := omap ho
      obtain ⟨rfl, rfl⟩ := pairD_some hp1
      simp only at t2
      cases hst : dStep acc pr.1 pr.2 with
      | none => rw [hst] at t2; cases t2
      | some acc' =>
      rw [hst] at t2
      obtain ⟨st1, st2, st3⟩ := dStep_some hst
      subst st3
      obtain ⟨q, hkq⟩ := isSome_ex st1
      refine ⟨_, _, _, re2.ext x3, rs3, post_ok ht3 fun m4 H4 y x4 rs4 ry => ⟨_, _, _, (re2.ext x3).ext x4, rs4, post_ok ht5 fun m5 H5 z x5 rs5 rz => ?_⟩⟩
      obtain ⟨b1, b2, b3, b4⟩ := unhide_all g3 g1 (x1.trans (x3.trans (x4.trans x5))) rs5
      have ry : Rep X.K m4 H4 pr.1 y := ry
      have ry5 : Rep X.K m5 H5 pr.1 y := ry.ext x5
      have rz : Rep X.K m5 H5 pr.2 z := rz
      obtain ⟨bb, rfl⟩ := rep_ref hkq ry5
      have hid5 : m5.hid = D :: m'.hid := (x1.trans (x3.trans (x4.trans x5))).hid
      refine ⟨m5, acc, xs, pr.1, pr.2, q, bb, rfl, hkq, b1, .inr (by rw [hid5]; exact List.mem_cons_self), RepD.kp ((Wk.hide (o := DctO D xs) g1).trans (x1.trans (x3.trans (x4.trans x5))).wk).kp g4, st2, ry5, rz, fun u ru _ => ?_⟩
      refine ⟨m5.show m'.hid, SM.del H5 D, dPut acc pr.1 pr.2, storedH xs q bb u, upd_del.symm, del_self, g2.trans b2, b3, repD_put hkq (Rep.kp b4.kp ry5) (Rep.kp b4.kp rz) ru (RepD.kp b2.kp g4), t2⟩
  · have ei : i = ds.length := by omega
    subst ei
    rw [List.drop_length] at g5
    injection g5 with g5 g7
    subst g5 g7
    refine .inl ⟨wk.stops _ gd, ?_⟩
    have p := Post.ext g2 p
    cases mf with
    | true =>
      obtain ⟨x, rs', rv⟩ := g3.allocO (u := DctO D xs) (o := .dct acc) g1 ⟨xs, upd_same, RepD.kp (Ext.add g1).kp g4⟩
      exact .inl (p _ _ _ x rs' rv)
    | false =>
      refine .inr ⟨xs, upd_same, fun o => ?_⟩
      rw [upd_upd]
      have x : Ext m' Gh m' (upd Gh D (.frz o (DctO D xs))) := Ext.new g1
      exact p _ _ _ x (g3.new g1) ⟨D, rfl, g3.fresh g1, .inr ⟨o, xs, upd_same, RepD.kp x.kp g4⟩⟩
theorem snd_dcomp {mf : Bool} {kx vx tg it cnd : IE} {own : List Nat} (hk : OkE G N cl C k kx) (hv : OkE G N cl C k vx) (hi : OkI G N cl C k it) (hcnd : OkC G N cl C k cnd) : OkE G N cl C k (.dcomp mf kx vx tg it cnd own) := by
  intro sc fnB W X c x h
  cases x <;> first | (cases h; done) | skip
  rename_i kx' vx' gens scope pos
  rcases gens with _ | ⟨⟨tg', it', ifs', nn⟩, _ | ⟨_, _⟩⟩
  · cases h
  · by_cases h0 : nn = 0
    · subst h0
      simp only [chk, Bool.and_eq_true] at h
      obtain ⟨⟨⟨⟨⟨⟨⟨h1, h2⟩, h3⟩, h4⟩, h5⟩, h6⟩, h7⟩, h8⟩ := h
      have hsub : ∀ i ∈ tgS tg, i ∈ own := fun i hi => of_decide_eq_true (List.all_eq_true.mp h5 i hi)
      refine PE.weak (pe_dcD (own := ownP N own) (by have := c.rm.un; omega) c.calm (by rw [c.n]; exact c.nd) (hi c h1 h2) (by rw [c.n, c.sc]; exact blkOk_by h3)
        (fun s H Ca cls fp => ⟨snd_tgV (c.blk s H scope Ca cls fp) tg tg' h4, hcnd (c.blk s H scope Ca cls fp) h6, hk (c.blk s H scope Ca cls fp) h7, hv (c.blk s H scope Ca cls fp) h8⟩) (fun x => foldi (tg := tg') h2 X.env x)) fun σ H Q q => by
        rw [own_map]
        exact dcomp_reads hsub σ H Q q
    · exfalso
      unfold chk at h
      split at h <;> simp_all
  · exact absurd h (by simp [chk])
/-! ### dict displays -/
theorem snd_dic {ks vs : IE} (hv : ∀ v r, vs = .cons v r → OkE G N cl C k v) : OkE G N cl C k (.dic ks vs) := by
  intro sc fnB W X c x h
  cases x <;> first | (cases h; done) | skip
  rename_i ks' vs' pos
  replace h : chkd G N sc vs ks ks' vs' = true := h
  cases vs <;> first | (cases ks <;> cases h; done) | skip
  · cases ks <;> first | (cases h; done) | skip
    cases ks' with
    | cons _ _ => cases h
    | nil =>
    cases vs' with
    | cons _ _ => cases h
    | nil =>
    refine PE.weak pe_dnewK fun σ H Q ⟨m, e, s, re, rs, h⟩ => ?_
    have h : Post X.K cl (RV X.K) (WE W σ) Q m H (.ok (.d (.dict [])) s) := h
    intro p hp
    exact h m _ (.ref p) (Ext.new hp) (rs.new hp) ⟨p, rfl, rs.fresh hp, .inl ⟨[], upd_same, rfl⟩⟩
  · rename_i v r
    cases r <;> first | (cases h; done) | skip
    cases ks <;> first | (cases h; done) | skip
    rename_i k0 kr
    cases k0 <;> first | (cases h; done) | skip
    rename_i d
    cases d <;> first | (cases h; done) | skip
    rename_i y
    cases kr <;> first | (cases h; done) | skip
    cases ks' with
    | nil => cases h
    | cons k1 ks' =>
    cases k1 with
    | none => cases h
    | some k1 =>
    cases k1 <;> first | (cases h; done) | skip
    rename_i z j p1
    cases z <;> first | (cases h; done) | skip
    rename_i z
    cases ks' with
    | cons _ _ => cases h
    | nil =>
    cases vs' with
    | nil => cases h
    | cons w vs' =>
    cases vs' with
    | cons _ _ => cases h
    | nil =>
    have h : (decide (y = z) && chk G N sc v w) = true := h
    simp only [Bool.and_eq_true, decide_eq_true_eq] at h
    obtain ⟨e1, h1⟩ := h
    subst e1
    refine PE.weak (pe_disp (pps_cons pe_str (hv v _ rfl c h1) pps_nil) rfl rfl (by simp) (by simp)) fun σ H Q ⟨m, e, s, re, rs, h⟩ => ?_
    have h : Post X.K cl (RV X.K) (WE W σ) Q m H ((noex ((ev C v e s).bind fun a s => .ok [a] s)).bind fun b s => ofP (dicV [.d (.str y)] b s)) := h
    intro p hp
    cases hq : ev C v e s with
    | ex _ _ _ => rw [hq] at h; exact h.elim
    | no => rw [hq] at h; exact h.elim
    | ok u s1 =>
    rw [hq] at h
    have h : Post X.K cl (RV X.K) (WE W σ) Q m H (ofP (dicV [.d (.str y)] [u] s1)) := h
    have w0 : Wk m H (m.hide p) (upd H p (.dK [])) := Wk.hide hp
    refine ⟨m.hide p, e, s, re.wk w0, rs.hide hp, post_ok hq fun m1 H1 x x1 rs1 rx => ?_⟩
    obtain ⟨g1, g2, g3, g4⟩ := unhide_all rs hp x1 rs1
    refine ⟨g1, [(.inr y, x)], rfl, by simp, ?_⟩
    cases u with
    | r n => exact h.elim
    | d z =>
      have h : Post X.K cl (RV X.K) (WE W σ) Q m H (.ok (.d (.dict [(.str y, z)])) s1) := h
      rw [← upd_del]
      have e2 : Ext (m1.show m.hid) (SM.del H1 p) (m1.show m.hid) (upd (SM.del H1 p) p (.dK (mergeK [] [(.inr y, x)]))) := Ext.new del_self
      refine h _ _ _ (g2.trans e2) (g3.new del_self) ⟨p, rfl, g3.fresh del_self, .inl ⟨mergeK [] [(.inr y, x)], upd_same, .inr y, x, [], rfl, rfl, ?_, rfl⟩⟩
      exact Rep.kp e2.kp (Rep.kp g4.kp rx)
end
end SM

set_option maxHeartbeats 1000000
/-! SM: every expression. -/
namespace SM
open PySem L2 PySem.Spec PyProof.Rows
section
variable {G : Sg} {N : List Str} {cl : Nat → Value} {C : Cal} {k : Nat}
structure Oks (G : Sg) (N : List Str) (cl : Nat → Value) (C : Cal) (k : Nat) (ie : IE) : Prop where
  e : OkE G N cl C k ie
  t : OkT G N cl C k ie
  a : OkA G N cl C k ie
  o : OkO G N cl C k ie
  c : OkC G N cl C k ie
  i : OkI G N cl C k ie
  kk : OkK G N cl C k ie
  h : ∀ v r, ie = .cons v r → OkE G N cl C k v
  an : OkAnd G N cl C k ie
  or : OkOr G N cl C k ie
theorem okT_plain {ie : IE} (h : OkE G N cl C k ie) (p : ∀ (sc : Scope) (x : Expr), chk G N sc ie x = true → plainT x = true) : OkT G N cl C k ie := by
  intro sc fnB W X c x h1 _
  exact pt_plain (h c h1) (p _ _ h1)
theorem Oks.mk' {ie : IE} (e : OkE G N cl C k ie) (t : OkT G N cl C k ie)
    (a : ∀ sc x, chks G N sc ie x = false) (o : ∀ sc x, chko G N sc ie x = false) (c : ∀ sc x, chkc G N sc ie x = false) (i : ∀ sc x, chki G N sc ie x = false) (kk : ∀ sc x, chkk G N sc ie x = false) (h : ∀ v r, ie ≠ .cons v r := by intro _ _ e; cases e) : Oks G N cl C k ie where
  h := fun v r e => absurd e (h v r)
  kk := fun _ _ h => by rw [kk] at h; cases h
  e := e
  t := t
  a := fun _ _ h => by rw [a] at h; cases h
  o := fun _ _ h => by rw [o] at h; cases h
  c := fun _ _ h => by rw [c] at h; cases h
  i := fun _ _ _ _ h => by rw [i] at h; cases h
  an := fun _ _ _ h => by rw [a] at h; cases h
  or := fun _ _ _ h => by rw [a] at h; cases h
theorem Oks.it {ie : IE} (i : OkI G N cl C k ie) (e : ∀ sc x, chk G N sc ie x = false)
    (a : ∀ sc x, chks G N sc ie x = false) (o : ∀ sc x, chko G N sc ie x = false) (c : ∀ sc x, chkc G N sc ie x = false) (kk : ∀ sc x, chkk G N sc ie x = false) (h : ∀ v r, ie ≠ .cons v r := by intro _ _ e; cases e) : Oks G N cl C k ie where
  h := fun v r e => absurd e (h v r)
  kk := fun _ _ h => by rw [kk] at h; cases h
  e := fun _ _ h => by rw [e] at h; cases h
  t := fun _ _ h => by rw [e] at h; cases h
  a := fun _ _ h => by rw [a] at h; cases h
  o := fun _ _ h => by rw [o] at h; cases h
  c := fun _ _ h => by rw [c] at h; cases h
  i := i
  an := fun _ _ _ h => by rw [a] at h; cases h
  or := fun _ _ _ h => by rw [a] at h; cases h
theorem okT_frz {a : IE} (h : OkT G N cl C k a) : OkT G N cl C k (.frz a) := by
  intro sc fnB W X c x h1 h2
  refine PT.weak (h c (x := x) h1 h2) fun σ H Q ⟨m, e, s, re, rs, q⟩ => ⟨m, e, s, re, rs, ?_⟩
  unfold evT at q ⊢
  replace q : Post X.K cl REq (WE W σ) Q m H ((ev C a.frz e s).bind fun v s => ofO (isTrue? v) s) := q
  show Post X.K cl REq (WE W σ) Q m H ((ev C a e s).bind fun v s => ofO (isTrue? v) s)
  rw [show ev C (.frz a) e s = (ev C a e s).bind fun x s => ofP (frzV x s) from rfl, Rs.bind_assoc] at q
  cases hv : ev C a e s with
  | no => rw [hv] at q; exact q
  | ex _ _ _ => rw [hv] at q; exact q
  | ok v s1 =>
    rw [hv] at q
    cases v with
    | d y => exact q
    | r n =>
      exfalso
      have q : Post X.K cl REq (WE W σ) Q m H ((ofP ((listAt n s1).bind fun vs => (frzL vs s1).bind fun p => (listAt n p.2).map fun _ => (Vl.d (.list p.1), p.2.set n none))).bind fun v s => ofO (isTrue? v) s) := q
      cases q1 : listAt n s1 with
      | none => rw [q1] at q; exact q
      | some vs =>
        rw [q1] at q
        cases q2 : frzL vs s1 with
        | none => simp [q2] at q; exact q
        | some p =>
          simp [q2] at q
          cases q3 : listAt n p.2 with
          | none => simp [q3] at q; exact q
          | some us => simp [q3] at q; exact q
theorem chkF_ok {ie : IE} (e : ∀ sc x, chk G N sc ie x = false) (a : ∀ sc x, chks G N sc ie x = false) (o : ∀ sc x, chko G N sc ie x = false) (c : ∀ sc x, chkc G N sc ie x = false) (i : ∀ sc x, chki G N sc ie x = false) (kk : ∀ sc x, chkk G N sc ie x = false) (h : ∀ v r, ie ≠ .cons v r := by intro _ _ e; cases e) : Oks G N cl C k ie :=
  Oks.mk' (fun _ _ h => by rw [e] at h; cases h) (fun _ _ h => by rw [e] at h; cases h) a o c i kk h
theorem oks : ∀ ie : IE, Oks G N cl C k ie := by
  intro ie
  induction ie with
  | nil => exact ⟨fun _ _ h => (by cases h), fun _ _ h => (by cases h), snd_nil, snd_onil, snd_cnil, fun _ _ _ _ h => (by cases h), snd_knil, fun _ _ e => (by cases e),
      fun {sc} {fnB} {W} {X} _ {x} {pos} h _ n => (by cases x with
        | nil => exact absurd rfl n
        | cons _ _ => cases h), fun {sc} {fnB} {W} {X} _ {x} {pos} h _ n => (by cases x with
        | nil => exact absurd rfl n
        | cons _ _ => cases h)⟩
  | cons a r iha ihr =>
    refine ⟨fun _ _ h => (by cases h), fun _ _ h => (by cases h), snd_cons iha.e ihr.a, snd_o iha.e, snd_ccons iha.t, fun _ _ _ _ h => (by cases h), snd_kcons iha.e ihr.kk, fun v r e => (by cases e; exact iha.e), ?_, ?_⟩
    · cases r with
      | nil => exact snd_and1 iha.e iha.t
      | cons b r => exact snd_and iha.e iha.t ihr.an
      | _ =>
        intro sc fnB W X c x pos h
        cases x with
        | nil => cases h
        | cons x xs => simp only [chks, Bool.and_eq_true] at h; cases xs <;> cases h.2
    · cases r with
      | nil => exact snd_or1 iha.e iha.t
      | cons b r => exact snd_or iha.e iha.t ihr.or
      | _ =>
        intro sc fnB W X c x pos h
        cases x with
        | nil => cases h
        | cons x xs => simp only [chks, Bool.and_eq_true] at h; cases xs <;> cases h.2
  | var i => exact .mk' snd_var (okT_plain snd_var fun sc x h => by cases x <;> first | rfl | (cases h; done)) (fun _ x => by cases x <;> rfl) (fun _ x => by cases x <;> rfl) (fun _ x => by cases x <;> rfl) (fun _ x => by cases x <;> rfl) (fun _ x => by cases x <;> rfl)
  | lit d => exact .mk' snd_lit (okT_plain snd_lit fun sc x h => by cases x <;> first | rfl | (cases d <;> cases h; done)) (fun _ x => by cases x <;> rfl) (fun _ x => by cases x <;> rfl) (fun _ x => by cases x <;> rfl) (fun _ x => by cases x <;> rfl) (fun _ x => by cases x <;> rfl)
  | glob x d => exact .mk' snd_glob (okT_plain snd_glob fun sc x h => by cases x <;> first | rfl | (cases h; done)) (fun _ x => by cases x <;> rfl) (fun _ x => by cases x <;> rfl) (fun _ x => by cases x <;> rfl) (fun _ x => by cases x <;> rfl) (fun _ x => by cases x <;> rfl)
  | bop m o a b iha ihb => exact .mk' (snd_bop iha.e ihb.e) (okT_plain (snd_bop iha.e ihb.e) fun sc x h => by cases x <;> first | rfl | (cases h; done)) (fun _ x => by cases x <;> rfl) (fun _ x => by cases x <;> rfl) (fun _ x => by cases x <;> rfl) (fun _ x => by cases x <;> rfl) (fun _ x => by cases x <;> rfl)
  | neg a iha => exact .mk' (snd_neg iha.e) (okT_plain (snd_neg iha.e) fun sc x h => by
      cases x <;> first | rfl | (cases h; done) | skip
      rename_i op _ _
      cases op <;> first | rfl | (simp [chk] at h; done)) (fun _ x => by cases x <;> rfl) (fun _ x => by cases x <;> rfl) (fun _ x => by cases x <;> rfl) (fun _ x => by cases x <;> rfl) (fun _ x => by cases x <;> rfl)
  | not a iha => exact .mk' (snd_not iha.e iha.t).1 (snd_not iha.e iha.t).2 (fun _ x => by cases x <;> rfl) (fun _ x => by cases x <;> rfl) (fun _ x => by cases x <;> rfl) (fun _ x => by cases x <;> rfl) (fun _ x => by cases x <;> rfl)
  | cmp o a b iha ihb => exact .mk' (snd_cmp iha.e ihb.e).1 (snd_cmp iha.e ihb.e).2 (fun _ x => by cases x <;> rfl) (fun _ x => by cases x <;> rfl) (fun _ x => by cases x <;> rfl) (fun _ x => by cases x <;> rfl) (fun _ x => by cases x <;> rfl)
  | chain o p a b c iha ihb ihc => exact .mk' (snd_chain iha.e ihb.e ihc.e).1 (snd_chain iha.e ihb.e ihc.e).2 (fun _ x => by cases x <;> rfl) (fun _ x => by cases x <;> rfl) (fun _ x => by cases x <;> rfl) (fun _ x => by cases x <;> rfl) (fun _ x => by cases x <;> rfl)
  | and es ih => exact .mk' (snd_bool ih.an ih.or).1.1 (snd_bool ih.an ih.or).1.2 (fun _ x => by cases x <;> rfl) (fun _ x => by cases x <;> rfl) (fun _ x => by cases x <;> rfl) (fun _ x => by cases x <;> rfl) (fun _ x => by cases x <;> rfl)
  | or es ih => exact .mk' (snd_bool ih.an ih.or).2.1 (snd_bool ih.an ih.or).2.2 (fun _ x => by cases x <;> rfl) (fun _ x => by cases x <;> rfl) (fun _ x => by cases x <;> rfl) (fun _ x => by cases x <;> rfl) (fun _ x => by cases x <;> rfl)
  | ite c a b ihc iha ihb => exact .mk' (snd_ite ihc.t iha.e ihb.e) (fun {sc} {fnB} {W} {X} _ {x} h h2 => by cases x <;> first | (cases h2; done) | (cases h; done)) (fun _ x => by cases x <;> rfl) (fun _ x => by cases x <;> rfl) (fun _ x => by cases x <;> rfl) (fun _ x => by cases x <;> rfl) (fun _ x => by cases x <;> rfl)
  | tup es ih => exact .mk' (snd_tup ih.a) (okT_plain (snd_tup ih.a) fun sc x h => by cases x <;> first | rfl | (cases h; done)) (fun _ x => by cases x <;> rfl) (fun _ x => by cases x <;> rfl) (fun _ x => by cases x <;> rfl) (fun _ x => by cases x <;> rfl) (fun _ x => by cases x <;> rfl)
  | lst m es ih => exact .mk' (snd_lst ih.a) (okT_plain (snd_lst ih.a) fun sc x h => by cases x <;> first | rfl | (cases h; done)) (fun _ x => by cases x <;> rfl) (fun _ x => by cases x <;> rfl) (fun _ x => by cases x <;> rfl) (fun _ x => by cases x <;> rfl) (fun _ x => by cases x <;> rfl)
  | rep m es k' ih ihk => exact .mk' (snd_rep ih.a ihk.e) (okT_plain (snd_rep ih.a ihk.e) fun sc x h => by cases x <;> first | rfl | (cases h; done)) (fun _ x => by cases x <;> rfl) (fun _ x => by cases x <;> rfl) (fun _ x => by cases x <;> rfl) (fun _ x => by cases x <;> rfl) (fun _ x => by cases x <;> rfl)
  | idx a i iha ihi => exact .mk' (snd_idx iha.e ihi.e) (okT_plain (snd_idx iha.e ihi.e) fun sc x h => by cases x <;> first | rfl | (cases h; done)) (fun _ x => by cases x <;> rfl) (fun _ x => by cases x <;> rfl) (fun _ x => by cases x <;> rfl) (fun _ x => by cases x <;> rfl) (fun _ x => by cases x <;> rfl)
  | sli m a lo hi iha ihl ihh => exact .mk' (snd_sli iha.e ihl.o ihh.o) (okT_plain (snd_sli iha.e ihl.o ihh.o) fun sc x h => by cases x <;> first | rfl | (cases h; done)) (fun _ x => by cases x <;> rfl) (fun _ x => by cases x <;> rfl) (fun _ x => by cases x <;> rfl) (fun _ x => by cases x <;> rfl) (fun _ x => by cases x <;> rfl)
  | rev m a iha => exact .mk' (snd_rev iha.e) (okT_plain (snd_rev iha.e) fun sc x h => by cases x <;> first | rfl | (cases h; done)) (fun _ x => by cases x <;> rfl) (fun _ x => by cases x <;> rfl) (fun _ x => by cases x <;> rfl) (fun _ x => by cases x <;> rfl) (fun _ x => by cases x <;> rfl)
  | bi m b es ih => exact .mk' (snd_bi ih.a) (okT_plain (snd_bi ih.a) fun sc x h => by cases x <;> first | rfl | (cases h; done)) (fun _ x => by cases x <;> rfl) (fun _ x => by cases x <;> rfl) (fun _ x => by cases x <;> rfl) (fun _ x => by cases x <;> rfl) (fun _ x => by cases x <;> rfl)
  | isi a t iha => exact .mk' (snd_isi iha.e) (okT_plain (snd_isi iha.e) fun sc x h => by cases x <;> first | rfl | (cases h; done)) (fun _ x => by cases x <;> rfl) (fun _ x => by cases x <;> rfl) (fun _ x => by cases x <;> rfl) (fun _ x => by cases x <;> rfl) (fun _ x => by cases x <;> rfl)
  | me f a es iha ih => exact .mk' (snd_me iha.e ih.a) (okT_plain (snd_me iha.e ih.a) fun sc x h => by cases x <;> first | rfl | (cases h; done)) (fun _ x => by cases x <;> rfl) (fun _ x => by cases x <;> rfl) (fun _ x => by cases x <;> rfl) (fun _ x => by cases x <;> rfl) (fun _ x => by cases x <;> rfl)
  | call f es ih => exact .mk' (snd_call ih.a) (okT_plain (snd_call ih.a) fun sc x h => by cases x <;> first | rfl | (cases h; done)) (fun _ x => by cases x <;> rfl) (fun _ x => by cases x <;> rfl) (fun _ x => by cases x <;> rfl) (fun _ x => by cases x <;> rfl) (fun _ x => by cases x <;> rfl)
  | comp m elt tg it cnd own ihe _ ihi ihc => exact .mk' (snd_comp ihe.e ihi.i ihc.c) (okT_plain (snd_comp ihe.e ihi.i ihc.c) fun sc x h => by cases x <;> first | rfl | (cases h; done)) (fun _ x => by cases x <;> rfl) (fun _ x => by cases x <;> rfl) (fun _ x => by cases x <;> rfl) (fun _ x => by cases x <;> rfl) (fun _ x => by cases x <;> rfl)
  | frz a iha => exact .mk' (snd_frz iha.e) (okT_frz iha.t) (fun _ x => by cases x <;> rfl) (fun _ x => by cases x <;> rfl) (fun _ x => by cases x <;> rfl) (fun _ x => by cases x <;> rfl) (fun _ x => by cases x <;> rfl)
  | lrg mf a iha => exact .mk' (snd_lrg iha.e) (okT_plain (snd_lrg iha.e) fun sc x h => by cases x <;> first | rfl | (cases h; done)) (fun _ x => by cases x <;> rfl) (fun _ x => by cases x <;> rfl) (fun _ x => by cases x <;> rfl) (fun _ x => by cases x <;> rfl) (fun _ x => by cases x <;> rfl)
  | rng1 a iha => exact .it (snd_rng1 iha.e) (fun _ x => by cases x <;> rfl) (fun _ x => by cases x <;> rfl) (fun _ x => by cases x <;> rfl) (fun _ x => by cases x <;> rfl) (fun _ x => by cases x <;> rfl)
  | rng2 a b iha ihb => exact .it (snd_rng2 iha.e ihb.e) (fun _ x => by cases x <;> rfl) (fun _ x => by cases x <;> rfl) (fun _ x => by cases x <;> rfl) (fun _ x => by cases x <;> rfl) (fun _ x => by cases x <;> rfl)
  | zip a b iha ihb => exact .it (snd_zip iha.e ihb.e) (fun _ x => by cases x <;> rfl) (fun _ x => by cases x <;> rfl) (fun _ x => by cases x <;> rfl) (fun _ x => by cases x <;> rfl) (fun _ x => by cases x <;> rfl)
  | enum a iha => exact .it (snd_enum iha.e) (fun _ x => by cases x <;> rfl) (fun _ x => by cases x <;> rfl) (fun _ x => by cases x <;> rfl) (fun _ x => by cases x <;> rfl) (fun _ x => by cases x <;> rfl)
  | itv a iha => exact .it (snd_itv iha.e) (fun _ x => by cases x <;> rfl) (fun _ x => by cases x <;> rfl) (fun _ x => by cases x <;> rfl) (fun _ x => by cases x <;> rfl) (fun _ x => by cases x <;> rfl)
  | dic ks vs _ ihv =>
    have hd : OkE G N cl C k (.dic ks vs) := snd_dic ihv.h
    exact .mk' hd (okT_plain hd fun sc x h => by cases x <;> first | rfl | (cases h; done)) (fun _ x => by cases x <;> rfl) (fun _ x => by cases x <;> rfl) (fun _ x => by cases x <;> rfl) (fun _ x => by cases x <;> rfl) (fun _ x => by cases x <;> rfl)
  | callk f es ks nms perm _ ihk => exact .mk' (snd_callk ihk.kk) (okT_plain (snd_callk ihk.kk) fun sc x h => by cases x <;> first | rfl | (cases h; done)) (fun _ x => by cases x <;> rfl) (fun _ x => by cases x <;> rfl) (fun _ x => by cases x <;> rfl) (fun _ x => by cases x <;> rfl) (fun _ x => by cases x <;> rfl)
  | comp2 m elt tg it tg2 it2 cnd own own2 ihe _ ihi _ ihi2 ihc => exact .mk' (snd_comp2 ihe.e ihi.i ihi2.i ihc.c) (okT_plain (snd_comp2 ihe.e ihi.i ihi2.i ihc.c) fun sc x h => by cases x <;> first | rfl | (cases h; done)) (fun _ x => by cases x <;> rfl) (fun _ x => by cases x <;> rfl) (fun _ x => by cases x <;> rfl) (fun _ x => by cases x <;> rfl) (fun _ x => by cases x <;> rfl)
  | frd a iha => exact .mk' (snd_frd iha.e) (okT_plain (snd_frd iha.e) fun sc x h => by cases x <;> first | rfl | (cases h; done)) (fun _ x => by cases x <;> rfl) (fun _ x => by cases x <;> rfl) (fun _ x => by cases x <;> rfl) (fun _ x => by cases x <;> rfl) (fun _ x => by cases x <;> rfl)
  | dnew => exact .mk' snd_dnew (okT_plain snd_dnew fun sc x h => by cases x <;> first | rfl | (cases h; done)) (fun _ x => by cases x <;> rfl) (fun _ x => by cases x <;> rfl) (fun _ x => by cases x <;> rfl) (fun _ x => by cases x <;> rfl) (fun _ x => by cases x <;> rfl)
  | dcomp m kx vx tg it cnd own ihk ihv _ ihi ihc => exact .mk' (snd_dcomp ihk.e ihv.e ihi.i ihc.c) (okT_plain (snd_dcomp ihk.e ihv.e ihi.i ihc.c) fun sc x h => by cases x <;> first | rfl | (cases h; done)) (fun _ x => by cases x <;> rfl) (fun _ x => by cases x <;> rfl) (fun _ x => by cases x <;> rfl) (fun _ x => by cases x <;> rfl) (fun _ x => by cases x <;> rfl)
  | itd a iha => exact .it (snd_itd iha.e) (fun _ x => by cases x <;> rfl) (fun _ x => by cases x <;> rfl) (fun _ x => by cases x <;> rfl) (fun _ x => by cases x <;> rfl) (fun _ x => by cases x <;> rfl)
end
end SM

set_option maxHeartbeats 1000000
/-! SM: statements: the check, how a run's end is handed on. -/
namespace SM
open PySem L2 PySem.Spec PyProof.Rows
/-! ### the check -/
def isLC : Expr → Bool
  | .ListComp .. => true
  | .DictComp .. => true
  | _ => false
def isNm : Expr → Bool
  | .Name .. => true
  | _ => false
def nmOn (sc : Scope) (line : Nat) : Expr → Option Str
  | .Name id pos => if sc.names.lookup id == some .local && pos.line == line then some id else none
  | _ => none
def swNames (sc : Scope) (ts : List Expr) : List Str := ts.filterMap (nmOn sc ((ts.head?.map (·.pos.line)).getD 0))
def isStar : Expr → Bool
  | .Starred .. => true
  | _ => false
/-- the stores of a tuple by a tuple are in order -/
def swNone (sc : Scope) (ts vs : List Expr) : Bool :=
  (!(ts.length == 2 || ts.length == 3) || vs.length != ts.length) || (!vs.any isStar && (((swNames sc ts).length != ts.length || (swNames sc ts).eraseDups.length != (swNames sc ts).length) || vs.all (foldedForSure 8)))
def swSome (sc : Scope) (ts vs : List Expr) : Bool :=
  (ts.length == 2 || ts.length == 3) && vs.length == ts.length && !vs.any isStar && (swNames sc ts).length == ts.length && (swNames sc ts).eraseDups.length == (swNames sc ts).length && !vs.all (foldedForSure 8) && !vs.all (constantsAlone 8)
def plainSt (sc : Scope) : Expr → Expr → Bool
  | .Tuple ts _ _, .Tuple vs _ _ => swNone sc ts vs
  | .List .., _ => false
  | .Name y _, .ListComp .. => !(isLoc sc y)
  | t, e => !(isLC e && isNm t)
def chkTg (G : Sg) (N : List Str) (fnB : Str → Bool) (sc : Scope) : IE → Expr → Bool
  | .idx a i, .Subscript a' i' _ => plainIx i' && chk G N sc a a' && chk G N sc i i'
  | tg, t => chkG fnB sc N tg t
def lcOn (sc : Scope) (i : Nat) (own : List Nat) : Expr → Expr → Bool
  | .Name y py, .ListComp _ _ scope pos => isLoc sc y && (py.line == pos.line) && !(scope.names.any fun p => p.1 == y && (p.2 == .local || p.2 == .cell))
  | _, _ => false
def asgLC (sc : Scope) (tg a : IE) (t e' : Expr) : Bool := match tg, a with
  | .var i, .comp _ _ _ _ _ own => lcOn sc i own t e'
  | .var i, .comp2 _ _ _ _ _ _ _ own _ => lcOn sc i own t e'
  | _, _ => false
def chkTs (G : Sg) (N : List Str) (fnB : Str → Bool) (sc : Scope) : IE → List Expr → Bool
  | .nil, [] => true
  | .cons t r, e :: es => chkTg G N fnB sc t e && chkTs G N fnB sc r es
  | _, _ => false
mutual
def chkS (G : Sg) (N : List Str) (fnB : Str → Bool) (sc : Scope) : IS → Stmt → Bool
  | .asg tg e, .Assign [t] e' _ => chkTg G N fnB sc tg t && chk G N sc e e' && (plainSt sc t e' || asgLC sc tg e t e')
  | .par (.var i) (.var j) a b, .Assign [.Tuple [.Name x px, .Name y py] _ _] (.Tuple [a', b'] _ _) _ => decide (N[i]? = some x) && decide (N[j]? = some y) && !(i == j) && isLoc sc x && isLoc sc y && swSome sc [.Name x px, .Name y py] [a', b'] && chk G N sc a a' && chk G N sc b b'
  | .par3 i j l a b c, .Assign [.Tuple [.Name x px, .Name y py, .Name z pz] _ _] (.Tuple [a', b', c'] _ _) _ => decide (N[i]? = some x) && decide (N[j]? = some y) && decide (N[l]? = some z) && !(i == j) && !(i == l) && !(j == l) && isLoc sc x && isLoc sc y && isLoc sc z &&
      swSome sc [.Name x px, .Name y py, .Name z pz] [a', b', c'] && chk G N sc a a' && chk G N sc b b' && chk G N sc c c'
  | .ptup ts es, .Assign [.Tuple ts' _ _] (.Tuple es' _ _) _ => chkTs G N fnB sc ts ts' && chks G N sc es es' && swNone sc ts' es'
  | .aug i o e, .AugAssign (.Name x _) op e' _ => decide (N[i]? = some x) && locB sc x && (fnB x || isLoc sc x) && decide (opOf o = op) && (decide (o = .add) || decide (o = .sub)) && chk G N sc e e'
  | .ite c a b, .If c' a' b' _ => tstF c' && chk G N sc c c' && chkSs G N fnB sc a a' && chkSs G N fnB sc b b'
  | .forr tg it body, .For t it' body' [] _ => chkG fnB sc N tg t && zipTg it t && chki G N sc it it' && chkSs G N fnB sc body body'
  | .whil c body, .While c' body' [] _ => tstF c' && chk G N sc c c' && chkSs G N fnB sc body body'
  | .ret e, .Return (some e') _ => chk G N sc e e'
  | .ret (.lit .none), .Return none _ => true
  | .expr e, .Expr e' _ => chk G N sc e e' && !isLC e'
  | .pass, .Pass _ => true
  | .pass, .Expr (.Constant (.str _) _ _) _ => true
  | .brk, .Break _ => true
  | .cont, .Continue _ => true
  | .rais n e, .Raise (some (.Call (.Name x _) [a] [] _)) none _ => decide (G.exs[n]? = some x) && gloB sc x && chk G N sc e a
  | .tryx b i l h, .Try body [.ExceptHandler (some (.Name y _)) (some n) suite _] [] [] _ => decide (N[i]? = some n) && isLoc sc n && !(n == ("__debug__" : Str)) && !(n == ("__classdict__" : Str)) && decide ((y, l) ∈ G.isx) && gloB sc y && !suite.isEmpty && chkHS G N sc n h suite && chkSs G N fnB sc b body
  | .never, _ => true
  | _, _ => false
def chkSs (G : Sg) (N : List Str) (fnB : Str → Bool) (sc : Scope) : IS → List Stmt → Bool
  | .nil, [] => true
  | .cons (.vfz _) r, sts => chkSs G N fnB sc r sts
  | .cons a r, st :: sts => chkS G N fnB sc a st && chkSs G N fnB sc r sts
  | .never, _ => true
  | _, _ => false
end
/-! ### the ends -/
section
variable {K : PySem.W.Frag} {cl : Nat → Value} {C : Cal} {W : WX} {m m' : Mu} {H H' : Hp} {e : Sl} {σ : L2.St} {s : Sto}
def PostF (K : PySem.W.Frag) (cl : Nat → Value) (W : WX) (D : Ends) (m : Mu) (H : Hp) : Fl → Prop
  | .nx e s => ∀ m' H' σ', Ext m H m' H' → RS K m' H' s → RE K m' H' e σ' → D.nx σ' H'
  | .bk e s => ∀ m' H' σ', Ext m H m' H' → RS K m' H' s → RE K m' H' e σ' → D.bk σ' H'
  | .ct e s => ∀ m' H' σ', Ext m H m' H' → RS K m' H' s → RE K m' H' e σ' → D.ct σ' H'
  | .rt v s => ∀ m' H' b, Ext m H m' H' → RS K m' H' s → RV K m' H' v b → D.rt b H'
  | .ex c v e s => ∀ m' H' d y σ', Ext m H m' H' → RS K m' H' s → RV K m' H' v y → H' d = some (.xd [("value", y)]) → RE K m' H' e σ' → W (cl c) (some d) σ' H'
  | .no => False
theorem PostF.ext {D : Ends} (x : Ext m H m' H') : ∀ {f : Fl}, PostF K cl W D m H f → PostF K cl W D m' H' f
  | .nx _ _, h => fun m2 H2 σ' y r q => h m2 H2 σ' (x.trans y) r q
  | .bk _ _, h => fun m2 H2 σ' y r q => h m2 H2 σ' (x.trans y) r q
  | .ct _ _, h => fun m2 H2 σ' y r q => h m2 H2 σ' (x.trans y) r q
  | .rt _ _, h => fun m2 H2 σ' y r q => h m2 H2 σ' (x.trans y) r q
  | .ex _ _ _ _, h => fun m2 H2 d y σ' z r q => h m2 H2 d y σ' (x.trans z) r q
  | .no, h => h
def bindF {α : Type} (e : Sl) (r : Rs α) (f : α → Sto → Fl) : Fl := match r with
  | .ok a s => f a s
  | .ex c v s => .ex c v e s
  | .no => .no
theorem liftR_bind {α : Type} (e : Sl) (r : Rs α) (f : α → Sto → Rs Sl) : liftR e (r.bind f) = bindF e r fun a s => liftR e (f a s) := by cases r <;> rfl
theorem postF_k {α δ : Type} {R : Mu → Hp → α → δ → Prop} {r : Rs α} {f : α → Sto → Fl} {D : Ends} {T : δ → Hp → Prop} (re : RE K m H e σ) (h : PostF K cl W D m H (bindF e r f))
    (k : ∀ x H1 m1 v s1, RE K m1 H1 e σ → Ext m H m1 H1 → RS K m1 H1 s1 → R m1 H1 v x → PostF K cl W D m1 H1 (f v s1) → T x H1) : Post K cl R (WE W σ) T m H r := by
  cases r with
  | ok a s1 => exact fun m' H' b x rs rv => k b H' m' a s1 (re.ext x) x rs rv (PostF.ext x h)
  | ex c v s1 => exact fun m' H' d y x rs rv hd => h m' H' d y σ x rs rv hd (re.ext x)
  | no => exact h
theorem sE_k {ie : IE} {f : Vl → Sto → Fl} {D : Ends} {T : VK} (re : RE K m H e σ) (rs : RS K m H s) (h : PostF K cl W D m H (bindF e (ev C ie e s) f))
    (k : ∀ x H1 m1 v s1, RE K m1 H1 e σ → Ext m H m1 H1 → RS K m1 H1 s1 → RV K m1 H1 v x → PostF K cl W D m1 H1 (f v s1) → T x H1) : tE K cl C W ie σ H T :=
  ⟨m, e, s, re, rs, postF_k re h k⟩
theorem sT_k {ie : IE} {f : Bool → Sto → Fl} {D : Ends} {T : Bool → Hp → Prop} (re : RE K m H e σ) (rs : RS K m H s) (h : PostF K cl W D m H (bindF e (evT C ie e s) f))
    (k : ∀ x H1 m1 s1, RE K m1 H1 e σ → Ext m H m1 H1 → RS K m1 H1 s1 → PostF K cl W D m1 H1 (f x s1) → T x H1) : tT K cl C W ie σ H T :=
  ⟨m, e, s, re, rs, postF_k (R := REq) re h fun x H1 m1 v s1 a b c d p => by cases d; exact k _ H1 m1 s1 a b c p⟩
theorem PostF.here {D : Ends} (re : RE K m H e σ) (rs : RS K m H s) (h : PostF K cl W D m H (.nx e s)) : D.nx σ H := h m H σ Ext.refl rs re
def tS (K : PySem.W.Frag) (cl : Nat → Value) (C : Cal) (W : WX) (fu : Nat) (is : IS) : TS := fun D σ H => At K σ H fun m e s => PostF K cl W D m H (exS C fu is e s)
theorem ifF {D : Ends} {c : IE} {f g : Sto → Fl} (h : PostF K cl W D m H (match ev C c e s with
    | .ok v s => (match isTrue? v with
      | some true => f s
      | some false => g s
      | none => .no)
    | .ex c v s => .ex c v e s
    | .no => .no)) : PostF K cl W D m H (bindF e (evT C c e s) fun b s => if b = true then f s else g s) := by
  unfold evT
  cases q : ev C c e s with
  | no => rw [q] at h; exact h
  | ex _ _ _ => rw [q] at h; exact h
  | ok v s1 =>
    rw [q] at h
    cases q2 : isTrue? v with
    | none => simp only [q2] at h; exact h.elim
    | some b =>
      simp only [q2] at h
      show PostF K cl W D m H (bindF e (ofO (isTrue? v) s1) _)
      rw [q2]
      cases b <;> exact h
end
/-! ### the stores of a tuple -/
section
variable {X : Cx} {sc : Scope}
theorem blockK (hk : X.env.scope.kind = .function) : X.env.blockKind = .function := by unfold Env.blockKind; rw [hk]; rfl
theorem swNames_eq (hs : X.env.scope = sc) (ts : List Expr) : (ts.filterMap fun
    | .Name id pos => if X.env.kindOf id == some .local && pos.line == (ts.head?.map (·.pos.line)).getD 0 then some id else none
    | _ => none) = swNames sc ts := by
  subst hs
  unfold swNames
  congr 1
theorem starAny (vs : List Expr) : (vs.any fun | .Starred .. => true | _ => false) = vs.any isStar := by
  congr 1
theorem sw_form {ts vs : List Expr} {k1 k2 : Nat} {p1 p2 : Pos} (hs : X.env.scope = sc) (hk : X.env.scope.kind = .function) : swappedStores [.Tuple ts k1 p1] (.Tuple vs k2 p2) X.env =
    if (!(ts.length == 2 || ts.length == 3) || vs.length != ts.length) = true then pure none else if vs.any isStar = true then pure none else
      if ((swNames sc ts).length != ts.length || (swNames sc ts).eraseDups.length != (swNames sc ts).length) = true then pure none else if vs.all (foldedForSure 8) = true then pure none else
        if vs.all (constantsAlone 8) = true then unsupported "assign.tuple-of-constant-expressions:order-of-the-stores" else pure (some (swNames sc ts)) := by
  unfold swappedStores
  rw [← swNames_eq hs, ← starAny]
  simp only [blockK hk]
  rw [show (ScopeKind.function != ScopeKind.function) = false from rfl, Bool.or_false]
  refine ite_congr rfl (fun _ => rfl) fun _ => ite_congr rfl (fun _ => rfl) fun _ => ite_congr rfl (fun _ => rfl) fun _ => ite_congr rfl (fun _ => rfl) fun _ => ?_
  split
  · trace_state
    rfl
  · rfl
theorem sw_none {ts vs : List Expr} {k1 k2 : Nat} {p1 p2 : Pos} (hs : X.env.scope = sc) (hk : X.env.scope.kind = .function) (h : swNone sc ts vs = true) : swappedStores [.Tuple ts k1 p1] (.Tuple vs k2 p2) X.env = pure none := by
  rw [sw_form hs hk]
  unfold swNone at h
  split
  · rfl
  · rename_i a
    rw [Bool.eq_false_iff.mpr a, Bool.false_or, Bool.and_eq_true] at h
    obtain ⟨h1, h2⟩ := h
    rw [if_neg (by intro z; rw [z] at h1; cases h1)]
    split
    · rfl
    · rename_i b
      rw [Bool.eq_false_iff.mpr b, Bool.false_or] at h2
      rw [if_pos h2]
theorem sw_some {ts vs : List Expr} {k1 k2 : Nat} {p1 p2 : Pos} (hs : X.env.scope = sc) (hk : X.env.scope.kind = .function) (h : swSome sc ts vs = true) : swappedStores [.Tuple ts k1 p1] (.Tuple vs k2 p2) X.env = pure (some (swNames sc ts)) := by
  rw [sw_form hs hk]
  unfold swSome at h
  simp only [Bool.and_eq_true] at h
  obtain ⟨⟨⟨⟨⟨⟨h1, h2⟩, h3⟩, h4⟩, h5⟩, h6⟩, h7⟩ := h
  rw [if_neg (by rw [h1]; simp only [bne, h2]; decide), if_neg (by intro z; rw [z] at h3; cases h3), if_neg (by simp only [bne, h4, h5]; decide), if_neg (by intro z; rw [z] at h6; cases h6), if_neg (by intro z; rw [z] at h7; cases h7)]
end
end SM

set_option maxHeartbeats 1000000
/-! SM: statements. -/
namespace SM
open PySem L2 PySem.Spec PyProof.Rows
structure CokS (G : Sg) (N : List Str) (cl : Nat → Value) (C : Cal) (k : Nat) (fnB : Str → Bool) (sc : Scope) (W : WX) (X : Cx) : Prop where
  c : Cok G N cl C k fnB sc W X
  kind : sc.kind = .function
  hp : PassesOwn (model X.prog X.w) X.A X.env X.xe
  stk : X.stack = X.env :: X.outer ∧ X.env.frame = some X.env.locals
theorem PS.weak {X : Cx} {st : Stmt} {t t' : TS} (h : PS X st t) (w : ∀ D σ H, t' D σ H → t D σ H) : PS X st t' := ⟨fun pins s σ H D I q => h.run pins s σ H D I (w _ _ _ q)⟩
theorem PSs.weak {X : Cx} {st : List Stmt} {t t' : TS} (h : PSs X st t) (w : ∀ D σ H, t' D σ H → t D σ H) : PSs X st t' := ⟨fun pins s σ H D I q => h.run pins s σ H D I (w _ _ _ q)⟩
section
variable {G : Sg} {N : List Str} {cl : Nat → Value} {C : Cal} {k fu : Nat}
def OkS (G : Sg) (N : List Str) (cl : Nat → Value) (C : Cal) (k fu : Nat) (is : IS) : Prop := ∀ {sc : Scope} {fnB : Str → Bool} {W : WX} {X : Cx}, CokS G N cl C k fnB sc W X → ∀ {st : Stmt}, chkS G N fnB sc is st = true → PS X st (tS X.K cl C W fu is)
def OkSs (G : Sg) (N : List Str) (cl : Nat → Value) (C : Cal) (k fu : Nat) (is : IS) : Prop := ∀ {sc : Scope} {fnB : Str → Bool} {W : WX} {X : Cx}, CokS G N cl C k fnB sc W X → ∀ {sts : List Stmt}, chkSs G N fnB sc is sts = true → PSs X sts (tS X.K cl C W fu is)
section
variable {sc : Scope} {fnB : Str → Bool} {W : WX} {X : Cx}
theorem CokS.kk (c : CokS G N cl C k fnB sc W X) : X.env.scope.kind = .function := by rw [c.c.sc]; exact c.kind
theorem chk_sc {p1 p2 p3 p4} : ∀ ie : IE, chk G N sc ie (.SetComp p1 p2 p3 p4) = false := by
  intro ie
  induction ie with
  | frz a ih => exact ih
  | lit d => cases d <;> rfl
  | _ => rfl
theorem isLoc_eq {y : Str} : (sc.names.lookup y == some .local) = isLoc sc y := by
  unfold isLoc
  cases h : sc.names.lookup y with
  | none => rfl
  | some k => cases k <;> rfl
theorem sw_one (c : CokS G N cl C k fnB sc W X) {a : IE} {t e' : Expr} {l : Nat} (h : plainSt sc t e' = true) (h2 : chk G N sc a e' = true) : swapsWithSole [t] e' l X.env = pure false := by
  cases e' <;> first | rfl | (rw [chk_sc] at h2; cases h2; done) | skip
  case DictComp => cases t <;> first | rfl | (cases h; done)
  cases t <;> first | rfl | (cases h; done) | skip
  rename_i elt gs scope pos y py
  have h : (!(isLoc sc y)) = true := h
  have hy : isLoc sc y = false := by simpa using h
  have ky : (X.env.kindOf y == some .local) = false := by
    show (X.env.scope.names.lookup y == some .local) = false
    rw [c.c.sc, isLoc_eq, hy]
  show swapsWith (.ListComp elt gs scope pos) (some (.Name y py)) l X.env = pure false
  unfold swapsWith
  simp only [ky, Bool.and_false, Bool.false_and]
theorem sw_two (c : CokS G N cl C k fnB sc W X) {t e' : Expr} (h : plainSt sc t e' = true) : swappedStores [t] e' X.env = pure none := by
  cases t <;> first | rfl | (cases h; done) | skip
  cases e' <;> first | rfl | skip
  exact sw_none c.c.sc c.kk h
theorem chkTg_one {tg : IE} {t : Expr} (h : chkTg G N fnB sc tg t = true) (env : Env) : (assignEach [t] env).map (·.2) = [assign t env] := by
  cases t <;> first | rfl | skip
  cases tg <;> cases h
def gS (K : PySem.W.Frag) (cl : Nat → Value) (C : Cal) (W : WX) (tg : IE) : TG := fun v σ H Q => ∃ m e s u, RE K m H e σ ∧ RS K m H s ∧ RV K m H u v ∧ PostF K cl W { nx := Q, rt := fun _ _ => False } m H (liftR e (asgT C tg u e s))
theorem snd_gS (c : Cok G N cl C k fnB sc W X) {tg : IE} {t : Expr} (h : chkTg G N fnB sc tg t = true) : PG X t (gS X.K cl C W tg) := by
  by_cases hi : ∃ a i, tg = .idx a i
  · obtain ⟨a, i, rfl⟩ := hi
    cases t <;> first | (cases h; done) | skip
    rename_i a' i' pos
    have h : (plainIx i' && chk G N sc a a' && chk G N sc i i') = true := h
    simp only [Bool.and_eq_true] at h
    obtain ⟨⟨h1, h2⟩, h3⟩ := h
    refine PG.weak (pg_sub ((oks a).e c h2) ((oks i).e c h3) (set_ok (by have := c.rm.un; omega)) (by cases i' <;> first | (intro _; rfl) | (cases h1; done))) fun v σ H Q ⟨m, e, s, u, re, rs, rv, p⟩ => ?_
    have p : PostF X.K cl W { nx := Q, rt := fun _ _ => False } m H (liftR e ((ev C a e s).bind fun o s => (ev C i e s).bind fun k s => match setV o k u s with
      | some s => .ok e s
      | none => .no)) := p
    rw [liftR_bind] at p
    refine sE_k re rs p fun x H1 m1 o s1 re1 x1 rs1 ro p => ?_
    rw [liftR_bind] at p
    refine sE_k re1 rs1 p fun y H2 m2 k s2 re2 x2 rs2 rk p => ?_
    cases q : setV o k u s2 with
    | none => simp only [q] at p; exact p.elim
    | some s3 =>
      simp only [q] at p
      exact ⟨m2, s2, o, k, u, s3, ro.ext x2, rk, (rv.ext x1).ext x2, rs2, q, fun m' H' x3 rs3 => p m' H' σ x3 rs3 (re2.ext x3)⟩
  · have e1 : chkG fnB sc N tg t = true := by
      cases tg <;> first | exact h | skip
      exact absurd ⟨_, _, rfl⟩ hi
    refine PG.weak (snd_tgV c tg t e1) fun v σ H Q ⟨m, e, s, u, re, rs, rv, p⟩ => ?_
    have e2 : asgT C tg u e s = ofO (setTgV tg u e) s := by
      cases tg <;> first | rfl | skip
      exact absurd ⟨_, _, rfl⟩ hi
    rw [e2] at p
    cases q : setTgV tg u e with
    | none => rw [q] at p; exact p.elim
    | some e' => rw [q] at p; exact ⟨m, e, u, e', re, rv, q, fun σ' re' _ => PostF.here re' rs p⟩
/-! ### a tuple of places -/
theorem tg1NoStar {tg : IE} {e : Expr} (h : chkTg G N fnB sc tg e = true) (es : List Expr) (env : Env) : assignEach (e :: es) env = (false, assign e env) :: assignEach es env := by
  cases e <;> first | rfl | skip
  cases tg <;> cases h
theorem tsNoStar {env : Env} : ∀ {tg : IE} {es : List Expr}, chkTs G N fnB sc tg es = true → assignEach es env = es.map fun e => (false, assign e env) := by
  intro tg
  induction tg with
  | cons a r _ ih =>
    intro es h
    cases es with
    | nil => rfl
    | cons e es =>
      simp only [chkTs, Bool.and_eq_true] at h
      rw [tg1NoStar h.1, ih h.2]; rfl
  | nil =>
    intro es h
    cases es with
    | nil => rfl
    | cons e es => cases h
  | _ => intro es h; cases h
theorem ts_len : ∀ {tg : IE} {es : List Expr}, chkTs G N fnB sc tg es = true → ieLen tg = es.length := by
  intro tg
  induction tg with
  | cons a r _ ih =>
    intro es h
    cases es with
    | nil => cases h
    | cons e es =>
      simp only [chkTs, Bool.and_eq_true] at h
      simp [ieLen, ih h.2]
  | nil =>
    intro es h
    cases es with
    | nil => rfl
    | cons e es => cases h
  | _ => intro es h; cases es <;> cases h
def gPs (K : PySem.W.Frag) (cl : Nat → Value) (C : Cal) (W : WX) (ts : IE) : TGs := fun vs σ H Q => ∃ m e s us, RE K m H e σ ∧ RS K m H s ∧ RVs K m H us vs ∧ PostF K cl W { nx := Q, rt := fun _ _ => False } m H (asgs C ts us e s)
theorem snd_gPs (c : Cok G N cl C k fnB sc W X) : ∀ {ts : IE} {tl : List Expr}, chkTs G N fnB sc ts tl = true → PGs X tl (gPs X.K cl C W ts) := by
  intro ts
  induction ts with
  | nil =>
    intro tl h
    cases tl <;> first | (cases h; done) | skip
    refine PGs.weak pgs_nil fun vs σ H Q ⟨m, e, s, us, re, rs, rv, p⟩ => ?_
    cases us with
    | nil => exact ⟨rv, PostF.here re rs p⟩
    | cons u us => exact p.elim
  | cons t r _ ih =>
    intro tl h
    cases tl <;> first | (cases h; done) | skip
    rename_i x xs
    simp only [chkTs, Bool.and_eq_true] at h
    refine PGs.weak (pgs_cons (snd_gS c h.1) (ih h.2) (by rw [tg1NoStar h.1]; rfl)) fun vs σ H Q ⟨m, e, s, us, re, rs, rv, p⟩ => ?_
    cases us with
    | nil => exact p.elim
    | cons u us =>
      obtain ⟨w, ws, ev, r1, r2⟩ := rv
      refine ⟨w, ws, ev, m, e, s, u, re, rs, r1, ?_⟩
      have p : PostF X.K cl W { nx := Q, rt := fun _ _ => False } m H (match asgT C t u e s with
        | .ok e' s' => asgs C r us e' s'
        | .ex c v s => .ex c v e s
        | .no => .no) := p
      cases q : asgT C t u e s with
      | ok e1 s1 =>
        rw [q] at p
        exact fun m' H' σ' x rs' re' => ⟨m', e1, s1, us, re', rs', r2.ext x, PostF.ext x p⟩
      | ex c v s1 => rw [q] at p; exact p
      | no => rw [q] at p; exact p.elim
  | _ => intro tl h; cases tl <;> cases h
theorem PostF.liftNx {m : Mu} {H : Hp} {e : Sl} {D D' : Ends} {r : Rs Sl} (h : PostF X.K cl W D m H (liftR e r)) (q : ∀ σ H, D.nx σ H → D'.nx σ H) : PostF X.K cl W D' m H (liftR e r) := by
  cases r with
  | ok e' s => exact fun m' H' σ' x r z => q _ _ (h m' H' σ' x r z)
  | ex c v s => exact h
  | no => exact h
theorem sndS_asg {tg a : IE} : OkS G N cl C k fu (.asg tg a) := by
  intro sc fnB W X c st h
  cases st <;> first | (cases h; done) | skip
  rename_i ts e' pos
  cases ts with
  | nil => cases h
  | cons t ts =>
  cases ts with
  | cons _ _ => cases h
  | nil =>
  have h : (chkTg G N fnB sc tg t && chk G N sc a e' && (plainSt sc t e' || asgLC sc tg a t e')) = true := by
    cases tg <;> exact h
  simp only [Bool.and_eq_true, Bool.or_eq_true] at h
  obtain ⟨⟨h1, h2⟩, h3⟩ := h
  rcases h3 with h3 | h3
  · refine PS.weak (ps_asg ((oks a).e c.c h2) (snd_gS c.c h1) (sw_one c h3 h2) (sw_two c h3) (chkTg_one h1 _)) fun D σ H ⟨m, e, s, re, rs, p⟩ => ?_
    have p : PostF X.K cl W D m H (liftR e ((ev C a e s).bind fun v s => asgT C tg v e s)) := p
    rw [liftR_bind] at p
    refine sE_k re rs p fun x H1 m1 v s1 re1 x1 rs1 rv p => ?_
    exact ⟨m1, e, s1, v, re1, rs1, rv, p.liftNx fun _ _ z => z⟩
  · cases tg <;> first | (cases h3; done) | skip
    rename_i i
    cases a <;> first | (cases h3; done) | skip
    · rename_i mf elt tg' it cnd own
      cases t <;> first | (cases h3; done) | skip
      rename_i y py
      cases e' <;> first | (cases h3; done) | skip
      rename_i elt' gens scope lpos
      have h3 : (isLoc sc y && (py.line == lpos.line) && !(scope.names.any fun p => p.1 == y && (p.2 == .local || p.2 == .cell))) = true := h3
      simp only [Bool.and_eq_true] at h3
      obtain ⟨⟨h4, h5⟩, h6⟩ := h3
      cases gens with
      | nil => cases h2
      | cons g gs =>
      cases gs with
      | cons _ _ =>
        obtain ⟨_, _, _, nn⟩ := g
        cases nn with
        | negSucc _ => cases h2
        | ofNat n => cases n <;> cases h2
      | nil =>
      obtain ⟨tg1, it1, ifs1, nn⟩ := g
      cases nn with
      | negSucc _ => cases h2
      | ofNat nn =>
      cases nn with
      | succ _ => cases h2
      | zero =>
      have h2 : (zipTg it tg1 && chki G N sc it it1 && blkC N sc scope (ownP N own) && chkG (blkF scope) (relS scope sc) N tg' tg1 && (tgS tg').all (fun i => decide (i ∈ own)) && chkc G N (relS scope sc) cnd ifs1 && chk G N (relS scope sc) elt elt') = true := h2
      simp only [Bool.and_eq_true] at h2
      obtain ⟨⟨⟨⟨⟨⟨g1, g2⟩, g3⟩, g4⟩, g5⟩, g6⟩, g7⟩ := h2
      have hsub : ∀ i ∈ tgS tg', i ∈ own := fun i hi => by
        have := List.all_eq_true.mp g5 i hi
        exact of_decide_eq_true this
      have h1 : (decide (N[i]? = some y) && locB sc y && (fnB y || isLoc sc y)) = true := h1
      simp only [Bool.and_eq_true, decide_eq_true_eq] at h1
      refine PS.weak (ps_setLc (i := i) (wi := tI X.K cl C W it) (g := tG X.K tg') (tt := tC X.K cl C noW cnd) (te := tE X.K cl C noW elt) (own := ownP N own) c.c.calm (by rw [c.c.n]; exact c.c.nd) (by rw [c.c.n]; exact h1.1.1) (by rw [c.c.sc]; exact isLoc_ok h4)
        (sw_true c.kk (by rw [c.c.sc]; exact isLoc_ok h4) h5 (by simpa using h6)) ((oks it).i c.c g1 g2) (by rw [c.c.n, c.c.sc]; exact blkOk_by g3)
        (fun s H Ca cls fp => snd_tgV (c.c.blk s H scope Ca cls fp) tg' tg1 g4) (fun s H Ca cls fp => (oks cnd).c (c.c.blk s H scope Ca cls fp) g6) (fun s H Ca cls fp => (oks elt).e (c.c.blk s H scope Ca cls fp) g7) (fun x => foldi (tg := tg1) g2 X.env x)) fun D σ H ⟨m, e, s, re, rs, p⟩ => ?_
      rw [own_map]
      refine comp_reads (cl := cl) (C := C) (W := W) (mf := mf) (sc := sc) (fnB := fnB) hsub _ _ _ ?_
      have p : PostF X.K cl W D m H (liftR e ((ev C (.comp mf elt tg' it cnd own) e s).bind fun v s => ofO (some (e.set i (some v))) s)) := p
      rw [liftR_bind] at p
      refine sE_k re rs p fun x H1 m1 v s1 re1 x1 rs1 rv p => ?_
      exact PostF.here (re1.set rv) rs1 p
    · rename_i mf elt tg' it tg2 it2 cnd own own2
      cases t <;> first | (cases h3; done) | skip
      rename_i y py
      cases e' <;> first | (cases h3; done) | skip
      rename_i elt' gens scope lpos
      have h3 : (isLoc sc y && (py.line == lpos.line) && !(scope.names.any fun p => p.1 == y && (p.2 == .local || p.2 == .cell))) = true := h3
      simp only [Bool.and_eq_true] at h3
      obtain ⟨⟨h4, h5⟩, h6⟩ := h3
      rcases gens with _ | ⟨⟨tg1, it1, ifs1, nn⟩, _ | ⟨⟨tg3, it3, ifs3, nn2⟩, _ | ⟨_, _⟩⟩⟩
      · cases h2
      · exact absurd h2 (by simp [chk])
      · by_cases h0 : nn = 0 ∧ nn2 = 0 ∧ ifs1 = []
        · obtain ⟨rfl, rfl, rfl⟩ := h0
          simp only [chk, Bool.and_eq_true] at h2
          obtain ⟨⟨⟨⟨⟨⟨⟨⟨⟨⟨⟨q1, q2⟩, q3⟩, q4⟩, q5⟩, g1⟩, g2⟩, g3⟩, g4⟩, g5⟩, g6⟩, g7⟩ := h2
          have hsub : ∀ i ∈ tgS tg', i ∈ own := fun i hi => of_decide_eq_true (List.all_eq_true.mp q5 i hi)
          have hsub2 : ∀ i ∈ tgS tg2, i ∈ own2 := fun i hi => of_decide_eq_true (List.all_eq_true.mp g4 i hi)
          have hsub3 : ∀ i ∈ own2, i ∈ own := fun i hi => of_decide_eq_true (List.all_eq_true.mp g5 i hi)
          have h1 : (decide (N[i]? = some y) && locB sc y && (fnB y || isLoc sc y)) = true := h1
          simp only [Bool.and_eq_true, decide_eq_true_eq] at h1
          refine PS.weak (ps_setLc2 (i := i) (wi := tI X.K cl C W it) (g := tG X.K tg') (tt := fun σ H Q => Q true H) (wi1 := tI X.K cl C noW it2) (g1 := tG X.K tg2) (tt1 := tC X.K cl C noW cnd) (te := tE X.K cl C noW elt) (own := ownP N own) (vs1 := own2) c.c.calm (by rw [c.c.n]; exact c.c.nd) (by rw [c.c.n]; exact h1.1.1) (by rw [c.c.sc]; exact isLoc_ok h4)
            (sw_true c.kk (by rw [c.c.sc]; exact isLoc_ok h4) h5 (by simpa using h6)) ((oks it).i c.c q1 q2) (by rw [c.c.n, c.c.sc]; exact blkOk_by q3) (by rw [own_map]; exact hsub3)
            (fun s H Ca cls fp => snd_tgV (c.c.blk s H scope Ca cls fp) tg' tg1 q4) (fun s H Ca cls fp => pts_nil) (fun s H Ca cls fp => (oks it2).i (c.c.blk s H scope Ca cls fp) g1 g2) (fun s H Ca cls fp => snd_tgV (c.c.blk s H scope Ca cls fp) tg2 tg3 g3) (fun s H Ca cls fp => (oks cnd).c (c.c.blk s H scope Ca cls fp) g6)
            (fun s H Ca cls fp => (oks elt).e (c.c.blk s H scope Ca cls fp) g7) (fun x => foldi (tg := tg1) q2 X.env x) (fun env x => foldi (tg := tg3) g2 env x)) fun D σ H ⟨m, e, s, re, rs, p⟩ => ?_
          rw [own_map]
          refine comp2_reads (cl := cl) (C := C) (W := W) (mf := mf) hsub hsub2 _ _ _ ?_
          have p : PostF X.K cl W D m H (liftR e ((ev C (.comp2 mf elt tg' it tg2 it2 cnd own own2) e s).bind fun v s => ofO (some (e.set i (some v))) s)) := p
          rw [liftR_bind] at p
          refine sE_k re rs p fun x H1 m1 v s1 re1 x1 rs1 rv p => ?_
          exact PostF.here (re1.set rv) rs1 p
        · exfalso
          unfold chk at h2
          split at h2 <;> simp_all
      · exact absurd h2 (by simp [chk])
theorem asgs_nx {D : Ends} {m : Mu} {H : Hp} : ∀ {ts : IE} {us : List Vl} {e : Sl} {s : Sto}, PostF X.K cl W D m H (asgs C ts us e s) → PostF X.K cl W { nx := D.nx, rt := fun _ _ => False } m H (asgs C ts us e s) := by
  intro ts
  induction ts with
  | nil =>
    intro us e s p
    cases us with
    | nil => exact p
    | cons u us => exact p
  | cons t r _ ih =>
    intro us e s p
    cases us with
    | nil => exact p
    | cons u us =>
      have p : PostF X.K cl W D m H (match asgT C t u e s with
        | .ok e' s' => asgs C r us e' s'
        | .ex c v s => .ex c v e s
        | .no => .no) := p
      show PostF X.K cl W { nx := D.nx, rt := fun _ _ => False } m H (match asgT C t u e s with
        | .ok e' s' => asgs C r us e' s'
        | .ex c v s => .ex c v e s
        | .no => .no)
      cases q : asgT C t u e s with
      | ok e1 s1 => rw [q] at p; exact ih p
      | ex c v s1 => rw [q] at p; exact p
      | no => rw [q] at p; exact p
  | _ => intro us e s p; exact p
theorem sndS_ptup {ts es : IE} : OkS G N cl C k fu (.ptup ts es) := by
  intro sc fnB W X c st h
  cases st <;> first | (cases h; done) | skip
  rename_i tl e' pos
  cases tl with
  | nil => cases h
  | cons t tl =>
  cases tl with
  | cons _ _ => cases t <;> cases e' <;> cases h
  | nil =>
  cases t <;> first | (cases h; done) | skip
  cases e' <;> first | (cases h; done) | skip
  rename_i ts' k1 p1 es' k2 p2
  have h : (chkTs G N fnB sc ts ts' && chks G N sc es es' && swNone sc ts' es') = true := h
  simp only [Bool.and_eq_true] at h
  obtain ⟨⟨h1, h2⟩, h3⟩ := h
  refine PS.weak (ps_asg (pe_tup ((oks es).a c.c h2)) (pg_tup (n := ts'.length) c.c.calm (snd_gPs c.c h1) (by rw [tsNoStar h1, List.length_map]) (by rw [tsNoStar h1]; exact findStar ts')) rfl (sw_none c.c.sc c.kk h3) rfl) fun D σ H ⟨m, e, s, re, rs, p⟩ => ?_
  have p : PostF X.K cl W D m H (bindF e (evs C es e s) fun vs s => if vs.length = ieLen ts ∧ vs.length ≤ 16777216 then asgs C ts vs e s else .no) := by
    have p : PostF X.K cl W D m H (match evs C es e s with
      | .ok vs s => if vs.length = ieLen ts ∧ vs.length ≤ 16777216 then asgs C ts vs e s else .no
      | .ex c v s => .ex c v e s
      | .no => .no) := p
    cases q : evs C es e s with
    | ok vs s1 => rw [q] at p; exact p
    | ex d v s1 => rw [q] at p; exact p
    | no => rw [q] at p; exact p
  refine ⟨m, e, s, re, rs, postF_k (R := fun m H us vs => RVs X.K m H us vs) re p fun xs H1 m1 vs s1 re1 x1 rs1 rv1 p => ?_⟩
  by_cases hz : vs.length = ieLen ts ∧ vs.length ≤ 16777216
  · rw [if_pos hz] at p
    have hl := rv1.length
    refine ⟨by rw [← hl, sizeLine_eq]; exact hz.2, fun q hq => ⟨q, xs, rfl, ?_, by rw [← hl, hz.1]; exact ts_len h1, m1, e, s1, vs, re1.ext (Ext.new hq), rs1.new hq, rv1.ext (Ext.new hq), ?_⟩⟩
    · exact .inl (.inl upd_same)
    · exact asgs_nx (PostF.ext (Ext.new (o := .tup xs) hq) p)
  · rw [if_neg hz] at p
    exact p.elim
theorem chk_starE {ie : IE} {e : Expr} (h : chk G N sc ie e = true) : isStar e = false := by
  cases e <;> first | rfl | (rw [chk_star] at h; cases h)
theorem sndS_par {t u a b : IE} : OkS G N cl C k fu (.par t u a b) := by
  intro sc fnB W X c st h
  cases t <;> first | (cases h; done) | skip
  rename_i i
  cases u <;> first | (cases h; done) | skip
  rename_i j
  cases st <;> first | (cases h; done) | skip
  rename_i ts e' pos
  cases ts with
  | nil => cases h
  | cons t ts =>
  cases t <;> first | (cases h; done) | skip
  rename_i es kt pt
  cases es with
  | nil => cases ts <;> cases h
  | cons t1 es =>
  cases t1 <;> first | (cases h; done) | skip
  rename_i x px
  cases es with
  | nil => cases ts <;> cases h
  | cons t2 es =>
  cases t2 <;> first | (cases h; done) | skip
  rename_i y py
  cases es with
  | cons _ _ => cases ts <;> cases h
  | nil =>
  cases ts with
  | cons _ _ => cases h
  | nil =>
  cases e' <;> first | (cases h; done) | skip
  rename_i vs k2 p2
  cases vs with
  | nil => cases h
  | cons a' vs =>
  cases vs with
  | nil => cases h
  | cons b' vs =>
  cases vs with
  | cons _ _ => cases h
  | nil =>
  have h : (decide (N[i]? = some x) && decide (N[j]? = some y) && !(i == j) && isLoc sc x && isLoc sc y && swSome sc [.Name x px, .Name y py] [a', b'] && chk G N sc a a' && chk G N sc b b') = true := h
  simp only [Bool.and_eq_true, decide_eq_true_eq] at h
  obtain ⟨⟨⟨⟨⟨⟨⟨h1, h2⟩, h3⟩, h4⟩, h5⟩, h6⟩, h7⟩, h8⟩ := h
  have hij : i ≠ j := by rintro rfl; simp at h3
  have st2 := star_ok h8 [] X.env
  have st1 := star_ok h7 [b'] X.env
  have nm : swNames sc [.Name x px, .Name y py] = [x, y] := by
    unfold swSome at h6
    simp only [Bool.and_eq_true] at h6
    have z := h6.1.1.1.2
    unfold swNames at z ⊢
    unfold nmOn at z ⊢
    simp only [List.filterMap_cons, List.filterMap_nil] at z ⊢
    split at z <;> split at z <;> simp_all
  have sw := sw_some (X := X) (k1 := kt) (k2 := k2) (p1 := pt) (p2 := p2) c.c.sc c.kk h6
  rw [nm] at sw
  refine PS.weak (ps_par (i := i) (j := j) c.c.calm (by rw [c.c.n]; exact c.c.nd) (by rw [c.c.n]; exact h1) (by rw [c.c.n]; exact h2) hij (by rw [c.c.sc]; exact isLoc_ok h4) (by rw [c.c.sc]; exact isLoc_ok h5)
    (pa_cons ((oks a).e c.c h7) (pa_cons ((oks b).e c.c h8) pa_nil st2) st1) sw) fun D σ H ⟨m, e, s, re, rs, p⟩ => ?_
  have p : PostF X.K cl W D m H (liftR e ((ev C a e s).bind fun v s => (ev C b e s).bind fun w s => .ok ((e.set i (some v)).set j (some w)) s)) := p
  rw [liftR_bind] at p
  refine sE_k re rs p fun x H1 m1 v s1 re1 x1 rs1 rv p => ?_
  rw [liftR_bind] at p
  refine sE_k re1 rs1 p fun y H2 m2 w s2 re2 x2 rs2 rw' p => ?_
  exact ⟨x, y, rfl, PostF.here ((re2.set (rv.ext x2)).set rw') rs2 p⟩
theorem sndS_par3 {i j l : Nat} {a b d : IE} : OkS G N cl C k fu (.par3 i j l a b d) := by
  intro sc fnB W X c st h
  cases st <;> first | (cases h; done) | skip
  rename_i ts e' pos
  cases ts with
  | nil => cases h
  | cons t ts =>
  cases t <;> first | (cases h; done) | skip
  rename_i es kt pt
  cases es with
  | nil => cases ts <;> cases h
  | cons t1 es =>
  cases t1 <;> first | (cases h; done) | skip
  rename_i x px
  cases es with
  | nil => cases ts <;> cases h
  | cons t2 es =>
  cases t2 <;> first | (cases h; done) | skip
  rename_i y py
  cases es with
  | nil => cases ts <;> cases h
  | cons t3 es =>
  cases t3 <;> first | (cases h; done) | skip
  rename_i z pz
  cases es with
  | cons _ _ => cases ts <;> cases h
  | nil =>
  cases ts with
  | cons _ _ => cases h
  | nil =>
  cases e' <;> first | (cases h; done) | skip
  rename_i vs k2 p2
  cases vs with
  | nil => cases h
  | cons a' vs =>
  cases vs with
  | nil => cases h
  | cons b' vs =>
  cases vs with
  | nil => cases h
  | cons d' vs =>
  cases vs with
  | cons _ _ => cases h
  | nil =>
  have h : (decide (N[i]? = some x) && decide (N[j]? = some y) && decide (N[l]? = some z) && !(i == j) && !(i == l) && !(j == l) && isLoc sc x && isLoc sc y && isLoc sc z &&
      swSome sc [.Name x px, .Name y py, .Name z pz] [a', b', d'] && chk G N sc a a' && chk G N sc b b' && chk G N sc d d') = true := h
  simp only [Bool.and_eq_true, decide_eq_true_eq] at h
  obtain ⟨⟨⟨⟨⟨⟨⟨⟨⟨⟨⟨⟨h1, h2⟩, h3⟩, h4⟩, h5⟩, h6⟩, h7⟩, h8⟩, h9⟩, g1⟩, g2⟩, g3⟩, g4⟩ := h
  have hij : i ≠ j := by rintro rfl; simp at h4
  have hil : i ≠ l := by rintro rfl; simp at h5
  have hjl : j ≠ l := by rintro rfl; simp at h6
  have st3 := star_ok g4 [] X.env
  have st2 := star_ok g3 [d'] X.env
  have st1 := star_ok g2 [b', d'] X.env
  have nm : swNames sc [.Name x px, .Name y py, .Name z pz] = [x, y, z] := by
    unfold swSome at g1
    simp only [Bool.and_eq_true] at g1
    have w := g1.1.1.1.2
    unfold swNames at w ⊢
    unfold nmOn at w ⊢
    simp only [List.filterMap_cons, List.filterMap_nil] at w ⊢
    split at w <;> split at w <;> split at w <;> simp_all
  have sw := sw_some (X := X) (k1 := kt) (k2 := k2) (p1 := pt) (p2 := p2) c.c.sc c.kk g1
  rw [nm] at sw
  refine PS.weak (ps_par3 (i := i) (j := j) (l := l) c.c.calm (by rw [c.c.n]; exact c.c.nd) (by rw [c.c.n]; exact h1) (by rw [c.c.n]; exact h2) (by rw [c.c.n]; exact h3) hij hil hjl (by rw [c.c.sc]; exact isLoc_ok h7) (by rw [c.c.sc]; exact isLoc_ok h8) (by rw [c.c.sc]; exact isLoc_ok h9)
    (pa_cons ((oks a).e c.c g2) (pa_cons ((oks b).e c.c g3) (pa_cons ((oks d).e c.c g4) pa_nil st3) st2) st1) sw) fun D σ H ⟨m, e, s, re, rs, p⟩ => ?_
  have p : PostF X.K cl W D m H (liftR e ((ev C a e s).bind fun v s => (ev C b e s).bind fun w s => (ev C d e s).bind fun x s => .ok (((e.set i (some v)).set j (some w)).set l (some x)) s)) := p
  rw [liftR_bind] at p
  refine sE_k re rs p fun x H1 m1 v s1 re1 x1 rs1 rv p => ?_
  rw [liftR_bind] at p
  refine sE_k re1 rs1 p fun y H2 m2 w s2 re2 x2 rs2 rw' p => ?_
  rw [liftR_bind] at p
  refine sE_k re2 rs2 p fun z H3 m3 u s3 re3 x3 rs3 ru p => ?_
  exact ⟨x, y, z, rfl, PostF.here (((re3.set ((rv.ext x2).ext x3)).set (rw'.ext x3)).set ru) rs3 p⟩
theorem binI_int {o : BOp} {x y z : Int} (h : decide (o = .add) = true ∨ decide (o = .sub) = true) (q : binI o x y = some z) : (o = .add ∧ z = x + y) ∨ (o = .sub ∧ z = x - y) := by
  rcases h with h | h
  · have e := of_decide_eq_true h
    subst e; cases q; exact .inl ⟨rfl, rfl⟩
  · have e := of_decide_eq_true h
    subst e; cases q; exact .inr ⟨rfl, rfl⟩
def augOp : BOp → Int → Int → Int
  | .add, i, j => i + j
  | _, i, j => i - j
def augI (o : BOp) : TIp := ipI (augOp o)
theorem ip_ok {o : BOp} (h : decide (o = .add) = true ∨ decide (o = .sub) = true) : PIp X (opOf o) (augI o) := by
  rcases h with h | h
  · have e := of_decide_eq_true h
    subst e; exact ip_add
  · have e := of_decide_eq_true h
    subst e; exact ip_sub
theorem sndS_aug {i : Nat} {o : BOp} {a : IE} : OkS G N cl C k fu (.aug i o a) := by
  intro sc fnB W X c st h
  cases st <;> first | (cases h; done) | skip
  rename_i t op e' pos
  cases t <;> first | (cases h; done) | skip
  rename_i x px
  have h : (decide (N[i]? = some x) && locB sc x && (fnB x || isLoc sc x) && decide (opOf o = op) && (decide (o = .add) || decide (o = .sub)) && chk G N sc a e') = true := h
  simp only [Bool.and_eq_true, decide_eq_true_eq] at h
  obtain ⟨⟨⟨⟨⟨h1, h2⟩, h3⟩, h4⟩, h5⟩, h6⟩ := h
  subst h4
  have h5 : decide (o = .add) = true ∨ decide (o = .sub) = true := by simpa using h5
  refine PS.weak (ps_aug (i := i) (by rw [c.c.n]; exact c.c.nd) (by rw [c.c.n]; exact h1) (by rw [c.c.sc]; exact locB_ok h2) ((oks a).e c.c h6) (ip_ok h5) (by
    rw [c.c.fnB, c.c.sc]
    rcases Bool.or_eq_true_iff.mp h3 with z | z
    · exact .inl z
    · exact .inr (isLoc_ok z))) fun D σ H ⟨m, e, s, re, rs, p⟩ => ?_
  have p : PostF X.K cl W D m H (match e[i]? with
    | some (some (.d (.int x))) => liftR e ((ev C a e s).bind fun y s => match y with
      | .d (.int y) => ofO ((binI o x y).map fun z => e.set i (some (.d (.int z)))) s
      | _ => .no)
    | _ => .no) := p
  split at p
  · rename_i x0 hx
    obtain ⟨v, e1, rv⟩ := re.at_ i _ hx
    cases rv
    refine ⟨_, e1, ?_⟩
    rw [liftR_bind] at p
    refine sE_k re rs p fun y H1 m1 v s1 re1 x1 rs1 rv p => ?_
    split at p
    · rename_i y0
      cases rv
      cases q : binI o x0 y0 with
      | none => rw [q] at p; exact p.elim
      | some z =>
        rw [q] at p
        have q2 : augOp o x0 y0 = z := by
          rcases binI_int h5 q with ⟨rfl, rfl⟩ | ⟨rfl, rfl⟩ <;> rfl
        refine ⟨x0, y0, rfl, rfl, ?_⟩
        show D.nx (σ.set i (some (.int (augOp o x0 y0)))) H1
        rw [q2]
        exact PostF.here (re1.set (u := .d (.int z)) rfl) rs1 p
    · exact p.elim
  · exact p.elim
theorem sndS_ite {a : IE} {x y : IS} (hx : OkSs G N cl C k fu x) (hy : OkSs G N cl C k fu y) : OkS G N cl C k fu (.ite a x y) := by
  intro sc fnB W X c st h
  cases st <;> first | (cases h; done) | skip
  rename_i a' x' y' pos
  have h : (tstF a' && chk G N sc a a' && chkSs G N fnB sc x x' && chkSs G N fnB sc y y') = true := h
  simp only [Bool.and_eq_true] at h
  obtain ⟨⟨⟨h1, h2⟩, h3⟩, h4⟩ := h
  refine PS.weak (ps_if ((oks a).t c.c h2 h1) (hx c h3) (hy c h4)) fun D σ H ⟨m, e, s, re, rs, p⟩ => ?_
  have p := ifF (f := fun s => exS C fu x e s) (g := fun s => exS C fu y e s) p
  refine sT_k re rs p fun b H1 m1 s1 re1 x1 rs1 p => ?_
  cases b with
  | true => exact ⟨m1, e, s1, re1, rs1, p⟩
  | false => exact ⟨m1, e, s1, re1, rs1, p⟩
theorem exS_ret (fu : Nat) {a : IE} {e : Sl} {s : Sto} : exS C fu (.ret a) e s = bindF e (ev C a e s) fun v s => .rt v s := by
  show (match ev C a e s with
    | .ok v s => Fl.rt v s
    | .ex c v s => .ex c v e s
    | .no => .no) = _
  cases ev C a e s <;> rfl
theorem exS_expr (fu : Nat) {a : IE} {e : Sl} {s : Sto} : exS C fu (.expr a) e s = bindF e (ev C a e s) fun v s => .nx e s := by
  show (match ev C a e s with
    | .ok _ s => Fl.nx e s
    | .ex c v s => .ex c v e s
    | .no => .no) = _
  cases ev C a e s <;> rfl
theorem sndS_ret {a : IE} : OkS G N cl C k fu (.ret a) := by
  intro sc fnB W X c st h
  cases st <;> first | (cases h; done) | (cases a <;> cases h; done) | skip
  rename_i e' pos
  cases e' with
  | some e' =>
    have h : chk G N sc a e' = true := by cases a <;> exact h
    refine PS.weak (ps_ret ((oks a).e c.c h)) fun D σ H ⟨m, e, s, re, rs, p⟩ => ?_
    have p : PostF X.K cl W D m H (bindF e (ev C a e s) fun v s => .rt v s) := by rw [← exS_ret fu]; exact p
    exact sE_k re rs p fun x H1 m1 v s1 re1 x1 rs1 rv p => p m1 H1 x Ext.refl rs1 rv
  | none =>
    cases a <;> first | (cases h; done) | skip
    rename_i d
    cases d <;> first | (cases h; done) | skip
    refine PS.weak ps_retN fun D σ H ⟨m, e, s, re, rs, p⟩ => ?_
    exact p m H .non Ext.refl rs rfl
theorem sndS_expr {a : IE} : OkS G N cl C k fu (.expr a) := by
  intro sc fnB W X c st h
  cases st <;> first | (cases h; done) | skip
  rename_i e' pos
  have h : (chk G N sc a e' && !isLC e') = true := h
  simp only [Bool.and_eq_true] at h
  refine PS.weak (ps_expr ((oks a).e c.c h.1) ?_) fun D σ H ⟨m, e, s, re, rs, p⟩ => ?_
  · obtain ⟨h1, h2⟩ := h
    cases e' <;> first | rfl | (cases h2; done) | (rw [chk_sc] at h1; cases h1; done) | (cases h2; done)
  · have p : PostF X.K cl W D m H (bindF e (ev C a e s) fun v s => .nx e s) := by rw [← exS_expr fu]; exact p
    exact sE_k re rs p fun x H1 m1 v s1 re1 x1 rs1 rv p => PostF.here re1 rs1 p
theorem sndS_small : OkS G N cl C k fu .pass ∧ OkS G N cl C k fu .brk ∧ OkS G N cl C k fu .cont ∧ OkS G N cl C k fu .never := by
  refine ⟨?_, ?_, ?_, ?_⟩
  · intro sc fnB W X c st h
    cases st <;> first | (cases h; done) | skip
    · rename_i e' pos
      cases e' <;> first | (cases h; done) | skip
      rename_i d _ _
      cases d <;> first | (cases h; done) | skip
      exact PS.weak ps_doc fun D σ H ⟨m, e, s, re, rs, p⟩ => PostF.here re rs p
    · exact PS.weak ps_pass fun D σ H ⟨m, e, s, re, rs, p⟩ => PostF.here re rs p
  · intro sc fnB W X c st h
    cases st <;> first | (cases h; done) | skip
    exact PS.weak ps_break fun D σ H ⟨m, e, s, re, rs, p⟩ => p m H σ Ext.refl rs re
  · intro sc fnB W X c st h
    cases st <;> first | (cases h; done) | skip
    exact PS.weak ps_continue fun D σ H ⟨m, e, s, re, rs, p⟩ => p m H σ Ext.refl rs re
  · intro sc fnB W X c st h
    exact PS.weak ps_never fun D σ H ⟨m, e, s, re, rs, p⟩ => p
/-! ### loops -/
theorem loopF {m : Mu} {H : Hp} {D : Ends} {Nx : L2.St → Hp → Prop} {f : Fl} {g : Sl → Sto → Fl} (h : PostF X.K cl W D m H (match f with
    | .nx e s => g e s
    | .ct e s => g e s
    | .bk e s => .nx e s
    | .rt v s => .rt v s
    | .ex c v e s => .ex c v e s
    | .no => .no)) (hN : ∀ m' H' σ' e s, Ext m H m' H' → RS X.K m' H' s → RE X.K m' H' e σ' → PostF X.K cl W D m' H' (g e s) → Nx σ' H') : PostF X.K cl W { D with nx := Nx, ct := Nx, bk := D.nx } m H f := by
  cases f with
  | nx e s => exact fun m' H' σ' x rs re => hN m' H' σ' e s x rs re (PostF.ext x h)
  | ct e s => exact fun m' H' σ' x rs re => hN m' H' σ' e s x rs re (PostF.ext x h)
  | bk e s => exact h
  | rt v s => exact h
  | ex c v e s => exact h
  | no => exact h
theorem sndS_whil {a : IE} {x : IS} (hx : OkSs G N cl C k fu x) : OkS G N cl C k fu (.whil a x) := by
  intro sc fnB W X c st h
  cases st <;> first | (cases h; done) | skip
  rename_i a' x' orelse pos
  cases orelse with
  | cons _ _ => cases h
  | nil =>
  have h : (tstF a' && chk G N sc a a' && chkSs G N fnB sc x x') = true := h
  simp only [Bool.and_eq_true] at h
  obtain ⟨⟨h1, h2⟩, h3⟩ := h
  refine PS.weak (ps_while c.hp ((oks a).t c.c h2 h1) (hx c h3)) fun D σ H ⟨m, e, s, re, rs, p⟩ => ?_
  refine ⟨fun n σ H => At X.K σ H fun m e s => PostF X.K cl W D m H (whL (ev C a) (exS C fu x) n e s), ⟨fu, m, e, s, re, rs, p⟩, ?_⟩
  rintro n σ H ⟨m, e, s, re, rs, p⟩
  cases n with
  | zero => exact p.elim
  | succ n =>
    have p := ifF (f := fun s => match exS C fu x e s with
        | .nx e s => whL (ev C a) (exS C fu x) n e s
        | .ct e s => whL (ev C a) (exS C fu x) n e s
        | .bk e s => .nx e s
        | .rt v s => .rt v s
        | .ex c v e s => .ex c v e s
        | .no => .no) (g := fun s => .nx e s) p
    refine sT_k re rs p fun b H1 m1 s1 re1 x1 rs1 p => ?_
    cases b with
    | false => exact PostF.here re1 rs1 p
    | true =>
      refine ⟨fun σ' H' => At X.K σ' H' fun m e s => PostF X.K cl W D m H' (whL (ev C a) (exS C fu x) n e s), fun σ' H' q => ⟨n, Nat.lt_succ_self n, q⟩, ?_⟩
      exact ⟨m1, e, s1, re1, rs1, loopF p fun m' H' σ' e s x rs re q => ⟨m', e, s, re, rs, q⟩⟩
end
end
end SM

set_option maxHeartbeats 1000000
/-! SM: raise, try. -/
namespace SM
open PySem L2 PySem.Spec PyProof.Rows
section
variable {G : Sg} {N : List Str} {cl : Nat → Value} {C : Cal} {k fu : Nat}
theorem exS_rais {n : Nat} {a : IE} {e : Sl} {s : Sto} : exS C fu (.rais n a) e s = bindF e (ev C a e s) fun v s => .ex n v e s := by
  show (match ev C a e s with
    | .ok v s => Fl.ex n v e s
    | .ex c v s => .ex c v e s
    | .no => .no) = _
  cases ev C a e s <;> rfl
theorem sndS_rais {n : Nat} {a : IE} : OkS G N cl C k fu (.rais n a) := by
  intro sc fnB W X c st h
  cases st <;> first | (cases h; done) | skip
  rename_i ex cz pos
  cases ex with
  | none => cases h
  | some ex =>
  cases ex <;> first | (cases h; done) | skip
  rename_i f as ks p1
  cases f <;> first | (cases h; done) | skip
  rename_i x p2
  cases as with
  | nil => cases h
  | cons a1 as =>
  cases as with
  | cons _ _ => cases h
  | nil =>
  cases ks with
  | cons _ _ => cases h
  | nil =>
  cases cz with
  | some _ => cases h
  | none =>
  have h : (decide (G.exs[n]? = some x) && gloB sc x && chk G N sc a a1) = true := h
  simp only [Bool.and_eq_true, decide_eq_true_eq] at h
  obtain ⟨⟨h1, h2⟩, h3⟩ := h
  obtain ⟨Ca, D, fI, fd, hm, hcv, hI, iC, tI, F1, B⟩ := c.c.xc x n h1
  have psn : Passes (L2.CX X.prog X.w) X (fun _ _ _ => False) := fun pins σ H s e s' I z => by
    obtain ⟨_, _, _, _, _, _, _, _, _, _, _, _, z⟩ := z
    exact z.elim
  refine PS.weak (ps_raise c.c.calm c.c.tk (pmk_oex (CX := L2.CX X.prog X.w) (k := 1) (dvs := []) hI.oex iC tI F1 (c.c.rm.mono c.c.k2) B .nil psn (c.c.gl h2) hm (pa_cons ((oks a).e c.c h3) pa_nil (star_ok h3 [] X.env)) (gloB_ok h2).2 (star_ok h3 [] X.env))) fun DD σ H ⟨m, e, s, re, rs, p⟩ => ?_
  have p : PostF X.K cl W DD m H (exS C fu (.rais n a) e s) := p
  rw [exS_rais] at p
  refine sE_k re rs p fun x1 H1 m1 v s1 re1 x1' rs1 rv p => ?_
  refine ⟨by show 1 ≤ 1000; omega, fun a0 ha => ⟨a0, Ca, x1, rfl, hI, upd_same, fun dx g1 g2 => ⟨rfl, dx, [("value", x1)], upd_same, by rw [upd_ne g2, upd_same], ?_, ?_⟩⟩⟩
  · rw [upd_ne g2] at g1
    exact g1
  · rw [upd_ne g2] at g1
    have e1 : upd (L2.del (upd (upd (upd H1 a0 (exo a0 Ca none)) dx (exd dx [("value", x1)])) a0 (exo a0 Ca (some dx))) a0) dx (.xd [("value", x1)]) = upd H1 dx (.xd [("value", x1)]) := by
      funext b
      by_cases hb : b = dx
      · subst hb; rw [upd_same, upd_same]
      · rw [upd_ne hb, upd_ne hb]
        by_cases hb2 : b = a0
        · subst hb2; rw [L2.del_same, ha]
        · rw [L2.del_ne hb2, upd_ne hb2, upd_ne hb, upd_ne hb2]
    rw [e1, ← hcv]
    have xx : Ext m1 H1 m1 (upd H1 dx (.xd [("value", x1)])) := Ext.new g1
    exact p m1 _ dx x1 σ xx (rs1.new g1) (rv.ext xx) upd_same (re1.ext xx)
/-- an error's dict is no place of the store -/
theorem RS.notL {K : PySem.W.Frag} {m : Mu} {H : Hp} {s : Sto} (rs : RS K m H s) {d : Addr} {fs : List (Str × V)} (h : H d = some (.xd fs)) : ¬ inL m d := fun z => by
  obtain ⟨i, hi, e⟩ := List.getElem_of_mem z
  have e1 : m.l[i]? = some (some d) := by rw [List.getElem?_eq_getElem hi, e]
  have hs : i < s.length := by rw [← rs.len]; exact hi
  cases q : s[i]'hs with
  | none =>
    have := rs.dead i (by rw [List.getElem?_eq_getElem hs, q])
    rw [e1] at this; cases this
  | some o =>
    obtain ⟨b, g1, g2⟩ := rs.ot i o (by rw [List.getElem?_eq_getElem hs, q])
    rw [e1] at g1
    cases g1
    cases o with
    | lst vs => obtain ⟨ws, g3, _⟩ := g2; rw [h] at g3; cases g3
    | dct kvs => obtain ⟨ws, g3, _⟩ := g2; rw [h] at g3; cases g3
theorem RE.unset {K : PySem.W.Frag} {m : Mu} {H : Hp} {e : Sl} {σ : L2.St} (r : RE K m H e σ) (i : Nat) (u : Option V) : RE K m H (e.set i none) (σ.set i u) := by
  refine ⟨by simp [r.len], fun j w hw => ?_⟩
  by_cases hj : j = i
  · subst hj
    by_cases hl : j < e.length
    · rw [List.getElem?_set_self hl] at hw; cases hw
    · rw [List.getElem?_eq_none (by simpa using hl)] at hw; cases hw
  · rw [List.getElem?_set_ne (Ne.symm hj)] at hw ⊢
    exact r.at_ j w hw
def tHS (K : PySem.W.Frag) (cl : Nat → Value) (a d : Addr) (i c : Nat) (v : Vl) (h : List (Nat × HE)) : TS := fun D σ H => ∃ m e s, Hx K a d i v m H e σ s ∧ PostF K cl noW D m H (liftR e (exH c v h e s))
theorem okHS {sc : Scope} {fnB : Str → Bool} {W : WX} {X : Cx} {n : Str} {i cn : Nat} {a d : Addr} {oe : Obj} {pn : List (Addr × Obj)} {v : Vl} (z : CxH G N cl C k fnB sc W X n i cn a d oe) : ∀ (h : List (Nat × HE)) (sts : List Stmt), chkHS G N sc n h sts = true →
    PSs (X.suite a ((a, oe) :: pn)) sts (tHS X.K cl a d i cn v h) := by
  have c := z.c
  intro h
  induction h with
  | nil =>
    intro sts h
    cases sts with
    | cons _ _ => cases h
    | nil => exact PSs.weak pss_nil fun D σ H ⟨m, e, s, hx, p⟩ => p m H σ Ext.refl hx.rs hx.re
  | cons q r ih =>
    intro sts h
    obtain ⟨j, he⟩ := q
    cases sts with
    | nil => cases h
    | cons st sts =>
    cases st <;> first | (cases h; done) | skip
    rename_i ts e' pos
    cases ts with
    | nil => cases h
    | cons t ts =>
    cases ts with
    | cons _ _ => cases t <;> cases h
    | nil =>
    cases t <;> first | (cases h; done) | skip
    rename_i x px
    have h : (decide (N[j]? = some x) && isLoc sc x && !(x == n) && chkH G N sc n he e' && chkHS G N sc n r sts) = true := h
    simp only [Bool.and_eq_true, decide_eq_true_eq, Bool.not_eq_true'] at h
    obtain ⟨⟨⟨⟨h1, h2⟩, h3⟩, h4⟩, h5⟩ := h
    have hij : j ≠ i := fun e => by
      subst e
      have := z.hi
      rw [h1] at this
      cases this
      simp at h3
    have lc := isLocV h2
    refine PSs.weak (pss_cons (ps_set (X := X.suite a ((a, oe) :: pn)) (i := j) (by show X.N.Nodup; rw [c.n]; exact c.nd) (by show X.N[j]? = _; rw [c.n]; exact h1) (by show Loc X.env.scope x; rw [c.sc]; exact .inl lc) ((okH (v := v) z he).1 h4) (swapH h4 _ _ _) (.inr (by show X.env.scope.names.lookup x = _; rw [c.sc]; exact lc))) (ih sts h5)) fun D σ H ⟨m, e, s, hx, p⟩ => ?_
    have p : PostF X.K cl noW D m H (liftR e ((evH cn v he e s).bind fun x s => exH cn v r (e.set j (some x)) s)) := p
    rw [liftR_bind] at p
    refine ⟨m, e, s, hx, postF_k (R := RV X.K) hx.re p fun y H1 m1 u s1 re1 x1 rs1 rv p => ?_⟩
    have hx1 := hx.ext x1 rs1
    refine ⟨m1, e.set j (some u), s1, ⟨re1.set rv, rs1, ?_, hx1.vl, hx1.nd⟩, ?_⟩
    · rw [List.getElem?_set_ne hij]
      exact hx.at_
    · cases q : exH cn v r (e.set j (some u)) s1 with
      | ok e2 s2 => rw [q] at p; exact p
      | ex c2 v2 s2 => rw [q] at p; exact fun m' H' d y σ' x' r' rv' hd re' => (p m' H' d y _ x' r' rv' hd (re1.ext x')).elim
      | no => rw [q] at p; exact p
def tryF (i : Nat) (h : List (Nat × HE)) (c : Nat) (v : Vl) (e : Sl) (s : Sto) : Fl := match exH c v h (e.set i none) s with
  | .ok e s => .nx (e.set i none) s
  | _ => .no
theorem exS_tryx {b : IS} {i : Nat} {l : List Bool} {h : List (Nat × HE)} {e : Sl} {s : Sto} : exS C fu (.tryx b i l h) e s = match exS C fu b e s with
    | .ex c v e s => if inCls l c = true then tryF i h c v e s else .ex c v e s
    | .nx e s => .nx e s
    | .rt v s => .rt v s
    | .bk e s => .bk e s
    | .ct e s => .ct e s
    | .no => .no := rfl
/-- the suite of a clause, seen from the try -/
def tTs (X : Cx) (cl : Nat → Value) (i : Nat) (h : List (Nat × HE)) (a : Addr) (cls : Value) (d : Option Addr) : TS := fun D σ H => ∃ (σ0 : L2.St) (dd : Addr) (cn : Nat) (v : Vl) (m : Mu) (e : Sl) (s : Sto) (y : V), σ = σ0.set i (some (.ref a)) ∧ d = some dd ∧ cls = cl cn ∧ RE X.K m H e σ ∧ RS X.K m H s ∧ RV X.K m H v y ∧ H dd = some (.xd [("value", y)]) ∧ PostF X.K cl noW D m H (liftR e (exH cn v h e s))
theorem sndS_tryx {b : IS} {i : Nat} {l : List Bool} {h : List (Nat × HE)} (hb : OkSs G N cl C k fu b) : OkS G N cl C k fu (.tryx b i l h) := by
  intro sc fnB W X c st hk
  cases st <;> first | (cases hk; done) | skip
  rename_i body hds oels fin pos
  cases hds with
  | nil => cases hk
  | cons hd hds =>
  cases hds with
  | cons _ _ => obtain ⟨o, n, su, p⟩ := hd; cases o with
    | none => cases hk
    | some o => cases o <;> cases n <;> cases hk
  | nil =>
  obtain ⟨o, n, su, p⟩ := hd
  cases o with
  | none => cases hk
  | some o =>
  cases o <;> first | (cases n <;> cases hk; done) | skip
  rename_i y py
  cases n with
  | none => cases hk
  | some n =>
  cases oels with
  | cons _ _ => cases hk
  | nil =>
  cases fin with
  | cons _ _ => cases hk
  | nil =>
  have hk : (decide (N[i]? = some n) && isLoc sc n && !(n == ("__debug__" : Str)) && !(n == ("__classdict__" : Str)) && decide ((y, l) ∈ G.isx) && gloB sc y && !su.isEmpty && chkHS G N sc n h su && chkSs G N fnB sc b body) = true := hk
  simp only [Bool.and_eq_true, decide_eq_true_eq, Bool.not_eq_true'] at hk
  obtain ⟨⟨⟨⟨⟨⟨⟨⟨h1, h2⟩, h3⟩, h4⟩, h5⟩, h6⟩, h7⟩, h8⟩, h9⟩ := hk
  cases su with
  | nil => cases h7
  | cons b0 su =>
  have xi := c.c.xi y l h5
  obtain ⟨w, cv, hm, _, _, hex⟩ := xi.ex
  have lc := isLocV h2
  refine PS.weak (ps_try_as (i := i) (tb := fun W' => tS X.K cl C W' fu b) (ts := tTs X cl i h) c.stk.1 c.stk.2 (by rw [c.c.n]; exact c.c.nd) (by rw [c.c.n]; exact h1) (by show X.env.scope.names.lookup n = _; rw [c.c.sc]; exact lc) ⟨c.c.gl h6, (gloB_ok h6).2, hm⟩ c.c.tk (fun W' pn xe tk hp => ?_) (fun a oe cls d pn hz hf => ?_)) fun D σ H ⟨m, e, s, re, rs, p⟩ => ?_
  · have ck : CokS G N cl C k fnB sc W' (X.tr pn xe) := ⟨⟨c.c.n, c.c.sc, c.c.fnB, c.c.calm, c.c.nd, tk, c.c.gd, c.c.rm, c.c.fn, c.c.cn, c.c.bi, c.c.gc, c.c.k2, c.c.xc, c.c.xi⟩, c.kind, hp, c.stk⟩
    exact hb ck h9
  · refine ⟨fun pins s σ H D I ⟨σ0, dd, cn, v, m, e, st, y, e1, e2, e3, re, rs, rv, hd, p⟩ => ?_⟩
    subst e2
    subst e3
    have z : CxH G N cl C k fnB sc W X n i cn a dd oe := ⟨c.c, hz, hf, h1, h2, ⟨h3, h4⟩, xi.all cn⟩
    refine (okHS z h (b0 :: su) h8).run pins s σ H D I ⟨m, e, st, ⟨re, rs, ?_, ⟨y, rv, hd⟩, rs.notL hd⟩, p⟩
    have hl : σ.length = N.length := by have := I.len; rw [show (X.suite a ((a, oe) :: pn)).N = X.N from rfl, c.c.n] at this; exact this
    have hi : i < N.length := (List.getElem?_eq_some_iff.mp h1).1
    subst e1
    rw [List.length_set] at hl
    rw [List.getElem?_set_self (by omega)]
  · have p : PostF X.K cl W D m H (exS C fu (.tryx b i l h) e s) := p
    rw [exS_tryx] at p
    refine ⟨m, e, s, re, rs, ?_⟩
    show PostF X.K cl (wAs X.K cv i (tTs X cl i h) W D) D m H (exS C fu b e s)
    cases q : exS C fu b e s with
    | nx e1 s1 => rw [q] at p; exact p
    | rt v s1 => rw [q] at p; exact p
    | bk e1 s1 => rw [q] at p; exact p
    | ct e1 s1 => rw [q] at p; exact p
    | no => rw [q] at p; exact p
    | ex cn v e1 s1 =>
      rw [q] at p
      intro m' H' d y σ' x rs' rv hd re'
      refine ⟨inCls l cn, (hex cn).2, fun hy a ha => ?_, fun hn => ?_⟩
      · have p : PostF X.K cl W D m H (if inCls l cn = true then tryF i h cn v e1 s1 else .ex cn v e1 s1) := p
        rw [if_pos hy] at p
        refine ⟨σ', d, cn, v, m', e1.set i none, s1, y, rfl, rfl, rfl, re'.unset i _, rs', rv, hd, ?_⟩
        unfold tryF at p
        cases q2 : exH cn v h (e1.set i none) s1 with
        | ok e2 s2 =>
          rw [q2] at p
          exact fun m2 H2 σ2 x2 r2 re2 => p m2 H2 _ (x.trans x2) r2 (re2.unset i none)
        | ex c2 v2 s2 => rw [q2] at p; exact p.elim
        | no => rw [q2] at p; exact p.elim
      · have p : PostF X.K cl W D m H (if inCls l cn = true then tryF i h cn v e1 s1 else .ex cn v e1 s1) := p
        rw [if_neg (by rw [hn]; exact Bool.false_ne_true)] at p
        exact p m' H' d y σ' x rs' rv hd re'
end
end SM

set_option maxHeartbeats 1000000
/-! SM: for; every statement. -/
namespace SM
open PySem L2 PySem.Spec PyProof.Rows
section
variable {G : Sg} {N : List Str} {cl : Nat → Value} {C : Cal} {k fu : Nat}
def turnS (C : Cal) (fu : Nat) (tg : IE) (body : IS) : Vl → Sl → Sto → Fl := fun v e s => match setTgV tg v e with
  | none => .no
  | some e => exS C fu body e s
theorem exS_for {tg it : IE} {body : IS} {e : Sl} {s : Sto} : exS C fu (.forr tg it body) e s = bindF e (itr C it e s) fun I s => goI (turnS C fu tg body) I e s := by
  show (match itr C it e s with
    | .ok I s => goI (turnS C fu tg body) I e s
    | .ex c v s => .ex c v e s
    | .no => .no) = _
  cases itr C it e s <;> rfl
theorem sndS_forr {tg it : IE} {body : IS} (hb : OkSs G N cl C k fu body) : OkS G N cl C k fu (.forr tg it body) := by
  intro sc fnB W X c st h
  cases st <;> first | (cases h; done) | skip
  rename_i t it' body' orelse pos
  cases orelse with
  | cons _ _ => cases h
  | nil =>
  have h : (chkG fnB sc N tg t && zipTg it t && chki G N sc it it' && chkSs G N fnB sc body body') = true := h
  simp only [Bool.and_eq_true] at h
  obtain ⟨⟨⟨h1, h2⟩, h3⟩, h4⟩ := h
  refine PS.weak (ps_for c.hp c.c.calm ((oks it).i c.c h2 h3) (snd_tgV c.c tg t h1) (hb c h4) (fun x => foldi (tg := t) h3 X.env x)) fun D σ H ⟨m, e, s, re, rs, p⟩ => ?_
  replace p : PostF X.K cl W D m H (exS C fu (.forr tg it body) e s) := p
  rw [exS_for] at p
  refine ⟨m, e, s, re, rs, postF_k (R := RI X.K) re p fun J H1 m1 I s1 re1 x1 rs1 ri p => ?_⟩
  cases I with
  | vals ds =>
    obtain ⟨Gd, Y, wk, hg, hy⟩ := ri
    have p : PostF X.K cl W D m1 H1 (goL (turnS C fu tg body) ds e s1) := p
    refine for_it wk (fun i σ' H' => ∃ m' e' s', Wk m1 H1 m' H' ∧ RE X.K m' H' e' σ' ∧ RS X.K m' H' s' ∧ PostF X.K cl W D m' H' (goL (turnS C fu tg body) (ds.drop i) e' s')) ?_ ?_ ?_ ?_
    · exact ⟨m1, e, s1, Ext.refl.wk, re1, rs1, p⟩
    · rintro i σ' H' - ⟨m', e', s', w, _, _, _⟩
      exact hg _ _ w
    · rintro i x σ' H' H'' hi ⟨m', e', s', w, re', rs', p⟩ y
      obtain ⟨k1, d, k2, k3⟩ := hy _ _ _ _ _ _ w rs' hi y
      rw [List.getElem?_eq_getElem hi] at k2
      injection k2 with k2
      rw [List.drop_eq_getElem_cons hi, k2] at p
      have xs : Ext m' H' m' H'' := Ext.same k1
      have p : PostF X.K cl W D m' H' (match turnS C fu tg body (.d d) e' s' with
        | .nx e s => goL (turnS C fu tg body) (ds.drop (i + 1)) e s
        | .ct e s => goL (turnS C fu tg body) (ds.drop (i + 1)) e s
        | .bk e s => .nx e s
        | .rt v s => .rt v s
        | .ex c v e s => .ex c v e s
        | .no => .no) := p
      unfold turnS at p
      cases q : setTgV tg (.d d) e' with
      | none => simp only [q] at p; exact p.elim
      | some e1 =>
        simp only [q] at p
        refine ⟨m', e', .d d, e1, re'.ext xs, k3, q, fun σ2 re2 _ => ⟨m', e1, s', re2, rs'.same k1, loopF (PostF.ext xs p) fun m2 H2 σ3 e2 s2 x2 rs2 re2 p2 => ?_⟩⟩
        exact ⟨m2, e2, s2, (w.trans xs.wk).trans x2.wk, re2, rs2, p2⟩
    · rintro σ' H' ⟨m', e', s', w, re', rs', p⟩
      rw [List.drop_length] at p
      exact PostF.here re' rs' p
  | ref n =>
    obtain ⟨a, ha, rfl⟩ := ri
    have hn1 : n < m1.l.length := (List.getElem?_eq_some_iff.mp ha).1
    have p : PostF X.K cl W D m1 H1 (goR (turnS C fu tg body) n ((listAt n s1).map List.length |>.getD 0) 0 e s1) := p
    refine ⟨fun i f σ' H' => ∃ m' e' s', Wk m1 H1 m' H' ∧ RE X.K m' H' e' σ' ∧ RS X.K m' H' s' ∧ PostF X.K cl W D m' H' (goR (turnS C fu tg body) n f i e' s'), ⟨_, m1, e, s1, Ext.refl.wk, re1, rs1, p⟩, ?_⟩
    rintro i f σ' H' ⟨m', e', s', w, re', rs', p⟩
    unfold goR at p
    cases ql : listAt n s' with
    | none => rw [ql] at p; exact p.elim
    | some us =>
    rw [ql] at p
    simp only at p
    obtain ⟨a', zs, z1, z2, z3⟩ := rs'.at_ n us (listAt_of ql)
    have ea : a' = a := by
      rcases w.pl n hn1 with z | z
      · rw [z, ha] at z1; cases z1; rfl
      · rw [z] at z1; cases z1
    subst ea
    cases qi : us[i]? with
    | none =>
      rw [qi] at p
      refine .inl ⟨⟨zs, SqL.of z2, ?_⟩, PostF.here re' rs' p⟩
      rw [← z3.length]
      exact List.getElem?_eq_none_iff.mp qi
    | some u =>
      rw [qi] at p
      simp only at p
      cases f with
      | zero => exact p.elim
      | succ f =>
      simp only at p
      obtain ⟨x, w1, w2⟩ := z3.get qi
      refine .inr ⟨⟨zs, x, SqL.of z2, w1⟩, fun σ' H' => ∃ m' e' s', Wk m1 H1 m' H' ∧ RE X.K m' H' e' σ' ∧ RS X.K m' H' s' ∧ PostF X.K cl W D m' H' (goR (turnS C fu tg body) n f (i + 1) e' s'), fun σ' H' q => ⟨f, Nat.lt_succ_self f, q⟩, fun x' H'' y => ?_⟩
      obtain ⟨rfl, y⟩ := y
      have := y zs (SqL.of z2)
      rw [w1] at this
      cases this
      have p : PostF X.K cl W D m' H'' (match turnS C fu tg body u e' s' with
        | .nx e s => goR (turnS C fu tg body) n f (i + 1) e s
        | .ct e s => goR (turnS C fu tg body) n f (i + 1) e s
        | .bk e s => .nx e s
        | .rt v s => .rt v s
        | .ex c v e s => .ex c v e s
        | .no => .no) := p
      unfold turnS at p
      cases q : setTgV tg u e' with
      | none => simp only [q] at p; exact p.elim
      | some e1 =>
        simp only [q] at p
        refine ⟨m', e', u, e1, re', w2, q, fun σ2 re2 _ => ⟨m', e1, s', re2, rs', loopF p fun m2 H2 σ3 e2 s2 x2 rs2 re2 p2 => ?_⟩⟩
        exact ⟨m2, e2, s2, w.trans x2.wk, re2, rs2, p2⟩
structure OksS (G : Sg) (N : List Str) (cl : Nat → Value) (C : Cal) (k fu : Nat) (is : IS) : Prop where
  s : OkS G N cl C k fu is
  b : OkSs G N cl C k fu is
theorem OksS.one {is : IS} (s : OkS G N cl C k fu is) (h : ∀ (fnB : Str → Bool) (sc : Scope) (sts : List Stmt), chkSs G N fnB sc is sts = false) : OksS G N cl C k fu is := ⟨s, fun _ _ q => by rw [h] at q; cases q⟩
theorem chkSs_cons {a r : IS} {st : Stmt} {sts : List Stmt} {fnB : Str → Bool} {sc : Scope} (h : ∀ i, a ≠ .vfz i) : chkSs G N fnB sc (.cons a r) (st :: sts) = (chkS G N fnB sc a st && chkSs G N fnB sc r sts) := by
  cases a <;> first | rfl | exact absurd rfl (h _)
theorem chkSs_cons0 {a r : IS} {fnB : Str → Bool} {sc : Scope} (h : ∀ i, a ≠ .vfz i) : chkSs G N fnB sc (.cons a r) [] = false := by
  cases a <;> first | rfl | exact absurd rfl (h _)
theorem frz_keep {K : PySem.W.Frag} {m : Mu} {H : Hp} {v : Vl} {x : V} {s : Sto} {p : Vl × Sto} (rs : RS K m H s) (rv : RV K m H v x) (q : frzV v s = some p) : ∃ m2, Ext m H m2 H ∧ RS K m2 H p.2 ∧ RV K m2 H p.1 x := by
  cases v with
  | d y =>
    have q : some (Vl.d y, s) = some p := q
    cases q
    exact ⟨m, Ext.refl, rs, rv⟩
  | r n =>
    have lst : ∀ {st : Sto} {us : List Vl}, listAt n st = some us → st[n]? = some (some (.lst us)) := fun {st us} q => by
      unfold listAt at q
      split at q
      · cases q; assumption
      · cases q
    have q : ((listAt n s).bind fun vs => (frzL vs s).bind fun p => (listAt n p.2).map fun _ => (Vl.d (.list p.1), p.2.set n none)) = some p := q
    cases q1 : listAt n s with
    | none => rw [q1] at q; cases q
    | some vs =>
      rw [q1] at q
      cases q2 : frzL vs s with
      | none => simp [q2] at q
      | some p2 =>
        simp [q2] at q
        cases q3 : listAt n p2.2 with
        | none => simp [q3] at q
        | some us =>
          simp [q3] at q
          subst q
          have w := lst q1
          obtain ⟨a, ws, rfl, g1, g2, g3⟩ := rs.get q1 rv
          obtain ⟨m2, f1, f2, f3⟩ := RS.frzL rs g3 q2
          obtain ⟨a2, ws2, k1, k2, _⟩ := f2.at_ n us (lst q3)
          have ea : a2 = a := by
            rcases f1.pl n (List.getElem?_eq_some_iff.mp g1).1 with z | z
            · rw [z, g1] at k1; cases k1; rfl
            · rw [z] at k1; cases k1
          subst ea
          obtain ⟨e1, e2, e3⟩ := f2.freeze (lst q3) k1 g2 f3
          exact ⟨_, f1.trans e1, e2, e3⟩
theorem re_keep {K : PySem.W.Frag} {m : Mu} {H : Hp} {e : Sl} {σ : L2.St} (r : RE K m H e σ) {i : Nat} {u : Vl} {v : V} (h : σ[i]? = some (some v)) (rv : RV K m H u v) : RE K m H (e.set i (some u)) σ := by
  refine ⟨by simp [r.len], fun j w hw => ?_⟩
  by_cases hj : j = i
  · subst hj
    have hl : j < e.length := by
      have := (List.getElem?_eq_some_iff.mp hw).1
      simpa using this
    rw [List.getElem?_set_self hl] at hw
    cases hw
    exact ⟨v, h, rv⟩
  · rw [List.getElem?_set_ne (fun z => hj z.symm)] at hw
    exact r.at_ j w hw
theorem oksS : ∀ is : IS, OksS G N cl C k fu is := by
  intro is
  induction is with
  | nil =>
    refine ⟨fun {sc} {fnB} {W} {X} c {st} h => (by cases st <;> cases h), fun {sc} {fnB} {W} {X} c {sts} h => ?_⟩
    cases sts with
    | cons _ _ => cases h
    | nil => exact PSs.weak pss_nil fun D σ H ⟨m, e, s, re, rs, p⟩ => PostF.here re rs p
  | cons a r iha ihr =>
    refine ⟨fun {sc} {fnB} {W} {X} c {st} h => (by cases st <;> cases h), fun {sc} {fnB} {W} {X} c {sts} h => ?_⟩
    by_cases hv : ∃ i, a = .vfz i
    · obtain ⟨i, rfl⟩ := hv
      have h : chkSs G N fnB sc r sts = true := by cases sts <;> exact h
      refine PSs.weak (ihr.b c h) fun D σ H ⟨m, e, s, re, rs, p⟩ => ?_
      have p : PostF X.K cl W D m H (match (match e[i]? with
        | some (some v) => (match frzV v s with
          | some p => Fl.nx (e.set i (some p.1)) p.2
          | none => .no)
        | _ => .no) with
        | .nx e s => exS C fu r e s
        | f => f) := p
      cases q1 : e[i]? with
      | none => rw [q1] at p; exact p.elim
      | some o =>
        cases o with
        | none => rw [q1] at p; exact p.elim
        | some v =>
          simp only [q1] at p
          cases q2 : frzV v s with
          | none => simp only [q2] at p; exact p.elim
          | some w =>
            simp only [q2] at p
            obtain ⟨x, hx, rv⟩ := re.at_ i v q1
            obtain ⟨m2, x2, rs2, rv2⟩ := frz_keep rs rv q2
            exact ⟨m2, e.set i (some w.1), w.2, re_keep (re.ext x2) hx rv2, rs2, PostF.ext x2 p⟩
    have hv' : ∀ i, a ≠ .vfz i := fun i z => hv ⟨i, z⟩
    cases sts with
    | nil => rw [chkSs_cons0 hv'] at h; cases h
    | cons st sts =>
      rw [chkSs_cons hv'] at h
      simp only [Bool.and_eq_true] at h
      refine PSs.weak (pss_cons (iha.s c h.1) (ihr.b c h.2)) fun D σ H ⟨m, e, s, re, rs, p⟩ => ⟨m, e, s, re, rs, ?_⟩
      have p : PostF X.K cl W D m H (match exS C fu a e s with
        | .nx e s => exS C fu r e s
        | f => f) := p
      show PostF X.K cl W { nx := tS X.K cl C W fu r D, rt := D.rt, bk := D.bk, ct := D.ct } m H (exS C fu a e s)
      cases q : exS C fu a e s with
      | nx e1 s1 => rw [q] at p; exact fun m' H' σ' x rs re => ⟨m', e1, s1, re, rs, PostF.ext x p⟩
      | rt _ _ => rw [q] at p; exact p
      | bk _ _ => rw [q] at p; exact p
      | ct _ _ => rw [q] at p; exact p
      | ex _ _ _ _ => rw [q] at p; exact p
      | no => rw [q] at p; exact p
  | vfz i => exact ⟨fun {sc} {fnB} {W} {X} c {st} h => (by cases st <;> cases h), fun {sc} {fnB} {W} {X} c {sts} h => (by cases sts <;> cases h)⟩
  | asg tg e => exact .one sndS_asg fun _ _ x => by cases x <;> rfl
  | par t u a b => exact .one sndS_par fun _ _ x => by cases x <;> rfl
  | par3 => exact .one sndS_par3 fun _ _ x => by cases x <;> rfl
  | ptup => exact .one sndS_ptup fun _ _ x => by cases x <;> rfl
  | aug => exact .one sndS_aug fun _ _ x => by cases x <;> rfl
  | ite c a b iha ihb => exact .one (sndS_ite iha.b ihb.b) fun _ _ x => by cases x <;> rfl
  | forr tg it b ihb => exact .one (sndS_forr ihb.b) fun _ _ x => by cases x <;> rfl
  | whil c b ihb => exact .one (sndS_whil ihb.b) fun _ _ x => by cases x <;> rfl
  | rais => exact .one sndS_rais fun _ _ x => by cases x <;> rfl
  | tryx b i l h ihb => exact .one (sndS_tryx ihb.b) fun _ _ x => by cases x <;> rfl
  | ret => exact .one sndS_ret fun _ _ x => by cases x <;> rfl
  | expr => exact .one sndS_expr fun _ _ x => by cases x <;> rfl
  | pass => exact .one sndS_small.1 fun _ _ x => by cases x <;> rfl
  | brk => exact .one sndS_small.2.1 fun _ _ x => by cases x <;> rfl
  | cont => exact .one sndS_small.2.2.1 fun _ _ x => by cases x <;> rfl
  | never => exact ⟨sndS_small.2.2.2, fun {sc} {fnB} {W} {X} c {sts} h => PSs.weak pss_never fun D σ H ⟨m, e, s, re, rs, p⟩ => p⟩
end
end SM

set_option maxHeartbeats 1000000
/-! SM: defs, level by level; the law's own call. -/
namespace SM
open PySem L2 PySem.Spec PyProof.Rows
section
variable {P : Program} {w : World} {K : PySem.W.Frag} {mg : Str → Option Value} {base : Heap}
/-- a def whose body keeps it, where nothing is being shown -/
theorem fnG_of {x qual : Str} {params : Arguments} {body : List Stmt} {scope : Scope} {f : Addr} {fd : FuncData} {N ps : List Str} {k : Nat} {sp : Sp} (F : FunD K x qual params body scope [] [] f fd) (S : FnScope N ps scope)
    (len : ∀ vs H Q E, sp vs H Q E → vs.length = ps.length)
    (hb : ∀ (cdv : Value) (A : Around) (out : List Env) (s : Shared) (H : Hp) (vs : List V) (Q : VK) (E : XK), Room k (A.deeper (envOfC qual scope s.heap.objs.size f cdv)) → A.guards = some [] → sp vs H Q E →
      ∃ t, PSs (cxOf (L2.CX P w) P w K mg base N qual scope f cdv A out s H E) body t ∧ t { nx := fun _ H' => Q .non H', rt := Q } (start N vs) H) : FnG P w K mg base (k + 1) f fd ps sp := by
  obtain ⟨oc, od, dV, kV, doc, pm, an, cdv, ct, osl, rfl, lk, hcd, _, _⟩ := F.ex
  refine ⟨len, fun A out sh H args us vs Q E room gd env bind vals prom => ?_⟩
  have inK : K.In sh.heap := env.mod.kin.keeps fun b o q => (env.bs b o q).1
  have noLim : sh.heap.NoLimit := env.mod.nolimit.keeps fun b o q => (env.bs b o q).1
  have kinds : ∀ y ∈ ps.zip us, scope.names.lookup y.1 = some .local ∨ (scope.names.lookup y.1 = some .cell ∧ ((cellsFrom (sh.heap.objs.size + 1) scope.names []).lookup y.1).isSome = true) := by
    rintro ⟨nm, v⟩ hy
    exact (S.par nm (List.of_mem_zip hy).1).imp id fun q => ⟨q, PySem.W.cellsFrom_some _ _ _ (.inl q)⟩
  refine codeAny_call_function room.depth (inK _ _ lk) rfl S.co S.gen rfl (PySem.W.codeRec_of inK hcd) (bind _ _ _ _ (wpAny_newFunctionEnv_cells S.kind kinds fun env' he s1 incall => ?_))
  subst he
  refine ⟨noLim.keeps incall.toInCall.keep, codeAny_func ?_⟩
  obtain ⟨t, runs, holds⟩ := hb cdv A out sh H vs Q E (room.deeper _) gd prom
  have inv := inv_start (CX := L2.CX P w) (N := N) (E := E) S room.hd env (len _ _ _ _ prom) vals incall
  refine wpAny_mono (runs.run [] s1 (start N vs) H _ inv holds) (fun fl s' hs => ?_) fun e s' hs => hs
  cases fl with
  | ret u => obtain ⟨v, _, H', J, rv, q⟩ := hs; exact ⟨v, H', J.os, J.bare, J.base, J.hok, rv, q⟩
  | next => obtain ⟨_, H', J, q⟩ := hs; exact ⟨.non, H', J.os, J.bare, J.base, J.hok, rfl, q⟩
  | brk => obtain ⟨_, _, _, q⟩ := hs; exact q.elim
  | cont => obtain ⟨_, _, _, q⟩ := hs; exact q.elim
end
/-! ### the table of defs -/
structure DefAt (G : Sg) (K : PySem.W.Frag) (mg : Str → Option Value) (x : Str) (F : Df) (a : Addr) (fd : FuncData) (ps : List Str) : Prop where
  gl : mg x = some (.ref a)
  bd : ∀ (s : Shared) (us : List Value), us.length = ps.length → BindsTo s fd ⟨us, []⟩ (ps.zip us)
  np : F.np = ps.length
  kp : PySem.W.keepIn K (.ref a) = true
  kw : ∀ (nms : List Str) (perm : List Nat), (x, nms, perm) ∈ G.kws → KwB fd ps nms perm
  ex : ∃ (N : List Str) (qual : Str) (params : Arguments) (body : List Stmt) (scope : Scope), FunD K x qual params body scope [] [] a fd ∧ FnScope N ps scope ∧ F.ns = N.length ∧ chkSs G N (fun _ => true) scope F.body body = true
def DefOk (G : Sg) (K : PySem.W.Frag) (mg : Str → Option Value) (x : Str) (F : Df) : Prop := ∃ (a : Addr) (fd : FuncData) (ps : List Str), DefAt G K mg x F a fd ps
structure TabOk (G : Sg) (K : PySem.W.Frag) (mg : Str → Option Value) (P : List Df) : Prop where
  fn : ∀ (f : Nat) (x : Str), G.fns[f]? = some x → ∃ F, P[f]? = some F ∧ DefOk G K mg x F
  cn : ∀ (x : Str) (d : PyData), (x, d) ∈ G.cns → ∃ u v, mg x = some u ∧ L2.RelV v u ∧ ∀ m H, Rep K m H d v
  bi : ∀ x ∈ G.bis, mg x = none
  gc : ((("gcd" : Str) ∈ G.mth) → mg "gcd" = some (.builtin "math.gcd")) ∧ ((("lcm" : Str) ∈ G.mth) → mg "lcm" = some (.builtin "math.lcm"))
/-- an error class by the module's name x, as the head tells it -/
def XkF (P : Program) (K : PySem.W.Frag) (mg : Str → Option Value) (x : Str) (cv : Value) : Prop := ∃ (C D fI cda cc : Addr) (qual t : Str) (pa pb p0 p1 p2 p3 p4 p5 p6 p7 p8 p9 : Pos), mg x = some (.ref C) ∧ cv = .ref C ∧
  IniK P K mg D fI cda cc qual (iniArgs pa pb) (iniBody t p0 p1 p2 p3 p4 p5 p6 p7 p8 p9) iniScope ∧ (p2.endLine == p4.line) = true ∧ IniC K D C ∧ PySem.W.findIn K (.ref C) "__init__" = some (some (.ref fI))
/-- what the head tells of the error classes -/
structure TabX (G : Sg) (P : Program) (K : PySem.W.Frag) (mg : Str → Option Value) (cl : Nat → Value) : Prop where
  xk : ∀ (x : Str) (n : Nat), G.exs[n]? = some x → XkF P K mg x (cl n)
  xi : ∀ (y : Str) (l : List Bool), (y, l) ∈ G.isx → XiF K mg cl y l
theorem XkF.xc {P : Program} {w : World} {K : PySem.W.Frag} {mg : Str → Option Value} {x : Str} {cv : Value} (h : XkF P K mg x cv) (base : Heap) : XcF P w K mg base x cv := by
  obtain ⟨C, D, fI, cda, cc, qual, t, pa, pb, p0, p1, p2, p3, p4, p5, p6, p7, p8, p9, h1, h2, h3, h4, h5, h6⟩ := h
  obtain ⟨fd, f1, f2⟩ := ini_ok (w := w) (base := base) h3 h4
  exact ⟨C, D, fI, fd, h1, h2, h5, h6, h3.typ, f1, f2⟩
theorem tabX_nil {P : Program} {K : PySem.W.Frag} {mg : Str → Option Value} {cl : Nat → Value} {G : Sg} (h1 : G.exs = []) (h2 : G.isx = []) : TabX G P K mg cl := ⟨fun x n h => by rw [h1] at h; simp at h, fun y l h => by rw [h2] at h; simp at h⟩
section
variable {G : Sg} {P : Program} {w : World} {K : PySem.W.Frag} {mg : Str → Option Value} {T : List Df} {cl : Nat → Value} {fu : Nat}
theorem leave_post {s₀ : Sto} {m : Mu} {H : Hp} {fl : Fl} {Q : VK} {E : XK} (rs : RS K m H s₀) (p : Post K cl (RV K) E Q m H (leave s₀ fl)) : PostF K cl (fun cls d _ H => E cls d H) { nx := fun _ H' => Q .non H', rt := Q } m H fl := by
  cases fl with
  | nx e s =>
    intro m' H' σ' x rs' _
    simp only [leave] at p
    split at p
    · rename_i c
      obtain ⟨h1, h2, h3⟩ := rs.cut x rs' (v := .d .none) (y := .non) rfl c
      exact p _ _ _ h1 h2 h3
    · exact p m' H' .non x rs' rfl
  | rt v s =>
    intro m' H' b x rs' rv
    simp only [leave] at p
    split at p
    · rename_i c
      obtain ⟨h1, h2, h3⟩ := rs.cut x rs' rv c
      exact p _ _ _ h1 h2 h3
    · exact p m' H' b x rs' rv
  | bk e s => exact (show False from p).elim
  | ct e s => exact (show False from p).elim
  | ex c v e s => exact fun m' H' d y σ' x rs' rv hd _ => p m' H' d y x rs' rv hd
  | no => exact p
theorem RVs.start {m : Mu} {H : Hp} {us : List Vl} {vs : List V} (r : RVs K m H us vs) (N : List Str) (n : Nat) (hn : us.length = n) : RE K m H (us.map some ++ List.replicate (N.length - n) none) (L2.start N vs) := by
  subst hn
  refine ⟨by unfold L2.start; simp [r.length], fun i v h => ?_⟩
  have hl := r.length
  by_cases hi : i < us.length
  · rw [List.getElem?_append_left (by simpa using hi), List.getElem?_map] at h
    obtain ⟨u, e, rfl'⟩ := omap h
    cases rfl'
    obtain ⟨y, e2, rv⟩ := r.get e
    refine ⟨y, ?_, rv⟩
    unfold L2.start
    rw [List.getElem?_append_left (by simpa [← hl] using hi), List.getElem?_map, e2]
    rfl
  · rw [List.getElem?_append_right (by simpa using hi), List.getElem?_replicate] at h
    split at h <;> cases h
theorem callI_len {f : Nat} {F : Df} (hF : T[f]? = some F) {vs : List Vl} (h : vs.length ≠ F.np) (s : Sto) : ∀ k, callI T fu k f vs s = .no
  | 0 => rfl
  | k + 1 => by
    unfold callI
    rw [hF]
    exact if_neg h
theorem binds_all {fd : FuncData} {ps : List Str} (h : ∀ (s : Shared) (us : List Value), us.length = ps.length → BindsTo s fd ⟨us, []⟩ (ps.zip us)) : Binds K fd ps [] := fun s us _ hl => by
  rw [List.append_nil] at hl ⊢
  exact h s us hl
theorem level (tab : TabOk G K mg T) (tax : TabX G P K mg cl) (base : Heap) : ∀ (k f : Nat) (x : Str) (F : Df) (a : Addr) (fd : FuncData) (ps : List Str), T[f]? = some F → DefAt G K mg x F a fd ps → FnG P w K mg base (k + 2) a fd ps (spI K cl (callI T fu k) f ps.length)
  | 0, f, x, F, a, fd, ps, hF, D => by
    refine ⟨fun vs H Q E z => z.1, fun A out s H args us vs Q E _ _ _ _ _ z => ?_⟩
    obtain ⟨_, m, s, us, _, _, p⟩ := z
    exact p.elim
  | k + 1, f, x, F, a, fd, ps, hF, D => by
    obtain ⟨N, qual, params, body, scope, h2, h3, h5, h7⟩ := D.ex
    have h4 := D.np
    refine fnG_of h2 h3 (fun vs H Q E z => z.1) fun cdv A out s H vs Q E room gd z => ?_
    obtain ⟨hl, m, st, us, rv, rs, p⟩ := z
    have ck : Cok G N cl (callI T fu k) (k + 2) (fun _ => true) scope (fun cls d _ H => E cls d H) (cxOf (L2.CX P w) P w K mg base N qual scope a cdv A out s H E) := by
      refine ⟨rfl, rfl, rfl, rfl, h3.nd, takes_of rfl rfl rfl rfl, gd, room, fun f x h => ?_, tab.cn, tab.bi, tab.gc, by omega, fun x n h => (tax.xk x n h).xc base, tax.xi⟩
      obtain ⟨F, hF, a, fd, ps, D⟩ := tab.fn f x h
      exact ⟨a, fd, ps, D.gl, D.kp, binds_all D.bd, fun vs s hl => callI_len hF (by rw [D.np]; exact hl) s k, D.kw, level tab tax base k f x F a fd ps hF D⟩
    refine ⟨_, (oksS (fu := fu) F.body).b ⟨ck, h3.kind, passes_of rfl, rfl, rfl⟩ h7, m, _, st, RVs.start rv N F.np (by rw [rv.length, hl, h4]), rs, leave_post rs ?_⟩
    have e : callI T fu (k + 1) f us st = leave st (exS (callI T fu k) fu F.body (us.map some ++ List.replicate (F.ns - F.np) none) st) := by
      show (match T[f]? with
        | some F => if us.length = F.np then leave st (exS (callI T fu k) fu F.body (us.map some ++ List.replicate (F.ns - F.np) none) st) else .no
        | none => .no) = _
      rw [hF]
      exact if_pos (by rw [rv.length, hl, h4])
    rw [e, h5] at p
    exact p
end
/-! ### the law's own call -/
/-- what is tracked at the start: the script, where it is no object of the module -/
noncomputable def hp0 (K : PySem.W.Frag) (a : Addr) (o : Obj) (ns : List Int) : Hp := fun b => if b = a then (match K.lookup a with
  | some _ => none
  | none => some (.frz o (.lst (ns.map V.int)))) else none
section
variable {K : PySem.W.Frag} {a : Addr} {o : Obj} {ns : List Int}
theorem hp0_ne {b : Addr} (h : b ≠ a) : hp0 K a o ns b = none := if_neg h
theorem hp0_some {b : Addr} {u : HO} (h : hp0 K a o ns b = some u) : b = a ∧ K.lookup a = none ∧ u = .frz o (.lst (ns.map V.int)) := by
  by_cases e : b = a
  · subst e
    have h : (match K.lookup b with
      | some _ => none
      | none => some (HO.frz o (.lst (ns.map V.int)))) = some u := (if_pos rfl).symm.trans h
    cases q : K.lookup b with
    | none => rw [q] at h; cases h; exact ⟨rfl, rfl, rfl⟩
    | some _ => rw [q] at h; cases h
  · rw [hp0_ne e] at h; cases h
theorem hp0_at (h : K.lookup a = none) : hp0 K a o ns a = some (.frz o (.lst (ns.map V.int))) := by
  unfold hp0
  rw [if_pos rfl, h]
end
theorem call_law {P : Program} {w : World} {K : PySem.W.Frag} {mg mb : Str → Option Value} {k : Nat} {fa a : Addr} {fd : FuncData} {x : Str} {sp : Sp} {sh : Shared} {vs : List Value} {ns : List Int}
    (inK : K.In sh.heap) (glo : sh.heap.Ns mainGlobals mg) (blt : sh.heap.Ns builtinsNs mb) (boot : ∀ x : Str, x ≠ "__name__" → mb x = bootBuiltins x) (lim : sh.heap.NoLimit) (noGen : sh.gens = #[])
    (obj : sh.heap.get? a = some { cls := .type "list", data := .seq vs.toArray }) (nums : IntsAre vs ns) (small : ns.length ≤ sizeLine) (room : Room k callerA)
    (keeps : ∀ base : Heap, K.In base → base.Ns mainGlobals mg → FnG P w K mg base k fa fd [x] sp) (binds : ∀ (s : Shared) (u : Value), BindsTo s fd ⟨[u], []⟩ [(x, u)])
    (prom : ∀ H : Hp, SqL K H a (ns.map V.int) → sp [.ref a] H (fun v _ => v = .bl true) fun _ _ _ => False) :
    codeAny (model P w) callerA (.call (.ref fa) ⟨[.ref a], []⟩) (fun r s' => r = .ok (.ret (.bool true)) ∧ OldK sh.heap s'.heap ∧ s'.os = sh.os ∧ AllBare s'.gens) sh := by
  have vals := vals_ints nums
  have count := nums.length
  generalize ho : ({ cls := .type "list", data := .seq vs.toArray } : Obj) = o at obj
  obtain ⟨T, hT⟩ : ∃ T : Hp, T = hp0 K a o ns := ⟨_, rfl⟩
  have only : ∀ {b : Addr}, T b ≠ none → b = a ∧ K.lookup a = none := fun {b} z => by
    cases q : T b with
    | none => exact absurd q z
    | some u => rw [hT] at q; exact ⟨(hp0_some q).1, (hp0_some q).2.1⟩
  have plain : ∀ {b : Addr} {c : Obj} {es : Array DictEntry} {n : Nat}, sh.heap.get? b = some c → c.data = .dict es n → T b = none := fun {b c es n} e d => by
    cases q : T b with
    | none => rfl
    | some u =>
      exfalso
      have ea := (only (by rw [q]; exact fun z => nomatch z)).1
      rw [ea, obj] at e
      cases e
      rw [← ho] at d
      exact nomatch d
  have keepNs : ∀ {b : Addr} {m : Str → Option Value}, sh.heap.Ns b m → (hidT sh.heap T).Ns b m := fun {b m} q => by
    obtain ⟨c, es, n, e, d, r⟩ := q
    exact ⟨c, es, n, hidT_get e (plain e d), d, r⟩
  have inCls : K.In (hidT sh.heap T) := fun b c e => hidT_get (inK b c e) (by
    cases q : T b with
    | none => rfl
    | some u =>
      exfalso
      obtain ⟨e1, e2⟩ := only (b := b) (by rw [q]; exact fun z => nomatch z)
      rw [e1, e2] at e
      cases e)
  have wide : ∀ u, K.lookup a = some u → u = o := fun u e => by
    have := inK a u e
    rw [obj] at this
    exact (Option.some.inj this).symm
  have hS : SqL K T a (ns.map V.int) := by
    cases q : K.lookup a with
    | none =>
      refine .inl (.inr ⟨o, ?_⟩)
      rw [hT]
      exact hp0_at q
    | some u =>
      have := wide u q
      subst this
      subst ho
      exact .inr ⟨_, vs.toArray, _, q, rfl, rfl, rfl, by rw [List.size_toArray, count]; exact small, by simpa using vals⟩
  have hok : HOk P w T sh.heap := fun b u q => by
    rw [hT] at q
    obtain ⟨rfl, _, rfl⟩ := hp0_some q
    subst ho
    exact ⟨obj, by rw [List.length_map]; exact small, vs, _, vals, obj⟩
  have noLim : (hidT sh.heap T).NoLimit := by
    obtain ⟨mc, q1, q2⟩ := lim
    exact ⟨mc, keepNs q1, q2⟩
  have env : Env0 P w K mg (hidT sh.heap T) callerA [] sh T :=
    ⟨rfl, ⟨inCls, keepNs glo, ⟨mb, keepNs blt, boot⟩, noLim⟩, fun _ _ e => of_hidT e, Nat.le_of_eq (hidT_size _ _), trivial, fun b z => (by cases z), hok, .of_eq noGen⟩
  have run := (keeps _ inCls (keepNs glo)).run callerA [] sh T ⟨[.ref a], []⟩ [.ref a] [.ref a] _ _ room rfl env (binds sh (.ref a)) (.cons rfl .nil) (prom T hS)
  refine codeAny_mono run fun r s' h => ?_
  cases r with
  | error e =>
    obtain ⟨_, _, _, _, _, _, _, _, _, _, _, _, z⟩ := h
    exact z.elim
  | ok fl =>
    cases fl with
    | next => exact False.elim h
    | brk => exact False.elim h
    | cont => exact False.elim h
    | ret u =>
      obtain ⟨v, T', os, bare, un, hok', rel, q⟩ := h
      have q : v = .bl true := q
      subst q
      have eu : u = Value.bool true := rel
      subst eu
      refine ⟨rfl, OldK.of_keep fun b c e => ?_, os, bare⟩
      cases q : T b with
      | none => exact un.keep b c e q (fun z => by cases z) (by simp)
      | some u =>
        rw [hT] at q
        obtain ⟨rfl, q2, rfl⟩ := hp0_some q
        rw [obj] at e
        cases e
        exact (hok' _ _ (un.frzs _ _ _ (by rw [hT]; exact hp0_at q2))).1
/-- the end of a law's head: the table of defs, the law among them, its run by values -/
theorem walk_law {l : PySem.W.OpenLaw} {n k fu : Nat} {q : Program} {loose : List Str} {XP : (Str → Option Value) → Heap → Prop} {YP : World → Heap → Prop} {d : DefRec} {G : Sg} {T : List Df} {fl : Nat}
    (most : l.most = some n) (small : n ≤ sizeLine) (noDef : d.params.defaults = []) (room : Room (k + 2) callerA)
    (facts : ∀ (w : World) (mg : Str → Option Value) (h : Heap), YP w h → h.Ns mainGlobals mg → ∃ (K : PySem.W.Frag) (cl : Nat → Value), K.In h ∧ TabOk G K mg T ∧ TabX G l.prog K mg cl) (name : G.fns[fl]? = some d.name) (one : (T[fl]?).map Df.np = some 1)
    (law : ∀ ns : List Int, ns.length ≤ n → (∀ i ∈ ns, Builtin.Int.intBits i ≤ 1048576) → ∃ s, callI T fu k fl [.d (.list (ns.map PyData.int))] [] = .ok (.d (.bool true)) s) :
    PySem.W.WalkO q loose XP YP l.row.toRowW d [] (fun f vs => PySem.call f vs) := by
  refine Att.attach_callB most noDef fun w s₀ sh mg mb fa o pm cd doc a vs ns ground yes _ _ _ atName obj nums len bits noGen => ?_
  obtain ⟨K, cl, inK, tab, tax⟩ := facts w mg _ yes ground.T.g
  obtain ⟨F, hF, a', fd, ps, D⟩ := tab.fn fl d.name name
  have q1 := D.gl
  rw [atName] at q1
  cases q1
  rw [hF] at one
  have one : some F.np = some 1 := one
  have e1 : ps.length = 1 := by injection one with e; rw [← D.np, e]
  obtain ⟨x, rfl⟩ : ∃ x, ps = [x] := by
    cases ps with
    | nil => cases e1
    | cons x r => cases r with
      | nil => exact ⟨x, rfl⟩
      | cons _ _ => cases e1
  refine call_law (P := l.prog) (w := w) (x := x) (fd := fd) (sp := spI K cl (callI T fu k) fl 1) (k := k + 2) inK ground.T.g ground.T.b ground.T.builtins ground.T.nolimit noGen obj nums (Nat.le_trans len small) room (fun base _ _ => ?_) (fun s u => D.bd s [u] rfl) fun H hS => ?_
  · exact level tab tax base k fl d.name F fa fd [x] hF D
  · obtain ⟨s, hs⟩ := law ns len bits
    refine ⟨rfl, ⟨[], []⟩, [], [.d (.list (ns.map PyData.int))], ⟨_, [], rfl, ⟨a, _, rfl, ?_, RVs.ofInts ns⟩, rfl⟩, ⟨rfl, fun n vs q => (by simp at q), fun n q => (by simp at q), fun i j a q => (by simp at q), fun a q => (by simp at q)⟩, ?_⟩
    · rcases hS with z | z
      · exact .inl ⟨fun q => q.elim (fun q => (by cases q)) fun q => (by cases q), z⟩
      · exact .inr z
    · rw [hs]
      intro m' H' b _ _ r
      exact r
end SM

set_option maxHeartbeats 1000000
/-! SM: what the head tells of the defs. -/
namespace SM
open PySem L2 PySem.Spec PyProof.Rows
section
variable {G : Sg} {K : PySem.W.Frag} {h : Heap} {mg : Str → Option Value} {fa : List He.Fa} {fn : List He.DefD}
theorem imp_ok (X : K.In h) (ns : h.Ns mainGlobals mg) {gs : List Gx} (c : gs.all (Gx.ok K) = true) {x : Str} {b : String} (m : Gx.imp x b ∈ gs) : mg x = some (.builtin b) :=
  PySem.W.mg_of X ns (He.eqO_ok (List.all_eq_true.mp c _ m))
theorem kwA {x qual : Str} {params : Arguments} {body : List Stmt} {scope : Scope} {f : Addr} {fd : FuncData} {ps nms : List Str} {perm : List Nat} (F : FunD K x qual params body scope [] [] f fd)
    (q : ∀ (kV doc pm : Value) (an : Option Addr) (cdv ct : Value) (us zs : List Value), us.length = nms.length → permL us perm = some zs → bindArgs (PySem.W.fnOf x qual params body scope .none kV doc pm an cdv ct) ⟨[], nms.zip us⟩ = pure (ps.zip zs)) : KwB fd ps nms perm := by
  obtain ⟨oc, od, dV, kV, doc, pm, an, cdv, ct, osl, rfl, lk, hcd, hD, hK⟩ := F.ex
  rcases hD with ⟨_, rfl⟩ | ⟨e, _⟩
  · exact fun s us zs hl hp => .of_eq (q kV doc pm an cdv ct us zs hl hp)
  · exact absurd rfl e
theorem kw_none {α : Type} {x : Str} {l : List (Str × α)} (n : l.all (fun p => !decide (p.1 = x)) = true) {a : α} (m : (x, a) ∈ l) : False := by
  have := List.all_eq_true.mp n _ m
  simp at this
theorem kw_some {α : Type} [DecidableEq α] {x : Str} {l : List (Str × α)} {a b : α} (n : l.all (fun p => !decide (p.1 = x) || decide (p.2 = a)) = true) (m : (x, b) ∈ l) : b = a := by
  have := List.all_eq_true.mp n _ m
  simpa using this
theorem kw_two {α : Type} [DecidableEq α] {x : Str} {l : List (Str × α)} {a a' b : α} (n : l.all (fun p => !decide (p.1 = x) || (decide (p.2 = a) || decide (p.2 = a'))) = true) (m : (x, b) ∈ l) : b = a ∨ b = a' := by
  have := List.all_eq_true.mp n _ m
  simpa using this
/-- a def of the table -/
theorem defOk_of {i : Nat} {x qual : Str} {params : Arguments} {body : List Stmt} {scope : Scope} {F : Df} {N ps : List Str} (X : K.In h) (ns : h.Ns mainGlobals mg) (c : He.SaysD fa fn K) (j : Nat) (hf : fa[j]? = some (.glo x)) (hd : fn[i]? = some ⟨(x, none), x, qual, params, body, scope, [], []⟩)
    (S : FnScope N ps scope) (hp : F.np = ps.length) (hn : F.ns = N.length)
    (bd : ∀ (kV doc pm : Value) (an : Option Addr) (cdv ct : Value) (us : List Value), us.length = ps.length → bindArgs (PySem.W.fnOf x qual params body scope .none kV doc pm an cdv ct) ⟨us, []⟩ = pure (ps.zip us))
    (kw : ∀ (nms : List Str) (perm : List Nat), (x, nms, perm) ∈ G.kws → ∀ (kV doc pm : Value) (an : Option Addr) (cdv ct : Value) (us zs : List Value), us.length = nms.length → permL us perm = some zs →
      bindArgs (PySem.W.fnOf x qual params body scope .none kV doc pm an cdv ct) ⟨[], nms.zip us⟩ = pure (ps.zip zs))
    (ck : chkSs G N (fun _ => true) scope F.body body = true) : DefOk G K mg x F := by
  obtain ⟨fd, Fd⟩ := c.def_ i hd
  have gl := He.glo_ok X ns (c.fact j hf)
  exact ⟨_, fd, ps, gl, fun s us hl => FunD.bindsA Fd bd s us hl, hp, Fd.kp, fun nms perm m => kwA Fd (kw nms perm m), N, qual, params, body, scope, Fd, S, hn, ck⟩
theorem intsB_vals : ∀ {vs : List Value} {ns : List Int}, intsB vs ns = true → Vals (ns.map V.int) vs
  | [], [], _ => .nil
  | [], _ :: _, h => by cases h
  | v :: vs, [], h => by cases v <;> cases h
  | v :: vs, n :: ns, h => by
    cases v <;> first | (cases h; done) | skip
    simp only [intsB, Bool.and_eq_true, decide_eq_true_eq] at h
    obtain ⟨rfl, h2⟩ := h
    exact .cons ⟨_, rfl⟩ (intsB_vals h2)
theorem cn_tup (X : K.In h) (ns : h.Ns mainGlobals mg) {gs : List Gx} (c : gs.all (Gx.ok K) = true) {x : Str} {is : List Int} (m : Gx.tup x is ∈ gs) : ∃ u v, mg x = some u ∧ L2.RelV v u ∧ ∀ m H, Rep K m H (.tuple (is.map .int)) v := by
  have t : tupB K (x, is) = true := List.all_eq_true.mp c _ m
  unfold tupB at t
  split at t
  · rename_i a e
    split at t
    · rename_i o eo
      simp only [Bool.and_eq_true, decide_eq_true_eq] at t
      obtain ⟨t1, t2⟩ := t
      split at t2
      · rename_i its n ed
        simp only [Bool.and_eq_true, decide_eq_true_eq] at t2
        exact ⟨.ref a, .ref a, PySem.W.mg_of X ns e, rfl, fun m H => ⟨a, is.map V.int, rfl, .inr ⟨o, its, n, eo, t1, ed, t2.1, intsB_vals t2.2⟩, RVs.ofInts is⟩⟩
      · cases t2
    · cases t
  · cases t
theorem cn_int (X : K.In h) (ns : h.Ns mainGlobals mg) (c : He.SaysD fa fn K) (j : Nat) {x : Str} {i : Int} (hf : fa[j]? = some (.int x i)) : ∃ u v, mg x = some u ∧ L2.RelV v u ∧ ∀ m H, Rep K m H (.int i) v := by
  obtain ⟨t, e⟩ := He.int_ok X ns (c.fact j hf)
  exact ⟨_, .int i, e, ⟨t, rfl⟩, fun _ _ => rfl⟩
theorem fileB_ok {c : Addr} {file : Str} (e : fileB K c file = true) : ∃ ccl cdd vs ccs f tf, K.lookup c = some ⟨ccl, cdd, .fields vs, ccs⟩ ∧ vs[2]? = some (.str f tf) ∧ (file == f) = true := by
  unfold fileB at e
  split at e
  · rename_i q
    split at e
    · rename_i q2
      exact ⟨_, _, _, _, _, _, q, q2, e⟩
    · cases e
  · cases e
theorem cellB_ok {c D : Addr} (e : cellB K c D = true) : ∃ cl cld csl, K.lookup c = some ⟨cl, cld, .cell (some (.ref D)), csl⟩ := by
  unfold cellB at e
  split at e
  · rename_i q
    have := of_decide_eq_true e
    subst this
    exact ⟨_, _, _, q⟩
  · cases e
theorem oexB_ok {C : Addr} (e : oexB K C = true) : (∃ nm q N bs bm sn sub ab col dd k0 k1 k2 k3 k5, K.lookup C = some (excClassObj nm q C N bs bm true sn sub ab col dd k0 k1 k2 k3 k5 "ValueError.__new__") ∧ PySem.HandSPX.refsVE bm = true) ∧ ∃ cd, PySem.W.clsIn K C = some cd := by
  unfold oexB at e
  split at e
  · rename_i dd cd sl ho
    split at e
    · rename_i C' bm k0 k1 k2 k3 n k5 hm hs
      simp only [Bool.and_eq_true, decide_eq_true_eq, Bool.not_eq_true'] at e
      obtain ⟨⟨⟨⟨rfl, rfl⟩, hh⟩, hdel⟩, hr⟩ := e
      refine ⟨?_, cd, by unfold PySem.W.clsIn; rw [ho]⟩
      obtain ⟨nm, bs, mro, ns, qn, hd, sn, sub, ab, col, del⟩ := cd
      dsimp only at hm hdel hh
      subst hm hdel hh
      have hsl : sl = #[k0, k1, k2, k3, some (.builtin "ValueError.__new__"), k5] := by
        obtain ⟨l⟩ := sl
        simp only at hs
        rw [hs]
      subst hsl
      exact ⟨nm, qn, ns, bs, bm, sn, sub, ab, col, dd, k0, k1, k2, k3, k5, ho, hr⟩
    · cases e
  · cases e
theorem zip_at {α β : Type} : ∀ {l : List α} {r : List β} {n : Nat} {a : α} {b : β}, l[n]? = some a → r[n]? = some b → (a, b) ∈ l.zip r
  | [], _, _, _, _, h, _ => by simp at h
  | _ :: _, [], _, _, _, _, h => by simp at h
  | x :: l, y :: r, 0, a, b, h1, h2 => by simp at h1 h2; subst h1; subst h2; simp
  | x :: l, y :: r, n + 1, a, b, h1, h2 => by
    have := zip_at (l := l) (r := r) (n := n) (by simpa using h1) (by simpa using h2)
    simp only [List.zip_cons_cons, List.mem_cons]
    exact .inr this
/-- the class that stands for the number n -/
def clsOf (K : PySem.W.Frag) (names : List Str) (n : Nat) : Value := .ref (He.ga K (names.getD n (names.getD 0 "")))
theorem getD_two {α β : Type} {l : List α} {r : List β} (hl : r.length = l.length) (hn : l ≠ []) (n : Nat) (a0 : α) (b0 : β) : ∃ (m : Nat) (a : α) (b : β), l[m]? = some a ∧ r[m]? = some b ∧ l.getD n (l.getD 0 a0) = a ∧ r.getD n (r.getD 0 b0) = b := by
  have h0 : 0 < l.length := List.length_pos_iff.mpr hn
  by_cases h : n < l.length
  · exact ⟨n, l[n], r[n], List.getElem?_eq_getElem h, List.getElem?_eq_getElem (by omega), by simp [h], by simp [hl, h]⟩
  · refine ⟨0, l[0], r[0], List.getElem?_eq_getElem h0, List.getElem?_eq_getElem (by omega), ?_, ?_⟩
    · simp [List.getD, List.getElem?_eq_none (Nat.le_of_not_lt h), h0]
    · simp [List.getD, List.getElem?_eq_none (show r.length ≤ n by omega), hl, h0]
theorem askB_ok {names : List Str} {cv : Value} {l : List Bool} (hn : names ≠ []) (e : askB K names cv l = true) (n : Nat) : PySem.W.kitOne K (clsOf K names n) cv = some (inCls l n) ∧ PySem.W.exmOne K (clsOf K names n) cv = some (inCls l n) := by
  unfold askB at e
  simp only [Bool.and_eq_true, decide_eq_true_eq, List.all_eq_true] at e
  obtain ⟨e1, e2⟩ := e
  obtain ⟨m, a, b, h1, h2, h3, h4⟩ := getD_two e1 hn n "" false
  have := e2 (a, b) (zip_at h1 h2)
  unfold clsOf inCls
  rw [h3, h4]
  exact this
theorem clsB_all {x : Xs} (hx : x.names.all (clsB K x.base) = true) (hn : x.names ≠ []) (n : Nat) : clsB K x.base (x.names.getD n (x.names.getD 0 "")) = true := by
  obtain ⟨m, a, b, h1, h2, h3, _⟩ := getD_two (l := x.names) (r := x.names) rfl hn n "" ""
  rw [h3]
  exact List.all_eq_true.mp hx a (List.mem_of_getElem? h1)
theorem tabX_of {P : Program} {x : Xs} {qual t : Str} {pa pb p0 p1 p2 p3 p4 p5 p6 p7 p8 p9 : Pos} (X : K.In h) (ns : h.Ns mainGlobals mg) (c : xsB K x = true) (hn : x.names ≠ [])
    (iv : iniW K x.base = (some (("__init__" : Str), qual, iniArgs pa pb, FuncBody.stmts (iniBody t p0 p1 p2 p3 p4 p5 p6 p7 p8 p9), iniScope, mainGlobals, [("__class__" : Str)], builtinsNs) : IniW)) (hl : (p2.endLine == p4.line) = true)
    (hf : P.main.file = x.file) (ht : (P.main.scope.names.lookup ("super" : Str)).isSome = false) (h1 : G.exs = x.names) (h2 : G.isx = x.isx) : TabX G P K mg (clsOf K x.names) := by
  have hne : x.names.isEmpty = false := by
    cases q : x.names with
    | nil => exact absurd q hn
    | cons _ _ => rfl
  unfold xsB at c
  rw [hne, Bool.false_or] at c
  simp only [Bool.and_eq_true, decide_eq_true_eq] at c
  obtain ⟨⟨⟨⟨⟨⟨c1, c2⟩, c3⟩, c4⟩, c5⟩, c6⟩, c7⟩ := c
  -- the def
  have IK : ∃ cda cc, IniK P K mg (He.ga K x.base) (He.ma K (He.ga K x.base) "__init__") cda cc qual (iniArgs pa pb) (iniBody t p0 p1 p2 p3 p4 p5 p6 p7 p8 p9) iniScope := by
    unfold iniW at iv
    cases q : iniFd K x.base with
    | none => rw [q] at iv; cases iv
    | some fd =>
      rw [q] at iv
      unfold iniB at c1
      rw [q] at c1
      obtain ⟨n1, n2, n3, n4, n5, n6, n7, n8, n9, n10, n11, n12, n13, n14, n15⟩ := fd
      simp only [Option.map_some, Option.some.injEq, Prod.mk.injEq] at iv
      obtain ⟨rfl, rfl, rfl, rfl, rfl, rfl, i7, rfl⟩ := iv
      dsimp only at c1
      split at c1
      · rename_i p cda
        simp only [Bool.and_eq_true, decide_eq_true_eq, Option.isNone_iff_eq_none] at c1
        obtain ⟨⟨⟨⟨⟨d1, d2⟩, d3⟩, d4⟩, d5⟩, d6⟩ := c1
        subst d1 d2 d3
        obtain ⟨pn, cc⟩ := p
        have i7 : [pn] = [("__class__" : Str)] := i7
        cases i7
        have lk : ∃ oc od osl, K.lookup (He.ma K (He.ga K x.base) "__init__") = some ⟨oc, od, .func (PySem.W.fnX "__init__" n2 (iniArgs pa pb) (iniBody t p0 p1 p2 p3 p4 p5 p6 p7 p8 p9) iniScope [("__class__", cc)] .none .none n10 n11 none (.ref cda) n14), osl⟩ := by
          unfold iniFd at q
          split at q
          · rename_i w
            cases q
            exact ⟨_, _, _, w⟩
          · cases q
        obtain ⟨oc, od, osl, lk⟩ := lk
        refine ⟨cda, cc, ⟨⟨oc, od, osl, n10, n11, n14, lk⟩, d4, ?_, cellB_ok d6, ?_, PySem.W.mg_none_of X ns (He.eqO_ok c3), ht, He.eqO_ok c4, c5⟩⟩
        · rw [hf]
          exact fileB_ok d5
        · obtain ⟨cd, hcd⟩ := Option.isSome_iff_exists.mp c2
          exact ⟨cd, hcd⟩
      · cases c1
  have one : ∀ y, clsB K x.base y = true → mg y = some (.ref (He.ga K y)) ∧ IniC K (He.ga K x.base) (He.ga K y) ∧ PySem.W.findIn K (.ref (He.ga K y)) "__init__" = some (some (.ref (He.ma K (He.ga K x.base) "__init__"))) ∧ ExcC K (He.ga K y) ∧ PySem.W.findIn K (.ref (He.ga K y)) "value" = some none := fun y c => by
    unfold clsB at c
    simp only [Bool.and_eq_true, decide_eq_true_eq] at c
    obtain ⟨⟨⟨⟨⟨⟨⟨⟨⟨a1, a2⟩, a3⟩, a4⟩, a5⟩, a6⟩, a7⟩, a8⟩, a9⟩, a10⟩ := c
    unfold excB at a3
    simp only [Bool.and_eq_true, decide_eq_true_eq] at a3
    obtain ⟨⟨⟨⟨⟨⟨⟨⟨b1, b2⟩, b3⟩, b4⟩, b5⟩, b6⟩, b7⟩, b8⟩, b9⟩ := a3
    obtain ⟨o1, o2⟩ := oexB_ok a2
    exact ⟨PySem.W.mg_of X ns (He.eqO_ok a1), ⟨⟨o1, He.eqO_ok a4, b3, a5, a6⟩, a7, o2, He.eqO_ok a8, a9, He.eqO_ok b9⟩, He.eqO_ok a10, ⟨He.eqO_ok b1, He.eqO_ok b2, b3, b4, He.eqO_ok b5, He.eqO_ok b6, b7, b8⟩, He.eqO_ok b9⟩
  obtain ⟨cda, cc, ik⟩ := IK
  refine ⟨fun y n hy => ?_, fun y l hy => ?_⟩
  · rw [h1] at hy
    obtain ⟨q1, q2, q3, _⟩ := one y (List.all_eq_true.mp c6 y (List.mem_of_getElem? hy))
    refine ⟨_, _, _, cda, cc, qual, t, pa, pb, p0, p1, p2, p3, p4, p5, p6, p7, p8, p9, q1, ?_, ik, hl, q2, q3⟩
    unfold clsOf
    simp [List.getD, hy]
  · rw [h2] at hy
    have z := List.all_eq_true.mp c7 _ hy
    unfold isxB at z
    refine ⟨?_, fun n => ?_⟩
    · split at z
      · rename_i ey
        have ey : y = ("ValueError" : Str) := ey
        subst ey
        simp only [Bool.and_eq_true] at z
        exact ⟨.ty "ValueError", .type "ValueError", .inr ⟨PySem.W.mg_none_of X ns (He.eqO_ok z.1), by kernel_rfl, by decide⟩, rfl, fun u hu => hu, askB_ok hn z.2⟩
      · simp only [Bool.and_eq_true] at z
        exact ⟨.ref (He.ga K y), .ref (He.ga K y), .inl (PySem.W.mg_of X ns (He.eqO_ok z.1)), rfl, fun u hu => hu, askB_ok hn z.2⟩
    · obtain ⟨_, _, _, q4, q5⟩ := one _ (clsB_all c6 hn n)
      exact ⟨_, rfl, q4, q5⟩
end
end SM

set_option maxHeartbeats 1000000
/-! SM: plain rules of the interpreter's runs. -/
namespace SM
open PySem
variable {C : Cal} {fu k : Nat} {e : Sl} {s : Sto}
theorem leave_pure (x : PyData) (s : Sto) : leave s (.rt (.d x) s) = .ok (.d x) s := by
  have h : Cut s (.d x) s := ⟨trivial, fun _ _ => .inl rfl⟩
  simp only [leave, if_pos h, List.take_length]
theorem leave_nx (e : Sl) (s : Sto) : leave s (.nx e s) = .ok (.d .none) s := by
  have h : Cut s (.d .none) s := ⟨trivial, fun _ _ => .inl rfl⟩
  simp only [leave, if_pos h, List.take_length]
/-! ### one step each -/
@[simp] theorem ok_bind {α β : Type} (a : α) (s : Sto) (f : α → Sto → Rs β) : (Rs.ok a s).bind f = f a s := rfl
@[simp] theorem bindF_ok {α : Type} (e : Sl) (a : α) (s : Sto) (f : α → Sto → Fl) : bindF e (.ok a s) f = f a s := rfl
@[simp] theorem ofO_some {α : Type} (a : α) (s : Sto) : ofO (some a) s = .ok a s := rfl
@[simp] theorem ofP_some {α : Type} (a : α) (s : Sto) : ofP (some (a, s)) = .ok a s := rfl
@[simp] theorem isTrue_bool (b : Bool) : isTrue? (Vl.d (.bool b)) = some b := rfl
@[simp] theorem optI_int (i : Int) : optI (.d (.int i)) = some i := rfl
@[simp] theorem ev_lit (d : PyData) : ev C (.lit d) e s = .ok (.d d) s := rfl
@[simp] theorem ev_glob (x : Str) (d : PyData) : ev C (.glob x d) e s = .ok (.d d) s := rfl
def varR (o : Option (Option Vl)) (s : Sto) : Rs Vl := match o with
  | some (some v) => .ok v s
  | _ => .no
@[simp] theorem varR_some (v : Vl) (s : Sto) : varR (some (some v)) s = .ok v s := rfl
@[simp] theorem ev_var (i : Nat) : ev C (.var i) e s = varR (e[i]?) s := by
  show (match e[i]? with
    | some (some v) => Rs.ok v s
    | _ => .no) = _
  unfold varR
  rfl
@[simp] theorem ev_bop (m : Bool) (o : BOp) (a b : IE) : ev C (.bop m o a b) e s = (ev C a e s).bind fun x s => (ev C b e s).bind fun y s => ofP (binV m o x y s) := rfl
def negR (x : Vl) (s : Sto) : Rs Vl := match x with
  | .d (.int i) => .ok (Vl.d (.int (-i))) s
  | _ => .no
@[simp] theorem negR_int (i : Int) (s : Sto) : negR (.d (.int i)) s = .ok (Vl.d (.int (-i))) s := rfl
@[simp] theorem ev_neg (a : IE) : ev C (.neg a) e s = (ev C a e s).bind negR := rfl
theorem evT_eq (a : IE) : evT C a e s = (ev C a e s).bind fun v s => ofO (isTrue? v) s := rfl
@[simp] theorem ev_not (a : IE) : ev C (.not a) e s = (evT C a e s).bind fun t s => .ok (Vl.d (.bool (!t))) s := by
  unfold evT
  show ((ev C a e s).bind fun x s => match isTrue? x with
    | some b => Rs.ok (Vl.d (.bool (!b))) s
    | none => .no) = _
  cases ev C a e s with
  | ok v s1 =>
    show (match isTrue? v with
      | some b => Rs.ok (Vl.d (.bool (!b))) s1
      | none => .no) = (ofO (isTrue? v) s1).bind _
    cases isTrue? v <;> rfl
  | ex _ _ _ => rfl
  | no => rfl
@[simp] theorem ev_cmp (o : COp) (a b : IE) : ev C (.cmp o a b) e s = (ev C a e s).bind fun x s => (ev C b e s).bind fun y s => ofO ((cmpV o x y s).map fun b => Vl.d (.bool b)) s := rfl
@[simp] theorem ev_chain (o p : COp) (a b c : IE) : ev C (.chain o p a b c) e s = (ev C a e s).bind fun x s => (ev C b e s).bind fun y s => (ofO (cmpV o x y s) s).bind fun t s => if t = true then (ev C c e s).bind fun z s => ofO ((cmpV p y z s).map fun b => Vl.d (.bool b)) s else .ok (Vl.d (.bool false)) s := by
  show ((ev C a e s).bind fun x s => (ev C b e s).bind fun y s => match cmpV o x y s with
    | some true => (ev C c e s).bind fun z s => ofO ((cmpV p y z s).map fun b => Vl.d (.bool b)) s
    | some false => .ok (Vl.d (.bool false)) s
    | none => .no) = _
  congr 1
  funext x s1
  congr 1
  funext y s2
  cases cmpV o x y s2 with
  | none => rfl
  | some t => cases t <;> rfl
@[simp] theorem ev_and (es : IE) : ev C (.and es) e s = ands C es e s := rfl
@[simp] theorem ev_or (es : IE) : ev C (.or es) e s = ors C es e s := rfl
@[simp] theorem ands_one (a : IE) : ands C (.cons a .nil) e s = ev C a e s := rfl
@[simp] theorem ors_one (a : IE) : ors C (.cons a .nil) e s = ev C a e s := rfl
/-- one of two runs, by a truth -/
def iteK {β : Type} (f g : Sl → Sto → β) (e : Sl) (t : Bool) (s : Sto) : β := if t = true then f e s else g e s
@[simp] theorem iteK_eq {β : Type} (f g : Sl → Sto → β) (e : Sl) (t : Bool) (s : Sto) : iteK f g e t s = if t = true then f e s else g e s := rfl
def litK (b : Bool) (_ : Sl) (s : Sto) : Rs Vl := .ok (Vl.d (.bool b)) s
@[simp] theorem litK_eq (b : Bool) (e : Sl) (s : Sto) : litK b e s = .ok (Vl.d (.bool b)) s := rfl
@[simp] theorem ands_two (a b r : IE) : ands C (.cons a (.cons b r)) e s = (evT C a e s).bind (iteK (ands C (.cons b r)) (litK false) e) := by
  unfold evT
  show ((ev C a e s).bind fun x s => match isTrue? x with
    | some true => ands C (.cons b r) e s
    | some false => Rs.ok (Vl.d (.bool false)) s
    | none => .no) = _
  cases ev C a e s with
  | ok v s1 =>
    show (match isTrue? v with
      | some true => ands C (.cons b r) e s1
      | some false => Rs.ok (Vl.d (.bool false)) s1
      | none => .no) = (ofO (isTrue? v) s1).bind _
    cases isTrue? v with
    | none => rfl
    | some t => cases t <;> rfl
  | ex _ _ _ => rfl
  | no => rfl
@[simp] theorem ors_two (a b r : IE) : ors C (.cons a (.cons b r)) e s = (evT C a e s).bind (iteK (litK true) (ors C (.cons b r)) e) := by
  unfold evT
  show ((ev C a e s).bind fun x s => match isTrue? x with
    | some false => ors C (.cons b r) e s
    | some true => Rs.ok (Vl.d (.bool true)) s
    | none => .no) = _
  cases ev C a e s with
  | ok v s1 =>
    show (match isTrue? v with
      | some false => ors C (.cons b r) e s1
      | some true => Rs.ok (Vl.d (.bool true)) s1
      | none => .no) = (ofO (isTrue? v) s1).bind _
    cases isTrue? v with
    | none => rfl
    | some t => cases t <;> rfl
  | ex _ _ _ => rfl
  | no => rfl
@[simp] theorem ev_ite (c a b : IE) : ev C (.ite c a b) e s = (evT C c e s).bind (iteK (ev C a) (ev C b) e) := by
  unfold evT
  show ((ev C c e s).bind fun x s => match isTrue? x with
    | some true => ev C a e s
    | some false => ev C b e s
    | none => .no) = _
  cases ev C c e s with
  | ok v s1 =>
    show (match isTrue? v with
      | some true => ev C a e s1
      | some false => ev C b e s1
      | none => .no) = (ofO (isTrue? v) s1).bind _
    cases isTrue? v with
    | none => rfl
    | some t => cases t <;> rfl
  | ex _ _ _ => rfl
  | no => rfl
@[simp] theorem ev_tup (es : IE) : ev C (.tup es) e s = (evs C es e s).bind fun vs s => if vs.length ≤ 16777216 then ofO ((allD vs).map fun ds => Vl.d (.tuple ds)) s else .no := rfl
@[simp] theorem ev_lst (m : Bool) (es : IE) : ev C (.lst m es) e s = (evs C es e s).bind fun vs s => ofP (mkL m vs s) := rfl
def repR (m : Bool) (vs : List Vl) (x : Vl) (s : Sto) : Rs Vl := match x with
  | .d (.int k) => if 0 ≤ k ∧ k ≤ 1000 then ofP (mkL m (List.replicate k.toNat vs).flatten s) else .no
  | _ => .no
@[simp] theorem repR_int (m : Bool) (vs : List Vl) (k : Int) (s : Sto) : repR m vs (.d (.int k)) s = if 0 ≤ k ∧ k ≤ 1000 then ofP (mkL m (List.replicate k.toNat vs).flatten s) else .no := rfl
@[simp] theorem ev_rep (m : Bool) (es k : IE) : ev C (.rep m es k) e s = (evs C es e s).bind fun vs s => if vs.length ≤ 1000 then (ev C k e s).bind (repR m vs) else .no := rfl
@[simp] theorem noex_ok {α : Type} (a : α) (s : Sto) : noex (.ok a s) = .ok a s := rfl
@[simp] theorem ev_dic (ks vs : IE) : ev C (.dic ks vs) e s = (evs C ks e s).bind fun a s => (noex (evs C vs e s)).bind fun b s => ofP (dicV a b s) := rfl
@[simp] theorem dicV_nil : dicV [] [] s = some (.d (.dict []), s) := rfl
@[simp] theorem dicV_one (k : Str) (v : PyData) : dicV [.d (.str k)] [.d v] s = some (.d (.dict [(.str k, v)]), s) := rfl
def callkR (C : Cal) (f : Nat) (us : List Vl) (n : Nat) (perm : List Nat) (vs : List Vl) (s : Sto) : Rs Vl := if vs.length = n then (match permL (us ++ vs) perm with
  | some ws => C f ws s
  | none => .no) else .no
theorem callkR_eq {C : Cal} {f n : Nat} {us vs ws : List Vl} {perm : List Nat} {s : Sto} (h : vs.length = n) (p : permL (us ++ vs) perm = some ws) : callkR C f us n perm vs s = C f ws s := by
  unfold callkR
  rw [if_pos h, p]
@[simp] theorem ev_callk (f : Nat) (es ks : IE) (nms : List Str) (perm : List Nat) : ev C (.callk f es ks nms perm) e s = (evs C es e s).bind fun us s => (evs C ks e s).bind (callkR C f us nms.length perm) := rfl
@[simp] theorem ev_idx (a i : IE) : ev C (.idx a i) e s = (ev C a e s).bind fun x s => (ev C i e s).bind fun y s => ofP (idxV x y s) := rfl
@[simp] theorem ev_sli (m : Bool) (a lo hi : IE) : ev C (.sli m a lo hi) e s = (ev C a e s).bind fun x s => (evo C lo e s).bind fun l s => (evo C hi e s).bind fun h s => ofP (sliV m x l h s) := rfl
@[simp] theorem ev_rev (m : Bool) (a : IE) : ev C (.rev m a) e s = (ev C a e s).bind fun x s => ofP (revV m x s) := rfl
@[simp] theorem ev_bi (m : Bool) (b : Bi) (es : IE) : ev C (.bi m b es) e s = (evs C es e s).bind fun vs s => ofP (biV m b vs s) := rfl
@[simp] theorem ev_isi (a : IE) (t : Ty) : ev C (.isi a t) e s = (ev C a e s).bind fun x s => ofO ((isT t x s).map fun b => Vl.d (.bool b)) s := rfl
@[simp] theorem ev_call (f : Nat) (es : IE) : ev C (.call f es) e s = (evs C es e s).bind fun vs s => C f vs s := rfl
@[simp] theorem ev_frz (a : IE) : ev C (.frz a) e s = (ev C a e s).bind fun x s => ofP (frzV x s) := rfl
@[simp] theorem evs_nil : evs C .nil e s = .ok [] s := rfl
@[simp] theorem evs_cons (a r : IE) : evs C (.cons a r) e s = (ev C a e s).bind fun x s => (evs C r e s).bind fun xs s => .ok (x :: xs) s := rfl
@[simp] theorem evo_nil : evo C .nil e s = .ok none s := rfl
@[simp] theorem evo_cons (a r : IE) : evo C (.cons a r) e s = (ev C a e s).bind fun x s => ofO ((optI x).map some) s := rfl
@[simp] theorem tst_nil : tst C .nil e s = .ok true s := rfl
@[simp] theorem tst_cons (a r : IE) : tst C (.cons a r) e s = evT C a e s := rfl
/-! ### statements -/
@[simp] theorem exS_nil : exS C fu .nil e s = .nx e s := rfl
def thenF (f : Fl) (g : Sl → Sto → Fl) : Fl := match f with
  | .nx e s => g e s
  | f => f
@[simp] theorem thenF_nx (e : Sl) (s : Sto) (g : Sl → Sto → Fl) : thenF (.nx e s) g = g e s := rfl
@[simp] theorem thenF_rt (v : Vl) (s : Sto) (g : Sl → Sto → Fl) : thenF (.rt v s) g = .rt v s := rfl
@[simp] theorem thenF_ct (e : Sl) (s : Sto) (g : Sl → Sto → Fl) : thenF (.ct e s) g = .ct e s := rfl
@[simp] theorem thenF_bk (e : Sl) (s : Sto) (g : Sl → Sto → Fl) : thenF (.bk e s) g = .bk e s := rfl
@[simp] theorem exS_cons (a r : IS) : exS C fu (.cons a r) e s = thenF (exS C fu a e s) (exS C fu r) := by
  show (match exS C fu a e s with
    | .nx e s => exS C fu r e s
    | f => f) = _
  cases exS C fu a e s <;> rfl
@[simp] theorem exS_ret' (a : IE) : exS C fu (.ret a) e s = bindF e (ev C a e s) fun v s => .rt v s := exS_ret fu
@[simp] theorem exS_expr' (a : IE) : exS C fu (.expr a) e s = bindF e (ev C a e s) fun _ s => .nx e s := exS_expr fu
@[simp] theorem exS_pass : exS C fu .pass e s = .nx e s := rfl
@[simp] theorem exS_ite (c : IE) (a b : IS) : exS C fu (.ite c a b) e s = bindF e (evT C c e s) (iteK (exS C fu a) (exS C fu b) e) := by
  unfold evT
  show (match ev C c e s with
    | .ok v s => (match isTrue? v with
      | some true => exS C fu a e s
      | some false => exS C fu b e s
      | none => .no)
    | .ex c v s => .ex c v e s
    | .no => .no) = _
  cases ev C c e s with
  | ok v s1 =>
    show (match isTrue? v with
      | some true => exS C fu a e s1
      | some false => exS C fu b e s1
      | none => .no) = bindF e (ofO (isTrue? v) s1) _
    cases isTrue? v with
    | none => rfl
    | some t => cases t <;> rfl
  | ex _ _ _ => rfl
  | no => rfl
@[simp] theorem exS_asgv (i : Nat) (a : IE) : exS C fu (.asg (.var i) a) e s = bindF e (ev C a e s) fun v s => .nx (e.set i (some v)) s := by
  show liftR e ((ev C a e s).bind fun v s => ofO (some (e.set i (some v))) s) = _
  rw [liftR_bind]
  rfl
@[simp] theorem exS_par (i j : Nat) (a b : IE) : exS C fu (.par (.var i) (.var j) a b) e s = bindF e (ev C a e s) fun v s => bindF e (ev C b e s) fun w s => .nx ((e.set i (some v)).set j (some w)) s := by
  show liftR e ((ev C a e s).bind fun v s => (ev C b e s).bind fun w s => .ok ((e.set i (some v)).set j (some w)) s) = _
  rw [liftR_bind]
  congr 1
  funext v s1
  rw [liftR_bind]
  rfl
theorem eqD_int (i j : Int) : eqD (.int i) (.int j) = some (decide (i = j)) := by
  show some (i == j) = _
  rw [Bool.beq_eq_decide_eq]
theorem eqD_bool (i j : Bool) : eqD (.bool i) (.bool j) = some (i == j) := rfl
theorem bools_map {α : Type} (f : α → Bool) : ∀ l : List α, bools? (l.map fun x => PyData.bool (f x)) = some (l.map f)
  | [] => rfl
  | a :: r => by simp [bools?, bools_map f r]
theorem ints_map {α : Type} (f : α → Int) : ∀ l : List α, ints? (l.map fun x => PyData.int (f x)) = some (l.map f)
  | [] => rfl
  | a :: r => by simp [ints?, ints_map f r]
theorem allV_map {α : Type} (f : α → Bool) (l : List α) : allV [.d (.list (l.map fun x => PyData.bool (f x)))] s = some (Vl.d (.bool (l.all f)), s) := by
  have h : dataL (.d (.list (l.map fun x => PyData.bool (f x)))) s = some (l.map fun x => PyData.bool (f x)) := allD_map _
  show ((dataL (.d (.list (l.map fun x => PyData.bool (f x)))) s).bind bools?).map _ = _
  rw [h]
  show (bools? (l.map fun x => PyData.bool (f x))).map _ = _
  rw [bools_map]
  show some (Vl.d (.bool ((l.map f).all id)), s) = _
  rw [List.all_map]
  rfl
theorem cm_map {turn : Vl → Sto → Rs (Option Vl)} {f : PyData → PyData} : ∀ {ds : List PyData}, (∀ x ∈ ds, turn (.d x) s = .ok (some (.d (f x))) s) → cmL turn ds s = .ok (ds.map fun x => Vl.d (f x)) s
  | [], _ => rfl
  | a :: r, h => by
    show (turn (.d a) s).bind _ = _
    rw [h a List.mem_cons_self]
    show (cmL turn r s).bind _ = _
    rw [cm_map (ds := r) fun x hx => h x (List.mem_cons_of_mem _ hx)]
    rfl
/-- [elt for tg in it], pure, over data -/
theorem comp_map {elt tg it : IE} {own : List Nat} {ds : List PyData} (f : PyData → PyData) (hi : itr C it e s = .ok (.vals ds) s) (hl : ds.length ≤ 16777216)
    (ht : ∀ x ∈ ds, ∃ e1, setTgV tg (.d x) (wipe e own) = some e1 ∧ ev C elt e1 s = .ok (.d (f x)) s) : ev C (.comp false elt tg it .nil own) e s = .ok (.d (.list (ds.map f))) s := by
  show ((itr C it e s).bind fun I s => (noex (cmI (turnF C elt tg .nil (wipe e own)) I s)).bind fun vs s => ofP (mkL false vs s)) = _
  rw [hi]
  show ((noex (cmL (turnF C elt tg .nil (wipe e own)) ds s)).bind fun vs s => ofP (mkL false vs s)) = _
  rw [cm_map (f := f) fun x hx => ?_]
  · show ofP (mkL false (ds.map fun x => Vl.d (f x)) s) = _
    unfold mkL
    rw [if_pos (by simpa using hl)]
    have : allD (ds.map fun x => Vl.d (f x)) = some (ds.map f) := by
      have := allD_map (ds.map f)
      rwa [List.map_map] at this
    rw [if_neg (by decide), this]
    rfl
  · obtain ⟨e1, h1, h2⟩ := ht x hx
    unfold turnF
    rw [h1]
    show (Rs.ok true s).bind _ = _
    show (ev C elt e1 s).bind _ = _
    rw [h2]
    rfl
theorem atI_nat {α : Type} {vs : List α} {i : Nat} (h : i < vs.length) : L2.atI vs (i : Int) = some vs[i] := by
  unfold L2.atI L2.ixN
  rw [if_pos (by omega), if_pos (by omega)]
  show vs[((i : Int)).toNat]? = _
  rw [Int.toNat_natCast, List.getElem?_eq_getElem h]
theorem idx_tup {xs : List PyData} {i : Nat} (h : i < xs.length) : idxV (.d (.tuple xs)) (.d (.int i)) s = some (.d xs[i], s) := by
  show (L2.atI (xs.map Vl.d) (i : Int)).map (·, s) = _
  rw [atI_nat (by simpa using h)]
  simp
theorem idx_lst {xs : List PyData} {i : Nat} (h : i < xs.length) : idxV (.d (.list xs)) (.d (.int i)) s = some (.d xs[i], s) := by
  show (L2.atI (xs.map Vl.d) (i : Int)).map (·, s) = _
  rw [atI_nat (by simpa using h)]
  simp
theorem idx0 (x : PyData) (xs : List PyData) : idxV (.d (.tuple (x :: xs))) (.d (.int 0)) s = some (.d x, s) := idx_tup (xs := x :: xs) (i := 0) (by simp)
theorem idx1 (x y : PyData) (xs : List PyData) : idxV (.d (.tuple (x :: y :: xs))) (.d (.int 1)) s = some (.d y, s) := idx_tup (xs := x :: y :: xs) (i := 1) (by simp)
/-! ### for over data, with an early end -/
theorem goL_all {turn : Vl → Sl → Sto → Fl} (Inv : Sl → Prop) (P : PyData → Bool) : ∀ (ds : List PyData) (_ : ∀ x ∈ ds, ∀ e, Inv e → if P x = true then ∃ e', turn (.d x) e s = .nx e' s ∧ Inv e' else turn (.d x) e s = .rt (.d (.bool false)) s) (e : Sl), Inv e →
    if ds.all P = true then ∃ e', goL turn ds e s = .nx e' s ∧ Inv e' else goL turn ds e s = .rt (.d (.bool false)) s
  | [], _, e, i => by
    rw [if_pos (by rfl)]
    exact ⟨e, rfl, i⟩
  | x :: r, h, e, i => by
    have hx := h x List.mem_cons_self e i
    cases q : P x with
    | false =>
      rw [q, if_neg (by decide)] at hx
      rw [List.all_cons, q, Bool.false_and, if_neg (by decide)]
      show (match turn (.d x) e s with
        | .nx e s => goL turn r e s
        | .ct e s => goL turn r e s
        | .bk e s => .nx e s
        | .rt v s => .rt v s
        | .ex c v e s => .ex c v e s
        | .no => .no) = _
      rw [hx]
    | true =>
      rw [q, if_pos rfl] at hx
      obtain ⟨e', h1, i'⟩ := hx
      have ih := goL_all Inv P r (fun y hy => h y (List.mem_cons_of_mem _ hy)) e' i'
      have step : goL turn (x :: r) e s = goL turn r e' s := by
        show (match turn (.d x) e s with
          | .nx e s => goL turn r e s
          | .ct e s => goL turn r e s
          | .bk e s => .nx e s
          | .rt v s => .rt v s
          | .ex c v e s => .ex c v e s
          | .no => .no) = _
        rw [h1]
      rw [List.all_cons, q, Bool.true_and, step]
      exact ih
theorem exS_for_vals {tg it : IE} {body : IS} {ds : List PyData} {s' : Sto} (h : itr C it e s = .ok (.vals ds) s') : exS C fu (.forr tg it body) e s = goL (turnS C fu tg body) ds e s' := by
  rw [exS_for, h]
  rfl
theorem binV_int (m : Bool) (o : BOp) (i j : Int) : binV m o (.d (.int i)) (.d (.int j)) s = (binI o i j).map fun k => (.d (.int k), s) := by cases o <;> rfl
theorem cmp_ne_int (i j : Int) : cmpV .ne (.d (.int i)) (.d (.int j)) s = some (!decide (i = j)) := by
  show (eqD (.int i) (.int j)).map (!·) = _
  rw [eqD_int]
  rfl
theorem cmp_eq_int (i j : Int) : cmpV .eq (.d (.int i)) (.d (.int j)) s = some (decide (i = j)) := eqD_int i j
def tgF (o : Option Sl) (s : Sto) : Fl := match o with
  | some e => .nx e s
  | none => .no
@[simp] theorem tgF_some (e : Sl) (s : Sto) : tgF (some e) s = .nx e s := rfl
@[simp] theorem exS_asgt (ts a : IE) : exS C fu (.asg (.tup ts) a) e s = bindF e (ev C a e s) fun v s => tgF (setTgV (.tup ts) v e) s := by
  show liftR e ((ev C a e s).bind fun v s => ofO (setTgV (.tup ts) v e) s) = _
  rw [liftR_bind]
  congr 1
  funext v s1
  cases setTgV (.tup ts) v e <;> rfl
theorem cmp_lt_int (i j : Int) : cmpV .lt (.d (.int i)) (.d (.int j)) s = some (decide (i < j)) := rfl
theorem cmp_le_int (i j : Int) : cmpV .le (.d (.int i)) (.d (.int j)) s = some (decide (i ≤ j)) := rfl
theorem cmp_ge_int (i j : Int) : cmpV .ge (.d (.int i)) (.d (.int j)) s = some (decide (j ≤ i)) := rfl
theorem cmp_gt_int (i j : Int) : cmpV .gt (.d (.int i)) (.d (.int j)) s = some (decide (j < i)) := rfl
end SM

set_option maxHeartbeats 1000000
/-! SM: what is true behind a run (weakest preconditions). -/
namespace SM
open PySem
abbrev XP : Type := Nat → Vl → Sto → Prop
abbrev nX : XP := fun _ _ _ => False
/-- the run ends well with Q, or raises with X -/
def Ok {α : Type} (r : Rs α) (Q : α → Sto → Prop) (X : XP) : Prop := match r with
  | .ok a s => Q a s
  | .ex c v s => X c v s
  | .no => False
structure Pt where
  n : Sl → Sto → Prop
  r : Vl → Sto → Prop
  b : Sl → Sto → Prop
  c : Sl → Sto → Prop
  x : Nat → Vl → Sl → Sto → Prop
def Sw (f : Fl) (P : Pt) : Prop := match f with
  | .nx e s => P.n e s
  | .rt v s => P.r v s
  | .bk e s => P.b e s
  | .ct e s => P.c e s
  | .ex c v e s => P.x c v e s
  | .no => False
section
variable {α β : Type} {C : Cal} {fu k : Nat} {e : Sl} {s : Sto} {Q Q' : α → Sto → Prop} {X X' : XP} {P P' : Pt}
@[simp] theorem Ok_ok (a : α) (s : Sto) : Ok (.ok a s) Q X = Q a s := rfl
@[simp] theorem Ok_bind (r : Rs β) (f : β → Sto → Rs α) : Ok (r.bind f) Q X = Ok r (fun a s => Ok (f a s) Q X) X := by cases r <;> rfl
@[simp] theorem Ok_ite (c : Prop) [Decidable c] (a b : Rs α) : Ok (if c then a else b) Q X = if c then Ok a Q X else Ok b Q X := by split <;> rfl
theorem Ok.mono {r : Rs α} (h : Ok r Q X) (f : ∀ a s, Q a s → Q' a s) (g : ∀ c v s, X c v s → X' c v s) : Ok r Q' X' := by
  cases r with
  | ok a s => exact f a s h
  | ex c v s => exact g c v s h
  | no => exact h
theorem Ok.imp {r : Rs α} (h : Ok r Q nX) (f : ∀ a s, Q a s → Q' a s) : Ok r Q' X := h.mono f fun _ _ _ z => z.elim
theorem Ok.and {r : Rs α} {Q1 Q2 : α → Sto → Prop} (h : Ok r Q1 X) (g : Ok r Q2 X) : Ok r (fun a s => Q1 a s ∧ Q2 a s) X := by
  cases r with
  | ok a s => exact ⟨h, g⟩
  | ex c v s => exact h
  | no => exact h
theorem Ok.eq {r : Rs α} {a : α} (h : r = .ok a s) (q : Q a s) : Ok r Q X := by rw [h]; exact q
theorem Ok.ex {r : Rs α} (h : Ok r Q nX) : ∃ a s, r = .ok a s ∧ Q a s := by
  cases r with
  | ok a s => exact ⟨a, s, rfl, h⟩
  | ex c v s => exact h.elim
  | no => exact h.elim
theorem Ok_one {r : Rs α} {a : α} (h : Ok r (fun b t => b = a ∧ t = s) nX) : r = .ok a s := by
  obtain ⟨b, t, h1, h2, h3⟩ := h.ex
  rw [h1, h2, h3]
theorem Sw.mono {f : Fl} (h : Sw f P) (n : ∀ e s, P.n e s → P'.n e s) (r : ∀ v s, P.r v s → P'.r v s) (b : ∀ e s, P.b e s → P'.b e s) (c : ∀ e s, P.c e s → P'.c e s) (x : ∀ c v e s, P.x c v e s → P'.x c v e s) : Sw f P' := by
  cases f with
  | nx e s => exact n e s h
  | rt v s => exact r v s h
  | bk e s => exact b e s h
  | ct e s => exact c e s h
  | ex d v e s => exact x d v e s h
  | no => exact h
@[simp] theorem Sw_nx (e : Sl) (s : Sto) : Sw (.nx e s) P = P.n e s := rfl
@[simp] theorem Sw_rt (v : Vl) (s : Sto) : Sw (.rt v s) P = P.r v s := rfl
@[simp] theorem Sw_bk (e : Sl) (s : Sto) : Sw (.bk e s) P = P.b e s := rfl
@[simp] theorem Sw_ct (e : Sl) (s : Sto) : Sw (.ct e s) P = P.c e s := rfl
@[simp] theorem Sw_no : Sw .no P = False := rfl
def nxt (g : Sl → Sto → Fl) (P : Pt) (e : Sl) (s : Sto) : Prop := Sw (g e s) P
@[simp] theorem nxt_eq (g : Sl → Sto → Fl) (P : Pt) (e : Sl) (s : Sto) : nxt g P e s = Sw (g e s) P := rfl
@[simp] theorem Sw_thenF (f : Fl) (g : Sl → Sto → Fl) : Sw (thenF f g) P = Sw f ⟨nxt g P, P.r, P.b, P.c, P.x⟩ := by cases f <;> rfl
@[simp] theorem Sw_bindF (r : Rs β) (f : β → Sto → Fl) : Sw (bindF e r f) P = Ok r (fun a s => Sw (f a s) P) (fun c v s => P.x c v e s) := by cases r <;> rfl
@[simp] theorem Sw_ite (c : Prop) [Decidable c] (a b : Fl) : Sw (if c then a else b) P = if c then Sw a P else Sw b P := by split <;> rfl
theorem Sw_tgF (o : Option Sl) : Sw (tgF o s) P = ∃ e, o = some e ∧ P.n e s := by
  cases o with
  | none => exact propext ⟨False.elim, fun ⟨_, h, _⟩ => by cases h⟩
  | some e => exact propext ⟨fun h => ⟨e, rfl, h⟩, fun ⟨e', h, g⟩ => by cases h; exact g⟩
theorem Sw_cut {a r : IS} (J : Sl → Sto → Prop) (h1 : Sw (exS C fu a e s) ⟨J, P.r, P.b, P.c, P.x⟩) (h2 : ∀ e s, J e s → Sw (exS C fu r e s) P) : Sw (exS C fu (.cons a r) e s) P := by
  rw [exS_cons, Sw_thenF]
  exact h1.mono (fun e s j => h2 e s j) (fun _ _ q => q) (fun _ _ q => q) (fun _ _ q => q) fun _ _ _ _ q => q
/-! ### more statements -/
@[simp] theorem exS_brk : exS C fu .brk e s = .bk e s := rfl
@[simp] theorem exS_cont : exS C fu .cont e s = .ct e s := rfl
@[simp] theorem exS_ptup (ts es : IE) : exS C fu (.ptup ts es) e s = bindF e (evs C es e s) fun vs s => if vs.length = ieLen ts ∧ vs.length ≤ 16777216 then asgs C ts vs e s else .no := by
  show (match evs C es e s with
    | .ok vs s => if vs.length = ieLen ts ∧ vs.length ≤ 16777216 then asgs C ts vs e s else .no
    | .ex c v s => .ex c v e s
    | .no => .no) = _
  cases evs C es e s <;> rfl
@[simp] theorem ieLen_cons (a r : IE) : ieLen (.cons a r) = ieLen r + 1 := rfl
@[simp] theorem ieLen_nil : ieLen .nil = 0 := rfl
@[simp] theorem asgs_nil : asgs C .nil [] e s = .nx e s := rfl
@[simp] theorem asgs_var (i : Nat) (r : IE) (v : Vl) (vs : List Vl) : asgs C (.cons (.var i) r) (v :: vs) e s = asgs C r vs (e.set i (some v)) s := rfl
def asgK (C : Cal) (r : IE) (vs : List Vl) (e : Sl) (o : Option Sto) : Fl := match o with
  | some s => asgs C r vs e s
  | none => .no
@[simp] theorem asgK_some (r : IE) (vs : List Vl) : asgK C r vs e (some s) = asgs C r vs e s := rfl
@[simp] theorem asgs_idx (a i r : IE) (v : Vl) (vs : List Vl) : asgs C (.cons (.idx a i) r) (v :: vs) e s = bindF e (ev C a e s) fun o s => bindF e (ev C i e s) fun k s => asgK C r vs e (setV o k v s) := by
  show (match (ev C a e s).bind fun o s => (ev C i e s).bind fun k s => match setV o k v s with
      | some s => .ok e s
      | none => .no with
    | .ok e' s' => asgs C r vs e' s'
    | .ex c v s => .ex c v e s
    | .no => .no) = _
  cases ev C a e s with
  | ok o s1 =>
    show (match (ev C i e s1).bind fun k s => match setV o k v s with
        | some s => .ok e s
        | none => .no with
      | .ok e' s' => asgs C r vs e' s'
      | .ex c v s => .ex c v e s
      | .no => .no) = bindF e (ev C i e s1) fun k s => asgK C r vs e (setV o k v s)
    cases ev C i e s1 with
    | ok k s2 =>
      show (match (match setV o k v s2 with
          | some s => Rs.ok e s
          | none => .no) with
        | .ok e' s' => asgs C r vs e' s'
        | .ex c v s => .ex c v e s
        | .no => .no) = asgK C r vs e (setV o k v s2)
      cases setV o k v s2 <;> rfl
    | ex d w s2 => rfl
    | no => rfl
  | ex d w s1 => rfl
  | no => rfl
@[simp] theorem exS_par3 (i j l : Nat) (a b c : IE) : exS C fu (.par3 i j l a b c) e s = bindF e (ev C a e s) fun v s => bindF e (ev C b e s) fun w s => bindF e (ev C c e s) fun x s => .nx (((e.set i (some v)).set j (some w)).set l (some x)) s := by
  show liftR e ((ev C a e s).bind fun v s => (ev C b e s).bind fun w s => (ev C c e s).bind fun x s => .ok (((e.set i (some v)).set j (some w)).set l (some x)) s) = _
  rw [liftR_bind]
  congr 1
  funext v s1
  rw [liftR_bind]
  congr 1
  funext w s2
  rw [liftR_bind]
  rfl
theorem exS_vfz {i : Nat} {v w : Vl} {t : Sto} (h : e[i]? = some (some v)) (hf : frzV v s = some (w, t)) : exS C fu (.vfz i) e s = .nx (e.set i (some w)) t := by
  show (match e[i]? with
    | some (some v) => (match frzV v s with
      | some p => Fl.nx (e.set i (some p.1)) p.2
      | none => .no)
    | _ => .no) = _
  rw [h]
  simp only [hf]
def setF (o : Option Sto) (e : Sl) : Fl := match o with
  | some s => .nx e s
  | none => .no
@[simp] theorem setF_some (s : Sto) (e : Sl) : setF (some s) e = .nx e s := rfl
@[simp] theorem exS_asgi (a i v : IE) : exS C fu (.asg (.idx a i) v) e s = bindF e (ev C v e s) fun v s => bindF e (ev C a e s) fun o s => bindF e (ev C i e s) fun k s => setF (setV o k v s) e := by
  show liftR e ((ev C v e s).bind fun v s => (ev C a e s).bind fun o s => (ev C i e s).bind fun k s => match setV o k v s with
    | some s => .ok e s
    | none => .no) = _
  rw [liftR_bind]
  congr 1
  funext v s1
  rw [liftR_bind]
  congr 1
  funext o s2
  rw [liftR_bind]
  congr 1
  funext k s3
  cases setV o k v s3 <;> rfl
def augF (o : BOp) (x y : Vl) (e : Sl) (i : Nat) (s : Sto) : Fl := match x, y with
  | .d (.int x), .d (.int y) => (match binI o x y with
    | some z => .nx (e.set i (some (.d (.int z)))) s
    | none => .no)
  | _, _ => .no
theorem exS_aug' (i : Nat) (o : BOp) (a : IE) {x : Int} (h : e[i]? = some (some (.d (.int x)))) : exS C fu (.aug i o a) e s = bindF e (ev C a e s) fun y s => augF o (.d (.int x)) y e i s := by
  show (match e[i]? with
    | some (some (.d (.int x))) => liftR e ((ev C a e s).bind fun y s => match y with
      | .d (.int y) => ofO ((binI o x y).map fun z => e.set i (some (.d (.int z)))) s
      | _ => .no)
    | _ => .no) = _
  rw [h]
  show liftR e _ = _
  rw [liftR_bind]
  congr 1
  funext y s1
  cases y with
  | r n => rfl
  | d y =>
    cases y <;> try rfl
    rename_i y
    show liftR e (ofO ((binI o x y).map fun z => e.set i (some (.d (.int z)))) s1) = (match binI o x y with
      | some z => Fl.nx (e.set i (some (.d (.int z)))) s1
      | none => .no)
    cases binI o x y <;> rfl
theorem Ok_ofO (o : Option α) (s : Sto) : Ok (ofO o s) Q X = ∃ a, o = some a ∧ Q a s := by
  cases o with
  | none => exact propext ⟨False.elim, fun ⟨_, h, _⟩ => by cases h⟩
  | some e => exact propext ⟨fun h => ⟨e, rfl, h⟩, fun ⟨e', h, g⟩ => by cases h; exact g⟩
theorem Ok_ofP (o : Po α) : Ok (ofP o) Q X = ∃ a s, o = some (a, s) ∧ Q a s := by
  cases o with
  | none => exact propext ⟨False.elim, fun ⟨_, _, h, _⟩ => by cases h⟩
  | some e => obtain ⟨a, s⟩ := e; exact propext ⟨fun h => ⟨a, s, rfl, h⟩, fun ⟨a', s', h, g⟩ => by cases h; exact g⟩
/-! ### calls -/
def Lv (s₀ : Sto) (v : Vl) (s : Sto) (Q : Vl → Sto → Prop) : Prop := ∀ s', (s' = s ∨ (Cut s₀ v s ∧ s' = s.take s₀.length)) → (Cut s₀ v s → s' = s.take s₀.length) → Q v s'
theorem Ok_leave {s₀ : Sto} {f : Fl} {Q : Vl → Sto → Prop} (h : Sw f ⟨fun _ s => Lv s₀ (.d .none) s Q, fun v s => Lv s₀ v s Q, fun _ _ => False, fun _ _ => False, fun c v _ s => X c v s⟩) : Ok (leave s₀ f) Q X := by
  cases f with
  | nx e s =>
    simp only [leave]
    split
    · rename_i c
      exact h _ (.inr ⟨c, rfl⟩) fun _ => rfl
    · rename_i c
      exact h _ (.inl rfl) fun z => absurd z c
  | rt v s =>
    simp only [leave]
    split
    · rename_i c
      exact h _ (.inr ⟨c, rfl⟩) fun _ => rfl
    · rename_i c
      exact h _ (.inl rfl) fun z => absurd z c
  | bk e s => exact h.elim
  | ct e s => exact h.elim
  | ex c v e s => exact h
  | no => exact h
theorem Ok_call {T : List Df} {f : Nat} {F : Df} {vs : List Vl} {Q : Vl → Sto → Prop} (hF : T[f]? = some F) (hl : vs.length = F.np)
    (h : Sw (exS (callI T fu k) fu F.body (vs.map some ++ List.replicate (F.ns - F.np) none) s) ⟨fun _ t => Lv s (.d .none) t Q, fun v t => Lv s v t Q, fun _ _ => False, fun _ _ => False, fun c v _ s => X c v s⟩) : Ok (callI T fu (k + 1) f vs s) Q X := by
  have e : callI T fu (k + 1) f vs s = leave s (exS (callI T fu k) fu F.body (vs.map some ++ List.replicate (F.ns - F.np) none) s) := by
    show (match T[f]? with
      | some F => if vs.length = F.np then leave s (exS (callI T fu k) fu F.body (vs.map some ++ List.replicate (F.ns - F.np) none) s) else .no
      | none => .no) = _
    rw [hF]
    exact if_pos hl
  rw [e]
  exact Ok_leave h
/-- nothing was made -/
theorem Lv_len {s₀ : Sto} {v : Vl} {Q : Vl → Sto → Prop} (hl : s.length = s₀.length) (q : Q v s) : Lv s₀ v s Q := by
  rintro s' (rfl | ⟨_, rfl⟩) _
  · exact q
  · rw [← hl, List.take_length]; exact q
/-- what was made is forgotten: the value is data, and the places that stood hold what they held or data -/
theorem Lv_cut {s₀ t : Sto} {x : PyData} {Q : Vl → Sto → Prop} (hl : s.length = s₀.length) (hs : ∀ i, i < s₀.length → s[i]? = s₀[i]? ∨ ∀ o, s[i]? = some o → ltO s₀.length o) (q : Q (.d x) s) : Lv s₀ (.d x) (s ++ t) Q := by
  have c : Cut s₀ (.d x) (s ++ t) := ⟨trivial, fun i hi => by
    rw [List.getElem?_append_left (by omega)]
    exact hs i hi⟩
  intro s' _ h
  rw [h c, ← hl, List.take_left]
  exact q
theorem Lv_app {t : Sto} {x : PyData} {Q : Vl → Sto → Prop} (q : Q (.d x) s) : Lv s (.d x) (s ++ t) Q := Lv_cut rfl (fun _ _ => .inl rfl) q
/-- a new list is told -/
theorem Lv_new {s₀ : Sto} {n : Nat} {Q : Vl → Sto → Prop} (hn : s₀.length ≤ n) (q : Q (.r n) s) : Lv s₀ (.r n) s Q := by
  have nc : ¬ Cut s₀ (.r n) s := fun c => by have : n < s₀.length := c.1; omega
  rintro s' (rfl | ⟨c, _⟩) _
  · exact q
  · exact absurd c nc
/-! ### loops -/
@[simp] theorem goI_vals (t : Vl → Sl → Sto → Fl) (xs : List PyData) : goI t (.vals xs) e s = goL t xs e s := rfl
@[simp] theorem exS_for' (tg it : IE) (body : IS) : exS C fu (.forr tg it body) e s = bindF e (itr C it e s) fun I s => goI (turnS C fu tg body) I e s := exS_for
@[simp] theorem itr_itv (a : IE) : itr C (.itv a) e s = (ev C a e s).bind fun x s => ofO (itrV x s) s := rfl
@[simp] theorem itr_rng1 (a : IE) : itr C (.rng1 a) e s = (ev C a e s).bind fun x s => ofO ((optI x).bind (rngV 0)) s := rfl
@[simp] theorem itr_rng2 (a b : IE) : itr C (.rng2 a b) e s = (ev C a e s).bind fun x s => (ev C b e s).bind fun y s => ofO ((optI x).bind fun i => (optI y).bind (rngV i)) s := rfl
@[simp] theorem itr_zip (a b : IE) : itr C (.zip a b) e s = (ev C a e s).bind fun x s => (ev C b e s).bind fun y s => ofO (zipV x y) s := rfl
@[simp] theorem itr_enum (a : IE) : itr C (.enum a) e s = (ev C a e s).bind fun x s => ofO (enumV x) s := rfl
theorem Sw_step (t : Vl → Sl → Sto → Fl) (x : PyData) (xs : List PyData) : Sw (goL t (x :: xs) e s) P = Sw (t (.d x) e s) ⟨fun e s => Sw (goL t xs e s) P, P.r, P.n, fun e s => Sw (goL t xs e s) P, P.x⟩ := by
  show Sw (match t (.d x) e s with
    | .nx e s => goL t xs e s
    | .ct e s => goL t xs e s
    | .bk e s => .nx e s
    | .rt v s => .rt v s
    | .ex c v e s => .ex c v e s
    | .no => .no) P = _
  cases t (.d x) e s <;> rfl
theorem Sw_goL {t : Vl → Sl → Sto → Fl} (I : List PyData → Sl → Sto → Prop) (step : ∀ x r e s, I (x :: r) e s → Sw (t (.d x) e s) ⟨I r, P.r, P.n, I r, P.x⟩) (last : ∀ e s, I [] e s → P.n e s) : ∀ {xs : List PyData} {e : Sl} {s : Sto}, I xs e s → Sw (goL t xs e s) P
  | [], e, s, h => last e s h
  | x :: r, e, s, h => by
    rw [Sw_step]
    exact (step x r e s h).mono (fun e s q => Sw_goL I step last q) (fun _ _ q => q) (fun _ _ q => q) (fun e s q => Sw_goL I step last q) fun _ _ _ _ q => q
/-- the same, over a list of other things -/
theorem Sw_goM {t : Vl → Sl → Sto → Fl} (f : α → PyData) (I : List α → Sl → Sto → Prop) (step : ∀ x r e s, I (x :: r) e s → Sw (t (.d (f x)) e s) ⟨I r, P.r, P.n, I r, P.x⟩) (last : ∀ e s, I [] e s → P.n e s) : ∀ {xs : List α} {e : Sl} {s : Sto}, I xs e s → Sw (goL t (xs.map f) e s) P
  | [], e, s, h => last e s h
  | x :: r, e, s, h => by
    rw [List.map_cons, Sw_step]
    exact (step x r e s h).mono (fun e s q => Sw_goM f I step last q) (fun _ _ q => q) (fun _ _ q => q) (fun e s q => Sw_goM f I step last q) fun _ _ _ _ q => q
theorem turnS_var (i : Nat) (body : IS) (v : Vl) : turnS C fu (.var i) body v e s = exS C fu body (e.set i (some v)) s := rfl
theorem turnS_of {tg : IE} {body : IS} {v : Vl} {e1 : Sl} (h : setTgV tg v e = some e1) : turnS C fu tg body v e s = exS C fu body e1 s := by unfold turnS; rw [h]
@[simp] theorem exS_whil (c : IE) (b : IS) : exS C fu (.whil c b) e s = whL (ev C c) (exS C fu b) fu e s := rfl
theorem Sw_whL {c : IE} {b : IS} (I : Nat → Sl → Sto → Prop) (step : ∀ m e s, I m e s → Ok (evT C c e s) (fun t s => if t = true then Sw (exS C fu b e s) ⟨fun e s => ∃ l, l < m ∧ I l e s, P.r, P.n, fun e s => ∃ l, l < m ∧ I l e s, P.x⟩ else P.n e s) (fun d v s => P.x d v e s)) :
    ∀ (n m : Nat) {e : Sl} {s : Sto}, m < n → I m e s → Sw (whL (ev C c) (exS C fu b) n e s) P
  | 0, m, e, s, h, _ => absurd h (Nat.not_lt_zero _)
  | n + 1, m, e, s, h, i => by
    have st := step m e s i
    unfold evT at st
    show Sw (match ev C c e s with
      | .ok v s => (match isTrue? v with
        | some true => (match exS C fu b e s with
          | .nx e s => whL (ev C c) (exS C fu b) n e s
          | .ct e s => whL (ev C c) (exS C fu b) n e s
          | .bk e s => .nx e s
          | .rt v s => .rt v s
          | .ex c v e s => .ex c v e s
          | .no => .no)
        | some false => .nx e s
        | none => .no)
      | .ex c v s => .ex c v e s
      | .no => .no) P
    cases q : ev C c e s with
    | no => rw [q] at st; exact st
    | ex d v s1 => rw [q] at st; exact st
    | ok v s1 =>
      rw [q] at st
      have st : Ok (ofO (isTrue? v) s1) (fun t s => if t = true then Sw (exS C fu b e s) ⟨fun e s => ∃ l, l < m ∧ I l e s, P.r, P.n, fun e s => ∃ l, l < m ∧ I l e s, P.x⟩ else P.n e s) (fun d v s => P.x d v e s) := st
      simp only
      cases q2 : isTrue? v with
      | none => rw [q2] at st; exact st
      | some t =>
        rw [q2] at st
        cases t with
        | false => exact st
        | true =>
          have st : Sw (exS C fu b e s1) ⟨fun e s => ∃ l, l < m ∧ I l e s, P.r, P.n, fun e s => ∃ l, l < m ∧ I l e s, P.x⟩ := st
          simp only
          cases q3 : exS C fu b e s1 with
          | nx e2 s2 => rw [q3] at st; obtain ⟨l, hl, i2⟩ := st; exact Sw_whL I step n l (by omega) i2
          | ct e2 s2 => rw [q3] at st; obtain ⟨l, hl, i2⟩ := st; exact Sw_whL I step n l (by omega) i2
          | bk e2 s2 => rw [q3] at st; exact st
          | rt v2 s2 => rw [q3] at st; exact st
          | ex d v2 e2 s2 => rw [q3] at st; exact st
          | no => rw [q3] at st; exact st
/-! ### comprehensions -/
theorem evs_map {turn : Vl → Sto → Rs (Option Vl)} {X : XP} (I : Nat → Sto → Prop) (R : PyData → Prop) : ∀ {ds : List PyData} {n : Nat} {s : Sto}, I n s → (∀ x ∈ ds, ∀ n s, I n s → Ok (turn (.d x) s) (fun o t => I (n + 1) t ∧ ∃ d, o = some (.d d) ∧ R d) nX) →
    Ok (cmL turn ds s) (fun vs t => I (n + ds.length) t ∧ ∃ xs : List PyData, vs = xs.map Vl.d ∧ xs.length = ds.length ∧ ∀ x ∈ xs, R x) X
  | [], n, s, i, _ => ⟨i, [], rfl, rfl, fun _ h => by cases h⟩
  | a :: r, n, s, i, h => by
    show Ok ((turn (.d a) s).bind fun o s => (cmL turn r s).bind fun r s => .ok (match o with | some v => v :: r | none => r) s) _ _
    rw [Ok_bind]
    refine (h a List.mem_cons_self n s i).imp fun o t ⟨i2, d, e, rd⟩ => ?_
    subst e
    rw [Ok_bind]
    refine (evs_map I R (X := nX) i2 fun x hx => h x (List.mem_cons_of_mem _ hx)).imp fun vs t2 ⟨i3, xs, e, hl, hr⟩ => ?_
    subst e
    refine ⟨by rw [List.length_cons, show n + (r.length + 1) = n + 1 + r.length by omega]; exact i3, d :: xs, rfl, by simp [hl], fun x hx => ?_⟩
    rcases List.mem_cons.mp hx with rfl | hx
    · exact rd
    · exact hr x hx
/-- [elt for tg in ..], drawn: what stands behind each turn, what each item is -/
theorem Ok_comp {elt tg it : IE} {own : List Nat} {Q : Vl → Sto → Prop} (I : Nat → Sto → Prop) (R : PyData → Prop) {ds : List PyData} {s' : Sto} (hi : itr C it e s = .ok (.vals ds) s') (hl : ds.length ≤ 16777216) (h0 : I 0 s')
    (ht : ∀ x ∈ ds, ∀ n s, I n s → ∃ e1, setTgV tg (.d x) (wipe e own) = some e1 ∧ Ok (ev C elt e1 s) (fun v t => I (n + 1) t ∧ ∃ d, v = .d d ∧ R d) nX)
    (hq : ∀ (xs : List PyData) (t : Sto), xs.length = ds.length → (∀ x ∈ xs, R x) → I ds.length t → Q (.d (.list xs)) t) : Ok (ev C (.comp false elt tg it .nil own) e s) Q X := by
  show Ok ((itr C it e s).bind fun I s => (noex (cmI (turnF C elt tg .nil (wipe e own)) I s)).bind fun vs s => ofP (mkL false vs s)) Q X
  rw [hi]
  show Ok ((noex (cmL (turnF C elt tg .nil (wipe e own)) ds s')).bind fun vs s => ofP (mkL false vs s)) Q X
  have key := evs_map (turn := turnF C elt tg .nil (wipe e own)) (X := nX) I R h0 (ds := ds) fun x hx n s i => by
    obtain ⟨e1, h1, h2⟩ := ht x hx n s i
    unfold turnF
    rw [h1]
    show Ok ((Rs.ok true s).bind fun b s => if b = true then (ev C elt e1 s).bind fun x s => .ok (some x) s else .ok none s) _ _
    show Ok ((ev C elt e1 s).bind fun x s => .ok (some x) s) _ _
    rw [Ok_bind]
    exact h2.imp fun v t ⟨i, d, e, r⟩ => ⟨i, d, by rw [e], r⟩
  obtain ⟨vs, t, hv, hI, xs, rfl, hx, hr⟩ := key.ex
  rw [hv]
  show Ok (ofP (mkL false (xs.map Vl.d) t)) Q X
  have m : mkL false (xs.map Vl.d) t = some (.d (.list xs), t) := by
    unfold mkL
    rw [if_pos (by simpa [hx] using hl), if_neg (by decide), allD_map]
    rfl
  rw [m]
  exact hq xs t hx hr (by rw [Nat.zero_add] at hI; exact hI)
/-- .. a list that is changed later -/
theorem Ok_compM {elt tg it : IE} {own : List Nat} {Q : Vl → Sto → Prop} (I : Nat → Sto → Prop) (R : PyData → Prop) {ds : List PyData} {s' : Sto} (hi : itr C it e s = .ok (.vals ds) s') (hl : ds.length ≤ 16777216) (h0 : I 0 s')
    (ht : ∀ x ∈ ds, ∀ n s, I n s → ∃ e1, setTgV tg (.d x) (wipe e own) = some e1 ∧ Ok (ev C elt e1 s) (fun v t => I (n + 1) t ∧ ∃ d, v = .d d ∧ R d) nX)
    (hq : ∀ (xs : List PyData) (t : Sto), xs.length = ds.length → (∀ x ∈ xs, R x) → I ds.length t → Q (.r t.length) (t ++ [some (.lst (xs.map Vl.d))])) : Ok (ev C (.comp true elt tg it .nil own) e s) Q X := by
  show Ok ((itr C it e s).bind fun I s => (noex (cmI (turnF C elt tg .nil (wipe e own)) I s)).bind fun vs s => ofP (mkL true vs s)) Q X
  rw [hi]
  show Ok ((noex (cmL (turnF C elt tg .nil (wipe e own)) ds s')).bind fun vs s => ofP (mkL true vs s)) Q X
  have key := evs_map (turn := turnF C elt tg .nil (wipe e own)) (X := nX) I R h0 (ds := ds) fun x hx n s i => by
    obtain ⟨e1, h1, h2⟩ := ht x hx n s i
    unfold turnF
    rw [h1]
    show Ok ((Rs.ok true s).bind fun b s => if b = true then (ev C elt e1 s).bind fun x s => .ok (some x) s else .ok none s) _ _
    show Ok ((ev C elt e1 s).bind fun x s => .ok (some x) s) _ _
    rw [Ok_bind]
    exact h2.imp fun v t ⟨i, d, e, r⟩ => ⟨i, d, by rw [e], r⟩
  obtain ⟨vs, t, hv, hI, xs, rfl, hx, hr⟩ := key.ex
  rw [hv]
  show Ok (ofP (mkL true (xs.map Vl.d) t)) Q X
  have m : mkL true (xs.map Vl.d) t = some (.r t.length, t ++ [some (.lst (xs.map Vl.d))]) := by
    unfold mkL
    rw [if_pos (by simpa [hx] using hl), if_pos rfl]
  rw [m]
  exact hq xs t hx hr (by rw [Nat.zero_add] at hI; exact hI)
/-- [elt for tg in .. if cnd], where nothing is changed -/
theorem cm_filter {turn : Vl → Sto → Rs (Option Vl)} {f : PyData → PyData} {p : PyData → Bool} : ∀ {ds : List PyData}, (∀ x ∈ ds, turn (.d x) s = .ok (if p x = true then some (.d (f x)) else none) s) → cmL turn ds s = .ok (((ds.filter p).map f).map Vl.d) s
  | [], _ => rfl
  | a :: r, h => by
    show (turn (.d a) s).bind _ = _
    rw [h a List.mem_cons_self]
    show (cmL turn r s).bind _ = _
    rw [cm_filter (ds := r) fun x hx => h x (List.mem_cons_of_mem _ hx)]
    cases q : p a <;> simp [q]
theorem comp_filter {elt tg it c : IE} {own : List Nat} {ds : List PyData} (f : PyData → PyData) (p : PyData → Bool) (hi : itr C it e s = .ok (.vals ds) s) (hl : ds.length ≤ 16777216)
    (ht : ∀ x ∈ ds, ∃ e1, setTgV tg (.d x) (wipe e own) = some e1 ∧ evT C c e1 s = .ok (p x) s ∧ (p x = true → ev C elt e1 s = .ok (.d (f x)) s)) : ev C (.comp false elt tg it (.cons c .nil) own) e s = .ok (.d (.list ((ds.filter p).map f))) s := by
  show ((itr C it e s).bind fun I s => (noex (cmI (turnF C elt tg (.cons c .nil) (wipe e own)) I s)).bind fun vs s => ofP (mkL false vs s)) = _
  rw [hi]
  show ((noex (cmL (turnF C elt tg (.cons c .nil) (wipe e own)) ds s)).bind fun vs s => ofP (mkL false vs s)) = _
  rw [cm_filter (f := f) (p := p) fun x hx => ?_]
  · show ofP (mkL false (((ds.filter p).map f).map Vl.d) s) = _
    unfold mkL
    rw [if_pos (by have := List.length_filter_le p ds; simp; omega), if_neg (by decide), allD_map]
    rfl
  · obtain ⟨e1, h1, h2, h3⟩ := ht x hx
    unfold turnF
    rw [h1]
    show (evT C c e1 s).bind _ = _
    rw [h2]
    cases q : p x with
    | false => rfl
    | true =>
      show (ev C elt e1 s).bind _ = _
      rw [h3 q]
      rfl
/-- .. where the tests draw -/
theorem evs_some {turn : Vl → Sto → Rs (Option Vl)} {X : XP} (I : Sto → Prop) (f : PyData → PyData) : ∀ {ds : List PyData} {s : Sto}, I s → (∀ x ∈ ds, ∀ s, I s → Ok (turn (.d x) s) (fun o t => I t ∧ (o = some (.d (f x)) ∨ o = none)) nX) →
    Ok (cmL turn ds s) (fun vs t => I t ∧ ∃ xs : List PyData, vs = (xs.map f).map Vl.d ∧ xs.Sublist ds) X
  | [], s, i, _ => ⟨i, [], rfl, .slnil⟩
  | a :: r, s, i, h => by
    show Ok ((turn (.d a) s).bind fun o s => (cmL turn r s).bind fun r s => .ok (match o with | some v => v :: r | none => r) s) _ _
    rw [Ok_bind]
    refine (h a List.mem_cons_self s i).imp fun o t ⟨i2, ho⟩ => ?_
    rw [Ok_bind]
    refine (evs_some I f (X := nX) i2 fun x hx => h x (List.mem_cons_of_mem _ hx)).imp fun vs t2 ⟨i3, xs, e, hl⟩ => ?_
    subst e
    rcases ho with rfl | rfl
    · exact ⟨i3, a :: xs, rfl, hl.cons₂ a⟩
    · exact ⟨i3, xs, rfl, hl.cons a⟩
theorem Ok_comp_some {elt tg it c : IE} {own : List Nat} {Q : Vl → Sto → Prop} (I : Sto → Prop) (f : PyData → PyData) {ds : List PyData} {s' : Sto} (hi : itr C it e s = .ok (.vals ds) s') (hl : ds.length ≤ 16777216) (h0 : I s')
    (ht : ∀ x ∈ ds, ∀ s, I s → ∃ e1, setTgV tg (.d x) (wipe e own) = some e1 ∧ Ok (evT C c e1 s) (fun b t => I t ∧ (b = true → ev C elt e1 t = .ok (.d (f x)) t)) nX)
    (hq : ∀ (xs : List PyData) (t : Sto), xs.Sublist ds → I t → Q (.d (.list (xs.map f))) t) : Ok (ev C (.comp false elt tg it (.cons c .nil) own) e s) Q X := by
  show Ok ((itr C it e s).bind fun I s => (noex (cmI (turnF C elt tg (.cons c .nil) (wipe e own)) I s)).bind fun vs s => ofP (mkL false vs s)) Q X
  rw [hi]
  show Ok ((noex (cmL (turnF C elt tg (.cons c .nil) (wipe e own)) ds s')).bind fun vs s => ofP (mkL false vs s)) Q X
  have key := evs_some (turn := turnF C elt tg (.cons c .nil) (wipe e own)) (X := nX) I f h0 (ds := ds) fun x hx s i => by
    obtain ⟨e1, h1, h2⟩ := ht x hx s i
    unfold turnF
    rw [h1]
    show Ok ((evT C c e1 s).bind fun b s => if b = true then (ev C elt e1 s).bind fun x s => .ok (some x) s else .ok none s) _ _
    rw [Ok_bind]
    refine h2.imp fun b t ⟨i, h3⟩ => ?_
    cases b with
    | false => exact ⟨i, .inr rfl⟩
    | true =>
      rw [if_pos rfl, Ok_bind, h3 rfl]
      exact ⟨i, .inl rfl⟩
  obtain ⟨vs, t, hv, hI, xs, rfl, hx⟩ := key.ex
  rw [hv]
  show Ok (ofP (mkL false ((xs.map f).map Vl.d) t)) Q X
  have m : mkL false ((xs.map f).map Vl.d) t = some (.d (.list (xs.map f)), t) := by
    unfold mkL
    rw [if_pos (by have := hx.length_le; simp; omega), if_neg (by decide), allD_map]
    rfl
  rw [m]
  exact hq xs t hx hI
end
end SM

set_option maxHeartbeats 1000000
/-! SM: values, as simp reads them. -/
namespace SM
open PySem
section
variable {C : Cal} {n : Nat} {s t u : Sto} {vs ws : List Vl} {v : Vl} {m : Bool}
theorem listAt_lt (h : listAt n s = some vs) : n < s.length := by
  unfold listAt at h
  cases q : s[n]? with
  | none => rw [q] at h; cases h
  | some o => exact (List.getElem?_eq_some_iff.mp q).1
@[simp] theorem putL_length : (putL n vs s).length = s.length := by simp [putL]
theorem listAt_put (h : n < s.length) : listAt n (putL n vs s) = some vs := by
  unfold listAt putL
  simp [h]
theorem listAt_put_ne {j : Nat} (h : j ≠ n) : listAt j (putL n vs s) = listAt j s := by
  unfold listAt putL
  rw [List.getElem?_set_ne (Ne.symm h)]
theorem listAt_new : listAt s.length (s ++ [some (.lst vs)]) = some vs := by simp [listAt]
theorem listAt_old (h : n < s.length) : listAt n (s ++ t) = listAt n s := by simp [listAt, List.getElem?_append_left h]
theorem putL_new : putL s.length ws (s ++ [some (.lst vs)]) = s ++ [some (.lst ws)] := by simp [putL]
theorem putL_put : putL n ws (putL n vs s) = putL n ws s := by simp [putL]
theorem ixN_nat {k i : Nat} (h : i < k) : L2.ixN k (i : Int) = some i := by
  unfold L2.ixN
  rw [if_pos (by omega), if_pos (by omega)]
  simp
/-! ### places -/
@[simp] theorem atI0 {α : Type} (a : α) (l : List α) : L2.atI (a :: l) 0 = some a := by
  have := atI_nat (vs := a :: l) (i := 0) (by simp)
  simpa using this
@[simp] theorem atI1 {α : Type} (a b : α) (l : List α) : L2.atI (a :: b :: l) 1 = some b := by
  have := atI_nat (vs := a :: b :: l) (i := 1) (by simp)
  simpa using this
@[simp] theorem atI2 {α : Type} (a b c : α) (l : List α) : L2.atI (a :: b :: c :: l) 2 = some c := by
  have := atI_nat (vs := a :: b :: c :: l) (i := 2) (by simp)
  simpa using this
@[simp] theorem atI3 {α : Type} (a b c d : α) (l : List α) : L2.atI (a :: b :: c :: d :: l) 3 = some d := by
  have := atI_nat (vs := a :: b :: c :: d :: l) (i := 3) (by simp)
  simpa using this
@[simp] theorem atI4 {α : Type} (a b c d e : α) (l : List α) : L2.atI (a :: b :: c :: d :: e :: l) 4 = some e := by
  have := atI_nat (vs := a :: b :: c :: d :: e :: l) (i := 4) (by simp)
  simpa using this
@[simp] theorem atI5 {α : Type} (a0 a1 a2 a3 a4 a5 : α) (l : List α) : L2.atI (a0 :: a1 :: a2 :: a3 :: a4 :: a5 :: l) 5 = some a5 := by
  have := atI_nat (vs := a0 :: a1 :: a2 :: a3 :: a4 :: a5 :: l) (i := 5) (by simp)
  simpa using this
@[simp] theorem atI6 {α : Type} (a0 a1 a2 a3 a4 a5 a6 : α) (l : List α) : L2.atI (a0 :: a1 :: a2 :: a3 :: a4 :: a5 :: a6 :: l) 6 = some a6 := by
  have := atI_nat (vs := a0 :: a1 :: a2 :: a3 :: a4 :: a5 :: a6 :: l) (i := 6) (by simp)
  simpa using this
@[simp] theorem atI7 {α : Type} (a0 a1 a2 a3 a4 a5 a6 a7 : α) (l : List α) : L2.atI (a0 :: a1 :: a2 :: a3 :: a4 :: a5 :: a6 :: a7 :: l) 7 = some a7 := by
  have := atI_nat (vs := a0 :: a1 :: a2 :: a3 :: a4 :: a5 :: a6 :: a7 :: l) (i := 7) (by simp)
  simpa using this
@[simp] theorem atI8 {α : Type} (a0 a1 a2 a3 a4 a5 a6 a7 a8 : α) (l : List α) : L2.atI (a0 :: a1 :: a2 :: a3 :: a4 :: a5 :: a6 :: a7 :: a8 :: l) 8 = some a8 := by
  have := atI_nat (vs := a0 :: a1 :: a2 :: a3 :: a4 :: a5 :: a6 :: a7 :: a8 :: l) (i := 8) (by simp)
  simpa using this
@[simp] theorem atI9 {α : Type} (a0 a1 a2 a3 a4 a5 a6 a7 a8 a9 : α) (l : List α) : L2.atI (a0 :: a1 :: a2 :: a3 :: a4 :: a5 :: a6 :: a7 :: a8 :: a9 :: l) 9 = some a9 := by
  have := atI_nat (vs := a0 :: a1 :: a2 :: a3 :: a4 :: a5 :: a6 :: a7 :: a8 :: a9 :: l) (i := 9) (by simp)
  simpa using this
@[simp] theorem atI10 {α : Type} (a0 a1 a2 a3 a4 a5 a6 a7 a8 a9 a10 : α) (l : List α) : L2.atI (a0 :: a1 :: a2 :: a3 :: a4 :: a5 :: a6 :: a7 :: a8 :: a9 :: a10 :: l) 10 = some a10 := by
  have := atI_nat (vs := a0 :: a1 :: a2 :: a3 :: a4 :: a5 :: a6 :: a7 :: a8 :: a9 :: a10 :: l) (i := 10) (by simp)
  simpa using this
@[simp] theorem atI11 {α : Type} (a0 a1 a2 a3 a4 a5 a6 a7 a8 a9 a10 a11 : α) (l : List α) : L2.atI (a0 :: a1 :: a2 :: a3 :: a4 :: a5 :: a6 :: a7 :: a8 :: a9 :: a10 :: a11 :: l) 11 = some a11 := by
  have := atI_nat (vs := a0 :: a1 :: a2 :: a3 :: a4 :: a5 :: a6 :: a7 :: a8 :: a9 :: a10 :: a11 :: l) (i := 11) (by simp)
  simpa using this
@[simp] theorem atI12 {α : Type} (a0 a1 a2 a3 a4 a5 a6 a7 a8 a9 a10 a11 a12 : α) (l : List α) : L2.atI (a0 :: a1 :: a2 :: a3 :: a4 :: a5 :: a6 :: a7 :: a8 :: a9 :: a10 :: a11 :: a12 :: l) 12 = some a12 := by
  have := atI_nat (vs := a0 :: a1 :: a2 :: a3 :: a4 :: a5 :: a6 :: a7 :: a8 :: a9 :: a10 :: a11 :: a12 :: l) (i := 12) (by simp)
  simpa using this
@[simp] theorem atI13 {α : Type} (a0 a1 a2 a3 a4 a5 a6 a7 a8 a9 a10 a11 a12 a13 : α) (l : List α) : L2.atI (a0 :: a1 :: a2 :: a3 :: a4 :: a5 :: a6 :: a7 :: a8 :: a9 :: a10 :: a11 :: a12 :: a13 :: l) 13 = some a13 := by
  have := atI_nat (vs := a0 :: a1 :: a2 :: a3 :: a4 :: a5 :: a6 :: a7 :: a8 :: a9 :: a10 :: a11 :: a12 :: a13 :: l) (i := 13) (by simp)
  simpa using this
@[simp] theorem atI14 {α : Type} (a0 a1 a2 a3 a4 a5 a6 a7 a8 a9 a10 a11 a12 a13 a14 : α) (l : List α) : L2.atI (a0 :: a1 :: a2 :: a3 :: a4 :: a5 :: a6 :: a7 :: a8 :: a9 :: a10 :: a11 :: a12 :: a13 :: a14 :: l) 14 = some a14 := by
  have := atI_nat (vs := a0 :: a1 :: a2 :: a3 :: a4 :: a5 :: a6 :: a7 :: a8 :: a9 :: a10 :: a11 :: a12 :: a13 :: a14 :: l) (i := 14) (by simp)
  simpa using this
@[simp] theorem atI15 {α : Type} (a0 a1 a2 a3 a4 a5 a6 a7 a8 a9 a10 a11 a12 a13 a14 a15 : α) (l : List α) : L2.atI (a0 :: a1 :: a2 :: a3 :: a4 :: a5 :: a6 :: a7 :: a8 :: a9 :: a10 :: a11 :: a12 :: a13 :: a14 :: a15 :: l) 15 = some a15 := by
  have := atI_nat (vs := a0 :: a1 :: a2 :: a3 :: a4 :: a5 :: a6 :: a7 :: a8 :: a9 :: a10 :: a11 :: a12 :: a13 :: a14 :: a15 :: l) (i := 15) (by simp)
  simpa using this
@[simp] theorem atI16 {α : Type} (a0 a1 a2 a3 a4 a5 a6 a7 a8 a9 a10 a11 a12 a13 a14 a15 a16 : α) (l : List α) : L2.atI (a0 :: a1 :: a2 :: a3 :: a4 :: a5 :: a6 :: a7 :: a8 :: a9 :: a10 :: a11 :: a12 :: a13 :: a14 :: a15 :: a16 :: l) 16 = some a16 := by
  have := atI_nat (vs := a0 :: a1 :: a2 :: a3 :: a4 :: a5 :: a6 :: a7 :: a8 :: a9 :: a10 :: a11 :: a12 :: a13 :: a14 :: a15 :: a16 :: l) (i := 16) (by simp)
  simpa using this
@[simp] theorem atI17 {α : Type} (a0 a1 a2 a3 a4 a5 a6 a7 a8 a9 a10 a11 a12 a13 a14 a15 a16 a17 : α) (l : List α) : L2.atI (a0 :: a1 :: a2 :: a3 :: a4 :: a5 :: a6 :: a7 :: a8 :: a9 :: a10 :: a11 :: a12 :: a13 :: a14 :: a15 :: a16 :: a17 :: l) 17 = some a17 := by
  have := atI_nat (vs := a0 :: a1 :: a2 :: a3 :: a4 :: a5 :: a6 :: a7 :: a8 :: a9 :: a10 :: a11 :: a12 :: a13 :: a14 :: a15 :: a16 :: a17 :: l) (i := 17) (by simp)
  simpa using this
@[simp] theorem atI18 {α : Type} (a0 a1 a2 a3 a4 a5 a6 a7 a8 a9 a10 a11 a12 a13 a14 a15 a16 a17 a18 : α) (l : List α) : L2.atI (a0 :: a1 :: a2 :: a3 :: a4 :: a5 :: a6 :: a7 :: a8 :: a9 :: a10 :: a11 :: a12 :: a13 :: a14 :: a15 :: a16 :: a17 :: a18 :: l) 18 = some a18 := by
  have := atI_nat (vs := a0 :: a1 :: a2 :: a3 :: a4 :: a5 :: a6 :: a7 :: a8 :: a9 :: a10 :: a11 :: a12 :: a13 :: a14 :: a15 :: a16 :: a17 :: a18 :: l) (i := 18) (by simp)
  simpa using this
@[simp] theorem atI19 {α : Type} (a0 a1 a2 a3 a4 a5 a6 a7 a8 a9 a10 a11 a12 a13 a14 a15 a16 a17 a18 a19 : α) (l : List α) : L2.atI (a0 :: a1 :: a2 :: a3 :: a4 :: a5 :: a6 :: a7 :: a8 :: a9 :: a10 :: a11 :: a12 :: a13 :: a14 :: a15 :: a16 :: a17 :: a18 :: a19 :: l) 19 = some a19 := by
  have := atI_nat (vs := a0 :: a1 :: a2 :: a3 :: a4 :: a5 :: a6 :: a7 :: a8 :: a9 :: a10 :: a11 :: a12 :: a13 :: a14 :: a15 :: a16 :: a17 :: a18 :: a19 :: l) (i := 19) (by simp)
  simpa using this
@[simp] theorem atI20 {α : Type} (a0 a1 a2 a3 a4 a5 a6 a7 a8 a9 a10 a11 a12 a13 a14 a15 a16 a17 a18 a19 a20 : α) (l : List α) : L2.atI (a0 :: a1 :: a2 :: a3 :: a4 :: a5 :: a6 :: a7 :: a8 :: a9 :: a10 :: a11 :: a12 :: a13 :: a14 :: a15 :: a16 :: a17 :: a18 :: a19 :: a20 :: l) 20 = some a20 := by
  have := atI_nat (vs := a0 :: a1 :: a2 :: a3 :: a4 :: a5 :: a6 :: a7 :: a8 :: a9 :: a10 :: a11 :: a12 :: a13 :: a14 :: a15 :: a16 :: a17 :: a18 :: a19 :: a20 :: l) (i := 20) (by simp)
  simpa using this
@[simp] theorem atI21 {α : Type} (a0 a1 a2 a3 a4 a5 a6 a7 a8 a9 a10 a11 a12 a13 a14 a15 a16 a17 a18 a19 a20 a21 : α) (l : List α) : L2.atI (a0 :: a1 :: a2 :: a3 :: a4 :: a5 :: a6 :: a7 :: a8 :: a9 :: a10 :: a11 :: a12 :: a13 :: a14 :: a15 :: a16 :: a17 :: a18 :: a19 :: a20 :: a21 :: l) 21 = some a21 := by
  have := atI_nat (vs := a0 :: a1 :: a2 :: a3 :: a4 :: a5 :: a6 :: a7 :: a8 :: a9 :: a10 :: a11 :: a12 :: a13 :: a14 :: a15 :: a16 :: a17 :: a18 :: a19 :: a20 :: a21 :: l) (i := 21) (by simp)
  simpa using this
@[simp] theorem atI22 {α : Type} (a0 a1 a2 a3 a4 a5 a6 a7 a8 a9 a10 a11 a12 a13 a14 a15 a16 a17 a18 a19 a20 a21 a22 : α) (l : List α) : L2.atI (a0 :: a1 :: a2 :: a3 :: a4 :: a5 :: a6 :: a7 :: a8 :: a9 :: a10 :: a11 :: a12 :: a13 :: a14 :: a15 :: a16 :: a17 :: a18 :: a19 :: a20 :: a21 :: a22 :: l) 22 = some a22 := by
  have := atI_nat (vs := a0 :: a1 :: a2 :: a3 :: a4 :: a5 :: a6 :: a7 :: a8 :: a9 :: a10 :: a11 :: a12 :: a13 :: a14 :: a15 :: a16 :: a17 :: a18 :: a19 :: a20 :: a21 :: a22 :: l) (i := 22) (by simp)
  simpa using this
@[simp] theorem atI23 {α : Type} (a0 a1 a2 a3 a4 a5 a6 a7 a8 a9 a10 a11 a12 a13 a14 a15 a16 a17 a18 a19 a20 a21 a22 a23 : α) (l : List α) : L2.atI (a0 :: a1 :: a2 :: a3 :: a4 :: a5 :: a6 :: a7 :: a8 :: a9 :: a10 :: a11 :: a12 :: a13 :: a14 :: a15 :: a16 :: a17 :: a18 :: a19 :: a20 :: a21 :: a22 :: a23 :: l) 23 = some a23 := by
  have := atI_nat (vs := a0 :: a1 :: a2 :: a3 :: a4 :: a5 :: a6 :: a7 :: a8 :: a9 :: a10 :: a11 :: a12 :: a13 :: a14 :: a15 :: a16 :: a17 :: a18 :: a19 :: a20 :: a21 :: a22 :: a23 :: l) (i := 23) (by simp)
  simpa using this
theorem atI_mem {α : Type} {xs : List α} {i : Int} (h0 : 0 ≤ i) (h : i < xs.length) : ∃ x ∈ xs, L2.atI xs i = some x := by
  have := atI_nat (vs := xs) (i := i.toNat) (by omega)
  rw [Int.toNat_of_nonneg h0] at this
  exact ⟨_, List.getElem_mem _, this⟩
theorem Ok_atI {xs : List PyData} {j : Int} {Q : Vl → Sto → Prop} {X : XP} (h0 : 0 ≤ j) (h1 : j < xs.length) (h : ∀ y ∈ xs, Q (.d y) s) : Ok (ofP (Option.map (fun x => (Vl.d x, s)) (L2.atI xs j))) Q X := by
  obtain ⟨y, hy, e⟩ := atI_mem h0 h1
  rw [e]
  exact h y hy
theorem Ok_comp_map {elt tg it : IE} {own : List Nat} {e : Sl} {ds : List PyData} {Q : Vl → Sto → Prop} {X : XP} (f : PyData → PyData) (hi : itr C it e s = .ok (.vals ds) s) (hl : ds.length ≤ 16777216)
    (ht : ∀ x ∈ ds, ∃ e1, setTgV tg (.d x) (wipe e own) = some e1 ∧ ev C elt e1 s = .ok (.d (f x)) s) (hq : Q (.d (.list (ds.map f))) s) : Ok (ev C (.comp false elt tg it .nil own) e s) Q X := Ok.eq (comp_map f hi hl ht) hq
theorem Ok_comp_filter {elt tg it c : IE} {own : List Nat} {e : Sl} {ds : List PyData} {Q : Vl → Sto → Prop} {X : XP} (f : PyData → PyData) (p : PyData → Bool) (hi : itr C it e s = .ok (.vals ds) s) (hl : ds.length ≤ 16777216)
    (ht : ∀ x ∈ ds, ∃ e1, setTgV tg (.d x) (wipe e own) = some e1 ∧ evT C c e1 s = .ok (p x) s ∧ (p x = true → ev C elt e1 s = .ok (.d (f x)) s)) (hq : Q (.d (.list ((ds.filter p).map f))) s) : Ok (ev C (.comp false elt tg it (.cons c .nil) own) e s) Q X := Ok.eq (comp_filter f p hi hl ht) hq
@[simp] theorem ixN_1_0 : L2.ixN 1 0 = some 0 := rfl
@[simp] theorem ixN_2_0 : L2.ixN 2 0 = some 0 := rfl
@[simp] theorem ixN_2_1 : L2.ixN 2 1 = some 1 := rfl
@[simp] theorem ixN_3_0 : L2.ixN 3 0 = some 0 := rfl
@[simp] theorem ixN_3_1 : L2.ixN 3 1 = some 1 := rfl
@[simp] theorem ixN_3_2 : L2.ixN 3 2 = some 2 := rfl
@[simp] theorem ixN_4_0 : L2.ixN 4 0 = some 0 := rfl
@[simp] theorem ixN_4_1 : L2.ixN 4 1 = some 1 := rfl
@[simp] theorem ixN_4_2 : L2.ixN 4 2 = some 2 := rfl
@[simp] theorem ixN_4_3 : L2.ixN 4 3 = some 3 := rfl
@[simp] theorem ixN_5_0 : L2.ixN 5 0 = some 0 := rfl
@[simp] theorem ixN_5_1 : L2.ixN 5 1 = some 1 := rfl
@[simp] theorem ixN_5_2 : L2.ixN 5 2 = some 2 := rfl
@[simp] theorem ixN_5_3 : L2.ixN 5 3 = some 3 := rfl
@[simp] theorem ixN_5_4 : L2.ixN 5 4 = some 4 := rfl
@[simp] theorem ixN_6_0 : L2.ixN 6 0 = some 0 := rfl
@[simp] theorem ixN_6_1 : L2.ixN 6 1 = some 1 := rfl
@[simp] theorem ixN_6_2 : L2.ixN 6 2 = some 2 := rfl
@[simp] theorem ixN_6_3 : L2.ixN 6 3 = some 3 := rfl
@[simp] theorem ixN_6_4 : L2.ixN 6 4 = some 4 := rfl
@[simp] theorem ixN_6_5 : L2.ixN 6 5 = some 5 := rfl
@[simp] theorem ixN_7_0 : L2.ixN 7 0 = some 0 := rfl
@[simp] theorem ixN_7_1 : L2.ixN 7 1 = some 1 := rfl
@[simp] theorem ixN_7_2 : L2.ixN 7 2 = some 2 := rfl
@[simp] theorem ixN_7_3 : L2.ixN 7 3 = some 3 := rfl
@[simp] theorem ixN_7_4 : L2.ixN 7 4 = some 4 := rfl
@[simp] theorem ixN_7_5 : L2.ixN 7 5 = some 5 := rfl
@[simp] theorem ixN_7_6 : L2.ixN 7 6 = some 6 := rfl
@[simp] theorem ixN_1_m : L2.ixN 1 (-1) = some 0 := rfl
@[simp] theorem ixN_2_m : L2.ixN 2 (-1) = some 1 := rfl
@[simp] theorem ixN_3_m : L2.ixN 3 (-1) = some 2 := rfl
@[simp] theorem ixN_4_m : L2.ixN 4 (-1) = some 3 := rfl
@[simp] theorem ixN_5_m : L2.ixN 5 (-1) = some 4 := rfl
@[simp] theorem ixN_6_m : L2.ixN 6 (-1) = some 5 := rfl
@[simp] theorem ixN_7_m : L2.ixN 7 (-1) = some 6 := rfl
@[simp] theorem idxV_r (i : Int) : idxV (.r n) (.d (.int i)) s = ((listAt n s).bind fun vs => L2.atI vs i).map (·, s) := by
  show ((listAt n s).bind _) = _
  cases listAt n s <;> rfl
theorem atI_map {α β : Type} (f : α → β) (l : List α) (i : Int) : L2.atI (l.map f) i = (L2.atI l i).map f := by
  unfold L2.atI
  rw [List.length_map]
  cases L2.ixN l.length i <;> simp
@[simp] theorem idxV_t (xs : List PyData) (i : Int) : idxV (.d (.tuple xs)) (.d (.int i)) s = (L2.atI xs i).map fun x => (.d x, s) := by
  show (L2.atI (xs.map Vl.d) i).map (·, s) = _
  rw [atI_map]
  cases L2.atI xs i <;> rfl
@[simp] theorem idxV_l (xs : List PyData) (i : Int) : idxV (.d (.list xs)) (.d (.int i)) s = (L2.atI xs i).map fun x => (.d x, s) := by
  show (L2.atI (xs.map Vl.d) i).map (·, s) = _
  rw [atI_map]
  cases L2.atI xs i <;> rfl
@[simp] theorem setV_r (i : Int) (v : Vl) : setV (.r n) (.d (.int i)) v s = (listAt n s).bind fun vs => (L2.ixN vs.length i).map fun j => putL n (vs.set j v) s := rfl
/-! ### built-in functions -/
@[simp] theorem w_len_t (xs : List PyData) : biV m .len [.d (.tuple xs)] s = some (.d (.int xs.length), s) := by simp [biV, lenV, itemsV, itemsD]
@[simp] theorem w_len_l (xs : List PyData) : biV m .len [.d (.list xs)] s = some (.d (.int xs.length), s) := by simp [biV, lenV, itemsV, itemsD]
@[simp] theorem w_len_r : biV m .len [.r n] s = (listAt n s).map fun l => (.d (.int l.length), s) := rfl
@[simp] theorem w_abs (i : Int) : biV m .abs [.d (.int i)] s = some (.d (.int i.natAbs), s) := by
  show some (Vl.d (.int (if i < 0 then -i else i)), s) = _
  congr 4
  split <;> omega
@[simp] theorem w_int (i : Int) : biV m .int [.d (.int i)] s = some (.d (.int i), s) := rfl
@[simp] theorem w_int_b (b : Bool) : biV m .int [.d (.bool b)] s = some (.d (.int (if b then 1 else 0)), s) := rfl
@[simp] theorem w_gcd (i j : Int) : biV m .gcd [.d (.int i), .d (.int j)] s = some (.d (.int (Int.gcd i j)), s) := rfl
@[simp] theorem w_max (i j : Int) : biV m .max [.d (.int i), .d (.int j)] s = some (.d (.int (max i j)), s) := by
  show some (Vl.d (.int (if j > i then j else i)), s) = _
  congr 4
  omega
@[simp] theorem w_min (i j : Int) : biV m .min [.d (.int i), .d (.int j)] s = some (.d (.int (min i j)), s) := by
  show some (Vl.d (.int (if j < i then j else i)), s) = _
  congr 4
  omega
@[simp] theorem w_min3 (i j k : Int) : biV m .min [.d (.int i), .d (.int j), .d (.int k)] s = some (.d (.int (min (min i j) k)), s) := by
  have e : minV [.d (.int i), .d (.int j), .d (.int k)] s = some (Vl.d (.int (if k < (if j < i then j else i) then k else (if j < i then j else i))), s) := rfl
  show minV [.d (.int i), .d (.int j), .d (.int k)] s = _
  rw [e]
  congr 4
  omega
theorem w_ints (is : List Int) : ints? (is.map .int) = some is := by
  have := ints_map id is
  simpa using this
@[simp] theorem w_sum (is : List Int) : biV m .sum [.d (.list (is.map .int))] s = some (.d (.int is.sum), s) := by
  show ((dataL (.d (.list (is.map .int))) s).bind ints?).map _ = _
  have h : dataL (.d (.list (is.map .int))) s = some (is.map .int) := allD_map _
  rw [h]
  show (ints? (is.map .int)).map _ = _
  rw [w_ints]
  rfl
def vI (i : Int) : Vl := .d (.int i)
theorem vI_map (is : List Int) : is.map vI = (is.map PyData.int).map Vl.d := by rw [List.map_map]; rfl
theorem allD_vI (is : List Int) : allD (is.map vI) = some (is.map .int) := by rw [vI_map]; exact allD_map _
theorem w_sum_r {is : List Int} (h : listAt n s = some (is.map vI)) : biV m .sum [.r n] s = some (.d (.int is.sum), s) := by
  show ((dataL (.r n) s).bind ints?).map _ = _
  have h : dataL (.r n) s = some (is.map .int) := by
    show (listAt n s).bind allD = _
    rw [h]
    exact allD_vI _
  rw [h]
  show (ints? (is.map .int)).map _ = _
  rw [w_ints]
  rfl
@[simp] theorem w_tup_l (xs : List PyData) : biV m .tuple [.d (.list xs)] s = some (.d (.tuple xs), s) := by
  show (dataV (.d (.list xs)) s).map _ = _
  have h : dataV (.d (.list xs)) s = some xs := allD_map _
  rw [h]
  rfl
@[simp] theorem w_tup_t (xs : List PyData) : biV m .tuple [.d (.tuple xs)] s = some (.d (.tuple xs), s) := by
  show (dataV (.d (.tuple xs)) s).map _ = _
  have h : dataV (.d (.tuple xs)) s = some xs := allD_map _
  rw [h]
  rfl
theorem w_tup_r {xs : List PyData} (h : listAt n s = some (xs.map Vl.d)) : biV m .tuple [.r n] s = some (.d (.tuple xs), s) := by
  show (dataV (.r n) s).map _ = _
  have h : dataV (.r n) s = some xs := by
    show (listAt n s).bind allD = _
    rw [h]
    exact allD_map _
  rw [h]
  rfl
@[simp] theorem allD_nil : allD [] = some [] := rfl
@[simp] theorem allD_d (x : PyData) (r : List Vl) : allD (.d x :: r) = (allD r).map (x :: ·) := rfl
@[simp] theorem allD_m (l : List PyData) : allD (l.map Vl.d) = some l := allD_map l
@[simp] theorem mkL_f : mkL false vs s = if vs.length ≤ 16777216 then (allD vs).map fun ds => (.d (.list ds), s) else none := rfl
@[simp] theorem allD_rep (k : Nat) (x : PyData) : allD (List.replicate k (Vl.d x)) = some (List.replicate k x) := by
  have := allD_map (List.replicate k x)
  rwa [List.map_replicate] at this
theorem mkL_data (xs : List PyData) : mkL false (xs.map Vl.d) s = if xs.length ≤ 16777216 then some (.d (.list xs), s) else none := by
  unfold mkL
  rw [allD_map, List.length_map]
  rfl
theorem mkL_true : mkL true vs s = if vs.length ≤ 16777216 then some (.r s.length, s ++ [some (.lst vs)]) else none := rfl
@[simp] theorem w_list_t (xs : List PyData) : biV false .list [.d (.tuple xs)] s = if xs.length ≤ 16777216 then some (.d (.list xs), s) else none := by
  show (itemsV (.d (.tuple xs)) s).bind (fun l => mkL false l s) = _
  exact mkL_data xs
@[simp] theorem w_list_l (xs : List PyData) : biV false .list [.d (.list xs)] s = if xs.length ≤ 16777216 then some (.d (.list xs), s) else none := by
  show (itemsV (.d (.list xs)) s).bind (fun l => mkL false l s) = _
  exact mkL_data xs
@[simp] theorem w_repr (x : PyData) : biV m .repr [.d x] s = if x.showable = true ∧ x.shown.length ≤ 16777216 ∧ x.depth ≤ 100 ∧ (x.hasDict = false ∨ noLst x = true) then some (.d (.str x.shown), s) else none := rfl
@[simp] theorem w_str (i : Int) : biV m .str [.d (.int i)] s = if i.natAbs.log2 < 1920 then some (.d (.str (toString i)), s) else none := rfl
/-! ### operators -/
@[simp] theorem bin_add (i j : Int) : binV m .add (.d (.int i)) (.d (.int j)) s = some (.d (.int (i + j)), s) := rfl
@[simp] theorem bin_sub (i j : Int) : binV m .sub (.d (.int i)) (.d (.int j)) s = some (.d (.int (i - j)), s) := rfl
@[simp] theorem bin_mul (i j : Int) : binV m .mul (.d (.int i)) (.d (.int j)) s = if mulOk i j then some (.d (.int (i * j)), s) else none := by
  show (if mulOk i j then some (i * j) else none : Option Int).map (fun k => (Vl.d (.int k), s)) = _
  split <;> rfl
@[simp] theorem bin_mod (i j : Int) : binV m .mod (.d (.int i)) (.d (.int j)) s = if 0 < j then some (.d (.int (i % j)), s) else if j < 0 then some (.d (.int (i.fmod j)), s) else none := by
  show (if 0 < j then some (i % j) else if j < 0 then some (i.fmod j) else none : Option Int).map (fun k => (Vl.d (.int k), s)) = _
  split
  · rfl
  · split <;> rfl
@[simp] theorem bin_fdiv (i j : Int) : binV m .fdiv (.d (.int i)) (.d (.int j)) s = if 0 < j ∧ j.natAbs.log2 < 9000 then some (.d (.int (i / j)), s) else if j < 0 ∧ j.natAbs.log2 < 9000 then some (.d (.int (i.fdiv j)), s) else none := by
  show (if 0 < j ∧ j.natAbs.log2 < 9000 then some (i / j) else if j < 0 ∧ j.natAbs.log2 < 9000 then some (i.fdiv j) else none : Option Int).map (fun k => (Vl.d (.int k), s)) = _
  split
  · rfl
  · split <;> rfl
theorem bin_pow {i j k : Int} (h : binI .pow i j = some k) : binV m .pow (.d (.int i)) (.d (.int j)) s = some (.d (.int k), s) := by
  show (binI .pow i j).map _ = _
  rw [h]
  rfl
@[simp] theorem bin_tt (a b : List PyData) : binV m .add (.d (.tuple a)) (.d (.tuple b)) s = if a.length + b.length ≤ 16777216 then some (.d (.tuple (a ++ b)), s) else none := by
  show binD .add (.tuple a) (.tuple b) s = _
  simp [binD]
@[simp] theorem bin_ll (a b : List PyData) : binV false .add (.d (.list a)) (.d (.list b)) s = if a.length + b.length ≤ 16777216 then some (.d (.list (a ++ b)), s) else none := by
  show mkL false (a.map Vl.d ++ b.map Vl.d) s = _
  rw [← List.map_append, mkL_data, List.length_append]
@[simp] theorem bin_llm (a b : List PyData) : binV true .add (.d (.list a)) (.d (.list b)) s = mkL true ((a ++ b).map Vl.d) s := by
  show mkL true (a.map Vl.d ++ b.map Vl.d) s = _
  rw [← List.map_append]
@[simp] theorem bin_tm (a : List PyData) (j : Int) : binV m .mul (.d (.tuple a)) (.d (.int j)) s = if 2 ≤ j ∧ j ≤ 1000 ∧ a.length ≤ 1000 then some (.d (.tuple (List.replicate j.toNat a).flatten), s) else none := by
  show binD .mul (.tuple a) (.int j) s = _
  simp [binD]
@[simp] theorem mulOk_rs {i j : Int} (h : j.natAbs < 2 ^ 64) : mulOk i j ↔ True := ⟨fun _ => trivial, fun _ => .inr (.inl h)⟩
@[simp] theorem mulOk_ls {i j : Int} (h : i.natAbs < 2 ^ 64) : mulOk i j ↔ True := ⟨fun _ => trivial, fun _ => .inl h⟩
@[simp] theorem log2_s {j : Nat} (h : j < 2 ^ 64) : Nat.log2 j < 9000 ↔ True := by
  refine ⟨fun _ => trivial, fun _ => ?_⟩
  by_cases h0 : j = 0
  · subst h0; decide
  · exact Nat.lt_trans ((Nat.log2_lt h0).mpr h) (by decide)
theorem mulOk_r {i j : Int} (h : j.natAbs < 2 ^ 64) : mulOk i j := .inr (.inl h)
theorem mulOk_l {i j : Int} (h : i.natAbs < 2 ^ 64) : mulOk i j := .inl h
/-! ### comparisons -/
theorem eqD_str (i j : Str) : eqD (.str i) (.str j) = some (decide (i = j)) := rfl
@[simp] theorem c_eq (i j : Int) : cmpV .eq (.d (.int i)) (.d (.int j)) s = some (decide (i = j)) := eqD_int i j
@[simp] theorem c_ne (i j : Int) : cmpV .ne (.d (.int i)) (.d (.int j)) s = some (!decide (i = j)) := cmp_ne_int i j
@[simp] theorem c_lt (i j : Int) : cmpV .lt (.d (.int i)) (.d (.int j)) s = some (decide (i < j)) := rfl
@[simp] theorem c_le (i j : Int) : cmpV .le (.d (.int i)) (.d (.int j)) s = some (decide (i ≤ j)) := rfl
@[simp] theorem c_gt (i j : Int) : cmpV .gt (.d (.int i)) (.d (.int j)) s = some (decide (j < i)) := rfl
@[simp] theorem c_ge (i j : Int) : cmpV .ge (.d (.int i)) (.d (.int j)) s = some (decide (j ≤ i)) := rfl
@[simp] theorem c_eqb (i j : Bool) : cmpV .eq (.d (.bool i)) (.d (.bool j)) s = some (i == j) := rfl
@[simp] theorem c_eqs (i j : Str) : cmpV .eq (.d (.str i)) (.d (.str j)) s = some (decide (i = j)) := eqD_str i j
@[simp] theorem c_nes (i j : Str) : cmpV .ne (.d (.str i)) (.d (.str j)) s = some (!decide (i = j)) := by
  show (eqD (.str i) (.str j)).map (!·) = _
  rw [eqD_str]
  rfl
@[simp] theorem rng_nat (k : Nat) (h : k ≤ 1000000) : rngV 0 (k : Int) = some (.vals ((List.range k).map fun j : Nat => PyData.int j)) := by
  unfold rngV
  rw [if_pos (by omega)]
  simp
theorem rng_int {k : Int} (h0 : 0 ≤ k) (h : k ≤ 1000000) : rngV 0 k = some (.vals ((List.range k.toNat).map fun j : Nat => PyData.int j)) := by
  have := rng_nat k.toNat (by omega)
  rwa [Int.toNat_of_nonneg h0] at this
theorem rng1_ok {a : IE} {e : Sl} {k : Int} (ha : ev C a e s = .ok (.d (.int k)) t) (h0 : 0 ≤ k) (h : k ≤ 1000000) : itr C (.rng1 a) e s = .ok (.vals ((List.range k.toNat).map fun j : Nat => PyData.int j)) t := by
  rw [itr_rng1, ha, ok_bind, optI_int]
  show ofO (rngV 0 k) t = _
  rw [rng_int h0 h]
  rfl
theorem itv_t {a : IE} {e : Sl} {xs : List PyData} (ha : ev C a e s = .ok (.d (.tuple xs)) t) : itr C (.itv a) e s = .ok (.vals xs) t := by
  rw [itr_itv, ha]
  rfl
theorem itv_l {a : IE} {e : Sl} {xs : List PyData} (ha : ev C a e s = .ok (.d (.list xs)) t) : itr C (.itv a) e s = .ok (.vals xs) t := by
  rw [itr_itv, ha]
  rfl
@[simp] theorem itrV_t (xs : List PyData) : itrV (.d (.tuple xs)) s = some (.vals xs) := rfl
@[simp] theorem itrV_l (xs : List PyData) : itrV (.d (.list xs)) s = some (.vals xs) := rfl
@[simp] theorem zip_l (a b : List PyData) : zipV (.d (.list a)) (.d (.list b)) = some (.vals (List.zipWith (fun u v => PyData.tuple [u, v]) a b)) := rfl
@[simp] theorem enum_l (a : List PyData) : enumV (.d (.list a)) = some (.vals (a.zipIdx.map fun p => PyData.tuple [.int p.2, p.1])) := rfl
@[simp] theorem frz_d (x : PyData) : frzV (.d x) s = some (.d x, s) := rfl
@[simp] theorem sli_t (xs : List PyData) (lo hi : Option Int) : sliV m (.d (.tuple xs)) lo hi s = some (.d (.tuple (cutL xs lo hi)), s) := rfl
@[simp] theorem sli_l (xs : List PyData) (lo hi : Option Int) : sliV false (.d (.list xs)) lo hi s = if (cutL xs lo hi).length ≤ 16777216 then some (.d (.list (cutL xs lo hi)), s) else none := mkL_data _
@[simp] theorem rev_t (xs : List PyData) : revV m (.d (.tuple xs)) s = some (.d (.tuple xs.reverse), s) := rfl
@[simp] theorem rev_l (xs : List PyData) : revV false (.d (.list xs)) s = if xs.length ≤ 16777216 then some (.d (.list xs.reverse), s) else none := by
  show mkL false (xs.reverse.map Vl.d) s = _
  rw [mkL_data, List.length_reverse]
theorem cut_sub {α : Type} (xs : List α) (lo hi : Option Int) : (cutL xs lo hi).Sublist xs := (List.take_sublist _ _).trans (List.drop_sublist _ _)
theorem cut_to {α : Type} (xs : List α) {i : Int} (h0 : 0 ≤ i) : cutL xs none (some i) = xs.take i.toNat := by
  have e : HT.sIx xs.length xs.length (some i) = min i.toNat xs.length := by
    have := HT.sIx_nat xs.length xs.length i.toNat
    rwa [Int.toNat_of_nonneg h0] at this
  unfold cutL
  rw [e, HT.sIx_none, List.drop_zero, Nat.sub_zero]
  by_cases h : i.toNat ≤ xs.length
  · rw [Nat.min_eq_left h]
  · rw [Nat.min_eq_right (by omega), List.take_length, List.take_of_length_le (by omega)]
theorem cut_from {α : Type} (xs : List α) {i : Int} (h0 : 0 ≤ i) : cutL xs (some i) none = xs.drop i.toNat := by
  have e : HT.sIx xs.length 0 (some i) = min i.toNat xs.length := by
    have := HT.sIx_nat xs.length 0 i.toNat
    rwa [Int.toNat_of_nonneg h0] at this
  unfold cutL
  rw [e, HT.sIx_none]
  by_cases h : i.toNat ≤ xs.length
  · rw [Nat.min_eq_left h]
    exact List.take_of_length_le (by simp)
  · rw [Nat.min_eq_right (by omega), List.drop_of_length_le (Nat.le_refl _), List.drop_of_length_le (by omega)]
    simp
@[simp] theorem isT_tup (x : PyData) : isT .tuple (.d x) s = some (match x with | .tuple _ => true | _ => false) := by cases x <;> rfl
@[simp] theorem isT_int (x : PyData) : isT .int (.d x) s = some (match x with | .int _ => true | .bool _ => true | _ => false) := by cases x <;> rfl
@[simp] theorem isT_bool (x : PyData) : isT .bool (.d x) s = some (match x with | .bool _ => true | _ => false) := by cases x <;> rfl
@[simp] theorem isT_lst (x : PyData) : isT .list (.d x) s = some (match x with | .list _ => true | _ => false) := by cases x <;> rfl
/-- only the place n is another one -/
def Fr (n : Nat) (s t : Sto) : Prop := t.length = s.length ∧ ∀ j, j ≠ n → t[j]? = s[j]?
theorem Fr.refl : Fr n s s := ⟨rfl, fun _ _ => rfl⟩
theorem Fr.trans (a : Fr n s t) (b : Fr n t u) : Fr n s u := ⟨b.1.trans a.1, fun j h => (b.2 j h).trans (a.2 j h)⟩
theorem Fr.put : Fr n s (putL n vs s) := ⟨putL_length, fun j h => by unfold putL; rw [List.getElem?_set_ne (Ne.symm h)]⟩
theorem Fr.putr (a : Fr n s t) : Fr n s (putL n vs t) := a.trans .put
end
end SM

set_option maxHeartbeats 1000000
/-! SM: values that repr shows. -/
namespace SM
open PySem
mutual
/-- tuples of ints below 2 ^ b -/
def plB (b : Nat) : PyData → Bool
  | .int i => decide (i.natAbs < 2 ^ b)
  | .tuple xs => plBs b xs
  | _ => false
def plBs (b : Nat) : List PyData → Bool
  | [] => true
  | x :: xs => plB b x && plBs b xs
end
mutual
/-- what repr shows -/
def okB : PyData → Bool
  | .none | .bool _ => true
  | .int i => decide (i.natAbs < 2 ^ 1900)
  | .str x => x.cps.toList.all fun c => decide (c < 16 ^ 8)
  | .list xs | .tuple xs => okBs xs
  | .dict kvs => okKv kvs
def okBs : List PyData → Bool
  | [] => true
  | x :: xs => okB x && okBs xs
def okKv : List (PyData × PyData) → Bool
  | [] => true
  | (k, v) :: r => okB k && okB v && okKv r
end
theorem plBs_all {b : Nat} : ∀ {xs : List PyData}, plBs b xs = true ↔ ∀ x ∈ xs, plB b x = true
  | [] => by simp [plBs]
  | x :: xs => by simp [plBs, plBs_all (xs := xs)]
theorem okBs_all : ∀ {xs : List PyData}, okBs xs = true ↔ ∀ x ∈ xs, okB x = true
  | [] => by simp [okBs]
  | x :: xs => by simp [okBs, okBs_all (xs := xs)]
theorem noLsts_all : ∀ {xs : List PyData}, noLsts xs = true ↔ ∀ x ∈ xs, noLst x = true
  | [] => by simp [noLsts]
  | x :: xs => by simp [noLsts, noLsts_all (xs := xs)]
theorem noDicts_all : ∀ {xs : List PyData}, PyData.hasDictAll xs = false ↔ ∀ x ∈ xs, PyData.hasDict x = false
  | [] => by simp [PyData.hasDictAll]
  | x :: xs => by simp [PyData.hasDictAll, noDicts_all (xs := xs)]
mutual
theorem plB_ok {b : Nat} (hb : b ≤ 1900) : ∀ {x : PyData}, plB b x = true → okB x = true ∧ x.hasDict = false ∧ noLst x = true
  | .int i, h => by
    simp only [plB, decide_eq_true_eq] at h
    refine ⟨?_, rfl, rfl⟩
    simp only [okB, decide_eq_true_eq]
    exact Nat.lt_of_lt_of_le h (Nat.pow_le_pow_right (by decide) hb)
  | .tuple xs, h => plBs_ok hb (xs := xs) h
theorem plBs_ok {b : Nat} (hb : b ≤ 1900) : ∀ {xs : List PyData}, plBs b xs = true → okBs xs = true ∧ PyData.hasDictAll xs = false ∧ noLsts xs = true
  | [], _ => ⟨rfl, rfl, rfl⟩
  | x :: xs, h => by
    simp only [plBs, Bool.and_eq_true] at h
    obtain ⟨a1, a2, a3⟩ := plB_ok hb h.1
    obtain ⟨b1, b2, b3⟩ := plBs_ok hb h.2
    simp only [okBs, PyData.hasDictAll, noLsts, a1, a2, a3, b1, b2, b3]
    decide
end
mutual
theorem plB_mono {b c : Nat} (hb : b ≤ c) : ∀ {x : PyData}, plB b x = true → plB c x = true
  | .int i, h => by
    simp only [plB, decide_eq_true_eq] at h ⊢
    exact Nat.lt_of_lt_of_le h (Nat.pow_le_pow_right (by decide) hb)
  | .tuple xs, h => plBs_mono hb (xs := xs) h
theorem plBs_mono {b c : Nat} (hb : b ≤ c) : ∀ {xs : List PyData}, plBs b xs = true → plBs c xs = true
  | [], _ => rfl
  | x :: xs, h => by
    simp only [plBs, Bool.and_eq_true] at h ⊢
    exact ⟨plB_mono hb h.1, plBs_mono hb h.2⟩
end
theorem log2_1920 {i : Int} (h : i.natAbs < 2 ^ 1900) : i.natAbs.log2 < 1920 := by
  by_cases h0 : i.natAbs = 0
  · rw [h0]; decide
  · exact Nat.lt_trans ((Nat.log2_lt h0).mpr h) (by decide)
theorem int_short {i : Int} (h : i.natAbs < 2 ^ 1900) : (PyData.shown (.int i)).length ≤ 2000 := by
  have e := int_text_length_le (a := i) (k := 1920) (by decide) (log2_1920 h)
  show (Str.ofString (toString i)).length ≤ 2000
  rw [ofString_length]
  omega
mutual
theorem okB_shows : ∀ {x : PyData}, okB x = true → x.showable = true ∧ x.leavesShort 2000 = true
  | .none, _ => ⟨rfl, rfl⟩
  | .bool _, _ => ⟨rfl, rfl⟩
  | .int i, h => by
    simp only [okB, decide_eq_true_eq] at h
    exact ⟨by simp only [PyData.showable, decide_eq_true_eq]; exact log2_1920 h, by simp only [PyData.leavesShort, decide_eq_true_eq]; exact int_short h⟩
  | .str x, h => ⟨rfl, h⟩
  | .list xs, h => okBs_shows (xs := xs) h
  | .tuple xs, h => okBs_shows (xs := xs) h
  | .dict kvs, h => okKv_shows (kvs := kvs) h
theorem okBs_shows : ∀ {xs : List PyData}, okBs xs = true → PyData.showableAll xs = true ∧ PyData.leavesShortAll 2000 xs = true
  | [], _ => ⟨rfl, rfl⟩
  | x :: xs, h => by
    simp only [okBs, Bool.and_eq_true] at h
    obtain ⟨a1, a2⟩ := okB_shows h.1
    obtain ⟨b1, b2⟩ := okBs_shows h.2
    simp only [PyData.showableAll, PyData.leavesShortAll, a1, a2, b1, b2]
    decide
theorem okKv_shows : ∀ {kvs : List (PyData × PyData)}, okKv kvs = true → PyData.showableKv kvs = true ∧ PyData.leavesShortKv 2000 kvs = true
  | [], _ => ⟨rfl, rfl⟩
  | (k, v) :: r, h => by
    simp only [okKv, Bool.and_eq_true] at h
    obtain ⟨a1, a2⟩ := okB_shows h.1.1
    obtain ⟨b1, b2⟩ := okB_shows h.1.2
    obtain ⟨c1, c2⟩ := okKv_shows h.2
    simp only [PyData.showableKv, PyData.leavesShortKv, a1, a2, b1, b2, c1, c2]
    decide
end
/-- a value, of a size and a depth -/
structure Rp (N D : Nat) (x : PyData) : Prop where
  ok : okB x = true
  bk : x.bulk ≤ N
  dp : x.depth ≤ D
  hd : x.hasDict = false ∨ noLst x = true
theorem Rp.mono {N D N' D' : Nat} {x : PyData} (h : Rp N D x) (hN : N ≤ N') (hD : D ≤ D') : Rp N' D' x := ⟨h.ok, Nat.le_trans h.bk hN, Nat.le_trans h.dp hD, h.hd⟩
theorem Rp.shows {x : PyData} (h : Rp 8000 100 x) : x.showable = true ∧ x.shown.length ≤ 16777216 ∧ x.depth ≤ 100 ∧ (x.hasDict = false ∨ noLst x = true) := by
  obtain ⟨h1, h2⟩ := okB_shows h.ok
  refine ⟨h1, ?_, h.dp, h.hd⟩
  have := PyData.shown_le_bulk 2000 (by decide) x h2
  have h3 : (2000 + 2) * x.bulk ≤ 2002 * 8000 := Nat.mul_le_mul_left _ h.bk
  omega
def rpB (N D : Nat) (x : PyData) : Bool := (okB x && decide (x.bulk ≤ N)) && (decide (x.depth ≤ D) && (!x.hasDict || noLst x))
theorem rpB_rp {N D : Nat} {x : PyData} (h : rpB N D x = true) : Rp N D x := by
  simp only [rpB, Bool.and_eq_true, decide_eq_true_eq, Bool.or_eq_true, Bool.not_eq_true'] at h
  exact ⟨h.1.1, h.1.2, h.2.1, h.2.2⟩
/-- .. without lists and dicts -/
structure Pl (b N D : Nat) (x : PyData) : Prop where
  pl : plB b x = true
  bk : x.bulk ≤ N
  dp : x.depth ≤ D
theorem Pl.rp {b N D : Nat} {x : PyData} (h : Pl b N D x) (hb : b ≤ 1900) : Rp N D x := ⟨(plB_ok hb h.pl).1, h.bk, h.dp, .inl (plB_ok hb h.pl).2.1⟩
theorem Pl.mono {b N D b' N' D' : Nat} {x : PyData} (h : Pl b N D x) (hb : b ≤ b') (hN : N ≤ N') (hD : D ≤ D') : Pl b' N' D' x := ⟨plB_mono hb h.pl, Nat.le_trans h.bk hN, Nat.le_trans h.dp hD⟩
theorem bulk_app : ∀ (xs ys : List PyData), PyData.bulkAll (xs ++ ys) = PyData.bulkAll xs + PyData.bulkAll ys
  | [], ys => by simp [PyData.bulkAll]
  | x :: xs, ys => by simp only [List.cons_append, PyData.bulkAll, bulk_app xs ys]; omega
theorem depth_app : ∀ (xs ys : List PyData), PyData.depthAll (xs ++ ys) = max (PyData.depthAll xs) (PyData.depthAll ys)
  | [], ys => by simp [PyData.depthAll]
  | x :: xs, ys => by simp only [List.cons_append, PyData.depthAll, depth_app xs ys]; omega
theorem depth_le {D : Nat} : ∀ {xs : List PyData}, PyData.depthAll xs ≤ D ↔ ∀ x ∈ xs, x.depth ≤ D
  | [] => by simp [PyData.depthAll]
  | x :: xs => by
    have := depth_le (D := D) (xs := xs)
    simp only [PyData.depthAll, List.mem_cons, forall_eq_or_imp, ← this]
    omega
theorem bulk_le {N : Nat} : ∀ {xs : List PyData}, (∀ x ∈ xs, x.bulk ≤ N) → PyData.bulkAll xs ≤ xs.length * (N + 1)
  | [], _ => by simp [PyData.bulkAll]
  | x :: xs, h => by
    have h1 := h x List.mem_cons_self
    have h2 := bulk_le (N := N) (xs := xs) fun y hy => h y (List.mem_cons_of_mem _ hy)
    simp only [PyData.bulkAll, List.length_cons, Nat.add_mul, Nat.one_mul]
    omega
theorem bulk_mem {x : PyData} : ∀ {xs : List PyData}, x ∈ xs → x.bulk + 1 ≤ PyData.bulkAll xs
  | y :: xs, h => by
    rcases List.mem_cons.mp h with rfl | h
    · simp only [PyData.bulkAll]; omega
    · have := bulk_mem h
      simp only [PyData.bulkAll]; omega
/-- a tuple of plain things -/
theorem Pl.tup {b N D L : Nat} {xs : List PyData} (h : ∀ x ∈ xs, Pl b N D x) (hl : xs.length ≤ L) : Pl b (L * (N + 1)) (D + 1) (.tuple xs) :=
  ⟨plBs_all.mpr fun x hx => (h x hx).pl, Nat.le_trans (bulk_le fun x hx => (h x hx).bk) (Nat.mul_le_mul_right _ hl), Nat.succ_le_succ (depth_le.mpr fun x hx => (h x hx).dp)⟩
theorem Pl.int {b : Nat} {i : Int} (h : i.natAbs < 2 ^ b) : Pl b 0 0 (.int i) := ⟨by simpa [plB] using h, Nat.le_refl 0, Nat.le_refl 0⟩
theorem Pl.items {b N D : Nat} {xs : List PyData} (h : Pl b N D (.tuple xs)) : ∀ x ∈ xs, Pl b N D x := fun x hx =>
  ⟨plBs_all.mp h.pl x hx, Nat.le_trans (Nat.le_trans (Nat.le_succ _) (bulk_mem hx)) h.bk, Nat.le_trans (depth_le.mp (Nat.le_refl _) x hx) (Nat.le_of_succ_le h.dp)⟩
/-- a part of a tuple's items, a tuple again -/
theorem Pl.sub {b N D : Nat} {xs ys : List PyData} (h : Pl b N D (.tuple xs)) (hs : ys.Sublist xs) : Pl b N D (.tuple ys) := by
  have hb : PyData.bulkAll ys ≤ PyData.bulkAll xs := by
    clear h
    induction hs with
    | slnil => exact Nat.le_refl _
    | cons a _ ih => simp only [PyData.bulkAll]; omega
    | cons_cons a _ ih => simp only [PyData.bulkAll]; omega
  exact ⟨plBs_all.mpr fun x hx => plBs_all.mp h.pl x (hs.subset hx), Nat.le_trans hb h.bk, Nat.le_trans (Nat.succ_le_succ (depth_le.mpr fun x hx => depth_le.mp (Nat.le_refl _) x (hs.subset hx))) h.dp⟩
theorem Pl.app {b N D N' : Nat} {xs ys : List PyData} (h : Pl b N D (.tuple xs)) (g : Pl b N' D (.tuple ys)) : Pl b (N + N') D (.tuple (xs ++ ys)) := by
  refine ⟨plBs_all.mpr fun x hx => ?_, ?_, ?_⟩
  · rcases List.mem_append.mp hx with hx | hx
    · exact plBs_all.mp h.pl x hx
    · exact plBs_all.mp g.pl x hx
  · have h1 : PyData.bulkAll xs ≤ N := h.bk
    have h2 : PyData.bulkAll ys ≤ N' := g.bk
    show PyData.bulkAll _ ≤ _
    rw [bulk_app]; omega
  · have h1 : PyData.depthAll xs + 1 ≤ D := h.dp
    have h2 : PyData.depthAll ys + 1 ≤ D := g.dp
    show PyData.depthAll _ + 1 ≤ _
    rw [depth_app]; omega
theorem Pl.perm {b N D : Nat} {xs ys : List PyData} (h : Pl b N D (.tuple xs)) (hs : ys.Perm xs) : Pl b N D (.tuple ys) := by
  have hb : PyData.bulkAll ys = PyData.bulkAll xs := by
    clear h
    induction hs with
    | nil => rfl
    | cons a _ ih => simp only [PyData.bulkAll, ih]
    | swap a b l => simp only [PyData.bulkAll]; omega
    | trans _ _ ih1 ih2 => exact ih1.trans ih2
  exact ⟨plBs_all.mpr fun x hx => plBs_all.mp h.pl x (hs.subset hx), by show PyData.bulkAll ys ≤ N; rw [hb]; exact h.bk, Nat.le_trans (Nat.succ_le_succ (depth_le.mpr fun x hx => depth_le.mp (Nat.le_refl _) x (hs.subset hx))) h.dp⟩
theorem Pl.rep {b N D : Nat} {xs : List PyData} (h : Pl b N D (.tuple xs)) : ∀ k : Nat, Pl b (k * N) (max D 1) (.tuple (List.replicate k xs).flatten)
  | 0 => ⟨rfl, by simp [PyData.bulk, PyData.bulkAll], by simp [PyData.depth, PyData.depthAll]; omega⟩
  | k + 1 => by
    rw [List.replicate_succ, List.flatten_cons, Nat.add_mul, Nat.one_mul, Nat.add_comm]
    exact (h.mono (Nat.le_refl _) (Nat.le_refl _) (by omega)).app (h.rep k)
end SM

set_option maxHeartbeats 1000000
/-! plain: fractions of weights, their least common denominator. -/
namespace SM
open PySem
/-- w over S in lowest terms -/
def frO (w S : Int) : Int × Int := (w / (Int.gcd w S : Nat), S / (Int.gcd w S : Nat))
theorem gcd_pos {w S : Int} (h : 0 < S) : (1 : Int) ≤ (Int.gcd w S : Nat) := by
  have : 0 < Int.gcd w S := Int.gcd_pos_of_ne_zero_right _ (by omega)
  omega
theorem frO_w {w S : Int} (h : 0 < S) : (frO w S).1 * (Int.gcd w S : Nat) = w := Int.ediv_mul_cancel (Int.gcd_dvd_left ..)
theorem frO_S {w S : Int} (h : 0 < S) : (frO w S).2 * (Int.gcd w S : Nat) = S := Int.ediv_mul_cancel (Int.gcd_dvd_right ..)
theorem frO_cross {w S : Int} (h : 0 < S) : (frO w S).1 * S = w * (frO w S).2 := by
  have h1 := frO_w (w := w) h
  have h2 := frO_S (w := w) h
  calc (frO w S).1 * S = (frO w S).1 * ((frO w S).2 * (Int.gcd w S : Nat)) := by rw [h2]
    _ = ((frO w S).1 * (Int.gcd w S : Nat)) * (frO w S).2 := by rw [Int.mul_comm (frO w S).2, Int.mul_assoc]
    _ = w * (frO w S).2 := by rw [h1]
theorem frO_pos {w S : Int} (h : 0 < S) : 1 ≤ (frO w S).2 := by
  have h2 := frO_S (w := w) h
  have g := gcd_pos (w := w) h
  rcases Int.lt_or_le 0 (frO w S).2 with z | z
  · omega
  · have : (frO w S).2 * (Int.gcd w S : Nat) ≤ 0 := Int.mul_nonpos_of_nonpos_of_nonneg z (by omega)
    omega
theorem frO_nn {w S : Int} (h : 0 < S) (hw : 0 ≤ w) : 0 ≤ (frO w S).1 := Int.ediv_nonneg hw (by have := gcd_pos (w := w) h; omega)
theorem frO_dvd {w S : Int} (h : 0 < S) : (frO w S).2 ∣ S := ⟨_, (frO_S h).symm⟩
theorem frO_gcd {w S : Int} (h : 0 < S) : Int.gcd (frO w S).1 (frO w S).2 = 1 := by
  have g := gcd_pos (w := w) h
  exact Int.gcd_ediv_gcd_ediv_gcd (by omega)
theorem frO_zero {w S : Int} (h : 0 < S) : (frO w S).1 = 0 ↔ w = 0 := by
  have h1 := frO_w (w := w) h
  have g := gcd_pos (w := w) h
  constructor
  · intro z; rw [z] at h1; omega
  · intro z
    rw [z] at h1
    rcases Int.mul_eq_zero.mp h1 with e | e
    · rw [z]; exact e
    · rw [z] at g; omega
theorem frO_le {w S : Int} (h : 0 < S) : (frO w S).2 ≤ S := Int.le_of_dvd h (frO_dvd h)
theorem frO_abs {w S : Int} (h : 0 < S) : (frO w S).1.natAbs ≤ w.natAbs := Int.natAbs_ediv_le_natAbs ..
def frs (is : List Int) : List (Int × Int) := is.map fun w => frO w is.sum
/-- the least common multiple of what stands below -/
def lcmF : Int → List (Int × Int) → Int
  | L, [] => L
  | L, p :: r => lcmF (Int.lcm L p.2 : Nat) r
theorem lcmF_dvd {S : Int} : ∀ {ps : List (Int × Int)} {L : Int}, L ∣ S → (∀ p ∈ ps, p.2 ∣ S) → lcmF L ps ∣ S
  | [], _, h, _ => h
  | p :: r, L, h, hp => by
    show lcmF (Int.lcm L p.2 : Nat) r ∣ S
    exact lcmF_dvd (Int.coe_lcm_dvd h (hp p List.mem_cons_self)) fun q hq => hp q (List.mem_cons_of_mem _ hq)
theorem lcmF_ge : ∀ {ps : List (Int × Int)} {L : Int}, L ∣ lcmF L ps
  | [], _ => Int.dvd_refl _
  | p :: r, L => Int.dvd_trans (Int.dvd_lcm_left (a:=L) (b:=p.2)) (lcmF_ge (ps := r))
theorem lcmF_of : ∀ {ps : List (Int × Int)} {L : Int}, ∀ p ∈ ps, p.2 ∣ lcmF L ps
  | [], _, _, h => by cases h
  | p :: r, L, q, h => by
    rcases List.mem_cons.mp h with rfl | h
    · exact Int.dvd_trans (Int.dvd_lcm_right (a:=L) (b:=q.2)) (lcmF_ge (ps := r))
    · exact lcmF_of (ps := r) q h
/-! ### sums over 0, 1, .. -/
def sumR (f : Nat → Int) (n : Nat) : Int := ((List.range n).map f).sum
@[simp] theorem sumR_zero (f : Nat → Int) : sumR f 0 = 0 := rfl
theorem sumR_succ (f : Nat → Int) (n : Nat) : sumR f (n + 1) = sumR f n + f n := by simp [sumR, List.range_succ]
theorem sumR_congr {f g : Nat → Int} : ∀ {n : Nat}, (∀ k, k < n → f k = g k) → sumR f n = sumR g n
  | 0, _ => rfl
  | n + 1, h => by rw [sumR_succ, sumR_succ, sumR_congr (n := n) (fun k hk => h k (by omega)), h n (by omega)]
theorem sumR_mul (f : Nat → Int) (c : Int) : ∀ n, sumR (fun k => f k * c) n = sumR f n * c
  | 0 => by simp
  | n + 1 => by rw [sumR_succ, sumR_succ, sumR_mul f c n, Int.add_mul]
theorem sumR_sub (f g : Nat → Int) : ∀ n, sumR (fun k => f k - g k) n = sumR f n - sumR g n
  | 0 => by simp
  | n + 1 => by rw [sumR_succ, sumR_succ, sumR_succ, sumR_sub f g n]; omega
theorem sumR_nn {f : Nat → Int} : ∀ {n : Nat}, (∀ k, k < n → 0 ≤ f k) → 0 ≤ sumR f n
  | 0, _ => by simp
  | n + 1, h => by
    have h1 := sumR_nn (n := n) fun k hk => h k (by omega)
    have h2 := h n (by omega)
    rw [sumR_succ]; omega
theorem sumR_eq0 {f : Nat → Int} : ∀ {n : Nat}, (∀ k, k < n → 0 ≤ f k) → (sumR f n = 0 ↔ ∀ k, k < n → f k = 0)
  | 0, _ => by simp
  | n + 1, h => by
    have h0 : ∀ k, k < n → 0 ≤ f k := fun k hk => h k (by omega)
    have h1 := sumR_nn h0
    have h2 := h n (by omega)
    have ih := sumR_eq0 h0
    rw [sumR_succ]
    constructor
    · intro z k hk
      have z1 : sumR f n = 0 := by omega
      by_cases e : k = n
      · subst e; omega
      · exact ih.mp z1 k (by omega)
    · intro z
      rw [ih.mpr fun k hk => z k (by omega), z n (by omega)]
      rfl
theorem sumR_abs {f : Nat → Int} {B : Nat} : ∀ {n : Nat}, (∀ k, k < n → (f k).natAbs ≤ B) → (sumR f n).natAbs ≤ n * B
  | 0, _ => by simp
  | n + 1, h => by
    have h1 := sumR_abs (n := n) fun k hk => h k (by omega)
    have h2 := h n (by omega)
    rw [sumR_succ, Nat.add_mul]; omega
theorem range_getD {α : Type} (d : α) (xs : List α) : (List.range xs.length).map (fun k => xs.getD k d) = xs := by
  refine List.ext_getElem (by simp) fun i h1 h2 => ?_
  simp [List.getD_eq_getElem?_getD, h2]
theorem sum_sumR (xs : List Int) : xs.sum = sumR (fun k => xs.getD k 0) xs.length := by
  unfold sumR
  rw [range_getD]
theorem map_range {α β : Type} (d : α) (f : α → β) (xs : List α) : xs.map f = (List.range xs.length).map fun k => f (xs.getD k d) := by
  conv => lhs; rw [← range_getD d xs]
  rw [List.map_map]
  rfl
theorem getD_lt {α : Type} {d : α} {xs : List α} {i : Nat} (h : i < xs.length) : xs.getD i d = xs[i] := by simp [List.getD_eq_getElem?_getD, h]
theorem getD_mem {α : Type} {d : α} {xs : List α} {i : Nat} (h : i < xs.length) : xs.getD i d ∈ xs := by rw [getD_lt h]; exact List.getElem_mem _
theorem zipIdx_range {α β : Type} (d : α) (f : α × Nat → β) (xs : List α) : xs.zipIdx.map f = (List.range xs.length).map fun k => f (xs.getD k d, k) := by
  refine List.ext_getElem (by simp) fun i h1 h2 => ?_
  have h3 : i < xs.length := by simpa using h2
  simp [List.getD_eq_getElem?_getD, h3]
/-! ### what choices get -/
def dot (P : Nat → Nat → Int) (o : Nat) (ws : List Int) : Int := sumR (fun k => ws.getD k 0 * P o k) ws.length
theorem getD_map0 (c : Int) (ns : List Int) (k : Nat) : (ns.map (· * c)).getD k 0 = ns.getD k 0 * c := by
  simp only [List.getD_eq_getElem?_getD, List.getElem?_map]
  cases ns[k]? <;> simp
theorem dot_scale (P : Nat → Nat → Int) (o : Nat) (c : Int) (ns : List Int) : dot P o (ns.map (· * c)) = dot P o ns * c := by
  unfold dot
  rw [List.length_map, ← sumR_mul]
  refine sumR_congr fun k _ => ?_
  rw [getD_map0, Int.mul_assoc, Int.mul_assoc, Int.mul_comm c]
theorem sum_scale (c : Int) (ns : List Int) : (ns.map (· * c)).sum = ns.sum * c := by
  rw [sum_sumR, sum_sumR, List.length_map, ← sumR_mul]
  exact sumR_congr fun k _ => getD_map0 c ns k
/-- the greatest of a list of numbers -/
theorem maxL_some : ∀ {xs : List Int}, xs ≠ [] → ∃ m, maxL xs = some m ∧ m ∈ xs ∧ ∀ x ∈ xs, x ≤ m
  | [], h => absurd rfl h
  | [a], _ => ⟨a, rfl, by simp, by simp⟩
  | a :: b :: r, _ => by
    obtain ⟨m, h1, h2, h3⟩ := maxL_some (xs := b :: r) (by simp)
    refine ⟨max a m, ?_, ?_, ?_⟩
    · show (match maxL (b :: r) with
        | none => some a
        | some m => some (if m > a then m else a)) = _
      rw [h1]
      simp only
      congr 1
      omega
    · rcases Int.le_total a m with h | h
      · rw [Int.max_eq_right h]; exact List.mem_cons_of_mem _ h2
      · rw [Int.max_eq_left h]; exact List.mem_cons_self
    · intro x hx
      rcases List.mem_cons.mp hx with rfl | hx
      · omega
      · have := h3 x hx; omega
def mxO (f : Nat → Int) (m : Nat) : Int := (maxL ((List.range m).map f)).getD 0
theorem mxO_of {f : Nat → Int} {m : Nat} (h : 1 ≤ m) : maxL ((List.range m).map f) = some (mxO f m) ∧ (∃ o, o < m ∧ mxO f m = f o) ∧ ∀ o, o < m → f o ≤ mxO f m := by
  obtain ⟨x, h1, h2, h3⟩ := maxL_some (xs := (List.range m).map f) (by simp; omega)
  have e : mxO f m = x := by simp [mxO, h1]
  rw [e]
  refine ⟨h1, ?_, fun o ho => h3 _ (List.mem_map.mpr ⟨o, by simpa using ho, rfl⟩)⟩
  obtain ⟨o, ho, rfl⟩ := List.mem_map.mp h2
  exact ⟨o, by simpa using ho, rfl⟩
theorem mxO_scale {f : Nat → Int} {m : Nat} (h : 1 ≤ m) {c : Int} (hc : 0 < c) : mxO (fun o => f o * c) m = mxO f m * c := by
  obtain ⟨_, ⟨o, ho, e⟩, g⟩ := mxO_of (f := f) h
  obtain ⟨_, ⟨o', ho', e'⟩, g'⟩ := mxO_of (f := fun o => f o * c) h
  refine Int.le_antisymm ?_ ?_
  · rw [e']
    exact Int.mul_le_mul_of_nonneg_right (g o' ho') (by omega)
  · rw [e]
    exact g' o ho
/-- all that has a part is best -/
def Bst (P : Nat → Nat → Int) (us ws : List Int) : Prop := ∀ k, k < us.length → us.getD k 0 ≠ 0 → dot P k ws = mxO (fun o => dot P o ws) us.length
theorem gain_zero {P : Nat → Nat → Int} {us ws : List Int} (h1 : 1 ≤ us.length) (hu : ∀ u ∈ us, 0 ≤ u) :
    sumR (fun k => us.getD k 0 * dot P k ws) us.length = mxO (fun o => dot P o ws) us.length * us.sum ↔ Bst P us ws := by
  obtain ⟨_, _, g⟩ := mxO_of (f := fun o => dot P o ws) h1
  unfold Bst
  generalize mxO (fun o => dot P o ws) us.length = M at g ⊢
  have k1 : M * us.sum - sumR (fun k => us.getD k 0 * dot P k ws) us.length = sumR (fun k => us.getD k 0 * (M - dot P k ws)) us.length := by
    rw [sum_sumR, Int.mul_comm M, ← sumR_mul, ← sumR_sub]
    exact sumR_congr fun k _ => (Int.mul_sub ..).symm
  have k2 := sumR_eq0 (f := fun k => us.getD k 0 * (M - dot P k ws)) (n := us.length) fun k hk => Int.mul_nonneg (hu _ (getD_mem hk)) (by have := g k hk; omega)
  have k3 : sumR (fun k => us.getD k 0 * dot P k ws) us.length = M * us.sum ↔ sumR (fun k => us.getD k 0 * (M - dot P k ws)) us.length = 0 := by omega
  rw [k3, k2]
  refine ⟨fun h k hk hn => ?_, fun h k hk => ?_⟩
  · rcases Int.mul_eq_zero.mp (h k hk) with z | z
    · exact absurd z hn
    · omega
  · by_cases z : us.getD k 0 = 0
    · rw [z]; simp
    · rw [h k hk z, Int.sub_self, Int.mul_zero]
end SM

set_option maxHeartbeats 1000000
/-! plain: games as lists of lists of numbers; loops by places. -/
namespace SM
open PySem
def rowD (r : List Int) : PyData := .tuple (r.map .int)
def tabD (A : List (List Int)) : PyData := .tuple (A.map rowD)
def gD (A B : List (List Int)) : PyData := .tuple [tabD A, tabD B]
def inB (x : Int) : Prop := -1000 ≤ x ∧ x ≤ 1000
def rwOk (C : Nat) (r : List Int) : Prop := r.length = C ∧ ∀ x ∈ r, inB x
structure Gv (A B : List (List Int)) (R C : Nat) : Prop where
  ra : A.length = R
  rb : B.length = R
  ca : ∀ r ∈ A, rwOk C r
  cb : ∀ r ∈ B, rwOk C r
  r1 : 1 ≤ R
  r5 : R ≤ 5
  c1 : 1 ≤ C
  c5 : C ≤ 5
def gt (A : List (List Int)) (i j : Nat) : Int := (A.getD i []).getD j 0
def pay (A B : List (List Int)) (sd own oth : Nat) : Int := if sd = 0 then gt A own oth else gt B oth own
def mn (R C sd : Nat) : Nat := if sd = 0 then R else C
@[simp] theorem mn0 (R C : Nat) : mn R C 0 = R := rfl
@[simp] theorem mn1 (R C : Nat) : mn R C 1 = C := rfl
theorem gt_in {A : List (List Int)} {C i j : Nat} (h : ∀ r ∈ A, rwOk C r) (hi : i < A.length) (hj : j < C) : inB (gt A i j) := by
  have h1 := h _ (getD_mem (d := []) hi)
  exact h1.2 _ (getD_mem (by rw [h1.1]; exact hj))
theorem gt_abs {x : Int} (h : inB x) : x.natAbs ≤ 1000 := by obtain ⟨h1, h2⟩ := h; omega
section
variable {C : Cal} {n : Nat} {s t : Sto} {m : Bool} {e : Sl} {A B : List (List Int)} {r : List Int}
theorem at_row {i : Nat} (h : i < A.length) : L2.atI (A.map rowD) (i : Int) = some (rowD (A.getD i [])) := by rw [atI_nat (by simpa using h), getD_lt h]; simp
theorem at_int {i : Nat} (h : i < r.length) : L2.atI (r.map PyData.int) (i : Int) = some (.int (r.getD i 0)) := by rw [atI_nat (by simpa using h), getD_lt h]; simp
@[simp] theorem idx_tab (i : Int) : idxV (.d (tabD A)) (.d (.int i)) s = (L2.atI (A.map rowD) i).map fun x => (.d x, s) := idxV_t ..
@[simp] theorem idx_row (i : Int) : idxV (.d (rowD r)) (.d (.int i)) s = (L2.atI (r.map PyData.int) i).map fun x => (.d x, s) := idxV_t ..
@[simp] theorem idx_g0 : idxV (.d (gD A B)) (.d (.int 0)) s = some (.d (tabD A), s) := by unfold gD; simp
@[simp] theorem idx_g1 : idxV (.d (gD A B)) (.d (.int 1)) s = some (.d (tabD B), s) := by unfold gD; simp
@[simp] theorem len_tab : biV m .len [.d (tabD A)] s = some (.d (.int A.length), s) := by unfold tabD; simp
@[simp] theorem len_row : biV m .len [.d (rowD r)] s = some (.d (.int r.length), s) := by unfold rowD; simp
@[simp] theorem itr_tab : itrV (.d (tabD A)) s = some (.vals (A.map rowD)) := rfl
@[simp] theorem itr_row : itrV (.d (rowD r)) s = some (.vals (r.map .int)) := rfl
@[simp] theorem max_l (is : List Int) : biV m .max [.d (.list (is.map .int))] s = (maxL is).map fun k => (.d (.int k), s) := by
  show ((dataV (.d (.list (is.map .int))) s).bind ints?).bind _ = _
  have h : dataV (.d (.list (is.map .int))) s = some (is.map .int) := allD_map _
  rw [h]
  show (ints? (is.map .int)).bind _ = _
  rw [w_ints, Option.bind_some]
@[simp] theorem max_row : biV m .max [.d (rowD r)] s = (maxL r).map fun k => (.d (.int k), s) := by
  show ((dataV (.d (.tuple (r.map .int))) s).bind ints?).bind _ = _
  have h : dataV (.d (.tuple (r.map .int))) s = some (r.map .int) := allD_map _
  rw [h]
  show (ints? (r.map .int)).bind _ = _
  rw [w_ints, Option.bind_some]
@[simp] theorem ev_lrg (m : Bool) (a : IE) : ev C (.lrg m a) e s = (ev C a e s).bind fun x s => ofP (lrgV m x s) := rfl
@[simp] theorem lrg_nat {k : Nat} (h : k ≤ 1000000) : lrgV false (.d (.int k)) s = some (.d (.list ((List.range k).map fun i : Nat => .int i)), s) := by
  unfold lrgV
  simp only
  rw [if_pos (by omega)]
  show mkL false ((List.range (Int.toNat k)).map ((Vl.d) ∘ fun i : Nat => PyData.int i)) s = _
  rw [← List.map_map, mkL_data, if_pos (by simp; omega)]
  simp
def meR (C : Cal) (f : Me) (es : IE) (e : Sl) (o : Vl) (s : Sto) : Rs Vl := match listV o s with
  | some _ => (evs C es e s).bind fun xs s => ofP (meV f o xs s)
  | none => .no
@[simp] theorem ev_me (f : Me) (o es : IE) : ev C (.me f o es) e s = (ev C o e s).bind (meR C f es e) := by
  show (ev C o e s).bind _ = _
  congr 1
  funext o s
  unfold meR
  cases listV o s <;> rfl
theorem meR_r {f : Me} {es : IE} {vs : List Vl} (h : listAt n s = some vs) : meR C f es e (.r n) s = (evs C es e s).bind fun xs s => ofP (meV f (.r n) xs s) := by
  unfold meR
  show (match listAt n s with
    | some _ => (evs C es e s).bind fun xs s => ofP (meV f (.r n) xs s)
    | none => .no) = _
  rw [h]
@[simp] theorem meR_new {f : Me} {es : IE} {vs : List Vl} : meR C f es e (.r s.length) (s ++ [some (.lst vs)]) = (evs C es e (s ++ [some (.lst vs)])).bind fun xs t => ofP (meV f (.r s.length) xs t) := meR_r listAt_new
theorem app_r {vs : List Vl} {v : Vl} (h : listAt n s = some vs) (hl : vs.length < 16777216) : meV .append (.r n) [v] s = some (.d .none, putL n (vs ++ [v]) s) := by
  show (listAt n s).bind _ = _
  rw [h, Option.bind_some, if_pos hl]
theorem app_new {vs : List Vl} {v : Vl} (hl : vs.length < 16777216) : meV .append (.r s.length) [v] (s ++ [some (.lst vs)]) = some (.d .none, s ++ [some (.lst (vs ++ [v]))]) := by
  rw [app_r listAt_new hl, putL_new]
theorem frz_r {xs : List PyData} (h : listAt n s = some (xs.map Vl.d)) : frzV (.r n) s = some (.d (.list xs), s.set n none) := by
  show (listAt n s).bind _ = _
  rw [h, Option.bind_some, frzL_data, Option.bind_some]
  show (listAt n s).map _ = _
  rw [h]
  rfl
theorem frz_new {xs : List PyData} : frzV (.r s.length) (s ++ [some (.lst (xs.map Vl.d))]) = some (.d (.list xs), s ++ [none]) := by
  rw [frz_r listAt_new]
  simp
/-- [elt for x in xs], pure, over things told as data -/
theorem comp_on {α : Type} {elt tg it : IE} {own : List Nat} {xs : List α} (g f : α → PyData) (hi : itr C it e s = .ok (.vals (xs.map g)) s) (hl : xs.length ≤ 16777216)
    (ht : ∀ a ∈ xs, ∃ e1, setTgV tg (.d (g a)) (wipe e own) = some e1 ∧ ev C elt e1 s = .ok (.d (f a)) s) : ev C (.comp false elt tg it .nil own) e s = .ok (.d (.list (xs.map f))) s := by
  show ((itr C it e s).bind fun I s => (noex (cmI (turnF C elt tg .nil (wipe e own)) I s)).bind fun vs s => ofP (mkL false vs s)) = _
  rw [hi]
  show ((noex (cmL (turnF C elt tg .nil (wipe e own)) (xs.map g) s)).bind fun vs s => ofP (mkL false vs s)) = _
  have key : ∀ ys : List α, (∀ a ∈ ys, a ∈ xs) → cmL (turnF C elt tg .nil (wipe e own)) (ys.map g) s = .ok ((ys.map f).map Vl.d) s := by
    intro ys
    induction ys with
    | nil => intro _; rfl
    | cons a r ih =>
      intro hm
      obtain ⟨e1, h1, h2⟩ := ht a (hm a List.mem_cons_self)
      have tn : turnF C elt tg .nil (wipe e own) (.d (g a)) s = .ok (some (.d (f a))) s := by
        unfold turnF
        rw [h1]
        show (ev C elt e1 s).bind _ = _
        rw [h2]
        rfl
      show (turnF C elt tg .nil (wipe e own) (.d (g a)) s).bind _ = _
      rw [tn]
      show (cmL (turnF C elt tg .nil (wipe e own)) (r.map g) s).bind _ = _
      rw [ih fun x hx => hm x (List.mem_cons_of_mem _ hx)]
      rfl
  rw [key xs fun _ h => h]
  show ofP (mkL false ((xs.map f).map Vl.d) s) = _
  rw [mkL_data, if_pos (by simpa using hl)]
  rfl
/-- [elt for x in xs if c], pure, over things told as data -/
theorem filter_on {α : Type} {elt tg it c : IE} {own : List Nat} {xs : List α} (g f : α → PyData) (p : α → Bool) (hi : itr C it e s = .ok (.vals (xs.map g)) s) (hl : xs.length ≤ 16777216)
    (ht : ∀ a ∈ xs, ∃ e1, setTgV tg (.d (g a)) (wipe e own) = some e1 ∧ evT C c e1 s = .ok (p a) s ∧ (p a = true → ev C elt e1 s = .ok (.d (f a)) s)) : ev C (.comp false elt tg it (.cons c .nil) own) e s = .ok (.d (.list ((xs.filter p).map f))) s := by
  show ((itr C it e s).bind fun I s => (noex (cmI (turnF C elt tg (.cons c .nil) (wipe e own)) I s)).bind fun vs s => ofP (mkL false vs s)) = _
  rw [hi]
  show ((noex (cmL (turnF C elt tg (.cons c .nil) (wipe e own)) (xs.map g) s)).bind fun vs s => ofP (mkL false vs s)) = _
  have key : ∀ ys : List α, (∀ a ∈ ys, a ∈ xs) → cmL (turnF C elt tg (.cons c .nil) (wipe e own)) (ys.map g) s = .ok (((ys.filter p).map f).map Vl.d) s := by
    intro ys
    induction ys with
    | nil => intro _; rfl
    | cons a r ih =>
      intro hm
      obtain ⟨e1, h1, h2, h3⟩ := ht a (hm a List.mem_cons_self)
      have tn : turnF C elt tg (.cons c .nil) (wipe e own) (.d (g a)) s = .ok (if p a = true then some (.d (f a)) else none) s := by
        unfold turnF
        rw [h1]
        show (evT C c e1 s).bind _ = _
        rw [h2]
        cases q : p a with
        | false => rfl
        | true =>
          show (ev C elt e1 s).bind _ = _
          rw [h3 q]
          rfl
      show (turnF C elt tg (.cons c .nil) (wipe e own) (.d (g a)) s).bind _ = _
      rw [tn]
      show (cmL (turnF C elt tg (.cons c .nil) (wipe e own)) (r.map g) s).bind _ = _
      rw [ih fun x hx => hm x (List.mem_cons_of_mem _ hx)]
      cases q : p a <;> simp [q]
  rw [key xs fun _ h => h]
  show ofP (mkL false (((xs.filter p).map f).map Vl.d) s) = _
  rw [mkL_data, if_pos (by have := List.length_filter_le p xs; simp; omega)]
  rfl
/-- a loop by places -/
theorem Sw_goN {t : Vl → Sl → Sto → Fl} {P : Pt} (J : Nat → Sl → Sto → Prop) {xs : List PyData} (step : ∀ j (h : j < xs.length) e s, J j e s → Sw (t (.d xs[j]) e s) ⟨J (j + 1), P.r, P.n, J (j + 1), P.x⟩) (last : ∀ e s, J xs.length e s → P.n e s) {e : Sl} {s : Sto} (h0 : J 0 e s) : Sw (goL t xs e s) P := by
  refine Sw_goL (fun r e s => ∃ j, r = xs.drop j ∧ j ≤ xs.length ∧ J j e s) (fun x r e s ⟨j, hr, hj, h⟩ => ?_) (fun e s ⟨j, hr, hj, h⟩ => ?_) ⟨0, by simp, by omega, h0⟩
  · have hlt : j < xs.length := by
      rcases Nat.lt_or_ge j xs.length with z | z
      · exact z
      · rw [List.drop_eq_nil_of_le z] at hr; cases hr
    rw [List.drop_eq_getElem_cons hlt] at hr
    injection hr with e1 e2
    subst e1
    have hs := step j hlt e s h
    exact hs.mono (fun e s q => ⟨j + 1, e2, hlt, q⟩) (fun _ _ q => q) (fun _ _ q => q) (fun e s q => ⟨j + 1, e2, hlt, q⟩) fun _ _ _ _ q => q
  · have hge : xs.length ≤ j := by
      rcases Nat.lt_or_ge j xs.length with z | z
      · rw [List.drop_eq_getElem_cons z] at hr; cases hr
      · exact z
    have : j = xs.length := by omega
    subst this
    exact last e s h
theorem Sw_goR {t : Vl → Sl → Sto → Fl} {P : Pt} (k : Nat) (J : Nat → Sl → Sto → Prop) (step : ∀ j, j < k → ∀ e s, J j e s → Sw (t (.d (.int j)) e s) ⟨J (j + 1), P.r, P.n, J (j + 1), P.x⟩) (last : ∀ e s, J k e s → P.n e s) {e : Sl} {s : Sto} (h0 : J 0 e s) : Sw (goL t ((List.range k).map fun j : Nat => PyData.int j) e s) P := by
  refine Sw_goN J (fun j h e s q => ?_) (fun e s q => last e s (by simpa using q)) h0
  have hj : j < k := by simpa using h
  simp only [List.getElem_map, List.getElem_range]
  exact step j hj e s q
end
end SM

set_option maxHeartbeats 1000000
/-! plain: mixes of weights, as numbers over one number. -/
namespace SM
open PySem
structure Wt (ws : List Int) (c : Nat) : Prop where
  len : ws.length = c
  c5 : c ≤ 5
  rg : ∀ w ∈ ws, 0 ≤ w ∧ w < 2 ^ 1480
  pos : 0 < ws.sum
def frD (p : Int × Int) : PyData := .tuple [.int p.1, .int p.2]
def mixD (ws : List Int) : PyData := .tuple ((frs ws).map frD)
def lc (ws : List Int) : Int := lcmF 1 (frs ws)
def nsO (ws : List Int) : List Int := (frs ws).map fun p => p.1 * (lc ws / p.2)
def cO (ws : List Int) : Int := ws.sum / lc ws
theorem sum_lt5 {is : List Int} (h : ∀ i ∈ is, 0 ≤ i ∧ i < 2 ^ 1480) : is.sum ≤ is.length * 2 ^ 1480 := by
  induction is with
  | nil => simp
  | cons a is ih =>
    have ha := h a List.mem_cons_self
    have := ih fun j hj => h j (List.mem_cons_of_mem _ hj)
    simp only [List.sum_cons, List.length_cons]
    generalize (2 : Int) ^ 1480 = X at *
    have e : ((is.length + 1 : Nat) : Int) * X = is.length * X + X := by rw [Int.natCast_add, Int.add_mul]; simp
    rw [e]
    omega
section
variable {ws : List Int} {c : Nat}
theorem Wt.lt (h : Wt ws c) : ws.sum.natAbs < 2 ^ 1483 := by
  have h1 := sum_lt5 h.rg
  have h5 : (ws.length : Int) * 2 ^ 1480 ≤ 5 * 2 ^ 1480 := Int.mul_le_mul_of_nonneg_right (by have := h.len; have := h.c5; omega) (by decide +kernel)
  have e : (5 * 2 ^ 1480 : Int) < 2 ^ 1483 := by decide +kernel
  have := h.pos
  omega
theorem lcmF_pos : ∀ {ps : List (Int × Int)} {L : Int}, 0 < L → (∀ p ∈ ps, 1 ≤ p.2) → 0 < lcmF L ps
  | [], _, h, _ => h
  | p :: r, L, h, hp => by
    show 0 < lcmF (Int.lcm L p.2 : Nat) r
    refine lcmF_pos ?_ fun q hq => hp q (List.mem_cons_of_mem _ hq)
    have := hp p List.mem_cons_self
    have : 0 < Int.lcm L p.2 := Int.lcm_pos (by omega) (by omega)
    omega
theorem Wt.frs_mem (h : Wt ws c) {p : Int × Int} (hp : p ∈ frs ws) : ∃ w ∈ ws, p = frO w ws.sum := by
  obtain ⟨w, hw, e⟩ := List.mem_map.mp hp
  exact ⟨w, hw, e.symm⟩
theorem Wt.frs_pos (h : Wt ws c) : ∀ p ∈ frs ws, 1 ≤ p.2 ∧ p.2 ∣ ws.sum := fun p hp => by
  obtain ⟨w, hw, rfl⟩ := h.frs_mem hp
  exact ⟨frO_pos h.pos, frO_dvd h.pos⟩
theorem Wt.lc_pos (h : Wt ws c) : 0 < lc ws := lcmF_pos (by decide) fun p hp => (h.frs_pos p hp).1
theorem Wt.lc_dvd (h : Wt ws c) : lc ws ∣ ws.sum := lcmF_dvd ⟨_, (Int.one_mul _).symm⟩ fun p hp => (h.frs_pos p hp).2
theorem Wt.lc_mul (h : Wt ws c) : lc ws * cO ws = ws.sum := Int.mul_ediv_cancel' h.lc_dvd
theorem Wt.c_pos (h : Wt ws c) : 0 < cO ws := by
  have h1 := h.lc_mul
  have h2 := h.lc_pos
  have h3 := h.pos
  rcases Int.lt_or_le 0 (cO ws) with z | z
  · exact z
  · have : lc ws * cO ws ≤ 0 := Int.mul_nonpos_of_nonneg_of_nonpos (by omega) z
    omega
theorem Wt.ns_mul (h : Wt ws c) : ws = (nsO ws).map (· * cO ws) := by
  unfold nsO frs
  rw [List.map_map, List.map_map]
  conv => lhs; rw [← List.map_id ws]
  refine List.map_congr_left fun w hw => ?_
  have hp : frO w ws.sum ∈ frs ws := List.mem_map.mpr ⟨w, hw, rfl⟩
  have d : (frO w ws.sum).2 ∣ lc ws := lcmF_of _ hp
  have d1 := frO_pos (w := w) h.pos
  have cr := frO_cross (w := w) h.pos
  have lm := h.lc_mul
  obtain ⟨q, hq⟩ := d
  have e : lc ws / (frO w ws.sum).2 = q := by rw [hq]; exact Int.mul_ediv_cancel_left q (by omega)
  show w = (frO w ws.sum).1 * (lc ws / (frO w ws.sum).2) * cO ws
  rw [e]
  clear e hp
  generalize (frO w ws.sum).2 = b at *
  generalize (frO w ws.sum).1 = a at *
  generalize cO ws = k at *
  refine Int.eq_of_mul_eq_mul_right (a := b) (by omega) ?_
  rw [← cr, ← lm, hq]
  ac_rfl
theorem Wt.ns_sum (h : Wt ws c) : (nsO ws).sum = lc ws := by
  have h1 := h.lc_mul
  have h2 : ws.sum = (nsO ws).sum * cO ws := by
    conv => lhs; rw [h.ns_mul]
    exact sum_scale _ _
  have h3 := h.c_pos
  exact Int.eq_of_mul_eq_mul_right (a := cO ws) (by omega) (by rw [← h2, h1])
theorem ns_len : (nsO ws).length = ws.length := by simp [nsO, frs]
theorem Wt.ns_nn (h : Wt ws c) : ∀ x ∈ nsO ws, 0 ≤ x := fun x hx => by
  obtain ⟨p, hp, rfl⟩ := List.mem_map.mp hx
  obtain ⟨w, hw, rfl⟩ := h.frs_mem hp
  have h1 := frO_nn h.pos (h.rg w hw).1
  have h2 : 0 ≤ lc ws / (frO w ws.sum).2 := Int.ediv_nonneg (by have := h.lc_pos; omega) (by have := frO_pos (w := w) h.pos; omega)
  exact Int.mul_nonneg h1 h2
theorem Wt.ns_le (h : Wt ws c) : ∀ x ∈ nsO ws, x.natAbs < 2 ^ 1480 := fun x hx => by
  have h0 := h.ns_nn x hx
  have h1 : x * cO ws ∈ ws := by
    rw [h.ns_mul]
    have : x * cO ws ∈ (nsO ws).map (· * cO ws) := List.mem_map.mpr ⟨x, hx, rfl⟩
    rwa [← h.ns_mul] at this ⊢
  have h2 := (h.rg _ h1).2
  have h3 := h.c_pos
  have h4 : x * 1 ≤ x * cO ws := Int.mul_le_mul_of_nonneg_left (by omega) h0
  have e : ((2 ^ 1480 : Nat) : Int) = 2 ^ 1480 := by norm_cast
  omega
theorem Wt.lc_lt (h : Wt ws c) : (lc ws).natAbs < 2 ^ 1483 := by
  have h1 := Int.le_of_dvd h.pos h.lc_dvd
  have h2 := h.lc_pos
  have := h.lt
  omega
theorem Wt.ns0 (h : Wt ws c) (k : Nat) : (nsO ws).getD k 0 = 0 ↔ ws.getD k 0 = 0 := by
  have e : ws.getD k 0 = (nsO ws).getD k 0 * cO ws := by
    conv => lhs; rw [h.ns_mul]
    exact getD_map0 _ _ _
  have := h.c_pos
  rw [e]
  constructor
  · intro z; rw [z]; simp
  · intro z
    rcases Int.mul_eq_zero.mp z with q | q
    · exact q
    · omega
theorem frs_getD0 (h : Wt ws c) {k : Nat} (hk : k < ws.length) : ((frs ws).getD k (0, 1)).1 = 0 ↔ ws.getD k 0 = 0 := by
  have e : (frs ws).getD k (0, 1) = frO (ws.getD k 0) ws.sum := by
    rw [getD_lt (by simpa [frs] using hk), getD_lt hk]
    simp [frs]
  rw [e]
  exact frO_zero h.pos
/-- the best ones are the same against the numbers as against the weights -/
theorem Wt.dot_ns (h : Wt ws c) (P : Nat → Nat → Int) (o : Nat) : dot P o ws = dot P o (nsO ws) * cO ws := by
  conv => lhs; rw [h.ns_mul]
  exact dot_scale _ _ _ _
theorem Wt.best_ns (h : Wt ws c) (P : Nat → Nat → Int) {m : Nat} (hm : 1 ≤ m) (o : Nat) : dot P o ws = mxO (fun o => dot P o ws) m ↔ dot P o (nsO ws) = mxO (fun o => dot P o (nsO ws)) m := by
  have e : (fun o => dot P o ws) = fun o => dot P o (nsO ws) * cO ws := funext fun o => h.dot_ns P o
  have hc := h.c_pos
  rw [e, mxO_scale hm hc, h.dot_ns P o]
  constructor
  · intro z; exact Int.eq_of_mul_eq_mul_right (by omega) z
  · intro z; rw [z]
theorem Bst_ns {us : List Int} {d : Nat} (P : Nat → Nat → Int) (hu : Wt us d) (h : Wt ws c) : Bst P us ws ↔ Bst P (nsO us) (nsO ws) := by
  have h1 : 1 ≤ us.length := by
    cases us with
    | nil => have := hu.pos; simp at this
    | cons a r => simp
  unfold Bst
  rw [ns_len]
  constructor
  · intro z k hk hn
    exact (h.best_ns P h1 k).mp (z k hk fun q => hn ((hu.ns0 k).mpr q))
  · intro z k hk hn
    exact (h.best_ns P h1 k).mpr (z k hk fun q => hn ((hu.ns0 k).mp q))
theorem log_of {i : Int} {k : Nat} (h : i.natAbs < 2 ^ k) : i.natAbs.log2 < k ∨ i = 0 := by
  by_cases h0 : i = 0
  · exact .inr h0
  · exact .inl ((Nat.log2_lt (by omega)).mpr h)
theorem log_lt {i : Int} {k l : Nat} (h : i.natAbs < 2 ^ k) (hk : k ≤ l) (hl : 0 < l) : i.natAbs.log2 < l := by
  rcases log_of h with z | z
  · omega
  · subst z; simpa using hl
theorem mulOk_of {i j : Int} {k l : Nat} (hi : i.natAbs < 2 ^ k) (hj : j.natAbs < 2 ^ l) (h : k + l < 1000000) : mulOk i j := by
  rcases log_of hi with a | rfl
  · rcases log_of hj with b | rfl
    · exact .inr (.inr (by omega))
    · exact .inr (.inl (by decide))
  · exact .inl (by decide)
theorem fr_eq {M N a b : Int} (ha : 0 < a) (hb : 0 < b) : (frO M a).1 * (frO N b).2 = (frO N b).1 * (frO M a).2 ↔ M * b = N * a := by
  have h1 := frO_cross (w := M) ha
  have h2 := frO_cross (w := N) hb
  have p1 := frO_pos (w := M) ha
  have p2 := frO_pos (w := N) hb
  generalize (frO M a).1 = i at *
  generalize (frO M a).2 = j at *
  generalize (frO N b).1 = k at *
  generalize (frO N b).2 = l at *
  have e1 : i * l * (a * b) = M * b * (j * l) := by
    calc i * l * (a * b) = i * a * (l * b) := by ac_rfl
      _ = M * b * (j * l) := by rw [h1]; ac_rfl
  have e2 : k * j * (a * b) = N * a * (j * l) := by
    calc k * j * (a * b) = k * b * (j * a) := by ac_rfl
      _ = N * a * (j * l) := by rw [h2]; ac_rfl
  have jl : j * l ≠ 0 := by have := Int.mul_pos (show 0 < j by omega) (show 0 < l by omega); omega
  have ab : a * b ≠ 0 := by have := Int.mul_pos ha hb; omega
  constructor
  · intro z
    exact Int.eq_of_mul_eq_mul_right jl (by rw [← e1, ← e2, z])
  · intro z
    exact Int.eq_of_mul_eq_mul_right ab (by rw [e1, e2, z])
theorem frO_01 {x S : Int} (h : 0 < S) : frO x S = (0, 1) ↔ x = 0 := by
  constructor
  · intro z
    exact (frO_zero h).mp (by rw [z])
  · intro z
    subst z
    have : (Int.gcd 0 S : Int) = S := by simp; omega
    simp only [frO, this, Int.zero_ediv]
    rw [Int.ediv_self (by omega)]
theorem dot_abs {P : Nat → Nat → Int} {o : Nat} {ns : List Int} (hl : ns.length ≤ 5) (hn : ∀ x ∈ ns, x.natAbs < 2 ^ 1480) (hP : ∀ k, k < ns.length → (P o k).natAbs ≤ 1000) : (dot P o ns).natAbs < 2 ^ 1493 := by
  have h1 : (dot P o ns).natAbs ≤ ns.length * (2 ^ 1480 * 1000) := sumR_abs fun k hk => by
    rw [Int.natAbs_mul]
    exact Nat.mul_le_mul (Nat.le_of_lt (hn _ (getD_mem hk))) (hP k hk)
  have h2 : ns.length * (2 ^ 1480 * 1000) ≤ 5 * (2 ^ 1480 * 1000) := Nat.mul_le_mul_right _ hl
  have e : 5 * (2 ^ 1480 * 1000) < (2 : Nat) ^ 1493 := by decide +kernel
  exact Nat.lt_of_le_of_lt (Nat.le_trans h1 h2) e
theorem zip_range {xs : List Int} {f : Nat → Int} {m : Nat} (h : xs.length = m) : List.zipWith (fun u v => PyData.tuple [u, v]) (xs.map PyData.int) (((List.range m).map f).map PyData.int) = (List.range m).map fun k => PyData.tuple [.int (xs.getD k 0), .int (f k)] := by
  refine List.ext_getElem (by simp [h]) fun i h1 h2 => ?_
  have h3 : i < xs.length := by simp at h2; omega
  rw [List.getElem_zipWith]
  simp only [List.getElem_map, List.getElem_range]
  rw [getD_lt h3]
theorem pos_len (h : Wt ws c) : 1 ≤ ws.length := by
  cases ws with
  | nil => have := h.pos; simp at this
  | cons a r => simp
end
end SM

set_option maxHeartbeats 0
/-! ### the law's defs, as gen.py printed them -/
namespace Law
open PySem SM
abbrev i_is_integer : Nat := 0
abbrev i_anew : Nat := 1
abbrev i_is_within : Nat := 2
abbrev i_is_a_row : Nat := 3
abbrev i_is_a_table : Nat := 4
abbrev i_are_tables_like : Nat := 5
abbrev i_is_a_game : Nat := 6
abbrev i_is_a_side : Nat := 7
abbrev i_many_of : Nat := 8
abbrev i_need_game : Nat := 9
abbrev i_need_side : Nat := 10
abbrev i_need_number : Nat := 11
abbrev i_transposed : Nat := 12
abbrev i_turned : Nat := 13
abbrev i_raised : Nat := 14
abbrev i_moved : Nat := 15
abbrev i_without : Nat := 16
abbrev i__law_source : Nat := 17
abbrev i__law_pick : Nat := 18
abbrev i__law_number : Nat := 19
abbrev i__law_table : Nat := 20
abbrev i__law_game : Nat := 21
abbrev i__law_columns : Nat := 22
abbrev i__law_due : Nat := 23
abbrev i__law_call : Nat := 24
abbrev i__law_numbers : Nat := 25
abbrev i__law_drawn : Nat := 26
abbrev i__law_right : Nat := 27
abbrev i_law : Nat := 28
def n_is_integer : List Str := [("value" : PySem.Str)]
def b_is_integer : IS := (.cons (.ret (.and (.cons (.isi (.var 0) .int) (.cons (.not (.isi (.var 0) .bool)) .nil))))
  .nil)
def d_is_integer : Df := ⟨1, 1, b_is_integer⟩
def n_anew : List Str := [("value" : PySem.Str), ("part" : PySem.Str)]
def b_anew : IS := (.cons (.ite (.isi (.var 0) .list) (.cons (.ret (.comp false (.call i_anew (.cons (.var 1) .nil)) (.var 1) (.itv (.var 0)) .nil [1]))
    .nil) .nil)
  (.cons (.ite (.isi (.var 0) .tuple) (.cons (.ret (.bi false .tuple (.cons (.comp false (.call i_anew (.cons (.var 1) .nil)) (.var 1) (.itv (.var 0)) .nil [1]) .nil)))
    .nil) .nil)
  (.cons (.ret (.var 0))
  .nil)))
def d_anew : Df := ⟨1, 2, b_anew⟩
def n_is_within : List Str := [("value" : PySem.Str), ("least" : PySem.Str), ("most" : PySem.Str)]
def b_is_within : IS := (.cons (.ret (.and (.cons (.call i_is_integer (.cons (.var 0) .nil)) (.cons (.chain .le .le (.var 1) (.var 0) (.var 2)) .nil))))
  .nil)
def d_is_within : Df := ⟨3, 3, b_is_within⟩
def n_is_a_row : List Str := [("value" : PySem.Str), ("wide" : PySem.Str), ("number" : PySem.Str)]
def b_is_a_row : IS := (.cons (.ite (.or (.cons (.not (.isi (.var 0) .tuple)) (.cons (.cmp .ne (.bi false .len (.cons (.var 0) .nil)) (.var 1)) .nil))) (.cons (.ret (.lit (.bool false)))
    .nil) .nil)
  (.cons (.ret (.bi false .all (.cons (.comp false (.call i_is_within (.cons (.var 2) (.cons (.neg (.glob ("MOST_NUMBER" : PySem.Str) (.int 1000))) (.cons (.glob ("MOST_NUMBER" : PySem.Str) (.int 1000)) .nil)))) (.var 2) (.itv (.var 0)) .nil [2]) .nil)))
  .nil))
def d_is_a_row : Df := ⟨2, 3, b_is_a_row⟩
def n_is_a_table : List Str := [("value" : PySem.Str), ("row" : PySem.Str)]
def b_is_a_table : IS := (.cons (.ite (.or (.cons (.not (.isi (.var 0) .tuple)) (.cons (.not (.chain .le .le (.lit (.int 1)) (.bi false .len (.cons (.var 0) .nil)) (.glob ("MOST_CHOICES" : PySem.Str) (.int 5)))) (.cons (.not (.isi (.idx (.var 0) (.lit (.int 0))) .tuple)) .nil)))) (.cons (.ret (.lit (.bool false)))
    .nil) .nil)
  (.cons (.ret (.and (.cons (.chain .le .le (.lit (.int 1)) (.bi false .len (.cons (.idx (.var 0) (.lit (.int 0))) .nil)) (.glob ("MOST_CHOICES" : PySem.Str) (.int 5))) (.cons (.bi false .all (.cons (.comp false (.call i_is_a_row (.cons (.var 1) (.cons (.bi false .len (.cons (.idx (.var 0) (.lit (.int 0))) .nil)) .nil))) (.var 1) (.itv (.var 0)) .nil [1]) .nil)) .nil))))
  .nil))
def d_is_a_table : Df := ⟨1, 2, b_is_a_table⟩
def n_are_tables_like : List Str := [("value" : PySem.Str), ("rows" : PySem.Str), ("columns" : PySem.Str), ("table" : PySem.Str)]
def b_are_tables_like : IS := (.cons (.ite (.or (.cons (.not (.isi (.var 0) .tuple)) (.cons (.cmp .ne (.bi false .len (.cons (.var 0) .nil)) (.lit (.int 2))) (.cons (.not (.bi false .all (.cons (.comp false (.call i_is_a_table (.cons (.var 3) .nil)) (.var 3) (.itv (.var 0)) .nil [3]) .nil))) .nil)))) (.cons (.ret (.lit (.bool false)))
    .nil) .nil)
  (.cons (.ret (.bi false .all (.cons (.comp false (.and (.cons (.cmp .eq (.bi false .len (.cons (.var 3) .nil)) (.var 1)) (.cons (.cmp .eq (.bi false .len (.cons (.idx (.var 3) (.lit (.int 0))) .nil)) (.var 2)) .nil))) (.var 3) (.itv (.var 0)) .nil [3]) .nil)))
  .nil))
def d_are_tables_like : Df := ⟨3, 4, b_are_tables_like⟩
def n_is_a_game : List Str := [("value" : PySem.Str)]
def b_is_a_game : IS := (.cons (.ite (.or (.cons (.not (.isi (.var 0) .tuple)) (.cons (.cmp .ne (.bi false .len (.cons (.var 0) .nil)) (.lit (.int 2))) (.cons (.not (.call i_is_a_table (.cons (.idx (.var 0) (.lit (.int 0))) .nil))) .nil)))) (.cons (.ret (.lit (.bool false)))
    .nil) .nil)
  (.cons (.ret (.call i_are_tables_like (.cons (.var 0) (.cons (.bi false .len (.cons (.idx (.var 0) (.lit (.int 0))) .nil)) (.cons (.bi false .len (.cons (.idx (.idx (.var 0) (.lit (.int 0))) (.lit (.int 0))) .nil)) .nil)))))
  .nil))
def d_is_a_game : Df := ⟨1, 1, b_is_a_game⟩
def n_is_a_side : List Str := [("value" : PySem.Str)]
def b_is_a_side : IS := (.cons (.ret (.call i_is_within (.cons (.var 0) (.cons (.lit (.int 0)) (.cons (.lit (.int 1)) .nil)))))
  .nil)
def d_is_a_side : Df := ⟨1, 1, b_is_a_side⟩
def n_many_of : List Str := [("game" : PySem.Str), ("side" : PySem.Str)]
def b_many_of : IS := (.cons (.ret (.ite (.cmp .eq (.var 1) (.lit (.int 0))) (.bi false .len (.cons (.idx (.var 0) (.lit (.int 0))) .nil)) (.bi false .len (.cons (.idx (.idx (.var 0) (.lit (.int 0))) (.lit (.int 0))) .nil))))
  .nil)
def d_many_of : Df := ⟨2, 2, b_many_of⟩
def n_need_game : List Str := [("game" : PySem.Str)]
def b_need_game : IS := (.cons (.ite (.not (.call i_is_a_game (.cons (.var 0) .nil))) (.cons (.rais 1 (.call i_anew (.cons (.var 0) .nil)))
    .nil) .nil)
  .nil)
def d_need_game : Df := ⟨1, 1, b_need_game⟩
def n_need_side : List Str := [("side" : PySem.Str)]
def b_need_side : IS := (.cons (.ite (.not (.call i_is_a_side (.cons (.var 0) .nil))) (.cons (.rais 2 (.call i_anew (.cons (.var 0) .nil)))
    .nil) .nil)
  .nil)
def d_need_side : Df := ⟨1, 1, b_need_side⟩
def n_need_number : List Str := [("number" : PySem.Str), ("low" : PySem.Str), ("high" : PySem.Str)]
def b_need_number : IS := (.cons (.ite (.or (.cons (.cmp .lt (.var 0) (.var 1)) (.cons (.and (.cons (.cmp .isn (.var 2) (.lit .none)) (.cons (.cmp .gt (.var 0) (.var 2)) .nil))) .nil))) (.cons (.rais 3 (.var 0))
    .nil) .nil)
  .nil)
def d_need_number : Df := ⟨3, 3, b_need_number⟩
def n_transposed : List Str := [("table" : PySem.Str), ("column" : PySem.Str), ("row" : PySem.Str)]
def b_transposed : IS := (.cons (.ret (.bi false .tuple (.cons (.comp false (.bi false .tuple (.cons (.comp false (.idx (.var 2) (.var 1)) (.var 2) (.itv (.var 0)) .nil [2]) .nil)) (.var 1) (.rng1 (.bi false .len (.cons (.idx (.var 0) (.lit (.int 0))) .nil))) .nil [1]) .nil)))
  .nil)
def d_transposed : Df := ⟨1, 3, b_transposed⟩
def n_turned : List Str := [("game" : PySem.Str)]
def b_turned : IS := (.cons (.expr (.call i_need_game (.cons (.var 0) .nil)))
  (.cons (.ret (.tup (.cons (.call i_transposed (.cons (.idx (.var 0) (.lit (.int 1))) .nil)) (.cons (.call i_transposed (.cons (.idx (.var 0) (.lit (.int 0))) .nil)) .nil))))
  .nil))
def d_turned : Df := ⟨1, 1, b_turned⟩
def n_raised : List Str := [("table" : PySem.Str), ("at" : PySem.Str), ("number" : PySem.Str), ("row" : PySem.Str), ("column" : PySem.Str), ("part" : PySem.Str)]
def b_raised : IS := (.cons (.ret (.bi false .tuple (.cons (.comp false (.bi false .tuple (.cons (.comp false (.bop false .add (.var 5) (.bop false .mul (.var 2) (.bi false .int (.cons (.cmp .eq (.var 4) (.var 1)) .nil)))) (.tup (.cons (.var 4) (.cons (.var 5) .nil))) (.enum (.var 3)) .nil [4, 5]) .nil)) (.var 3) (.itv (.var 0)) .nil [3]) .nil)))
  .nil)
def d_raised : Df := ⟨3, 6, b_raised⟩
def n_moved : List Str := [("game" : PySem.Str), ("side" : PySem.Str), ("choice" : PySem.Str), ("number" : PySem.Str), ("found" : PySem.Str)]
def b_moved : IS := (.cons (.expr (.call i_need_game (.cons (.var 0) .nil)))
  (.cons (.expr (.call i_need_side (.cons (.var 1) .nil)))
  (.cons (.expr (.call i_need_number (.cons (.var 2) (.cons (.lit (.int 0)) (.cons (.bop false .sub (.call i_many_of (.cons (.var 0) (.cons (.bop false .sub (.lit (.int 1)) (.var 1)) .nil))) (.lit (.int 1))) .nil)))))
  (.cons (.ite (.cmp .eq (.var 1) (.lit (.int 0))) (.cons (.asg (.var 4) (.tup (.cons (.call i_raised (.cons (.idx (.var 0) (.lit (.int 0))) (.cons (.var 2) (.cons (.var 3) .nil)))) (.cons (.idx (.var 0) (.lit (.int 1))) .nil))))
    .nil) (.cons (.asg (.var 4) (.tup (.cons (.idx (.var 0) (.lit (.int 0))) (.cons (.call i_transposed (.cons (.call i_raised (.cons (.call i_transposed (.cons (.idx (.var 0) (.lit (.int 1))) .nil)) (.cons (.var 2) (.cons (.var 3) .nil)))) .nil)) .nil))))
    .nil))
  (.cons (.ite (.not (.call i_is_a_game (.cons (.var 4) .nil))) (.cons (.rais 1 (.var 4))
    .nil) .nil)
  (.cons (.ret (.var 4))
  .nil))))))
def d_moved : Df := ⟨4, 5, b_moved⟩
def n_without : List Str := [("game" : PySem.Str), ("side" : PySem.Str), ("choice" : PySem.Str), ("first" : PySem.Str), ("second" : PySem.Str), ("table" : PySem.Str), ("row" : PySem.Str)]
def b_without : IS := (.cons (.expr (.call i_need_game (.cons (.var 0) .nil)))
  (.cons (.expr (.call i_need_side (.cons (.var 1) .nil)))
  (.cons (.expr (.call i_need_number (.cons (.var 2) (.cons (.lit (.int 0)) (.cons (.bop false .sub (.call i_many_of (.cons (.var 0) (.cons (.var 1) .nil))) (.lit (.int 1))) .nil)))))
  (.cons (.ite (.cmp .eq (.call i_many_of (.cons (.var 0) (.cons (.var 1) .nil))) (.lit (.int 1))) (.cons (.rais 3 (.var 2))
    .nil) .nil)
  (.cons (.ite (.cmp .eq (.var 1) (.lit (.int 0))) (.cons (.ret (.tup (.cons (.bop false .add (.sli false (.idx (.var 0) (.lit (.int 0))) .nil (.cons (.var 2) .nil)) (.sli false (.idx (.var 0) (.lit (.int 0))) (.cons (.bop false .add (.var 2) (.lit (.int 1))) .nil) .nil)) (.cons (.bop false .add (.sli false (.idx (.var 0) (.lit (.int 1))) .nil (.cons (.var 2) .nil)) (.sli false (.idx (.var 0) (.lit (.int 1))) (.cons (.bop false .add (.var 2) (.lit (.int 1))) .nil) .nil)) .nil))))
    .nil) .nil)
  (.cons (.asg (.tup (.cons (.var 3) (.cons (.var 4) .nil))) (.comp false (.bi false .tuple (.cons (.comp false (.bop false .add (.sli false (.var 6) .nil (.cons (.var 2) .nil)) (.sli false (.var 6) (.cons (.bop false .add (.var 2) (.lit (.int 1))) .nil) .nil)) (.var 6) (.itv (.var 5)) .nil [6]) .nil)) (.var 5) (.itv (.var 0)) .nil [5]))
  (.cons (.ret (.tup (.cons (.var 3) (.cons (.var 4) .nil))))
  .nil)))))))
def d_without : Df := ⟨3, 7, b_without⟩
def n__law_source : List Str := [("script" : PySem.Str)]
def b__law_source : IS := (.cons (.ret (.lst true (.cons (.bi false .list (.cons (.var 0) .nil)) (.cons (.lit (.int 0)) (.cons (.lit (.int 0)) (.cons (.lit (.int 1)) (.cons (.lit (.int 0)) .nil)))))))
  .nil)
def d__law_source : Df := ⟨1, 1, b__law_source⟩
def n__law_pick : List Str := [("source" : PySem.Str), ("many" : PySem.Str), ("found" : PySem.Str), ("cell" : PySem.Str), ("mixed" : PySem.Str)]
def b__law_pick : IS := (.cons (.ite (.cmp .gt (.idx (.var 0) (.lit (.int 2))) (.lit (.int 0))) (.cons (.asg (.var 2) (.bop false .mod (.bi false .int (.cons (.idx (.var 0) (.lit (.int 2))) .nil)) (.var 1)))
    (.cons (.asg (.idx (.var 0) (.lit (.int 2))) (.bop false .fdiv (.bi false .int (.cons (.idx (.var 0) (.lit (.int 2))) .nil)) (.var 1)))
    (.cons (.ret (.var 2))
    .nil))) .nil)
  (.cons (.asg (.var 3) (.lit (.int 0)))
  (.cons (.ite (.cmp .lt (.idx (.var 0) (.lit (.int 1))) (.bi false .len (.cons (.idx (.var 0) (.lit (.int 0))) .nil))) (.cons (.asg (.var 3) (.idx (.idx (.var 0) (.lit (.int 0))) (.idx (.var 0) (.lit (.int 1)))))
    (.cons (.asg (.idx (.var 0) (.lit (.int 1))) (.bop false .add (.idx (.var 0) (.lit (.int 1))) (.lit (.int 1))))
    .nil)) .nil)
  (.cons (.asg (.idx (.var 0) (.lit (.int 4))) (.bop false .add (.idx (.var 0) (.lit (.int 4))) (.lit (.int 1))))
  (.cons (.ite (.cmp .ge (.bi false .abs (.cons (.var 3) .nil)) (.bop false .pow (.lit (.int 10)) (.lit (.int 18)))) (.cons (.asg (.idx (.var 0) (.lit (.int 2))) (.bop false .fdiv (.bi false .abs (.cons (.var 3) .nil)) (.var 1)))
    (.cons (.ret (.bop false .mod (.bi false .int (.cons (.bi false .abs (.cons (.var 3) .nil)) .nil)) (.var 1)))
    .nil)) .nil)
  (.cons (.asg (.var 4) (.bop false .mod (.bi false .int (.cons (.bop false .add (.bop false .add (.bop false .add (.bop false .mul (.idx (.var 0) (.lit (.int 3))) (.lit (.int 25214))) (.bop false .mul (.var 3) (.lit (.int 71863)))) (.bop false .mul (.idx (.var 0) (.lit (.int 4))) (.lit (.int 30011)))) (.lit (.int 523))) .nil)) (.lit (.int 1000000007))))
  (.cons (.asg (.var 4) (.bop false .mod (.bi false .int (.cons (.bop false .add (.bop false .add (.bop false .mul (.var 4) (.var 4)) (.bop false .mul (.var 3) (.lit (.int 13)))) (.idx (.var 0) (.lit (.int 4)))) .nil)) (.lit (.int 998244353))))
  (.cons (.asg (.idx (.var 0) (.lit (.int 3))) (.var 4))
  (.cons (.ite (.cmp .gt (.var 1) (.lit (.int 100000))) (.cons (.ret (.bop false .mod (.bi false .int (.cons (.bop false .add (.bop false .mod (.bop false .fdiv (.var 4) (.lit (.int 7))) (.lit (.int 100000))) (.bop false .mul (.lit (.int 100000)) (.call i__law_pick (.cons (.var 0) (.cons (.bop false .add (.bop false .fdiv (.var 1) (.lit (.int 100000))) (.lit (.int 1))) .nil))))) .nil)) (.var 1)))
    .nil) .nil)
  (.cons (.ret (.bop false .mod (.bi false .int (.cons (.bop false .fdiv (.var 4) (.lit (.int 7))) .nil)) (.var 1)))
  .nil))))))))))
def d__law_pick : Df := ⟨2, 5, b__law_pick⟩
def n__law_number : List Str := [("source" : PySem.Str), ("kind" : PySem.Str)]
def b__law_number : IS := (.cons (.ite (.cmp .lt (.var 1) (.lit (.int 3))) (.cons (.ret (.bop false .sub (.call i__law_pick (.cons (.var 0) (.cons (.idx (.lst false (.cons (.lit (.int 2)) (.cons (.lit (.int 3)) (.cons (.lit (.int 9)) .nil)))) (.var 1)) .nil))) (.idx (.lst false (.cons (.lit (.int 0)) (.cons (.lit (.int 1)) (.cons (.lit (.int 4)) .nil)))) (.var 1))))
    .nil) .nil)
  (.cons (.ite (.cmp .eq (.var 1) (.lit (.int 3))) (.cons (.ret (.idx (.lst false (.cons (.neg (.lit (.int 1000))) (.cons (.lit (.int 1000)) (.cons (.lit (.int 0)) (.cons (.lit (.int 999)) .nil))))) (.call i__law_pick (.cons (.var 0) (.cons (.lit (.int 4)) .nil)))))
    .nil) .nil)
  (.cons (.ret (.bop false .sub (.call i__law_pick (.cons (.var 0) (.cons (.lit (.int 2001)) .nil))) (.lit (.int 1000))))
  .nil)))
def d__law_number : Df := ⟨2, 2, b__law_number⟩
def n__law_table : List Str := [("source" : PySem.Str), ("rows" : PySem.Str), ("columns" : PySem.Str), ("kind" : PySem.Str), ("row" : PySem.Str), ("column" : PySem.Str)]
def b__law_table : IS := (.cons (.asg (.var 3) (.call i__law_pick (.cons (.var 0) (.cons (.lit (.int 5)) .nil))))
  (.cons (.ret (.bi false .tuple (.cons (.comp false (.bi false .tuple (.cons (.comp false (.call i__law_number (.cons (.var 0) (.cons (.var 3) .nil))) (.var 5) (.rng1 (.var 2)) .nil [5]) .nil)) (.var 4) (.rng1 (.var 1)) .nil [4]) .nil)))
  .nil))
def d__law_table : Df := ⟨3, 6, b__law_table⟩
def n__law_game : List Str := [("source" : PySem.Str), ("most" : PySem.Str), ("rows" : PySem.Str), ("columns" : PySem.Str)]
def b__law_game : IS := (.cons (.par (.var 2) (.var 3) (.bop false .add (.lit (.int 1)) (.call i__law_pick (.cons (.var 0) (.cons (.var 1) .nil)))) (.bop false .add (.lit (.int 1)) (.call i__law_pick (.cons (.var 0) (.cons (.var 1) .nil)))))
  (.cons (.ret (.tup (.cons (.call i__law_table (.cons (.var 0) (.cons (.var 2) (.cons (.var 3) .nil)))) (.cons (.call i__law_table (.cons (.var 0) (.cons (.var 2) (.cons (.var 3) .nil)))) .nil))))
  .nil))
def d__law_game : Df := ⟨2, 4, b__law_game⟩
def n__law_columns : List Str := [("table" : PySem.Str), ("k" : PySem.Str), ("row" : PySem.Str)]
def b__law_columns : IS := (.cons (.ret (.bi false .tuple (.cons (.comp false (.bi false .tuple (.cons (.comp false (.idx (.var 2) (.var 1)) (.var 2) (.itv (.var 0)) .nil [2]) .nil)) (.var 1) (.rng1 (.bi false .len (.cons (.idx (.var 0) (.lit (.int 0))) .nil))) .nil [1]) .nil)))
  .nil)
def d__law_columns : Df := ⟨1, 3, b__law_columns⟩
def n__law_due : List Str := [("way" : PySem.Str), ("game" : PySem.Str), ("side" : PySem.Str), ("choice" : PySem.Str), ("number" : PySem.Str), ("rows" : PySem.Str), ("row" : PySem.Str), ("part" : PySem.Str), ("table" : PySem.Str)]
def b__law_due : IS := (.cons (.ite (.cmp .eq (.var 0) (.lit (.int 0))) (.cons (.ret (.tup (.cons (.call i__law_columns (.cons (.idx (.var 1) (.lit (.int 1))) .nil)) (.cons (.call i__law_columns (.cons (.idx (.var 1) (.lit (.int 0))) .nil)) .nil))))
    .nil) .nil)
  (.cons (.ite (.and (.cons (.cmp .eq (.var 0) (.lit (.int 1))) (.cons (.cmp .eq (.var 2) (.lit (.int 0))) .nil))) (.cons (.asg (.var 5) (.comp false (.bop false .add (.bop false .add (.sli false (.var 6) .nil (.cons (.var 3) .nil)) (.tup (.cons (.bop false .add (.idx (.var 6) (.var 3)) (.var 4)) .nil))) (.sli false (.var 6) (.cons (.bop false .add (.var 3) (.lit (.int 1))) .nil) .nil)) (.var 6) (.itv (.idx (.var 1) (.lit (.int 0)))) .nil [6]))
    (.cons (.ret (.tup (.cons (.bi false .tuple (.cons (.var 5) .nil)) (.cons (.idx (.var 1) (.lit (.int 1))) .nil))))
    .nil)) .nil)
  (.cons (.ite (.cmp .eq (.var 0) (.lit (.int 1))) (.cons (.asg (.var 6) (.bi false .tuple (.cons (.comp false (.bop false .add (.var 7) (.var 4)) (.var 7) (.itv (.idx (.idx (.var 1) (.lit (.int 1))) (.var 3))) .nil [7]) .nil)))
    (.cons (.ret (.tup (.cons (.idx (.var 1) (.lit (.int 0))) (.cons (.bop false .add (.bop false .add (.sli false (.idx (.var 1) (.lit (.int 1))) .nil (.cons (.var 3) .nil)) (.tup (.cons (.var 6) .nil))) (.sli false (.idx (.var 1) (.lit (.int 1))) (.cons (.bop false .add (.var 3) (.lit (.int 1))) .nil) .nil)) .nil))))
    .nil)) .nil)
  (.cons (.ite (.cmp .eq (.var 2) (.lit (.int 0))) (.cons (.ret (.bi false .tuple (.cons (.comp false (.bop false .add (.sli false (.var 8) .nil (.cons (.var 3) .nil)) (.sli false (.var 8) (.cons (.bop false .add (.var 3) (.lit (.int 1))) .nil) .nil)) (.var 8) (.itv (.var 1)) .nil [8]) .nil)))
    .nil) .nil)
  (.cons (.ret (.bi false .tuple (.cons (.comp false (.bi false .tuple (.cons (.comp false (.bop false .add (.sli false (.var 6) .nil (.cons (.var 3) .nil)) (.sli false (.var 6) (.cons (.bop false .add (.var 3) (.lit (.int 1))) .nil) .nil)) (.var 6) (.itv (.var 8)) .nil [6]) .nil)) (.var 8) (.itv (.var 1)) .nil [8]) .nil)))
  .nil)))))
def d__law_due : Df := ⟨5, 9, b__law_due⟩
def n__law_call : List Str := [("way" : PySem.Str), ("named" : PySem.Str), ("game" : PySem.Str), ("side" : PySem.Str), ("choice" : PySem.Str), ("number" : PySem.Str), ("found" : PySem.Str), ("e" : PySem.Str)]
def b__law_call : IS := (.cons (.asg (.var 6) (.lit .none))
  (.cons (.tryx (.cons (.ite (.cmp .eq (.var 0) (.lit (.int 0))) (.cons (.asg (.var 6) (.idx (.lst false (.cons (.call i_turned (.cons (.var 2) .nil)) (.cons (.callk i_turned .nil (.cons (.var 2) .nil) [("game" : PySem.Str)] [0]) .nil))) (.var 1)))
      .nil) (.cons (.ite (.and (.cons (.cmp .eq (.var 0) (.lit (.int 1))) (.cons (.cmp .eq (.var 1) (.lit (.int 1))) .nil))) (.cons (.asg (.var 6) (.callk i_moved .nil (.cons (.var 4) (.cons (.var 5) (.cons (.var 2) (.cons (.var 3) .nil)))) [("choice" : PySem.Str), ("number" : PySem.Str), ("game" : PySem.Str), ("side" : PySem.Str)] [2, 3, 0, 1]))
        .nil) (.cons (.ite (.cmp .eq (.var 0) (.lit (.int 1))) (.cons (.asg (.var 6) (.call i_moved (.cons (.var 2) (.cons (.var 3) (.cons (.var 4) (.cons (.var 5) .nil))))))
          .nil) (.cons (.ite (.cmp .eq (.var 1) (.lit (.int 1))) (.cons (.asg (.var 6) (.callk i_without .nil (.cons (.var 4) (.cons (.var 3) (.cons (.var 2) .nil))) [("choice" : PySem.Str), ("side" : PySem.Str), ("game" : PySem.Str)] [2, 1, 0]))
            .nil) (.cons (.asg (.var 6) (.call i_without (.cons (.var 2) (.cons (.var 3) (.cons (.var 4) .nil)))))
            .nil))
          .nil))
        .nil))
      .nil))
    .nil) 7 [true, true, true, true] [(6, (.lst false (.cons (.exi [false, true, false, false]) (.cons (.exi [false, false, false, true]) (.cons .exv .nil)))))])
  (.cons (.ret (.var 6))
  .nil)))
def d__law_call : Df := ⟨6, 8, b__law_call⟩
def n__law_numbers : List Str := [("game" : PySem.Str), ("side" : PySem.Str), ("choice" : PySem.Str), ("row" : PySem.Str)]
def b__law_numbers : IS := (.cons (.ite (.cmp .eq (.var 1) (.lit (.int 0))) (.cons (.ret (.comp false (.idx (.var 3) (.var 2)) (.var 3) (.itv (.idx (.var 0) (.lit (.int 0)))) .nil [3]))
    .nil) .nil)
  (.cons (.ret (.bi false .list (.cons (.idx (.idx (.var 0) (.lit (.int 1))) (.var 2)) .nil)))
  .nil))
def d__law_numbers : Df := ⟨3, 4, b__law_numbers⟩
def n__law_drawn : List Str := [("source" : PySem.Str), ("game" : PySem.Str), ("way" : PySem.Str), ("side" : PySem.Str), ("sizes" : PySem.Str), ("choice" : PySem.Str), ("numbers" : PySem.Str), ("low" : PySem.Str), ("high" : PySem.Str), ("within" : PySem.Str), ("number" : PySem.Str), ("made" : PySem.Str)]
def b__law_drawn : IS := (.cons (.par (.var 2) (.var 3) (.idx (.lst false (.cons (.lit (.int 0)) (.cons (.lit (.int 1)) (.cons (.lit (.int 1)) (.cons (.lit (.int 2)) .nil))))) (.call i__law_pick (.cons (.var 0) (.cons (.lit (.int 4)) .nil)))) (.call i__law_pick (.cons (.var 0) (.cons (.lit (.int 2)) .nil))))
  (.cons (.asg (.var 4) (.lst false (.cons (.bi false .len (.cons (.idx (.var 1) (.lit (.int 0))) .nil)) (.cons (.bi false .len (.cons (.idx (.idx (.var 1) (.lit (.int 0))) (.lit (.int 0))) .nil)) .nil))))
  (.cons (.ite (.cmp .eq (.var 2) (.lit (.int 0))) (.cons (.ret (.tup (.cons (.tup (.cons (.lit (.int 0)) (.cons (.lit (.int 0)) (.cons (.lit (.int 0)) (.cons (.lit (.int 0)) .nil))))) (.cons (.call i__law_due (.cons (.lit (.int 0)) (.cons (.var 1) (.cons (.lit (.int 0)) (.cons (.lit (.int 0)) (.cons (.lit (.int 0)) .nil)))))) .nil))))
    .nil) .nil)
  (.cons (.ite (.cmp .eq (.var 2) (.lit (.int 2))) (.cons (.asg (.var 5) (.call i__law_pick (.cons (.var 0) (.cons (.idx (.var 4) (.var 3)) .nil))))
    (.cons (.ite (.cmp .eq (.idx (.var 4) (.var 3)) (.lit (.int 1))) (.cons (.ret (.tup (.cons (.tup (.cons (.lit (.int 2)) (.cons (.var 3) (.cons (.var 5) (.cons (.lit (.int 0)) .nil))))) (.cons (.lst false (.cons (.lit (.bool false)) (.cons (.lit (.bool true)) (.cons (.var 5) .nil)))) .nil))))
      .nil) .nil)
    (.cons (.ret (.tup (.cons (.tup (.cons (.lit (.int 2)) (.cons (.var 3) (.cons (.var 5) (.cons (.lit (.int 0)) .nil))))) (.cons (.call i__law_due (.cons (.lit (.int 2)) (.cons (.var 1) (.cons (.var 3) (.cons (.var 5) (.cons (.lit (.int 0)) .nil)))))) .nil))))
    .nil))) .nil)
  (.cons (.asg (.var 5) (.call i__law_pick (.cons (.var 0) (.cons (.idx (.var 4) (.bop false .sub (.lit (.int 1)) (.var 3))) .nil))))
  (.cons (.asg (.var 6) (.call i__law_numbers (.cons (.var 1) (.cons (.var 3) (.cons (.var 5) .nil)))))
  (.cons (.par (.var 7) (.var 8) (.bop false .sub (.neg (.lit (.int 1000))) (.bi false .min (.cons (.var 6) .nil))) (.bop false .sub (.lit (.int 1000)) (.bi false .max (.cons (.var 6) .nil))))
  (.cons (.asg (.var 9) (.bop false .add (.var 7) (.call i__law_pick (.cons (.var 0) (.cons (.bop false .add (.bop false .sub (.var 8) (.var 7)) (.lit (.int 1))) .nil)))))
  (.cons (.asg (.var 10) (.idx (.lst false (.cons (.var 7) (.cons (.var 8) (.cons (.lit (.int 0)) (.cons (.var 9) (.cons (.var 9) (.cons (.bop false .sub (.var 7) (.lit (.int 1))) (.cons (.bop false .add (.var 8) (.lit (.int 1))) (.cons (.bop false .add (.var 8) (.bop false .pow (.lit (.int 10)) (.lit (.int 40)))) .nil))))))))) (.call i__law_pick (.cons (.var 0) (.cons (.lit (.int 8)) .nil)))))
  (.cons (.asg (.var 11) (.call i__law_due (.cons (.lit (.int 1)) (.cons (.var 1) (.cons (.var 3) (.cons (.var 5) (.cons (.var 10) .nil)))))))
  (.cons (.ite (.not (.chain .le .le (.var 7) (.var 10) (.var 8))) (.cons (.ret (.tup (.cons (.tup (.cons (.lit (.int 1)) (.cons (.var 3) (.cons (.var 5) (.cons (.var 10) .nil))))) (.cons (.lst false (.cons (.lit (.bool true)) (.cons (.lit (.bool false)) (.cons (.var 11) .nil)))) .nil))))
    .nil) .nil)
  (.cons (.ret (.tup (.cons (.tup (.cons (.lit (.int 1)) (.cons (.var 3) (.cons (.var 5) (.cons (.var 10) .nil))))) (.cons (.var 11) .nil))))
  .nil))))))))))))
def d__law_drawn : Df := ⟨2, 12, b__law_drawn⟩
def n__law_right : List Str := [("named" : PySem.Str), ("game" : PySem.Str), ("deed" : PySem.Str), ("due" : PySem.Str), ("before" : PySem.Str), ("found" : PySem.Str)]
def b__law_right : IS := (.cons (.asg (.var 4) (.bi false .repr (.cons (.var 1) .nil)))
  (.cons (.asg (.var 5) (.call i__law_call (.cons (.idx (.var 2) (.lit (.int 0))) (.cons (.var 0) (.cons (.var 1) (.cons (.idx (.var 2) (.lit (.int 1))) (.cons (.idx (.var 2) (.lit (.int 2))) (.cons (.idx (.var 2) (.lit (.int 3))) .nil))))))))
  (.cons (.ret (.and (.cons (.cmp .eq (.bi false .repr (.cons (.var 5) .nil)) (.bi false .repr (.cons (.var 3) .nil))) (.cons (.cmp .eq (.bi false .repr (.cons (.var 1) .nil)) (.var 4)) .nil))))
  .nil)))
def d__law_right : Df := ⟨4, 6, b__law_right⟩
def n_law : List Str := [("script" : PySem.Str), ("source" : PySem.Str), ("turn" : PySem.Str), ("game" : PySem.Str), ("asked" : PySem.Str), ("step" : PySem.Str), ("deed" : PySem.Str), ("due" : PySem.Str), ("named" : PySem.Str), ("passed" : PySem.Str)]
def b_law : IS := (.cons (.asg (.var 1) (.call i__law_source (.cons (.var 0) .nil)))
  (.cons (.forr (.var 2) (.rng1 (.bi false .max (.cons (.lit (.int 1)) (.cons (.bi false .min (.cons (.lit (.int 3)) (.cons (.bi false .len (.cons (.var 0) .nil)) .nil))) .nil)))) (.cons (.asg (.var 3) (.call i__law_game (.cons (.var 1) (.cons (.lit (.int 5)) .nil))))
    (.cons (.asg (.var 4) (.lst true .nil))
    (.cons (.forr (.var 5) (.rng1 (.lit (.int 8))) (.cons (.asg (.tup (.cons (.var 6) (.cons (.var 7) .nil))) (.call i__law_drawn (.cons (.var 1) (.cons (.var 3) .nil))))
      (.cons (.asg (.var 8) (.call i__law_pick (.cons (.var 1) (.cons (.lit (.int 2)) .nil))))
      (.cons (.ite (.not (.call i__law_right (.cons (.var 8) (.cons (.var 3) (.cons (.var 6) (.cons (.var 7) .nil)))))) (.cons (.ret (.lit (.bool false)))
        .nil) .nil)
      (.cons (.expr (.me .append (.var 4) (.cons (.tup (.cons (.bop false .sub (.lit (.int 1)) (.var 8)) (.cons (.var 3) (.cons (.var 6) (.cons (.var 7) .nil))))) .nil)))
      (.cons (.ite (.isi (.var 7) .tuple) (.cons (.asg (.var 3) (.var 7))
        .nil) .nil)
      .nil))))))
    (.cons (.forr (.tup (.cons (.var 8) (.cons (.var 9) (.cons (.var 6) (.cons (.var 7) .nil))))) (.itv (.rev false (.var 4))) (.cons (.ite (.not (.call i__law_right (.cons (.var 8) (.cons (.var 9) (.cons (.var 6) (.cons (.var 7) .nil)))))) (.cons (.ret (.lit (.bool false)))
        .nil) .nil)
      .nil))
    (.cons (.ite (.cmp .ne (.bi false .repr (.cons (.call i_turned (.cons (.call i_turned (.cons (.var 3) .nil)) .nil)) .nil)) (.bi false .repr (.cons (.var 3) .nil))) (.cons (.ret (.lit (.bool false)))
      .nil) .nil)
    .nil))))))
  (.cons (.ret (.lit (.bool true)))
  .nil)))
def d_law : Df := ⟨1, 10, b_law⟩
def tab : List Df := [d_is_integer, d_anew, d_is_within, d_is_a_row, d_is_a_table, d_are_tables_like, d_is_a_game, d_is_a_side, d_many_of, d_need_game, d_need_side, d_need_number, d_transposed, d_turned, d_raised, d_moved, d_without, d__law_source, d__law_pick, d__law_number, d__law_table, d__law_game, d__law_columns, d__law_due, d__law_call, d__law_numbers, d__law_drawn, d__law_right, d_law]
end Law

set_option maxHeartbeats 1000000
namespace Law
open PySem SM
section
variable {fu k : Nat} {s : Sto}
def isInt : PyData → Bool
  | .int _ => true
  | _ => false
theorem is_integer_ok (x : PyData) : callI tab fu (k + 1) i_is_integer [.d x] s = .ok (.d (.bool (isInt x))) s := by
  cases x <;> exact leave_pure _ _
def isIn (lo hi : Int) : PyData → Bool
  | .int i => decide (lo ≤ i) && decide (i ≤ hi)
  | _ => false
theorem is_within_ok (x : PyData) (lo hi : Int) : callI tab fu (k + 2) i_is_within [.d x, .d (.int lo), .d (.int hi)] s = .ok (.d (.bool (isIn lo hi x))) s := by
  show leave s (exS (callI tab fu (k + 1)) fu b_is_within [some (.d x), some (.d (.int lo)), some (.d (.int hi))] s) = _
  have h : exS (callI tab fu (k + 1)) fu b_is_within [some (.d x), some (.d (.int lo)), some (.d (.int hi))] s = .rt (.d (.bool (isIn lo hi x))) s := by
    simp [b_is_within, evT_eq, is_integer_ok]
    cases x <;> simp [isInt, isIn, cmpV, ltI]
    rename_i i
    by_cases h : lo ≤ i <;> simp [h]
  rw [h, leave_pure]
def isRow (w : Nat) : PyData → Bool
  | .tuple xs => decide (xs.length = w) && xs.all (isIn (-1000) 1000)
  | _ => false
theorem is_a_row_ok (x : PyData) (w : Nat) (hw : w ≤ 16777216) : callI tab fu (k + 3) i_is_a_row [.d x, .d (.int w)] s = .ok (.d (.bool (isRow w x))) s := by
  show leave s (exS (callI tab fu (k + 2)) fu b_is_a_row [some (.d x), some (.d (.int w)), none] s) = _
  have h : exS (callI tab fu (k + 2)) fu b_is_a_row [some (.d x), some (.d (.int w)), none] s = .rt (.d (.bool (isRow w x))) s := by
    cases x <;> try (simp [b_is_a_row, evT_eq, isT, isRow]; done)
    rename_i xs
    by_cases hl : xs.length = w
    · have c : ev (callI tab fu (k + 2)) (.comp false (.call 2 (.cons (.var 2) (.cons (.neg (.glob ("MOST_NUMBER" : Str) (.int 1000))) (.cons (.glob ("MOST_NUMBER" : Str) (.int 1000)) .nil)))) (.var 2) (.itv (.var 0)) .nil [2]) [some (.d (.tuple xs)), some (.d (.int w)), none] s = .ok (.d (.list (xs.map fun x => .bool (isIn (-1000) 1000 x)))) s := by
        refine comp_map _ rfl (by omega) fun x _ => ⟨_, rfl, ?_⟩
        simp [wipe, is_within_ok]
      simp [b_is_a_row, evT_eq, isT, isRow, biV, lenV, itemsV, itemsD, cmpV, dataOf, eqD_int, hl, c, allV_map]
    · have hl' : ¬ ((xs.length : Int) = (w : Int)) := by omega
      simp [b_is_a_row, evT_eq, isT, isRow, biV, lenV, itemsV, itemsD, cmpV, dataOf, eqD_int, hl, hl']
  rw [h, leave_pure]
def isTab : PyData → Bool
  | .tuple (.tuple r :: rs) => decide (rs.length + 1 ≤ 5) && ((decide (1 ≤ r.length) && decide (r.length ≤ 5)) && (.tuple r :: rs).all (isRow r.length))
  | _ => false
theorem is_a_table_ok (x : PyData) : callI tab fu (k + 4) i_is_a_table [.d x] s = .ok (.d (.bool (isTab x))) s := by
  show leave s (exS (callI tab fu (k + 3)) fu b_is_a_table [some (.d x), none] s) = _
  have h : exS (callI tab fu (k + 3)) fu b_is_a_table [some (.d x), none] s = .rt (.d (.bool (isTab x))) s := by
    cases x <;> try (simp [b_is_a_table, evT_eq, isT, isTab]; done)
    rename_i xs
    cases xs with
    | nil => simp [b_is_a_table, evT_eq, isT, isTab, biV, lenV, itemsV, itemsD, cmpV, ltI]
    | cons y rs =>
      by_cases hl : rs.length + 1 ≤ 5
      · have h1 : (1:Int) ≤ (rs.length : Int) + 1 := by omega
        have h2 : (rs.length : Int) + 1 ≤ 5 := by omega
        cases y <;> try (simp [b_is_a_table, evT_eq, isT, isTab, biV, lenV, itemsV, itemsD, cmpV, ltI, hl, h1, h2, idx0]; done)
        rename_i r
        by_cases h3 : 1 ≤ r.length
        · have h4 : (1:Int) ≤ r.length := by omega
          by_cases h5 : r.length ≤ 5
          · have h6 : (r.length : Int) ≤ 5 := by omega
            have c : ev (callI tab fu (k + 3)) (.comp false (.call 3 (.cons (.var 1) (.cons (.bi false .len (.cons (.idx (.var 0) (.lit (.int 0))) .nil)) .nil))) (.var 1) (.itv (.var 0)) .nil [1]) [some (.d (.tuple (.tuple r :: rs))), none] s = .ok (.d (.list ((PyData.tuple r :: rs).map fun x => .bool (isRow r.length x)))) s := by
              refine comp_map _ rfl (by simp; omega) fun x _ => ⟨_, rfl, ?_⟩
              simp [wipe, idx0, biV, lenV, itemsV, itemsD, is_a_row_ok, show r.length ≤ 16777216 by omega]
            have av := allV_map (s := s) (isRow r.length) (PyData.tuple r :: rs)
            simp only [List.map_cons] at av
            simp [b_is_a_table, evT_eq, isT, isTab, biV, lenV, itemsV, itemsD, cmpV, ltI, hl, h1, h2, idx0, h3, h4, h5, h6, c, av]
          · have h6 : ¬ (r.length : Int) ≤ 5 := by omega
            simp [b_is_a_table, evT_eq, isT, isTab, biV, lenV, itemsV, itemsD, cmpV, ltI, hl, h1, h2, idx0, h3, h4, h5, h6]
        · have h4 : ¬ (1:Int) ≤ r.length := by omega
          simp [b_is_a_table, evT_eq, isT, isTab, biV, lenV, itemsV, itemsD, cmpV, ltI, hl, h1, h2, idx0, h3, h4]
      · have h1 : (1:Int) ≤ (rs.length : Int) + 1 := by omega
        have h2 : ¬ (rs.length : Int) + 1 ≤ 5 := by omega
        cases y <;> simp [b_is_a_table, evT_eq, isT, isTab, biV, lenV, itemsV, itemsD, cmpV, ltI, hl, h1, h2, idx0]
  rw [h, leave_pure]
def colN : PyData → Nat
  | .tuple (.tuple r :: _) => r.length
  | _ => 0
def rowN : PyData → Nat
  | .tuple rs => rs.length
  | _ => 0
theorem rowN_tup (rs : List PyData) : rowN (.tuple rs) = rs.length := rfl
theorem colN_tup (r rs : List PyData) : colN (.tuple (.tuple r :: rs)) = r.length := rfl
theorem isTab_inv {x : PyData} (h : isTab x = true) : ∃ r rs, x = .tuple (.tuple r :: rs) ∧ rs.length + 1 ≤ 5 ∧ 1 ≤ r.length ∧ r.length ≤ 5 ∧ ∀ y ∈ (PyData.tuple r :: rs), isRow r.length y = true := by
  unfold isTab at h
  split at h
  · rename_i r rs
    simp only [Bool.and_eq_true, decide_eq_true_eq, List.all_eq_true] at h
    exact ⟨r, rs, rfl, h.1, h.2.1.1, h.2.1.2, h.2.2⟩
  · cases h
end
section
variable {fu k : Nat} {s : Sto}
def isGame : PyData → Bool
  | .tuple [a, b] => isTab a && (isTab b && (decide (rowN b = rowN a) && decide (colN b = colN a)))
  | _ => false
theorem are_tables_like_ok (a b : PyData) (ha : isTab a = true) (n m : Nat) : callI tab fu (k + 5) i_are_tables_like [.d (.tuple [a, b]), .d (.int n), .d (.int m)] s =
    .ok (.d (.bool (isTab b && ((decide (rowN a = n) && decide (colN a = m)) && (decide (rowN b = n) && decide (colN b = m)))))) s := by
  show leave s (exS (callI tab fu (k + 4)) fu b_are_tables_like [some (.d (.tuple [a, b])), some (.d (.int n)), some (.d (.int m)), none] s) = _
  have h : exS (callI tab fu (k + 4)) fu b_are_tables_like [some (.d (.tuple [a, b])), some (.d (.int n)), some (.d (.int m)), none] s = .rt (.d (.bool (isTab b && ((decide (rowN a = n) && decide (colN a = m)) && (decide (rowN b = n) && decide (colN b = m)))))) s := by
    have c : ev (callI tab fu (k + 4)) (.comp false (.call 4 (.cons (.var 3) .nil)) (.var 3) (.itv (.var 0)) .nil [3]) [some (.d (.tuple [a, b])), some (.d (.int n)), some (.d (.int m)), none] s = .ok (.d (.list ([a, b].map fun x => .bool (isTab x)))) s := by
      refine comp_map _ rfl (by simp) fun x _ => ⟨_, rfl, ?_⟩
      simp [wipe, is_a_table_ok]
    have av := allV_map (s := s) isTab [a, b]
    simp only [List.map_cons, List.map_nil, ha] at av c
    cases hb : isTab b with
    | false =>
      simp only [hb] at av c
      simp [b_are_tables_like, evT_eq, isT, biV, lenV, itemsV, itemsD, cmpV, dataOf, eqD_int, c, av, ha, hb]
    | true =>
      obtain ⟨r, rs, rfl, h1, h2, h3, h4⟩ := isTab_inv ha
      obtain ⟨r', rs', rfl, g1, g2, g3, g4⟩ := isTab_inv hb
      have c2 : ev (callI tab fu (k + 4)) (.comp false (.and (.cons (.cmp .eq (.bi false .len (.cons (.var 3) .nil)) (.var 1)) (.cons (.cmp .eq (.bi false .len (.cons (.idx (.var 3) (.lit (.int 0))) .nil)) (.var 2)) .nil))) (.var 3) (.itv (.var 0)) .nil [3]) [some (.d (.tuple [.tuple (.tuple r :: rs), .tuple (.tuple r' :: rs')])), some (.d (.int n)), some (.d (.int m)), none] s =
          .ok (.d (.list ([PyData.tuple (.tuple r :: rs), .tuple (.tuple r' :: rs')].map fun x => .bool (decide (rowN x = n) && decide (colN x = m))))) s := by
        refine comp_map _ rfl (by simp) fun x hx => ⟨_, rfl, ?_⟩
        have hx : x = .tuple (.tuple r :: rs) ∨ x = .tuple (.tuple r' :: rs') := by simpa using hx
        have key : ∀ (r rs : List PyData), ev (callI tab fu (k + 4)) (.and (.cons (.cmp .eq (.bi false .len (.cons (.var 3) .nil)) (.var 1)) (.cons (.cmp .eq (.bi false .len (.cons (.idx (.var 3) (.lit (.int 0))) .nil)) (.var 2)) .nil))) [some (.d (.tuple [.tuple (.tuple r :: rs), .tuple (.tuple r' :: rs')])), some (.d (.int n)), some (.d (.int m)), some (.d (.tuple (.tuple r :: rs)))] s = .ok (.d (.bool (decide (rowN (.tuple (.tuple r :: rs)) = n) && decide (colN (.tuple (.tuple r :: rs)) = m)))) s := by
          intro r rs
          by_cases q : rs.length + 1 = n
          · have q' : (rs.length : Int) + 1 = n := by omega
            by_cases p : r.length = m
            · have p' : (r.length : Int) = m := by omega
              simp [evT_eq, biV, lenV, itemsV, itemsD, cmpV, dataOf, eqD_int, idx0, rowN, colN, q, q', p, p']
            · have p' : ¬ (r.length : Int) = m := by omega
              simp [evT_eq, biV, lenV, itemsV, itemsD, cmpV, dataOf, eqD_int, idx0, rowN, colN, q, q', p, p']
          · have q' : ¬ (rs.length : Int) + 1 = n := by omega
            simp [evT_eq, biV, lenV, itemsV, itemsD, cmpV, dataOf, eqD_int, idx0, rowN, colN, q, q']
        rcases hx with rfl | rfl
        · exact key r rs
        · exact key r' rs'
      have av2 := allV_map (s := s) (fun x => decide (rowN x = n) && decide (colN x = m)) [PyData.tuple (.tuple r :: rs), .tuple (.tuple r' :: rs')]
      simp only [List.map_cons, List.map_nil] at av2 c2
      simp only [hb] at av c
      simp [b_are_tables_like, evT_eq, isT, biV, lenV, itemsV, itemsD, cmpV, dataOf, eqD_int, c, av, ha, hb, c2, av2]
  rw [h, leave_pure]
theorem is_a_game_ok (x : PyData) : callI tab fu (k + 6) i_is_a_game [.d x] s = .ok (.d (.bool (isGame x))) s := by
  show leave s (exS (callI tab fu (k + 5)) fu b_is_a_game [some (.d x)] s) = _
  have h : exS (callI tab fu (k + 5)) fu b_is_a_game [some (.d x)] s = .rt (.d (.bool (isGame x))) s := by
    cases x <;> try (simp [b_is_a_game, evT_eq, isT, isGame]; done)
    rename_i xs
    cases xs with
    | nil => simp [b_is_a_game, evT_eq, isT, isGame, biV, lenV, itemsV, itemsD, cmpV, dataOf, eqD_int]
    | cons a xs =>
    cases xs with
    | nil => simp [b_is_a_game, evT_eq, isT, isGame, biV, lenV, itemsV, itemsD, cmpV, dataOf, eqD_int]
    | cons b xs =>
    cases xs with
    | cons c xs =>
      have h1 : ¬ ((xs.length : Int) + 1 + 1 + 1 = 2) := by omega
      simp [b_is_a_game, evT_eq, isT, isGame, biV, lenV, itemsV, itemsD, cmpV, dataOf, eqD_int, h1]
    | nil =>
      have ia : callI tab fu (k + 5) 4 [.d a] s = .ok (.d (.bool (isTab a))) s := is_a_table_ok (k := k + 1) a
      cases ha : isTab a with
      | false =>
        rw [ha] at ia
        simp [b_is_a_game, evT_eq, isT, isGame, biV, lenV, itemsV, itemsD, cmpV, dataOf, eqD_int, idx0, ia, ha]
      | true =>
        rw [ha] at ia
        obtain ⟨r, rs, rfl, h1, h2, h3, h4⟩ := isTab_inv ha
        have t := are_tables_like_ok (fu := fu) (k := k) (s := s) (.tuple (.tuple r :: rs)) b ha (rs.length + 1) r.length
        have e1 : ((rs.length + 1 : Nat) : Int) = (rs.length : Int) + 1 := by omega
        rw [e1] at t
        simp [rowN_tup, colN_tup] at t
        simp [b_is_a_game, evT_eq, isT, isGame, biV, lenV, itemsV, itemsD, cmpV, dataOf, eqD_int, idx0, ia, ha, t, rowN_tup, colN_tup]
        rfl
  rw [h, leave_pure]
end
section
variable {fu k : Nat} {s t u : Sto}
/-- the source of draws: cells, the next one's place, what is left, the mixed number, the count -/
def Src (n : Nat) (s : Sto) : Prop := ∃ (cs : List Int) (i : Nat) (r m c : Int), listAt n s = some [.d (.list (cs.map .int)), .d (.int i), .d (.int r), .d (.int m), .d (.int c)]
def Mv (n : Nat) (s t : Sto) : Prop := Src n t ∧ Fr n s t
theorem Mv.trans {n : Nat} (a : Mv n s t) (b : Mv n t u) : Mv n s u := ⟨b.1, a.2.trans b.2⟩
theorem Mv.refl {n : Nat} (h : Src n s) : Mv n s s := ⟨h, Fr.refl⟩
def inR (m : Int) (v : Vl) : Prop := ∃ i : Int, v = .d (.int i) ∧ 0 ≤ i ∧ i < m
theorem inR_mod (a : Int) {m : Int} (h : 1 ≤ m) : inR m (.d (.int (a % m))) := ⟨_, rfl, Int.emod_nonneg _ (by omega), Int.emod_lt_of_pos _ (by omega)⟩
theorem p10_18 : binI .pow 10 18 = some 1000000000000000000 := by decide +kernel
theorem pick_body {n K : Nat} {m : Int} (hs : Src n s) (hm : 1 ≤ m) (hl : m.natAbs.log2 < 9000)
    (rec : 100000 < m → ∀ s, Src n s → Ok (callI tab fu K i__law_pick [.r n, .d (.int (m / 100000 + 1))] s) (fun v t => Mv n s t ∧ inR (m / 100000 + 1) v) nX) : Ok (callI tab fu (K + 1) i__law_pick [.r n, .d (.int m)] s) (fun v t => Mv n s t ∧ inR m v) nX := by
  obtain ⟨cs, i, r, mx, c, hs⟩ := hs
  have hn := listAt_lt hs
  have m0 : 0 < m := by omega
  refine Ok_call (F := d__law_pick) rfl rfl ?_
  simp only [d__law_pick, b__law_pick]
  have mk : ∀ (a : Int) (b : Int), b.natAbs < 2 ^ 64 → mulOk a b := fun a b h => mulOk_r h
  have mm : ∀ a : Int, mulOk (a % 1000000007) (a % 1000000007) := fun a => mulOk_r (by omega)
  refine Sw_cut (fun e t => ¬ 0 < r ∧ e = [some (.r n), some (.d (.int m)), none, none, none] ∧ t = s) ?_ fun e t ⟨hr, he, ht⟩ => ?_
  · by_cases hr : 0 < r
    · simp [evT_eq, hs, hr, m0, hl, listAt_put, hn]
      exact Lv_len putL_length ⟨⟨⟨cs, i, _, _, _, listAt_put hn⟩, .put⟩, inR_mod _ hm⟩
    · simp [evT_eq, hs, hr]
  subst he ht
  refine Sw_cut (fun e u => e = [some (.r n), some (.d (.int m)), none, some (.d (.int 0)), none] ∧ u = t) (by simp) fun e u ⟨he, hu⟩ => ?_
  subst he hu
  refine Sw_cut (fun e t => ∃ (cell : Int) (i : Nat), e = [some (.r n), some (.d (.int m)), none, some (.d (.int cell)), none] ∧ Fr n u t ∧ listAt n t = some [.d (.list (cs.map .int)), .d (.int i), .d (.int r), .d (.int mx), .d (.int c)]) ?_ fun e t ⟨cell, i, he, ft, ht⟩ => ?_
  · by_cases hi : i < cs.length
    · have ca : L2.atI (List.map PyData.int cs) (i : Int) = some (.int cs[i]) := by rw [atI_nat (by simpa using hi)]; simp
      have hi' : (i : Int) < cs.length := by omega
      simp [evT_eq, hs, listAt_put, hn, hi', ca]
      exact ⟨.put, i + 1, by simp⟩
    · have hi' : ¬ (i : Int) < cs.length := by omega
      simp [evT_eq, hs, hi']
      exact ⟨.refl, i, rfl⟩
  subst he
  have hn := listAt_lt ht
  by_cases hc : 1000000000000000000 ≤ (cell.natAbs : Int)
  · simp [evT_eq, ht, m0, hl, listAt_put, hn, bin_pow p10_18, hc, putL_put]
    exact Lv_len (by rw [putL_length]; exact ft.1) ⟨⟨⟨cs, i, _, _, _, listAt_put hn⟩, ft.putr⟩, inR_mod _ hm⟩
  simp [evT_eq, ht, m0, hl, listAt_put, hn, bin_pow p10_18, hc, mk, mm, putL_put]
  by_cases hb : 100000 < m
  · simp [hb]
    refine (rec hb _ ⟨cs, i, _, _, _, listAt_put hn⟩).mono (fun v t2 ⟨⟨h1, h2⟩, j, e, h3, h4⟩ => ?_) fun _ _ _ z => z.elim
    subst e
    simp [mk, m0]
    exact Lv_len (h2.1.trans (by simpa using ft.1)) ⟨⟨h1, ft.putr.trans h2⟩, inR_mod _ hm⟩
  · simp [hb, m0]
    exact Lv_len (by rw [putL_length]; exact ft.1) ⟨⟨⟨cs, i, _, _, _, listAt_put hn⟩, ft.putr⟩, inR_mod _ hm⟩
theorem pick_ok {n : Nat} : ∀ (d : Nat) {K : Nat} {m : Int} {s : Sto}, d + 1 ≤ K → Src n s → 1 ≤ m → m ≤ 100000 * 50000 ^ d → m.natAbs.log2 < 9000 → Ok (callI tab fu K i__law_pick [.r n, .d (.int m)] s) (fun v t => Mv n s t ∧ inR m v) nX
  | 0, K, m, s, hK, hs, hm, hd, hl => by
    obtain ⟨K, rfl⟩ : ∃ k, K = k + 1 := ⟨K - 1, by omega⟩
    exact pick_body hs hm hl fun h => by omega
  | d + 1, K, m, s, hK, hs, hm, hd, hl => by
    obtain ⟨K, rfl⟩ : ∃ k, K = k + 1 := ⟨K - 1, by omega⟩
    refine pick_body hs hm hl fun h s hs => pick_ok d (by omega) hs (by omega) ?_ ?_
    · have e : (100000 : Int) * 50000 ^ (d + 1) = 50000 * (100000 * 50000 ^ d) := by rw [Int.pow_succ]; generalize (50000 : Int) ^ d = X; omega
      rw [e] at hd
      omega
    · refine Nat.lt_of_le_of_lt ?_ hl
      have h1 : (m / 100000 + 1).natAbs ≤ m.natAbs := by omega
      have h2 : (m / 100000 + 1).natAbs ≠ 0 := by omega
      exact (Nat.le_log2 (by omega)).mpr (Nat.le_trans (Nat.log2_self_le h2) h1)
end
section
variable {fu K n : Nat} {s t u : Sto}
theorem pick0 {m : Int} (hK : 1 ≤ K) (hs : Src n s) (h1 : 1 ≤ m) (h2 : m ≤ 100000) : Ok (callI tab fu K i__law_pick [.r n, .d (.int m)] s) (fun v t => Mv n s t ∧ inR m v) nX :=
  pick_ok 0 hK hs h1 (by simpa using h2) ((log2_s (by omega)).mpr trivial)
def isNum (v : Vl) : Prop := ∃ i : Int, v = .d (.int i) ∧ -1000 ≤ i ∧ i ≤ 1000
theorem number_ok {k : Int} (hK : 2 ≤ K) (hs : Src n s) (h0 : 0 ≤ k) (h5 : k < 5) : Ok (callI tab fu K i__law_number [.r n, .d (.int k)] s) (fun v t => Mv n s t ∧ isNum v) nX := by
  obtain ⟨K, rfl⟩ : ∃ k, K = k + 1 := ⟨K - 1, by omega⟩
  refine Ok_call (F := d__law_number) rfl rfl ?_
  have fin : ∀ {t : Sto} {i : Int}, Mv n s t → -1000 ≤ i → i ≤ 1000 → Lv s (.d (.int i)) t fun v t => Mv n s t ∧ isNum v := fun m h1 h2 => Lv_len m.2.1 ⟨m, _, rfl, h1, h2⟩
  have hk : k = 0 ∨ k = 1 ∨ k = 2 ∨ k = 3 ∨ k = 4 := by omega
  rcases hk with rfl | rfl | rfl | rfl | rfl
  all_goals simp [d__law_number, b__law_number, evT_eq]
  case inr.inr.inr.inl =>
    refine (pick0 (by omega) hs (by decide) (by decide)).imp fun v t ⟨m, j, e, j0, j1⟩ => ?_
    subst e
    have hj : j = 0 ∨ j = 1 ∨ j = 2 ∨ j = 3 := by omega
    rcases hj with rfl | rfl | rfl | rfl
    all_goals simp
    all_goals exact fin m (by decide) (by decide)
  all_goals
    refine (pick0 (by omega) hs (by decide) (by decide)).imp fun v t ⟨m, j, e, j0, j1⟩ => ?_
    subst e
    simp
    exact fin m (by omega) (by omega)
end
section
variable {fu K n : Nat} {s t u : Sto}
def rowOk (c : Int) (x : PyData) : Prop := ∃ r : List PyData, x = .tuple r ∧ (r.length : Int) = c ∧ ∀ y ∈ r, isIn (-1000) 1000 y = true
theorem table_ok {r c : Int} (hK : 3 ≤ K) (hs : Src n s) (r0 : 0 ≤ r) (r5 : r ≤ 5) (c0 : 0 ≤ c) (c5 : c ≤ 5) : Ok (callI tab fu K i__law_table [.r n, .d (.int r), .d (.int c)] s)
    (fun v t => Mv n s t ∧ ∃ xs : List PyData, v = .d (.tuple xs) ∧ (xs.length : Int) = r ∧ ∀ x ∈ xs, rowOk c x) nX := by
  obtain ⟨K, rfl⟩ : ∃ k, K = k + 1 := ⟨K - 1, by omega⟩
  refine Ok_call (F := d__law_table) rfl rfl ?_
  simp [d__law_table, b__law_table, evT_eq]
  refine (pick0 (by omega) hs (by decide) (by decide)).imp fun v t ⟨m, k, e, k0, k1⟩ => ?_
  subst e
  refine Ok_comp (fun _ t => Mv n s t) (rowOk c) (rng1_ok rfl r0 (by omega)) (by simp; omega) m (fun x hx i t m => ⟨_, rfl, ?_⟩) fun xs t hl hr m => ?_
  · simp [wipe]
    refine Ok_comp (fun _ t => Mv n s t) (fun y => isIn (-1000) 1000 y = true) (rng1_ok rfl c0 (by omega)) (by simp; omega) m (fun x hx i t m => ⟨_, rfl, ?_⟩) fun xs t hl hr m => ?_
    · simp [wipe]
      refine (number_ok (by omega) m.1 k0 k1).imp fun v t ⟨m2, i, e, h1, h2⟩ => ⟨m.trans m2, _, e, ?_⟩
      simp [isIn, h1, h2]
    · simp
      exact ⟨m, xs, rfl, by simp at hl; omega, hr⟩
  · simp
    exact Lv_len m.2.1 ⟨m, xs, rfl, by simp at hl; omega, hr⟩
theorem isTab_of {xs : List PyData} {c : Int} (h1 : 1 ≤ xs.length) (h5 : xs.length ≤ 5) (c1 : 1 ≤ c) (c5 : c ≤ 5) (h : ∀ x ∈ xs, rowOk c x) : isTab (.tuple xs) = true ∧ rowN (.tuple xs) = xs.length ∧ colN (.tuple xs) = c.toNat := by
  cases xs with
  | nil => simp at h1
  | cons x rs =>
    obtain ⟨r, e, hl, hr⟩ := h x List.mem_cons_self
    subst e
    refine ⟨?_, rfl, by simp [colN]; omega⟩
    simp only [isTab, Bool.and_eq_true, decide_eq_true_eq, List.all_eq_true]
    refine ⟨by simpa using h5, ⟨by omega, by omega⟩, fun y hy => ?_⟩
    obtain ⟨q, e, ql, qr⟩ := h y hy
    subst e
    simp only [isRow, Bool.and_eq_true, decide_eq_true_eq, List.all_eq_true]
    exact ⟨by omega, qr⟩
end
section
variable {fu K n : Nat} {s t u : Sto}
def isG (v : Vl) : Prop := ∃ g, v = .d g ∧ isGame g = true
theorem game_ok (hK : 4 ≤ K) (hs : Src n s) : Ok (callI tab fu K i__law_game [.r n, .d (.int 5)] s) (fun v t => Mv n s t ∧ isG v) nX := by
  obtain ⟨K, rfl⟩ : ∃ k, K = k + 1 := ⟨K - 1, by omega⟩
  refine Ok_call (F := d__law_game) rfl rfl ?_
  simp [d__law_game, b__law_game, evT_eq]
  refine (pick0 (by omega) hs (by decide) (by decide)).imp fun v t ⟨m, i, e, i0, i1⟩ => ?_
  subst e
  simp
  refine (pick0 (by omega) m.1 (by decide) (by decide)).imp fun v t ⟨m2, j, e, j0, j1⟩ => ?_
  subst e
  simp
  refine (table_ok (by omega) m2.1 (by omega) (by omega) (by omega) (by omega)).imp fun v t ⟨m3, xs, e, xl, xr⟩ => ?_
  subst e
  simp
  refine (table_ok (by omega) m3.1 (by omega) (by omega) (by omega) (by omega)).imp fun v t ⟨m4, ys, e, yl, yr⟩ => ?_
  subst e
  simp
  have m := ((m.trans m2).trans m3).trans m4
  obtain ⟨a1, a2, a3⟩ := isTab_of (by omega) (by omega) (by omega) (by omega) xr
  obtain ⟨b1, b2, b3⟩ := isTab_of (by omega) (by omega) (by omega) (by omega) yr
  refine Lv_len m.2.1 ⟨m, _, rfl, ?_⟩
  simp [isGame, a1, b1, a2, b2, a3, b3]
  omega
end
section
variable {fu K n : Nat} {s t u : Sto}
theorem ints_of {P : Int → Prop} : ∀ {xs : List PyData}, (∀ x ∈ xs, ∃ i : Int, x = .int i ∧ P i) → ∃ is : List Int, xs = is.map .int ∧ ∀ i ∈ is, P i
  | [], _ => ⟨[], rfl, fun _ h => by cases h⟩
  | x :: xs, h => by
    obtain ⟨i, rfl, p⟩ := h x List.mem_cons_self
    obtain ⟨is, rfl, q⟩ := ints_of (xs := xs) fun y hy => h y (List.mem_cons_of_mem _ hy)
    refine ⟨i :: is, rfl, fun j hj => ?_⟩
    rcases List.mem_cons.mp hj with rfl | hj
    · exact p
    · exact q j hj
theorem sum_nn : ∀ {is : List Int}, (∀ i ∈ is, 0 ≤ i ∧ i < 2 ^ 1480) → 0 ≤ is.sum
  | [], _ => by simp
  | i :: is, h => by
    have h1 := h i List.mem_cons_self
    have h2 := sum_nn (is := is) fun j hj => h j (List.mem_cons_of_mem _ hj)
    simp only [List.sum_cons]
    omega
theorem sum_pos {is : List Int} (h : ∀ i ∈ is, 0 ≤ i ∧ i < 2 ^ 1480) {i : Int} (hi : i ∈ is) (h1 : 1 ≤ i) : 0 < is.sum := by
  induction is with
  | nil => cases hi
  | cons a is ih =>
    have ha := h a List.mem_cons_self
    have h2 := sum_nn (is := is) fun j hj => h j (List.mem_cons_of_mem _ hj)
    simp only [List.sum_cons]
    rcases List.mem_cons.mp hi with rfl | hi
    · omega
    · have := ih (fun j hj => h j (List.mem_cons_of_mem _ hj)) hi
      omega
end
section
variable {fu K n : Nat} {s t u : Sto}
/-! ### games, typed -/
theorem isIn_inv {lo hi : Int} {x : PyData} (h : isIn lo hi x = true) : ∃ i : Int, x = .int i ∧ lo ≤ i ∧ i ≤ hi := by
  cases x <;> try (simp [isIn] at h; done)
  rename_i i
  simp [isIn] at h
  exact ⟨i, rfl, h⟩
theorem row_typed {w : Nat} {x : PyData} (h : isRow w x = true) : ∃ r : List Int, x = rowD r ∧ rwOk w r := by
  cases x <;> try (simp [isRow] at h; done)
  rename_i xs
  simp only [isRow, Bool.and_eq_true, decide_eq_true_eq, List.all_eq_true] at h
  obtain ⟨is, rfl, hi⟩ := ints_of (P := inB) (xs := xs) fun x hx => isIn_inv (h.2 x hx)
  exact ⟨is, rfl, by simpa using h.1, hi⟩
theorem tab_typed {x : PyData} (h : isTab x = true) : ∃ A : List (List Int), x = tabD A ∧ 1 ≤ A.length ∧ A.length ≤ 5 ∧ 1 ≤ colN x ∧ colN x ≤ 5 ∧ (∀ r ∈ A, rwOk (colN x) r) ∧ rowN x = A.length := by
  obtain ⟨r, rs, rfl, h1, h2, h3, h4⟩ := isTab_inv h
  have key : ∀ ys : List PyData, (∀ y ∈ ys, isRow r.length y = true) → ∃ A : List (List Int), ys = A.map rowD ∧ ∀ q ∈ A, rwOk r.length q := by
    intro ys
    induction ys with
    | nil => intro _; exact ⟨[], rfl, fun _ h => by cases h⟩
    | cons y ys ih =>
      intro hy
      obtain ⟨q, e, hq⟩ := row_typed (hy y List.mem_cons_self)
      obtain ⟨A, eA, hA⟩ := ih fun z hz => hy z (List.mem_cons_of_mem _ hz)
      refine ⟨q :: A, by rw [e, eA]; rfl, fun z hz => ?_⟩
      rcases List.mem_cons.mp hz with rfl | hz
      · exact hq
      · exact hA z hz
  obtain ⟨A, e, hA⟩ := key _ h4
  have hl : rs.length + 1 = A.length := by have := congrArg List.length e; simpa using this
  exact ⟨A, by rw [e]; rfl, by omega, by omega, h2, h3, hA, by rw [rowN_tup]; simpa using hl⟩
end
section
variable {fu K n : Nat} {s t u : Sto}
theorem game_typed {g : PyData} (h : isGame g = true) : ∃ A B R C, g = gD A B ∧ Gv A B R C := by
  unfold isGame at h
  split at h
  · rename_i a b
    simp only [Bool.and_eq_true, decide_eq_true_eq] at h
    obtain ⟨A, rfl, a1, a2, a3, a4, a5, a6⟩ := tab_typed h.1
    obtain ⟨B, rfl, b1, b2, b3, b4, b5, b6⟩ := tab_typed h.2.1
    refine ⟨A, B, A.length, colN (tabD A), rfl, ⟨rfl, ?_, a5, ?_, a1, a2, a3, a4⟩⟩
    · rw [← a6, ← b6]; exact h.2.2.1
    · rw [← h.2.2.2]; exact b5
  · cases h
theorem isGame_of {A B : List (List Int)} {R C : Nat} (h : Gv A B R C) : isGame (gD A B) = true := by
  have tb : ∀ T : List (List Int), T.length = R → (∀ r ∈ T, rwOk C r) → isTab (tabD T) = true ∧ rowN (tabD T) = R ∧ colN (tabD T) = C := by
    intro T hl hr
    cases T with
    | nil => have := h.r1; simp at hl; omega
    | cons r T =>
      have h0 := hr r List.mem_cons_self
      refine ⟨?_, by simpa [tabD, rowN] using hl, by simpa [tabD, rowD, colN] using h0.1⟩
      show isTab (.tuple (.tuple (r.map .int) :: T.map rowD)) = true
      simp only [isTab, Bool.and_eq_true, decide_eq_true_eq, List.all_eq_true]
      have r5 := h.r5
      have c1 := h.c1
      have c5 := h.c5
      have h00 := h0.1
      refine ⟨by simp at hl ⊢; omega, ⟨by simp; omega, by simp; omega⟩, fun y hy => ?_⟩
      have hy : y ∈ (r :: T).map rowD := hy
      obtain ⟨q, hq, rfl⟩ := List.mem_map.mp hy
      have hq := hr q hq
      show isRow _ (.tuple (q.map .int)) = true
      simp only [isRow, Bool.and_eq_true, decide_eq_true_eq, List.all_eq_true]
      refine ⟨by simp; rw [hq.1, h00], fun z hz => ?_⟩
      obtain ⟨i, hi, rfl⟩ := List.mem_map.mp hz
      have := hq.2 i hi
      simp [isIn, this.1, this.2]
  obtain ⟨a1, a2, a3⟩ := tb A h.ra h.ca
  obtain ⟨b1, b2, b3⟩ := tb B h.rb h.cb
  simp [gD, isGame, a1, a2, a3, b1, b2, b3]
end
section
variable {fu K n : Nat} {s t u : Sto}
variable {A B : List (List Int)} {R C : Nat}
theorem many_ok {sd : Nat} (hK : 1 ≤ K) (g : Gv A B R C) (h2 : sd < 2) : callI tab fu K i_many_of [.d (gD A B), .d (.int sd)] s = .ok (.d (.int (mn R C sd))) s := by
  obtain ⟨K, rfl⟩ : ∃ k, K = k + 1 := ⟨K - 1, by omega⟩
  have h0 : (0 : Nat) < A.length := by have := g.ra; have := g.r1; omega
  have r0 : L2.atI (A.map rowD) 0 = some (rowD (A.getD 0 [])) := at_row h0
  have l0 := (g.ca _ (getD_mem (d := []) h0)).1
  refine Ok_one (Ok_call (F := d_many_of) rfl rfl ?_)
  have h2 : sd = 0 ∨ sd = 1 := by omega
  rcases h2 with rfl | rfl
  · simp [d_many_of, b_many_of, evT_eq, g.ra]
    exact Lv_len rfl ⟨rfl, rfl⟩
  · simp [-List.getD_eq_getElem?_getD, d_many_of, b_many_of, evT_eq, r0, l0]
    exact Lv_len rfl ⟨rfl, rfl⟩
end
section
variable {fu K n : Nat} {s t u : Sto}
theorem is_game0 (x : PyData) (hK : 6 ≤ K) : callI tab fu K i_is_a_game [.d x] s = .ok (.d (.bool (isGame x))) s := by
  obtain ⟨K, rfl⟩ : ∃ k, K = k + 6 := ⟨K - 6, by omega⟩
  exact is_a_game_ok x
theorem need_game_ok {g : PyData} (hg : isGame g = true) (hK : 7 ≤ K) : callI tab fu K i_need_game [.d g] s = .ok (.d .none) s := by
  obtain ⟨K, rfl⟩ : ∃ k, K = k + 1 := ⟨K - 1, by omega⟩
  refine Ok_one (Ok_call (F := d_need_game) rfl rfl ?_)
  have h := is_game0 (fu := fu) (s := s) g (show 6 ≤ K by omega)
  simp [d_need_game, b_need_game, evT_eq, h, hg]
  exact Lv_len rfl ⟨rfl, rfl⟩
end
end Law

set_option maxHeartbeats 1000000
/-! SM: raise and try, as simp reads them. -/
namespace SM
open PySem
section
variable {C : Cal} {fu : Nat} {e : Sl} {s : Sto} {P : Pt}
@[simp] theorem Sw_rais (n : Nat) (a : IE) : Sw (exS C fu (.rais n a) e s) P = Ok (ev C a e s) (fun v t => P.x n v e t) (fun c v t => P.x c v e t) := by
  show Sw (match ev C a e s with
    | .ok v s => Fl.ex n v e s
    | .ex c v s => .ex c v e s
    | .no => .no) P = _
  cases ev C a e s <;> rfl
def HsQ (i c : Nat) (v : Vl) (h : List (Nat × HE)) (P : Pt) (e : Sl) (s : Sto) : Prop := Ok (exH c v h (e.set i none) s) (fun e s => P.n (e.set i none) s) fun _ _ _ => False
theorem Sw_tryx (b : IS) (i : Nat) (l : List Bool) (h : List (Nat × HE)) (hb : Sw (exS C fu b e s) ⟨P.n, P.r, P.b, P.c, fun c v e t => if inCls l c = true then HsQ i c v h P e t else P.x c v e t⟩) : Sw (exS C fu (.tryx b i l h) e s) P := by
  show Sw (match exS C fu b e s with
    | .ex c v e s => if inCls l c = true then (match exH c v h (e.set i none) s with
      | .ok e s => .nx (e.set i none) s
      | _ => .no) else .ex c v e s
    | .nx e s => .nx e s
    | .rt v s => .rt v s
    | .bk e s => .bk e s
    | .ct e s => .ct e s
    | .no => .no) P
  cases q : exS C fu b e s with
  | nx e1 s1 => rw [q] at hb; exact hb
  | rt v s1 => rw [q] at hb; exact hb
  | bk e1 s1 => rw [q] at hb; exact hb
  | ct e1 s1 => rw [q] at hb; exact hb
  | no => rw [q] at hb; exact hb
  | ex c v e1 s1 =>
    rw [q] at hb
    have hb : if inCls l c = true then HsQ i c v h P e1 s1 else P.x c v e1 s1 := hb
    show Sw (if inCls l c = true then (match exH c v h (e1.set i none) s1 with
      | .ok e s => .nx (e.set i none) s
      | _ => .no) else .ex c v e1 s1) P
    by_cases z : inCls l c = true
    · rw [if_pos z] at hb ⊢
      unfold HsQ at hb
      cases q2 : exH c v h (e1.set i none) s1 with
      | ok e2 s2 => rw [q2] at hb; exact hb
      | ex c2 v2 s2 => rw [q2] at hb; exact hb.elim
      | no => rw [q2] at hb; exact hb.elim
    · rw [if_neg z] at hb ⊢
      exact hb
variable {c : Nat} {v : Vl}
@[simp] theorem exH_nil : exH c v [] e s = .ok e s := rfl
@[simp] theorem exH_cons (i : Nat) (a : HE) (r : List (Nat × HE)) : exH c v ((i, a) :: r) e s = (evH c v a e s).bind fun x s => exH c v r (e.set i (some x)) s := rfl
@[simp] theorem evH_lit (d : PyData) : evH c v (.lit d) e s = .ok (.d d) s := rfl
@[simp] theorem evH_exv : evH c v .exv e s = .ok v s := rfl
@[simp] theorem evH_exi (l : List Bool) : evH c v (.exi l) e s = .ok (.d (.bool (inCls l c))) s := rfl
@[simp] theorem evH_lst (m : Bool) (es : HE) : evH c v (.lst m es) e s = (evHs c v es e s).bind fun vs s => ofP (mkL m vs s) := rfl
@[simp] theorem evH_add (m : Bool) (a b : HE) : evH c v (.add m a b) e s = (evH c v a e s).bind fun x s => (evH c v b e s).bind fun y s => ofP (binV m .add x y s) := rfl
@[simp] theorem evH_tup (es : HE) : evH c v (.tup es) e s = (evHs c v es e s).bind fun vs s => if vs.length ≤ 16777216 then ofO ((allD vs).map fun ds => .d (.tuple ds)) s else .no := rfl
@[simp] theorem evHs_nil : evHs c v .nil e s = .ok [] s := rfl
@[simp] theorem evHs_cons (a r : HE) : evHs c v (.cons a r) e s = (evH c v a e s).bind fun x s => (evHs c v r e s).bind fun xs s => .ok (x :: xs) s := rfl
end
end SM

set_option maxHeartbeats 1000000
namespace Law
open PySem SM
/-! ### tables turned, columns raised, choices left out -/
structure Sh (T : List (List Int)) (R C : Nat) : Prop where
  l : T.length = R
  c : ∀ r ∈ T, r.length = C
  r1 : 1 ≤ R
  r5 : R ≤ 5
  c1 : 1 ≤ C
  c5 : C ≤ 5
def trT (C : Nat) (T : List (List Int)) : List (List Int) := (List.range C).map fun j => T.map fun r => r.getD j 0
def addC (c : Nat) (x : Int) (T : List (List Int)) : List (List Int) := T.map fun r => r.set c (r.getD c 0 + x)
def addR (c : Nat) (x : Int) (T : List (List Int)) : List (List Int) := T.set c ((T.getD c []).map (· + x))
section
variable {fu K R C : Nat} {s : Sto} {T : List (List Int)} {c : Nat} {x : Int}
theorem Sh.tr (h : Sh T R C) : Sh (trT C T) C R := ⟨by simp [trT], fun r hr => by obtain ⟨j, _, rfl⟩ := List.mem_map.mp hr; simp [h.l], h.c1, h.c5, h.r1, h.r5⟩
theorem Sh.addC (h : Sh T R C) : Sh (addC c x T) R C := ⟨by simp [Law.addC, h.l], fun r hr => by obtain ⟨q, hq, rfl⟩ := List.mem_map.mp hr; simp [h.c q hq], h.r1, h.r5, h.c1, h.c5⟩
theorem Sh.addR (h : Sh T R C) (hc : c < R) : Sh (addR c x T) R C := ⟨by simp [Law.addR, h.l], fun r hr => by
  rcases List.mem_or_eq_of_mem_set hr with hr | rfl
  · exact h.c r hr
  · have := h.c _ (getD_mem (d := []) (show c < T.length by rw [h.l]; exact hc))
    simpa using this, h.r1, h.r5, h.c1, h.c5⟩
theorem trT_tr (h : Sh T R C) : trT R (trT C T) = T := by
  refine List.ext_getElem (by simp [trT, h.l]) fun i h1 h2 => ?_
  have hi : i < T.length := h2
  have hc := h.c _ (List.getElem_mem hi)
  refine List.ext_getElem (by simp [trT, hc]) fun j g1 g2 => ?_
  simp [trT, hi]
  have := SM.getD_lt (d := (0 : Int)) g2
  simpa using this
theorem addC_tr (h : Sh T R C) (hc : c < R) : trT R (addC c x (trT C T)) = addR c x T := by
  refine List.ext_getElem (by simp [trT, addR, h.l]) fun i h1 h2 => ?_
  have hi : i < T.length := by simpa [addR] using h2
  have hcl := h.c _ (List.getElem_mem hi)
  have hcT : c < T.length := by rw [h.l]; exact hc
  have hcc := h.c _ (List.getElem_mem hcT)
  refine List.ext_getElem ?_ fun j g1 g2 => ?_
  · simp only [addR, List.getElem_set]
    split
    · rw [SM.getD_lt hcT]; simp [trT, addC, hcc]
    · simp [trT, addC, hcl]
  · have hj : j < C := by simpa [trT, addC] using g1
    have e1 : (T[i])[j]? = some (T[i][j]'(by omega)) := List.getElem?_eq_getElem _
    have e2 : (T[c])[j]? = some (T[c][j]'(by omega)) := List.getElem?_eq_getElem _
    simp only [trT, addC, addR, List.getElem_map, List.getElem_range, List.getElem_set]
    by_cases hic : c = i
    · subst hic
      simp [hcT, e1, SM.getD_lt hcT, hcT]
    · simp [hic, hi, e1, List.getElem?_set]
theorem transposed_ok (hK : 1 ≤ K) (h : Sh T R C) : callI tab fu K i_transposed [.d (tabD T)] s = .ok (.d (tabD (trT C T))) s := by
  obtain ⟨K, rfl⟩ : ∃ k, K = k + 1 := ⟨K - 1, by omega⟩
  have hl := h.l
  have r1 := h.r1
  have r5 := h.r5
  have c5 := h.c5
  have r0 : L2.atI (T.map rowD) 0 = some (rowD (T.getD 0 [])) := at_row (i := 0) (by omega)
  have l0 : (T.getD 0 []).length = C := h.c _ (getD_mem (d := []) (by omega))
  have inner : ∀ j, j < C → ev (callI tab fu K) (.comp false (.idx (.var 2) (.var 1)) (.var 2) (.itv (.var 0)) .nil [2]) [some (.d (tabD T)), some (.d (.int (j : Nat))), none] s = .ok (.d (.list (T.map fun r => .int (r.getD j 0)))) s := fun j hj => by
    refine comp_on rowD _ rfl (by omega) fun r hr => ⟨_, rfl, ?_⟩
    have := at_int (r := r) (i := j) (by rw [h.c r hr]; exact hj)
    simp [-List.getD_eq_getElem?_getD, wipe, this]
  have outer : ev (callI tab fu K) (.comp false (.bi false .tuple (.cons (.comp false (.idx (.var 2) (.var 1)) (.var 2) (.itv (.var 0)) .nil [2]) .nil)) (.var 1) (.rng1 (.bi false .len (.cons (.idx (.var 0) (.lit (.int 0))) .nil))) .nil [1]) [some (.d (tabD T)), none, none] s = .ok (.d (.list ((List.range C).map fun j => rowD (T.map fun r => r.getD j 0)))) s := by
    refine comp_on (fun j : Nat => .int j) _ (by rw [rng1_ok (t := s) (k := C) (by simp [-List.getD_eq_getElem?_getD, r0, l0]) (by omega) (by omega)]; rfl) (by simp; omega) fun j hj => ⟨_, rfl, ?_⟩
    have hj : j < C := by simpa using hj
    simp [-List.getD_eq_getElem?_getD, wipe, inner j hj, rowD]
  refine Ok_one (Ok_call (F := d_transposed) rfl rfl ?_)
  simp [d_transposed, b_transposed, outer]
  refine Lv_len rfl ⟨?_, rfl⟩
  simp [tabD, trT, List.map_map, Function.comp_def]
theorem columns_ok (hK : 1 ≤ K) (h : Sh T R C) : callI tab fu K i__law_columns [.d (tabD T)] s = .ok (.d (tabD (trT C T))) s := by
  obtain ⟨K, rfl⟩ : ∃ k, K = k + 1 := ⟨K - 1, by omega⟩
  exact transposed_ok (by omega) h
theorem raised_ok (hK : 1 ≤ K) (h : Sh T R C) (hc : c < C) : callI tab fu K i_raised [.d (tabD T), .d (.int c), .d (.int x)] s = .ok (.d (tabD (addC c x T))) s := by
  obtain ⟨K, rfl⟩ : ∃ k, K = k + 1 := ⟨K - 1, by omega⟩
  have hl := h.l
  have r5 := h.r5
  have c5 := h.c5
  have inner : ∀ r : List Int, r.length = C → ev (callI tab fu K) (.comp false (.bop false .add (.var 5) (.bop false .mul (.var 2) (.bi false .int (.cons (.cmp .eq (.var 4) (.var 1)) .nil)))) (.tup (.cons (.var 4) (.cons (.var 5) .nil))) (.enum (.var 3)) .nil [4, 5])
      [some (.d (tabD T)), some (.d (.int c)), some (.d (.int x)), some (.d (rowD r)), none, none] s = .ok (.d (.list ((r.set c (r.getD c 0 + x)).map .int))) s := fun r hr => by
    have z := comp_on (C := callI tab fu K) (s := s) (elt := .bop false .add (.var 5) (.bop false .mul (.var 2) (.bi false .int (.cons (.cmp .eq (.var 4) (.var 1)) .nil)))) (tg := .tup (.cons (.var 4) (.cons (.var 5) .nil))) (it := .enum (.var 3)) (own := [4, 5]) (e := [some (.d (tabD T)), some (.d (.int c)), some (.d (.int x)), some (.d (rowD r)), none, none]) (xs := r.zipIdx) (fun p => .tuple [.int p.2, .int p.1]) (fun p => .int (p.1 + x * (if p.2 = c then 1 else 0)))
      (by
        show ofO (enumV (.d (.tuple (r.map .int)))) s = _
        show Rs.ok (Itr.vals ((r.map PyData.int).zipIdx.map fun p => PyData.tuple [.int p.2, p.1])) s = _
        rw [List.zipIdx_map, List.map_map]; rfl) (by simp; omega) (fun p hp => ⟨_, rfl, by
          have e : ((p.2 : Int) = (c : Int)) ↔ p.2 = c := by omega
          by_cases hpc : p.2 = c
          · simp [wipe, hpc, mulOk_r]
          · simp [wipe, e, hpc, mulOk_r]⟩)
    rw [z]
    congr 3
    refine List.ext_getElem (by simp) fun i h1 h2 => ?_
    have hi : i < r.length := by simpa using h1
    simp only [List.getElem_map, List.getElem_zipIdx, List.getElem_set]
    by_cases hic : c = i
    · subst hic
      simp [List.getD, hi]
    · have : ¬ (i = c) := by omega
      simp [hic, this]
  have outer : ev (callI tab fu K) (.comp false (.bi false .tuple (.cons (.comp false (.bop false .add (.var 5) (.bop false .mul (.var 2) (.bi false .int (.cons (.cmp .eq (.var 4) (.var 1)) .nil)))) (.tup (.cons (.var 4) (.cons (.var 5) .nil))) (.enum (.var 3)) .nil [4, 5]) .nil)) (.var 3) (.itv (.var 0)) .nil [3])
      [some (.d (tabD T)), some (.d (.int c)), some (.d (.int x)), none, none, none] s = .ok (.d (.list (T.map fun r => rowD (r.set c (r.getD c 0 + x))))) s := by
    refine comp_on rowD _ rfl (by omega) fun r hr => ⟨_, rfl, ?_⟩
    simp [-List.getD_eq_getElem?_getD, -List.map_set, wipe, inner r (h.c r hr)]
    rfl
  refine Ok_one (Ok_call (F := d_raised) rfl rfl ?_)
  simp [-List.getD_eq_getElem?_getD, d_raised, b_raised, outer]
  refine Lv_len rfl ⟨?_, rfl⟩
  simp [tabD, addC, List.map_map, Function.comp_def]
end
end Law

set_option maxHeartbeats 1000000
namespace Law
open PySem SM
/-! ### the program's functions, what the law has due -/
section
variable {C0 : Cal} {s : Sto} {m : Bool} {T U : List (List Int)} {r q : List Int} {c : Nat} {x : Int}
theorem sli_tabN : sliV m (.d (tabD T)) none (some (c : Int)) s = some (.d (tabD (T.take c)), s) := by
  show some (Vl.d (.tuple (cutL (T.map rowD) none (some (c : Int)))), s) = _
  rw [cut_to _ (by omega)]; simp [tabD, List.map_take]
theorem sli_tabF : sliV m (.d (tabD T)) (some ((c : Int) + 1)) none s = some (.d (tabD (T.drop (c + 1))), s) := by
  show some (Vl.d (.tuple (cutL (T.map rowD) (some ((c : Int) + 1)) none)), s) = _
  rw [cut_from _ (by omega), show ((c : Int) + 1).toNat = c + 1 by omega]; simp [tabD, List.map_drop]
theorem sli_rowN : sliV m (.d (rowD r)) none (some (c : Int)) s = some (.d (rowD (r.take c)), s) := by
  show some (Vl.d (.tuple (cutL (r.map PyData.int) none (some (c : Int)))), s) = _
  rw [cut_to _ (by omega)]; simp [rowD, List.map_take]
theorem sli_rowF : sliV m (.d (rowD r)) (some ((c : Int) + 1)) none s = some (.d (rowD (r.drop (c + 1))), s) := by
  show some (Vl.d (.tuple (cutL (r.map PyData.int) (some ((c : Int) + 1)) none)), s) = _
  rw [cut_from _ (by omega), show ((c : Int) + 1).toNat = c + 1 by omega]; simp [rowD, List.map_drop]
theorem add_tab (h : T.length + U.length ≤ 1000) : binV m .add (.d (tabD T)) (.d (tabD U)) s = some (.d (tabD (T ++ U)), s) := by
  unfold tabD
  rw [bin_tt, if_pos (by simp; omega), List.map_append]
theorem add_row (h : r.length + q.length ≤ 1000) : binV m .add (.d (rowD r)) (.d (rowD q)) s = some (.d (rowD (r ++ q)), s) := by
  unfold rowD
  rw [bin_tt, if_pos (by simp; omega), List.map_append]
theorem row1 (y : Int) : PyData.tuple [.int y] = rowD [y] := rfl
theorem tab1 (q : List Int) : PyData.tuple [rowD q] = tabD [q] := rfl
theorem set_cut {α : Type} (l : List α) {c : Nat} (a : α) (h : c < l.length) : l.take c ++ ([a] ++ l.drop (c + 1)) = l.set c a := by
  rw [List.set_eq_take_append_cons_drop, if_pos h]; rfl
theorem era_cut {α : Type} (l : List α) {c : Nat} : l.take c ++ l.drop (c + 1) = l.eraseIdx c := (List.eraseIdx_eq_take_drop_succ ..).symm
end
def mv (sd : Nat) (A B : List (List Int)) (c : Nat) (x : Int) : PyData := if sd = 0 then gD (addC c x A) B else gD A (addR c x B)
def wo (sd : Nat) (A B : List (List Int)) (c : Nat) : PyData := if sd = 0 then gD (A.eraseIdx c) (B.eraseIdx c) else gD (A.map (·.eraseIdx c)) (B.map (·.eraseIdx c))
section
variable {fu K R C : Nat} {s : Sto} {A B : List (List Int)} {c sd : Nat} {x : Int}
theorem shA (g : Gv A B R C) : Sh A R C := ⟨g.ra, fun r hr => (g.ca r hr).1, g.r1, g.r5, g.c1, g.c5⟩
theorem shB (g : Gv A B R C) : Sh B R C := ⟨g.rb, fun r hr => (g.cb r hr).1, g.r1, g.r5, g.c1, g.c5⟩
theorem need_g (g : Gv A B R C) (hK : 7 ≤ K) : callI tab fu K i_need_game [.d (gD A B)] s = .ok (.d .none) s := need_game_ok (isGame_of g) hK
theorem need_sd (hK : 5 ≤ K) (h : sd < 2) : callI tab fu K i_need_side [.d (.int sd)] s = .ok (.d .none) s := by
  obtain ⟨K, rfl⟩ : ∃ k, K = k + 5 := ⟨K - 5, by omega⟩
  have h1 : callI tab fu (K + 4) i_is_a_side [.d (.int sd)] s = .ok (.d (.bool true)) s := by
    refine Ok_one (Ok_call (F := d_is_a_side) rfl rfl ?_)
    have w := is_within_ok (fu := fu) (k := K + 1) (s := s) (.int sd) 0 1
    have e : isIn 0 1 (.int sd) = true := by simp [isIn]; omega
    rw [e] at w
    simp [d_is_a_side, b_is_a_side, w]
    exact Lv_len rfl ⟨rfl, rfl⟩
  refine Ok_one (Ok_call (F := d_need_side) rfl rfl ?_)
  simp [d_need_side, b_need_side, evT_eq, h1]
  exact Lv_len rfl ⟨rfl, rfl⟩
theorem need_nr {n hi : Int} (hK : 1 ≤ K) (h0 : 0 ≤ n) (h1 : n ≤ hi) : callI tab fu K i_need_number [.d (.int n), .d (.int 0), .d (.int hi)] s = .ok (.d .none) s := by
  obtain ⟨K, rfl⟩ : ∃ k, K = k + 1 := ⟨K - 1, by omega⟩
  refine Ok_one (Ok_call (F := d_need_number) rfl rfl ?_)
  have e1 : ¬ n < 0 := by omega
  have e2 : ¬ hi < n := by omega
  simp [d_need_number, b_need_number, evT_eq, e1, e2, cmpV, noneV, ltI]
  exact Lv_len rfl ⟨rfl, rfl⟩
theorem turned_ok (hK : 8 ≤ K) (g : Gv A B R C) : callI tab fu K i_turned [.d (gD A B)] s = .ok (.d (gD (trT C B) (trT C A))) s := by
  obtain ⟨K, rfl⟩ : ∃ k, K = k + 1 := ⟨K - 1, by omega⟩
  refine Ok_one (Ok_call (F := d_turned) rfl rfl ?_)
  simp [d_turned, b_turned, need_g g (show 7 ≤ K by omega), transposed_ok (show 1 ≤ K by omega) (shA g), transposed_ok (show 1 ≤ K by omega) (shB g)]
  exact Lv_len rfl ⟨rfl, rfl⟩
theorem moved_ok (hK : 8 ≤ K) (g : Gv A B R C) (h2 : sd < 2) (hc : c < mn R C (1 - sd)) : Ok (callI tab fu K i_moved [.d (gD A B), .d (.int sd), .d (.int c), .d (.int x)] s)
    (fun v t => isGame (mv sd A B c x) = true ∧ v = .d (mv sd A B c x) ∧ t = s) (fun n v t => isGame (mv sd A B c x) = false ∧ n = 1 ∧ v = .d (mv sd A B c x) ∧ t = s) := by
  obtain ⟨K, rfl⟩ : ∃ k, K = k + 1 := ⟨K - 1, by omega⟩
  have hg : ∀ y : PyData, callI tab fu K i_is_a_game [.d y] s = .ok (.d (.bool (isGame y))) s := fun y => is_game0 y (by omega)
  have h2 : sd = 0 ∨ sd = 1 := by omega
  refine Ok_call (F := d_moved) rfl rfl ?_
  rcases h2 with rfl | rfl
  · have mc := many_ok (fu := fu) (K := K) (s := s) (sd := 1) (by omega) g (by omega)
    have nn := need_nr (fu := fu) (K := K) (s := s) (n := c) (hi := (C : Int) - 1) (by omega) (by omega) (by simp at hc; omega)
    have ns := need_sd (fu := fu) (K := K) (s := s) (sd := 0) (by omega) (by omega)
    have rs := raised_ok (fu := fu) (K := K) (s := s) (x := x) (by omega) (shA g) (c := c) (by simpa using hc)
    have mve : mv 0 A B c x = gD (addC c x A) B := rfl
    have hgg := hg (gD (addC c x A) B)
    have gd : PyData.tuple [tabD (addC c x A), tabD B] = gD (addC c x A) B := rfl
    simp at mc ns nn
    rw [mve]
    simp [d_moved, b_moved, evT_eq, need_g g (show 7 ≤ K by omega), mc, nn, ns, rs, gd, hgg]
    cases isGame (gD (addC c x A) B) with
    | true => simp; exact Lv_len rfl ⟨rfl, rfl⟩
    | false => simp
  · have mc := many_ok (fu := fu) (K := K) (s := s) (sd := 0) (by omega) g (by omega)
    have nn := need_nr (fu := fu) (K := K) (s := s) (n := c) (hi := (R : Int) - 1) (by omega) (by omega) (by simp at hc; omega)
    have ns := need_sd (fu := fu) (K := K) (s := s) (sd := 1) (by omega) (by omega)
    have t1 := transposed_ok (fu := fu) (K := K) (s := s) (by omega) (shB g)
    have rs := raised_ok (fu := fu) (K := K) (s := s) (x := x) (by omega) (shB g).tr (c := c) (by simpa using hc)
    have t2 := transposed_ok (fu := fu) (K := K) (s := s) (by omega) ((shB g).tr.addC (c := c) (x := x))
    rw [addC_tr (shB g) (by simpa using hc)] at t2
    have mve : mv 1 A B c x = gD A (addR c x B) := rfl
    have hgg := hg (gD A (addR c x B))
    have gd : PyData.tuple [tabD A, tabD (addR c x B)] = gD A (addR c x B) := rfl
    simp at mc ns nn
    rw [mve]
    simp [d_moved, b_moved, evT_eq, need_g g (show 7 ≤ K by omega), mc, nn, ns, t1, rs, t2, gd, hgg]
    cases isGame (gD A (addR c x B)) with
    | true => simp; exact Lv_len rfl ⟨rfl, rfl⟩
    | false => simp
theorem without_ok (hK : 8 ≤ K) (g : Gv A B R C) (h2 : sd < 2) (hc : c < mn R C sd) : Ok (callI tab fu K i_without [.d (gD A B), .d (.int sd), .d (.int c)] s)
    (fun v t => mn R C sd ≠ 1 ∧ v = .d (wo sd A B c) ∧ t = s) (fun n v t => mn R C sd = 1 ∧ n = 3 ∧ v = .d (.int c) ∧ t = s) := by
  obtain ⟨K, rfl⟩ : ∃ k, K = k + 1 := ⟨K - 1, by omega⟩
  have la := g.ra
  have lb := g.rb
  have r5 := g.r5
  have c5 := g.c5
  have mc := many_ok (fu := fu) (K := K) (s := s) (sd := sd) (by omega) g h2
  have nn := need_nr (fu := fu) (K := K) (s := s) (n := c) (hi := (mn R C sd : Int) - 1) (by omega) (by omega) (by omega)
  have ns := need_sd (fu := fu) (K := K) (s := s) (sd := sd) (by omega) h2
  refine Ok_call (F := d_without) rfl rfl ?_
  by_cases h1 : mn R C sd = 1
  · have e : ((mn R C sd : Nat) : Int) = 1 := by omega
    rw [e] at nn mc
    simp at nn
    simp [d_without, b_without, evT_eq, need_g g (show 7 ≤ K by omega), mc, nn, ns, h1]
  · have e : ¬ ((mn R C sd : Nat) : Int) = 1 := by omega
    have h2 : sd = 0 ∨ sd = 1 := by omega
    rcases h2 with rfl | rfl
    · simp at mc nn ns e hc
      have aa : ∀ T : List (List Int), T.length = R → binV false .add (.d (tabD (T.take c))) (.d (tabD (T.drop (c + 1)))) s = some (.d (tabD (T.eraseIdx c)), s) := fun T hT => by rw [add_tab (by simp; omega), era_cut]
      simp [d_without, b_without, evT_eq, need_g g (show 7 ≤ K by omega), mc, nn, ns, e, h1, sli_tabN, sli_tabF, aa A la, aa B lb]
      exact Lv_len rfl ⟨by simpa using h1, rfl, rfl⟩
    · simp at mc nn ns e hc
      have inner : ∀ (U : List (List Int)), (∀ r ∈ U, r.length = C) → U.length = R → ev (callI tab fu K) (.comp false (.bop false .add (.sli false (.var 6) .nil (.cons (.var 2) .nil)) (.sli false (.var 6) (.cons (.bop false .add (.var 2) (.lit (.int 1))) .nil) .nil)) (.var 6) (.itv (.var 5)) .nil [6])
          [some (.d (gD A B)), some (.d (.int 1)), some (.d (.int c)), none, none, some (.d (tabD U)), none] s = .ok (.d (.list (U.map fun r => rowD (r.eraseIdx c)))) s := fun U hU hl => by
        refine comp_on rowD _ rfl (by omega) fun r hr => ⟨_, rfl, ?_⟩
        have := hU r hr
        simp [wipe, sli_rowN, sli_rowF]
        rw [add_row (by simp; omega), era_cut]; rfl
      have outer : ev (callI tab fu K) (.comp false (.bi false .tuple (.cons (.comp false (.bop false .add (.sli false (.var 6) .nil (.cons (.var 2) .nil)) (.sli false (.var 6) (.cons (.bop false .add (.var 2) (.lit (.int 1))) .nil) .nil)) (.var 6) (.itv (.var 5)) .nil [6]) .nil)) (.var 5) (.itv (.var 0)) .nil [5])
          [some (.d (gD A B)), some (.d (.int 1)), some (.d (.int c)), none, none, none, none] s = .ok (.d (.list ([A, B].map fun U => tabD (U.map (·.eraseIdx c))))) s := by
        refine comp_on tabD _ rfl (by simp) fun U hU => ⟨_, rfl, ?_⟩
        have hU : U = A ∨ U = B := by simpa using hU
        have := inner U (fun r hr => by rcases hU with rfl | rfl; exact (shA g).c r hr; exact (shB g).c r hr) (by rcases hU with rfl | rfl <;> assumption)
        simp [wipe, this]
        simp [tabD, List.map_map, Function.comp_def]
      simp at outer
      have st : ∀ (X Y : PyData) (e : Sl), setTgV (.tup (.cons (.var 3) (.cons (.var 4) .nil))) (.d (.list [X, Y])) e = some ((e.set 3 (some (.d X))).set 4 (some (.d Y))) := fun _ _ _ => rfl
      simp [d_without, b_without, evT_eq, need_g g (show 7 ≤ K by omega), mc, nn, ns, e, h1, outer, st]
      exact Lv_len rfl ⟨by simpa using h1, rfl, rfl⟩
end
end Law

set_option maxHeartbeats 1000000
namespace Law
open PySem SM
section
variable {fu K R C : Nat} {s : Sto} {A B : List (List Int)} {c sd : Nat} {x : Int}
theorem due0_ok (hK : 2 ≤ K) (g : Gv A B R C) : callI tab fu K i__law_due [.d (.int 0), .d (gD A B), .d (.int 0), .d (.int 0), .d (.int 0)] s = .ok (.d (gD (trT C B) (trT C A))) s := by
  obtain ⟨K, rfl⟩ : ∃ k, K = k + 1 := ⟨K - 1, by omega⟩
  refine Ok_one (Ok_call (F := d__law_due) rfl rfl ?_)
  simp [d__law_due, b__law_due, evT_eq, columns_ok (show 1 ≤ K by omega) (shA g), columns_ok (show 1 ≤ K by omega) (shB g)]
  exact Lv_len rfl ⟨rfl, rfl⟩
theorem due1_ok (hK : 2 ≤ K) (g : Gv A B R C) (h2 : sd < 2) (hc : c < mn R C (1 - sd)) : callI tab fu K i__law_due [.d (.int 1), .d (gD A B), .d (.int sd), .d (.int c), .d (.int x)] s = .ok (.d (mv sd A B c x)) s := by
  obtain ⟨K, rfl⟩ : ∃ k, K = k + 1 := ⟨K - 1, by omega⟩
  have la := g.ra
  have lb := g.rb
  have r5 := g.r5
  have c5 := g.c5
  have h2 : sd = 0 ∨ sd = 1 := by omega
  refine Ok_one (Ok_call (F := d__law_due) rfl rfl ?_)
  rcases h2 with rfl | rfl
  · have hc : c < C := by simpa using hc
    have inner : ev (callI tab fu K) (.comp false (.bop false .add (.bop false .add (.sli false (.var 6) .nil (.cons (.var 3) .nil)) (.tup (.cons (.bop false .add (.idx (.var 6) (.var 3)) (.var 4)) .nil))) (.sli false (.var 6) (.cons (.bop false .add (.var 3) (.lit (.int 1))) .nil) .nil)) (.var 6) (.itv (.idx (.var 1) (.lit (.int 0)))) .nil [6])
        [some (.d (.int 1)), some (.d (gD A B)), some (.d (.int 0)), some (.d (.int c)), some (.d (.int x)), none, none, none, none] s = .ok (.d (.list ((addC c x A).map rowD))) s := by
      have z := comp_on (C := callI tab fu K) (s := s) (elt := .bop false .add (.bop false .add (.sli false (.var 6) .nil (.cons (.var 3) .nil)) (.tup (.cons (.bop false .add (.idx (.var 6) (.var 3)) (.var 4)) .nil))) (.sli false (.var 6) (.cons (.bop false .add (.var 3) (.lit (.int 1))) .nil) .nil)) (tg := .var 6) (it := .itv (.idx (.var 1) (.lit (.int 0)))) (own := [6])
        (e := [some (.d (.int 1)), some (.d (gD A B)), some (.d (.int 0)), some (.d (.int c)), some (.d (.int x)), none, none, none, none]) (xs := A) rowD (fun r => rowD (r.set c (r.getD c 0 + x))) (by simp) (by omega) (fun r hr => ⟨_, rfl, by
          have hl := (shA g).c r hr
          have ai := at_int (r := r) (i := c) (by omega)
          have a1 : binV false .add (.d (rowD (r.take c))) (.d (rowD [r.getD c 0 + x])) s = some (.d (rowD (r.take c ++ [r.getD c 0 + x])), s) := add_row (by simp; omega)
          have a2 : binV false .add (.d (rowD (r.take c ++ [r.getD c 0 + x]))) (.d (rowD (r.drop (c + 1)))) s = some (.d (rowD (r.set c (r.getD c 0 + x))), s) := by
            rw [add_row (by simp; omega), List.append_assoc, set_cut _ _ (by omega)]
          simp [-List.getD_eq_getElem?_getD, wipe, ai, sli_rowN, sli_rowF, row1, a1, a2]⟩)
      rw [z]
      simp [addC, List.map_map, Function.comp_def]
    simp [d__law_due, b__law_due, evT_eq, inner]
    exact Lv_len rfl ⟨rfl, rfl⟩
  · have hc : c < R := by simpa using hc
    have hcB : c < B.length := by omega
    have ar := at_row (A := B) (i := c) hcB
    have inner : ev (callI tab fu K) (.comp false (.bop false .add (.var 7) (.var 4)) (.var 7) (.itv (.idx (.idx (.var 1) (.lit (.int 1))) (.var 3))) .nil [7])
        [some (.d (.int 1)), some (.d (gD A B)), some (.d (.int 1)), some (.d (.int c)), some (.d (.int x)), none, none, none, none] s = .ok (.d (.list ((B.getD c []).map fun y => .int (y + x)))) s := by
      have hl := (shB g).c _ (getD_mem (d := []) hcB)
      refine comp_on PyData.int _ (by simp [-List.getD_eq_getElem?_getD, ar]) (by omega) fun y hy => ⟨_, rfl, ?_⟩
      simp [wipe]
    have e1 : PyData.tuple ((B.getD c []).map fun y => .int (y + x)) = rowD ((B.getD c []).map (· + x)) := by simp [rowD, List.map_map, Function.comp_def]
    have a1 : binV false .add (.d (tabD (B.take c))) (.d (tabD [(B.getD c []).map (· + x)])) s = some (.d (tabD (B.take c ++ [(B.getD c []).map (· + x)])), s) := add_tab (by simp; omega)
    have a2 : binV false .add (.d (tabD (B.take c ++ [(B.getD c []).map (· + x)]))) (.d (tabD (B.drop (c + 1)))) s = some (.d (tabD (addR c x B)), s) := by
      rw [add_tab (by simp; omega), List.append_assoc, set_cut _ _ hcB]; rfl
    simp [-List.getD_eq_getElem?_getD, d__law_due, b__law_due, evT_eq, inner, e1, tab1, sli_tabN, sli_tabF, a1, a2]
    exact Lv_len rfl ⟨rfl, rfl⟩
theorem due2_ok (hK : 2 ≤ K) (g : Gv A B R C) (h2 : sd < 2) (hc : c < mn R C sd) : callI tab fu K i__law_due [.d (.int 2), .d (gD A B), .d (.int sd), .d (.int c), .d (.int 0)] s = .ok (.d (wo sd A B c)) s := by
  obtain ⟨K, rfl⟩ : ∃ k, K = k + 1 := ⟨K - 1, by omega⟩
  have la := g.ra
  have lb := g.rb
  have r5 := g.r5
  have c5 := g.c5
  have h2 : sd = 0 ∨ sd = 1 := by omega
  refine Ok_one (Ok_call (F := d__law_due) rfl rfl ?_)
  rcases h2 with rfl | rfl
  · have inner : ev (callI tab fu K) (.comp false (.bop false .add (.sli false (.var 8) .nil (.cons (.var 3) .nil)) (.sli false (.var 8) (.cons (.bop false .add (.var 3) (.lit (.int 1))) .nil) .nil)) (.var 8) (.itv (.var 1)) .nil [8])
        [some (.d (.int 2)), some (.d (gD A B)), some (.d (.int 0)), some (.d (.int c)), some (.d (.int 0)), none, none, none, none] s = .ok (.d (.list ([A, B].map fun U => tabD (U.eraseIdx c)))) s := by
      refine comp_on tabD _ rfl (by simp) fun U hU => ⟨_, rfl, ?_⟩
      have hU : U = A ∨ U = B := by simpa using hU
      have hl : U.length = R := by rcases hU with rfl | rfl <;> assumption
      simp [wipe, sli_tabN, sli_tabF]
      rw [add_tab (by simp; omega), era_cut]; rfl
    simp at inner
    simp [d__law_due, b__law_due, evT_eq, inner]
    exact Lv_len rfl ⟨rfl, rfl⟩
  · have inner : ∀ (U : List (List Int)), (∀ r ∈ U, r.length = C) → U.length = R → ev (callI tab fu K) (.comp false (.bop false .add (.sli false (.var 6) .nil (.cons (.var 3) .nil)) (.sli false (.var 6) (.cons (.bop false .add (.var 3) (.lit (.int 1))) .nil) .nil)) (.var 6) (.itv (.var 8)) .nil [6])
        [some (.d (.int 2)), some (.d (gD A B)), some (.d (.int 1)), some (.d (.int c)), some (.d (.int 0)), none, none, none, some (.d (tabD U))] s = .ok (.d (.list (U.map fun r => rowD (r.eraseIdx c)))) s := fun U hU hl => by
      refine comp_on rowD _ rfl (by omega) fun r hr => ⟨_, rfl, ?_⟩
      have := hU r hr
      simp [wipe, sli_rowN, sli_rowF]
      rw [add_row (by simp; omega), era_cut]; rfl
    have outer : ev (callI tab fu K) (.comp false (.bi false .tuple (.cons (.comp false (.bop false .add (.sli false (.var 6) .nil (.cons (.var 3) .nil)) (.sli false (.var 6) (.cons (.bop false .add (.var 3) (.lit (.int 1))) .nil) .nil)) (.var 6) (.itv (.var 8)) .nil [6]) .nil)) (.var 8) (.itv (.var 1)) .nil [8])
        [some (.d (.int 2)), some (.d (gD A B)), some (.d (.int 1)), some (.d (.int c)), some (.d (.int 0)), none, none, none, none] s = .ok (.d (.list ([A, B].map fun U => tabD (U.map (·.eraseIdx c))))) s := by
      refine comp_on tabD _ rfl (by simp) fun U hU => ⟨_, rfl, ?_⟩
      have hU : U = A ∨ U = B := by simpa using hU
      have := inner U (fun r hr => by rcases hU with rfl | rfl; exact (shA g).c r hr; exact (shB g).c r hr) (by rcases hU with rfl | rfl <;> assumption)
      simp [wipe, this]
      simp [tabD, List.map_map, Function.comp_def]
    simp at outer
    simp [d__law_due, b__law_due, evT_eq, outer]
    exact Lv_len rfl ⟨rfl, rfl⟩
/-! ### what is asked: a deed, and what is due to it -/
/-- the deed (way, side, choice, number) of a game is right, u is due -/
inductive Due (A B : List (List Int)) (R C : Nat) : PyData → PyData → Prop
  | w0 : Due A B R C (.tuple [.int 0, .int 0, .int 0, .int 0]) (gD (trT C B) (trT C A))
  | w1 {sd c : Nat} {x : Int} : sd < 2 → c < mn R C (1 - sd) → isGame (mv sd A B c x) = true → Due A B R C (.tuple [.int 1, .int sd, .int c, .int x]) (mv sd A B c x)
  | w1x {sd c : Nat} {x : Int} : sd < 2 → c < mn R C (1 - sd) → isGame (mv sd A B c x) = false → x.natAbs < 2 ^ 136 → Due A B R C (.tuple [.int 1, .int sd, .int c, .int x]) (.list [.bool true, .bool false, mv sd A B c x])
  | w2 {sd c : Nat} : sd < 2 → c < mn R C sd → mn R C sd ≠ 1 → Due A B R C (.tuple [.int 2, .int sd, .int c, .int 0]) (wo sd A B c)
  | w2x {sd c : Nat} : sd < 2 → c < mn R C sd → mn R C sd = 1 → Due A B R C (.tuple [.int 2, .int sd, .int c, .int 0]) (.list [.bool false, .bool true, .int c])
end
end Law

set_option maxHeartbeats 1000000
namespace Law
open PySem SM
section
variable {fu K R C : Nat} {s : Sto} {A B : List (List Int)} {c sd : Nat} {x : Int} {u : PyData}
def callE (w sd c x named : Int) (g : PyData) (f : Option Vl) : Sl := [some (.d (.int w)), some (.d (.int named)), some (.d g), some (.d (.int sd)), some (.d (.int c)), some (.d (.int x)), f, none]
theorem call_fr {w sd c x named : Int} {g : PyData}
    (h : Sw (exS (callI tab fu K) fu (match b__law_call with | .cons _ (.cons (.tryx b _ _ _) _) => b | _ => .nil) (callE w sd c x named g (some (.d .none))) s)
      ⟨fun e t => e = callE w sd c x named g (some (.d u)) ∧ t = s, fun _ _ => False, fun _ _ => False, fun _ _ => False, fun n v e t => e = callE w sd c x named g (some (.d .none)) ∧ t = s ∧ ∃ d, v = .d d ∧ u = .list [.bool (inCls [false, true, false, false] n), .bool (inCls [false, false, false, true] n), d] ∧ inCls [true, true, true, true] n = true⟩) :
    callI tab fu (K + 1) i__law_call [.d (.int w), .d (.int named), .d g, .d (.int sd), .d (.int c), .d (.int x)] s = .ok (.d u) s := by
  refine Ok_one (Ok_call (F := d__law_call) rfl rfl ?_)
  simp only [d__law_call, b__law_call] at h ⊢
  refine Sw_cut (fun e t => e = callE w sd c x named g (some (.d .none)) ∧ t = s) (by simp [callE]) fun e t ⟨he, ht⟩ => ?_
  subst he ht
  refine Sw_cut (fun e v => e = callE w sd c x named g (some (.d u)) ∧ v = t) (Sw_tryx _ _ _ _ ?_) fun e v ⟨he, hv⟩ => ?_
  · refine h.mono (fun _ _ q => q) (fun _ _ q => q.elim) (fun _ _ q => q.elim) (fun _ _ q => q.elim) fun n v e t' ⟨h1, h2, d, h3, h4, h5⟩ => ?_
    subst h1 h2 h3
    show ite (inCls [true, true, true, true] n = true) _ _
    rw [if_pos h5]
    unfold HsQ
    simp [callE, h4]
  · subst he hv
    simp [callE]
    exact Lv_len rfl ⟨rfl, rfl⟩
theorem call0_ok (hK : 9 ≤ K) (g : Gv A B R C) {named : Int} (hn : named = 0 ∨ named = 1) : callI tab fu K i__law_call [.d (.int 0), .d (.int named), .d (gD A B), .d (.int 0), .d (.int 0), .d (.int 0)] s = .ok (.d (gD (trT C B) (trT C A))) s := by
  obtain ⟨K, rfl⟩ : ∃ k, K = k + 1 := ⟨K - 1, by omega⟩
  have tt := turned_ok (fu := fu) (K := K) (s := s) (by omega) g
  have ck : callkR (callI tab fu K) i_turned [] 1 [0] [.d (gD A B)] s = callI tab fu K i_turned [.d (gD A B)] s := rfl
  refine call_fr ?_
  rcases hn with rfl | rfl
  · simp [b__law_call, callE, evT_eq, tt, ck]
  · simp [b__law_call, callE, evT_eq, tt, ck]
theorem call1_ok (hK : 9 ≤ K) (g : Gv A B R C) {named : Int} (hn : named = 0 ∨ named = 1) (h2 : sd < 2) (hc : c < mn R C (1 - sd)) :
    callI tab fu K i__law_call [.d (.int 1), .d (.int named), .d (gD A B), .d (.int sd), .d (.int c), .d (.int x)] s = .ok (.d (if isGame (mv sd A B c x) = true then mv sd A B c x else .list [.bool true, .bool false, mv sd A B c x])) s := by
  obtain ⟨K, rfl⟩ : ∃ k, K = k + 1 := ⟨K - 1, by omega⟩
  have mm := moved_ok (fu := fu) (K := K) (s := s) (x := x) (by omega) g h2 hc
  refine call_fr ?_
  rcases hn with rfl | rfl
  · simp [b__law_call, callE, evT_eq]
    refine mm.mono (fun v t ⟨h1, h3, h4⟩ => ?_) fun n v t ⟨h1, h3, h4, h5⟩ => ?_
    · subst h3 h4; simp [h1]
    · subst h3 h4 h5
      refine ⟨rfl, _, rfl, ?_, rfl⟩
      simp [h1, inCls]
  · simp [b__law_call, callE, evT_eq, permL]
    refine mm.mono (fun v t ⟨h1, h3, h4⟩ => ?_) fun n v t ⟨h1, h3, h4, h5⟩ => ?_
    · subst h3 h4; simp [h1]
    · subst h3 h4 h5
      refine ⟨rfl, _, rfl, ?_, rfl⟩
      simp [h1, inCls]
theorem call2_ok (hK : 9 ≤ K) (g : Gv A B R C) {named : Int} (hn : named = 0 ∨ named = 1) (h2 : sd < 2) (hc : c < mn R C sd) :
    callI tab fu K i__law_call [.d (.int 2), .d (.int named), .d (gD A B), .d (.int sd), .d (.int c), .d (.int 0)] s = .ok (.d (if mn R C sd = 1 then .list [.bool false, .bool true, .int c] else wo sd A B c)) s := by
  obtain ⟨K, rfl⟩ : ∃ k, K = k + 1 := ⟨K - 1, by omega⟩
  have mm := without_ok (fu := fu) (K := K) (s := s) (by omega) g h2 hc
  refine call_fr ?_
  rcases hn with rfl | rfl
  · simp [b__law_call, callE, evT_eq]
    refine mm.mono (fun v t ⟨h1, h3, h4⟩ => ?_) fun n v t ⟨h1, h3, h4, h5⟩ => ?_
    · subst h3 h4; simp [h1]
    · subst h3 h4 h5
      refine ⟨rfl, _, rfl, ?_, rfl⟩
      simp [h1, inCls]
  · simp [b__law_call, callE, evT_eq, permL]
    refine mm.mono (fun v t ⟨h1, h3, h4⟩ => ?_) fun n v t ⟨h1, h3, h4, h5⟩ => ?_
    · subst h3 h4; simp [h1]
    · subst h3 h4 h5
      refine ⟨rfl, _, rfl, ?_, rfl⟩
      simp [h1, inCls]
/-! ### what repr shows of it -/
theorem row_pl {r : List Int} {b : Nat} (h : ∀ y ∈ r, y.natAbs < 2 ^ b) (hl : r.length ≤ 5) : Pl b 5 1 (rowD r) := Pl.tup (N := 0) (L := 5) (fun y hy => by obtain ⟨i, hi, rfl⟩ := List.mem_map.mp hy; exact Pl.int (h i hi)) (by simpa using hl)
theorem tab_pl {T : List (List Int)} {b : Nat} (h : ∀ r ∈ T, ∀ y ∈ r, y.natAbs < 2 ^ b) (hc : ∀ r ∈ T, r.length ≤ 5) (hl : T.length ≤ 5) : Pl b 30 2 (tabD T) := Pl.tup (N := 5) (L := 5) (fun y hy => by obtain ⟨r, hr, rfl⟩ := List.mem_map.mp hy; exact row_pl (h r hr) (hc r hr)) (by simpa using hl)
theorem gD_pl {A B : List (List Int)} {b : Nat} (h : ∀ T ∈ [A, B], (∀ r ∈ T, ∀ y ∈ r, y.natAbs < 2 ^ b) ∧ (∀ r ∈ T, r.length ≤ 5) ∧ T.length ≤ 5) : Pl b 62 3 (gD A B) :=
  Pl.tup (N := 30) (L := 2) (xs := [tabD A, tabD B]) (fun y hy => by
    have hy : y = tabD A ∨ y = tabD B := by simpa using hy
    rcases hy with rfl | rfl
    · obtain ⟨a, b', c'⟩ := h A (by simp); exact tab_pl a b' c'
    · obtain ⟨a, b', c'⟩ := h B (by simp); exact tab_pl a b' c') (by simp)
end
end Law

set_option maxHeartbeats 1000000
/-! plain: the least of a list. -/
namespace SM
open PySem
theorem minL_some : ∀ {xs : List Int}, xs ≠ [] → ∃ m, minL xs = some m ∧ m ∈ xs ∧ ∀ x ∈ xs, m ≤ x
  | [], h => absurd rfl h
  | [a], _ => ⟨a, rfl, by simp, by simp⟩
  | a :: b :: r, _ => by
    obtain ⟨m, h1, h2, h3⟩ := minL_some (xs := b :: r) (by simp)
    refine ⟨min a m, ?_, ?_, ?_⟩
    · show (match minL (b :: r) with
        | none => some a
        | some m => some (if m < a then m else a)) = _
      rw [h1]
      simp only
      congr 1
      omega
    · rcases Int.le_total a m with h | h
      · rw [Int.min_eq_left h]; exact List.mem_cons_self
      · rw [Int.min_eq_right h]; exact List.mem_cons_of_mem _ h2
    · intro x hx
      rcases List.mem_cons.mp hx with rfl | hx
      · omega
      · have := h3 x hx; omega
def mnO (f : Nat → Int) (m : Nat) : Int := (minL ((List.range m).map f)).getD 0
theorem mnO_of {f : Nat → Int} {m : Nat} (h : 1 ≤ m) : minL ((List.range m).map f) = some (mnO f m) ∧ (∃ o, o < m ∧ mnO f m = f o) ∧ ∀ o, o < m → mnO f m ≤ f o := by
  obtain ⟨x, h1, h2, h3⟩ := minL_some (xs := (List.range m).map f) (by simp; omega)
  have e : mnO f m = x := by simp [mnO, h1]
  rw [e]
  refine ⟨h1, ?_, fun o ho => h3 _ (List.mem_map.mpr ⟨o, by simpa using ho, rfl⟩)⟩
  obtain ⟨o, ho, rfl⟩ := List.mem_map.mp h2
  exact ⟨o, by simpa using ho, rfl⟩
theorem mnO_scale {f : Nat → Int} {m : Nat} (h : 1 ≤ m) {c : Int} (hc : 0 < c) : mnO (fun o => f o * c) m = mnO f m * c := by
  obtain ⟨_, ⟨o, ho, e⟩, g⟩ := mnO_of (f := f) h
  obtain ⟨_, ⟨o', ho', e'⟩, g'⟩ := mnO_of (f := fun o => f o * c) h
  refine Int.le_antisymm ?_ ?_
  · rw [e]
    exact g' o ho
  · rw [e']
    exact Int.mul_le_mul_of_nonneg_right (g o' ho') (by omega)
section
variable {s : Sto} {m : Bool} {r : List Int}
@[simp] theorem min_l (is : List Int) : biV m .min [.d (.list (is.map .int))] s = (minL is).map fun k => (.d (.int k), s) := by
  show ((dataV (.d (.list (is.map .int))) s).bind ints?).bind _ = _
  have h : dataV (.d (.list (is.map .int))) s = some (is.map .int) := allD_map _
  rw [h]
  show (ints? (is.map .int)).bind _ = _
  rw [w_ints, Option.bind_some]
end
/-- the fraction of two sums stays, both times one number -/
theorem frO_scale {a b c : Int} (hb : 0 < b) (hc : 0 < c) : frO (a * c) (b * c) = frO a b := by
  have g : (Int.gcd (a * c) (b * c) : Int) = (Int.gcd a b : Int) * c := by
    rw [Int.gcd_mul_right]
    have : (c.natAbs : Int) = c := by omega
    rw [Int.natCast_mul, this]
  unfold frO
  rw [g, Int.mul_ediv_mul_of_pos_left _ _ hc, Int.mul_ediv_mul_of_pos_left _ _ hc]
end SM
namespace SM
open PySem
section
variable {s : Sto}
theorem eqD_nil (xs : List PyData) : eqD (.list xs) (.list []) = some xs.isEmpty := by
  cases xs with
  | nil => rfl
  | cons a r => rfl
theorem c_eq_nil (xs : List PyData) : cmpV .eq (.d (.list xs)) (.d (.list [])) s = some xs.isEmpty := eqD_nil xs
theorem c_ne_nil (xs : List PyData) : cmpV .ne (.d (.list xs)) (.d (.list [])) s = some (!xs.isEmpty) := by
  show (eqD (.list xs) (.list [])).map (!·) = _
  rw [eqD_nil]
  rfl
theorem c_neb' (i j : Bool) : cmpV .ne (.d (.bool i)) (.d (.bool j)) s = some (!(i == j)) := rfl
end
def lsD (r : List Int) : PyData := .list (r.map .int)
def trp (T : List (List Int)) (C : Nat) : List (List Int) := (List.range C).map fun j => T.map fun r => r.getD j 0
theorem trp_gt {T : List (List Int)} {C i j : Nat} (hj : j < C) (hi : i < T.length) : gt (trp T C) j i = gt T i j := by
  unfold gt
  rw [getD_lt (show j < (trp T C).length by simpa [trp] using hj)]
  simp only [trp, List.getElem_map, List.getElem_range]
  rw [getD_lt (show i < (T.map fun r => r.getD j 0).length by simpa using hi), getD_lt hi]
  simp
end SM

set_option maxHeartbeats 1000000
namespace Law
open PySem SM
section
variable {fu K n R C : Nat} {s : Sto} {A B : List (List Int)} {c sd : Nat} {x : Int} {u deed : PyData}
theorem gv_pl (g : Gv A B R C) : Pl 20 62 3 (gD A B) := by
  have one : ∀ T : List (List Int), T.length = R → (∀ r ∈ T, rwOk C r) → (∀ r ∈ T, ∀ y ∈ r, y.natAbs < 2 ^ 20) ∧ (∀ r ∈ T, r.length ≤ 5) ∧ T.length ≤ 5 := fun T hl hr =>
    ⟨fun r hr' y hy => by have := gt_abs ((hr r hr').2 y hy); omega, fun r hr' => by have := (hr r hr').1; have := g.c5; omega, by have := g.r5; omega⟩
  refine gD_pl fun T hT => ?_
  have hT : T = A ∨ T = B := by simpa using hT
  rcases hT with rfl | rfl
  · exact one _ g.ra g.ca
  · exact one _ g.rb g.cb
theorem mv_pl (g : Gv A B R C) (hx : x.natAbs < 2 ^ 136) (hc : c < mn R C (1 - sd)) (h2 : sd < 2) : Pl 140 62 3 (mv sd A B c x) := by
  have r5 := g.r5
  have c5 := g.c5
  have bx : ∀ y : Int, y.natAbs ≤ 1000 → (y + x).natAbs < 2 ^ 140 := fun y hy => by
    have : (2 : Nat) ^ 136 + 1000 < 2 ^ 140 := by decide
    omega
  have b0 : ∀ y : Int, y.natAbs ≤ 1000 → y.natAbs < 2 ^ 140 := fun y hy => Nat.lt_of_le_of_lt hy (by decide)
  have one : ∀ T : List (List Int), T.length = R → (∀ r ∈ T, rwOk C r) → (∀ r ∈ T, ∀ y ∈ r, y.natAbs < 2 ^ 140) ∧ (∀ r ∈ T, r.length ≤ 5) ∧ T.length ≤ 5 := fun T hl hr =>
    ⟨fun r hr' y hy => b0 y (gt_abs ((hr r hr').2 y hy)), fun r hr' => by have := (hr r hr').1; omega, by omega⟩
  have h2 : sd = 0 ∨ sd = 1 := by omega
  rcases h2 with rfl | rfl
  · have hc : c < C := by simpa using hc
    refine gD_pl fun T hT => ?_
    have hT : T = addC c x A ∨ T = B := by simpa using hT
    rcases hT with rfl | rfl
    · refine ⟨fun r hr y hy => ?_, fun r hr => ?_, by have := (shA g).addC (c := c) (x := x) |>.l; omega⟩
      · obtain ⟨q, hq, rfl⟩ := List.mem_map.mp hr
        have hq' := g.ca q hq
        rcases List.mem_or_eq_of_mem_set hy with hy | rfl
        · exact b0 y (gt_abs (hq'.2 y hy))
        · exact bx _ (gt_abs (hq'.2 _ (SM.getD_mem (by rw [hq'.1]; exact hc))))
      · have := ((shA g).addC (c := c) (x := x)).c r hr; omega
    · exact one _ g.rb g.cb
  · have hc : c < R := by simpa using hc
    refine gD_pl fun T hT => ?_
    have hT : T = A ∨ T = addR c x B := by simpa using hT
    rcases hT with rfl | rfl
    · exact one _ g.ra g.ca
    · refine ⟨fun r hr y hy => ?_, fun r hr => ?_, by have := (shB g).addR (x := x) hc |>.l; omega⟩
      · rcases List.mem_or_eq_of_mem_set hr with hr | rfl
        · exact b0 y (gt_abs ((g.cb r hr).2 y hy))
        · obtain ⟨z, hz, rfl⟩ := List.mem_map.mp hy
          exact bx _ (gt_abs ((g.cb _ (getD_mem (d := []) (by rw [g.rb]; exact hc))).2 z hz))
      · have := ((shB g).addR (x := x) hc).c r hr; omega
/-- the games that come out -/
theorem tr_gv (g : Gv A B R C) : Gv (trT C B) (trT C A) C R := by
  have one : ∀ T : List (List Int), T.length = R → (∀ r ∈ T, rwOk C r) → ∀ r ∈ trT C T, rwOk R r := fun T hl hr r hr' => by
    obtain ⟨j, hj, rfl⟩ := List.mem_map.mp hr'
    have hj : j < C := by simpa using hj
    refine ⟨by simp [hl], fun y hy => ?_⟩
    obtain ⟨q, hq, rfl⟩ := List.mem_map.mp hy
    exact (hr q hq).2 _ (SM.getD_mem (by rw [(hr q hq).1]; exact hj))
  exact ⟨by simp [trT], by simp [trT], one B g.rb g.cb, one A g.ra g.ca, g.c1, g.c5, g.r1, g.r5⟩
theorem wo_gv (g : Gv A B R C) (h2 : sd < 2) (hc : c < mn R C sd) (h1 : mn R C sd ≠ 1) : ∃ A' B' R' C', wo sd A B c = gD A' B' ∧ Gv A' B' R' C' := by
  have h2 : sd = 0 ∨ sd = 1 := by omega
  have r1 := g.r1; have r5 := g.r5; have c1 := g.c1; have c5 := g.c5; have ra := g.ra; have rb := g.rb
  rcases h2 with rfl | rfl
  · have hc : c < R := by simpa using hc
    have h1 : R ≠ 1 := by simpa using h1
    refine ⟨_, _, R - 1, C, rfl, ?_, ?_, fun r hr => g.ca r ((List.eraseIdx_sublist _ _).subset hr), fun r hr => g.cb r ((List.eraseIdx_sublist _ _).subset hr), by omega, by omega, c1, c5⟩
    · rw [List.length_eraseIdx, if_pos (by omega)]; omega
    · rw [List.length_eraseIdx, if_pos (by omega)]; omega
  · have hc : c < C := by simpa using hc
    have h1 : C ≠ 1 := by simpa using h1
    have one : ∀ T : List (List Int), (∀ r ∈ T, rwOk C r) → ∀ r ∈ T.map (·.eraseIdx c), rwOk (C - 1) r := fun T hr r hr' => by
      obtain ⟨q, hq, rfl⟩ := List.mem_map.mp hr'
      have hq' := hr q hq
      refine ⟨by rw [List.length_eraseIdx, if_pos (by rw [hq'.1]; exact hc), hq'.1], fun y hy => hq'.2 y ((List.eraseIdx_sublist _ _).subset hy)⟩
    exact ⟨_, _, R, C - 1, rfl, by simp [ra], by simp [rb], one A g.ca, one B g.cb, r1, r5, by omega, by omega⟩
theorem Due.game (d : Due A B R C deed u) (g : Gv A B R C) : (∃ A' B' R' C', u = gD A' B' ∧ Gv A' B' R' C') ∨ ∃ l, u = .list l := by
  cases d with
  | w0 => exact .inl ⟨_, _, _, _, rfl, tr_gv g⟩
  | w1 h2 hc hg =>
    obtain ⟨A', B', R', C', e, g'⟩ := game_typed hg
    exact .inl ⟨A', B', R', C', e, g'⟩
  | w1x => exact .inr ⟨_, rfl⟩
  | w2 h2 hc h1 => exact .inl (wo_gv g h2 hc h1)
  | w2x => exact .inr ⟨_, rfl⟩
theorem rp_list {xs : List PyData} {N D L : Nat} (h : ∀ x ∈ xs, Rp N D x ∧ x.hasDict = false) (hl : xs.length ≤ L) : Rp (L * (N + 1)) (D + 1) (.list xs) :=
  ⟨okBs_all.mpr fun x hx => (h x hx).1.ok, Nat.le_trans (bulk_le fun x hx => (h x hx).1.bk) (Nat.mul_le_mul_right _ hl), Nat.succ_le_succ (depth_le.mpr fun x hx => (h x hx).1.dp), .inl (noDicts_all.mpr fun x hx => (h x hx).2)⟩
theorem Due.rp (d : Due A B R C deed u) (g : Gv A B R C) : Rp 8000 100 u := by
  have bl : ∀ b : Bool, Rp 62 3 (.bool b) ∧ (PyData.bool b).hasDict = false := fun b => ⟨rpB_rp (by cases b <;> decide), rfl⟩
  rcases d.game g with ⟨A', B', R', C', rfl, g'⟩ | ⟨l, e⟩
  · exact ((gv_pl g').rp (by decide)).mono (by decide) (by decide)
  · cases d with
    | w0 => cases e
    | w1 h2 hc hg =>
      obtain ⟨A', B', R', C', e', g'⟩ := game_typed hg
      rw [e'] at e; cases e
    | w2 h2 hc h1 =>
      obtain ⟨A', B', R', C', e', g'⟩ := wo_gv g h2 hc h1
      rw [e'] at e; cases e
    | w1x h2 hc hg hx =>
      have hp := mv_pl g hx hc h2
      refine (rp_list (N := 62) (D := 3) (L := 3) (fun y hy => ?_) (by simp)).mono (by decide) (by decide)
      simp only [List.mem_cons, List.not_mem_nil, or_false] at hy
      rcases hy with rfl | rfl | rfl
      · exact bl _
      · exact bl _
      · exact ⟨hp.rp (by decide), (plB_ok (by decide) hp.pl).2.1⟩
    | @w2x sd c h2 hc h1 =>
      have r5 := g.r5; have c5 := g.c5
      have hc5 : c < 5 := by
        have h2 : sd = 0 ∨ sd = 1 := by omega
        rcases h2 with rfl | rfl <;> simp at hc <;> omega
      have hp : Pl 20 62 3 (.int (c : Int)) := (Pl.int (by omega)).mono (Nat.le_refl _) (by decide) (by decide)
      refine (rp_list (N := 62) (D := 3) (L := 3) (fun y hy => ?_) (by simp)).mono (by decide) (by decide)
      simp only [List.mem_cons, List.not_mem_nil, or_false] at hy
      rcases hy with rfl | rfl | rfl
      · exact bl _
      · exact bl _
      · exact ⟨hp.rp (by decide), rfl⟩
theorem Due.call (d : Due A B R C deed u) (g : Gv A B R C) (hK : 9 ≤ K) {nm : Int} (hn : nm = 0 ∨ nm = 1) : ∃ w a b e : Int, deed = .tuple [.int w, .int a, .int b, .int e] ∧ ∀ s, callI tab fu K i__law_call [.d (.int w), .d (.int nm), .d (gD A B), .d (.int a), .d (.int b), .d (.int e)] s = .ok (.d u) s := by
  cases d with
  | w0 => exact ⟨_, _, _, _, rfl, fun s => call0_ok hK g hn⟩
  | @w1 sd c x h2 hc hg => exact ⟨_, _, _, _, rfl, fun s => by have := call1_ok (x := x) (fu := fu) (s := s) hK g hn h2 hc; rw [if_pos hg] at this; exact this⟩
  | @w1x sd c x h2 hc hg hx => exact ⟨_, _, _, _, rfl, fun s => by have := call1_ok (x := x) (fu := fu) (s := s) hK g hn h2 hc; rw [if_neg (by rw [hg]; decide)] at this; exact this⟩
  | w2 h2 hc h1 => exact ⟨_, _, _, _, rfl, fun s => by have := call2_ok (fu := fu) (s := s) hK g hn h2 hc; rw [if_neg h1] at this; exact this⟩
  | w2x h2 hc h1 => exact ⟨_, _, _, _, rfl, fun s => by have := call2_ok (fu := fu) (s := s) hK g hn h2 hc; rw [if_pos h1] at this; exact this⟩
theorem right_ok (d : Due A B R C deed u) (g : Gv A B R C) (hK : 10 ≤ K) {nm : Int} (hn : nm = 0 ∨ nm = 1) : callI tab fu K i__law_right [.d (.int nm), .d (gD A B), .d deed, .d u] s = .ok (.d (.bool true)) s := by
  obtain ⟨K, rfl⟩ : ∃ k, K = k + 1 := ⟨K - 1, by omega⟩
  obtain ⟨w, a, b, e, rfl, hc⟩ := d.call (fu := fu) (K := K) g (by omega) hn
  have hg := ((gv_pl g).rp (by decide)).mono (N' := 8000) (D' := 100) (by decide) (by decide) |>.shows
  have hu := (d.rp g).shows
  have c1 := hc s
  refine Ok_one (Ok_call (F := d__law_right) rfl rfl ?_)
  simp [d__law_right, b__law_right, evT_eq, hg, hu, c1]
  exact Lv_len rfl ⟨rfl, rfl⟩
end
end Law

set_option maxHeartbeats 1000000
namespace Law
open PySem SM
section
variable {fu K n R C : Nat} {s : Sto} {A B : List (List Int)} {c sd : Nat} {x : Int} {u deed : PyData}
/-! ### the numbers that move together -/
def nums (sd : Nat) (A B : List (List Int)) (c : Nat) : List Int := if sd = 0 then A.map fun r => r.getD c 0 else B.getD c []
theorem nums_ok (hK : 1 ≤ K) (g : Gv A B R C) (h2 : sd < 2) (hc : c < mn R C (1 - sd)) : callI tab fu K i__law_numbers [.d (gD A B), .d (.int sd), .d (.int c)] s = .ok (.d (.list ((nums sd A B c).map .int))) s := by
  obtain ⟨K, rfl⟩ : ∃ k, K = k + 1 := ⟨K - 1, by omega⟩
  have ra := g.ra; have rb := g.rb; have r5 := g.r5; have c5 := g.c5
  have h2 : sd = 0 ∨ sd = 1 := by omega
  refine Ok_one (Ok_call (F := d__law_numbers) rfl rfl ?_)
  rcases h2 with rfl | rfl
  · have hc : c < C := by simpa using hc
    have inner : ev (callI tab fu K) (.comp false (.idx (.var 3) (.var 2)) (.var 3) (.itv (.idx (.var 0) (.lit (.int 0)))) .nil [3]) [some (.d (gD A B)), some (.d (.int 0)), some (.d (.int c)), none] s = .ok (.d (.list (A.map fun r => .int (r.getD c 0)))) s := by
      refine comp_on rowD _ (by simp) (by omega) fun r hr => ⟨_, rfl, ?_⟩
      have := at_int (r := r) (i := c) (by rw [(g.ca r hr).1]; exact hc)
      simp [-List.getD_eq_getElem?_getD, wipe, this]
    simp [-List.getD_eq_getElem?_getD, d__law_numbers, b__law_numbers, evT_eq, inner]
    refine Lv_len rfl ⟨?_, rfl⟩
    simp [nums, Function.comp_def]
  · have hc : c < B.length := by rw [rb]; simpa using hc
    have ar := at_row (A := B) (i := c) hc
    have hl := (g.cb _ (SM.getD_mem (d := []) hc)).1
    have e : biV false .list [.d (rowD (B.getD c []))] s = some (.d (.list ((B.getD c []).map .int)), s) := by
      unfold rowD; rw [w_list_t, if_pos (by simp [-List.getD_eq_getElem?_getD]; omega)]
    simp [-List.getD_eq_getElem?_getD, d__law_numbers, b__law_numbers, evT_eq, ar, e]
    exact Lv_len rfl ⟨rfl, rfl⟩
theorem nums_in (g : Gv A B R C) (h2 : sd < 2) (hc : c < mn R C (1 - sd)) : nums sd A B c ≠ [] ∧ ∀ y ∈ nums sd A B c, inB y := by
  have ra := g.ra; have rb := g.rb; have r1 := g.r1; have c1 := g.c1
  have h2 : sd = 0 ∨ sd = 1 := by omega
  rcases h2 with rfl | rfl
  · have hc : c < C := by simpa using hc
    refine ⟨fun z => ?_, fun y hy => ?_⟩
    · have := congrArg List.length z
      simp [nums] at this
      subst this; simp at ra; omega
    · obtain ⟨r, hr, rfl⟩ := List.mem_map.mp hy
      exact (g.ca r hr).2 _ (SM.getD_mem (by rw [(g.ca r hr).1]; exact hc))
  · have hc : c < B.length := by rw [rb]; simpa using hc
    have hq := g.cb _ (SM.getD_mem (d := []) hc)
    refine ⟨fun z => ?_, fun y hy => hq.2 y hy⟩
    have := congrArg List.length z
    have e : (nums 1 A B c).length = (B.getD c []).length := rfl
    rw [e, hq.1] at this
    simp at this; omega
theorem rowD_inj {r q : List Int} (h : rowD r = rowD q) : r = q := by
  unfold rowD at h
  injection h with h
  exact (List.map_inj_right fun a b e => by injection e).mp h
theorem tabD_inj {T U : List (List Int)} (h : tabD T = tabD U) : T = U := by
  unfold tabD at h
  injection h with h
  exact (List.map_inj_right fun a b e => rowD_inj e).mp h
theorem gD_inj {A B A' B' : List (List Int)} (h : gD A B = gD A' B') : A = A' ∧ B = B' := by
  unfold gD at h
  injection h with h
  injection h with h1 h2
  injection h2 with h2 h3
  exact ⟨tabD_inj h1, tabD_inj h2⟩
/-- the moved game is one exactly if all numbers stay in their bounds -/
theorem mv_game (g : Gv A B R C) (h2 : sd < 2) (hc : c < mn R C (1 - sd)) : isGame (mv sd A B c x) = true ↔ ∀ y ∈ nums sd A B c, inB (y + x) := by
  have ra := g.ra; have rb := g.rb; have r1 := g.r1; have r5 := g.r5; have c1 := g.c1; have c5 := g.c5
  have h2 : sd = 0 ∨ sd = 1 := by omega
  rcases h2 with rfl | rfl
  · have hc : c < C := by simpa using hc
    constructor
    · intro h y hy
      obtain ⟨r, hr, rfl⟩ := List.mem_map.mp hy
      obtain ⟨A', B', R', C', e, g'⟩ := game_typed h
      obtain ⟨rfl, rfl⟩ := gD_inj (show gD (addC c x A) B = gD A' B' from e)
      have hl : c < r.length := by rw [(g.ca r hr).1]; exact hc
      have m1 : r.set c (r.getD c 0 + x) ∈ addC c x A := List.mem_map.mpr ⟨r, hr, rfl⟩
      refine (g'.ca _ m1).2 _ ?_
      exact List.mem_iff_getElem.mpr ⟨c, by simpa using hl, by simp⟩
    · intro h
      refine isGame_of (R := R) (C := C) (A := addC c x A) (B := B) ⟨by simp [addC, ra], rb, fun r hr => ?_, g.cb, r1, r5, c1, c5⟩
      obtain ⟨q, hq, rfl⟩ := List.mem_map.mp hr
      have hq' := g.ca q hq
      refine ⟨by simpa using hq'.1, fun y hy => ?_⟩
      rcases List.mem_or_eq_of_mem_set hy with hy | rfl
      · exact hq'.2 y hy
      · exact h _ (List.mem_map.mpr ⟨q, hq, rfl⟩)
  · have hc : c < B.length := by rw [rb]; simpa using hc
    constructor
    · intro h y hy
      obtain ⟨A', B', R', C', e, g'⟩ := game_typed h
      obtain ⟨rfl, rfl⟩ := gD_inj (show gD A (addR c x B) = gD A' B' from e)
      have hy : y ∈ B.getD c [] := hy
      have m1 : (B.getD c []).map (· + x) ∈ addR c x B := List.mem_iff_getElem.mpr ⟨c, by simpa [addR] using hc, by simp [addR]⟩
      exact (g'.cb _ m1).2 _ (List.mem_map.mpr ⟨y, hy, rfl⟩)
    · intro h
      have hq := g.cb _ (SM.getD_mem (d := []) hc)
      refine isGame_of (R := R) (C := C) (A := A) (B := addR c x B) ⟨ra, by simp [addR, rb], g.ca, fun r hr => ?_, r1, r5, c1, c5⟩
      rcases List.mem_or_eq_of_mem_set hr with hr | rfl
      · exact g.cb r hr
      · refine ⟨by simpa using hq.1, fun y hy => ?_⟩
        obtain ⟨z, hz, rfl⟩ := List.mem_map.mp hy
        exact h z hz
end
end Law

set_option maxHeartbeats 1000000
namespace Law
open PySem SM
section
variable {fu K n R C : Nat} {s : Sto} {A B : List (List Int)}
theorem p10_40 : binI .pow 10 40 = some 10000000000000000000000000000000000000000 := by decide +kernel
def DrR (n : Nat) (A B : List (List Int)) (R C : Nat) (s : Sto) (v : Vl) (t : Sto) : Prop := Mv n s t ∧ ∃ deed u, v = .d (.tuple [deed, u]) ∧ Due A B R C deed u
def DrJ (n : Nat) (A B : List (List Int)) (s : Sto) (e : Sl) (t : Sto) : Prop := Mv n s t ∧ ∃ w sd : Nat, (w = 0 ∨ w = 1 ∨ w = 2) ∧ sd < 2 ∧ e = [some (.r n), some (.d (gD A B)), some (.d (.int w)), some (.d (.int sd)), none, none, none, none, none, none, none, none]
theorem drawn_ok (hK : 4 ≤ K) (g : Gv A B R C) (hs : Src n s) : Ok (callI tab fu K i__law_drawn [.r n, .d (gD A B)] s) (DrR n A B R C s) nX := by
  obtain ⟨K, rfl⟩ : ∃ k, K = k + 1 := ⟨K - 1, by omega⟩
  have ra := g.ra; have rb := g.rb; have r1 := g.r1; have r5 := g.r5; have c1 := g.c1; have c5 := g.c5
  have r0 : L2.atI (A.map rowD) 0 = some (rowD (A.getD 0 [])) := at_row (i := 0) (by omega)
  have l0 : (A.getD 0 []).length = C := (g.ca _ (SM.getD_mem (d := []) (by omega))).1
  refine Ok_call (F := d__law_drawn) rfl rfl ?_
  simp only [d__law_drawn, b__law_drawn]
  refine Sw_cut (DrJ n A B s) ?_ fun e t ⟨m, w, sd, hw, h2, he⟩ => ?_
  · simp
    refine (pick0 (by omega) hs (by decide) (by decide)).imp fun v t ⟨m, j, e, j0, j1⟩ => ?_
    subst e
    have hj : j = 0 ∨ j = 1 ∨ j = 2 ∨ j = 3 := by omega
    rcases hj with rfl | rfl | rfl | rfl
    all_goals simp
    all_goals refine (pick0 (by omega) m.1 (by decide) (by decide)).imp fun v t ⟨m2, k, e, k0, k1⟩ => ?_
    all_goals subst e
    all_goals obtain ⟨k, rfl⟩ := Int.eq_ofNat_of_zero_le k0
    · exact ⟨m.trans m2, 0, k, by decide, by omega, rfl⟩
    · exact ⟨m.trans m2, 1, k, by decide, by omega, rfl⟩
    · exact ⟨m.trans m2, 1, k, by decide, by omega, rfl⟩
    · exact ⟨m.trans m2, 2, k, by decide, by omega, rfl⟩
  subst he
  refine Sw_cut (fun e u => u = t ∧ e = [some (.r n), some (.d (gD A B)), some (.d (.int w)), some (.d (.int sd)), some (.d (.list [.int R, .int C])), none, none, none, none, none, none, none]) (by simp [-List.getD_eq_getElem?_getD, r0, l0, ra]) fun e u ⟨hu, he⟩ => ?_
  subst he hu
  have hs := m.1
  have fin : ∀ {t : Sto} {deed v : PyData}, Mv n u t → Due A B R C deed v → Lv s (.d (.tuple [deed, v])) t (DrR n A B R C s) := fun m2 d => Lv_len (m.trans m2).2.1 ⟨m.trans m2, _, _, rfl, d⟩
  have at2 : ∀ k : Nat, k < 2 → L2.atI [PyData.int R, .int C] (k : Int) = some (.int (mn R C k)) := fun k hk => by
    have : k = 0 ∨ k = 1 := by omega
    rcases this with rfl | rfl <;> simp
  have mb : ∀ k : Nat, 1 ≤ mn R C k ∧ mn R C k ≤ 5 := fun k => by unfold mn; split <;> omega
  rcases hw with rfl | rfl | rfl
  · have d0 := due0_ok (fu := fu) (K := K) (s := u) (by omega) g
    simp [evT_eq, d0]
    exact fin (Mv.refl hs) .w0
  · obtain ⟨E, hE⟩ : ∃ E : Option Vl → Option Vl → Option Vl → Option Vl → Option Vl → Option Vl → Sl, E = fun v5 v6 v7 v8 v9 v10 => [some (.r n), some (.d (gD A B)), some (.d (.int 1)), some (.d (.int sd)), some (.d (.list [.int R, .int C])), v5, v6, v7, v8, v9, v10, none] := ⟨_, rfl⟩
    refine Sw_cut (fun e t => t = u ∧ e = E none none none none none none) (by simp [evT_eq, hE]) fun e t ⟨ht, he⟩ => ?_
    subst ht he
    refine Sw_cut (fun e v => v = t ∧ e = E none none none none none none) (by simp [evT_eq, hE]) fun e v ⟨hv, he⟩ => ?_
    subst hv he
    have e1 : (1 : Int) - (sd : Int) = ((1 - sd : Nat) : Int) := by omega
    have ak := at2 (1 - sd) (by omega)
    have mk := mb (1 - sd)
    refine Sw_cut (fun e w => Mv n v w ∧ ∃ c : Nat, c < mn R C (1 - sd) ∧ e = E (some (.d (.int c))) none none none none none) ?_ fun e w ⟨m1, c, hc, he⟩ => ?_
    · simp [hE]
      simp only [e1, ak]
      simp
      refine (pick0 (by omega) hs (by omega) (by omega)).imp fun v t ⟨m1, c, e, c0, c1⟩ => ?_
      subst e
      obtain ⟨c, rfl⟩ := Int.eq_ofNat_of_zero_le c0
      exact ⟨m1, c, by omega, rfl⟩
    subst he
    have nk := nums_ok (fu := fu) (K := K) (s := w) (by omega) g h2 hc
    obtain ⟨nn, nb⟩ := nums_in g h2 hc
    obtain ⟨mi, mi1, mi2, mi3⟩ := minL_some nn
    obtain ⟨ma, ma1, ma2, ma3⟩ := maxL_some nn
    have bi := nb _ mi2
    have ba := nb _ ma2
    unfold inB at bi ba
    have mm := mi3 _ ma2
    refine Sw_cut (fun e t => t = w ∧ e = E (some (.d (.int c))) (some (.d (.list ((nums sd A B c).map .int)))) none none none none) (by simp [hE, nk]) fun e t ⟨ht, he⟩ => ?_
    subst ht he
    refine Sw_cut (fun e w => w = t ∧ e = E (some (.d (.int c))) (some (.d (.list ((nums sd A B c).map .int)))) (some (.d (.int (-1000 - mi)))) (some (.d (.int (1000 - ma)))) none none) (by simp [hE, mi1, ma1]) fun e w ⟨hw, he⟩ => ?_
    subst hw he
    refine Sw_cut (fun e t => Mv n w t ∧ ∃ wi : Int, wi.natAbs ≤ 4000 ∧ e = E (some (.d (.int c))) (some (.d (.list ((nums sd A B c).map .int)))) (some (.d (.int (-1000 - mi)))) (some (.d (.int (1000 - ma)))) (some (.d (.int wi))) none) ?_ fun e t ⟨m2, wi, hwi, he⟩ => ?_
    · simp [hE]
      refine (pick0 (by omega) m1.1 (by omega) (by omega)).imp fun v t2 ⟨m2, w, e, w0, w1⟩ => ?_
      subst e
      simp
      exact ⟨m2, by omega⟩
    subst he
    have b0 : ∀ y : Int, y.natAbs ≤ 10 ^ 40 + 10000 → y.natAbs < 2 ^ 136 := fun y hy => Nat.lt_of_le_of_lt hy (by decide)
    have pw : binV false .pow (.d (.int 10)) (.d (.int 40)) t = some (.d (.int 10000000000000000000000000000000000000000), t) := bin_pow p10_40
    refine Sw_cut (fun e t3 => Mv n t t3 ∧ ∃ x : Int, x.natAbs ≤ 10 ^ 40 + 10000 ∧ e = E (some (.d (.int c))) (some (.d (.list ((nums sd A B c).map .int)))) (some (.d (.int (-1000 - mi)))) (some (.d (.int (1000 - ma)))) (some (.d (.int wi))) (some (.d (.int x)))) ?_ fun e t3 ⟨m3, x, hx, he⟩ => ?_
    · simp [hE, pw]
      refine (pick0 (by omega) m2.1 (by decide) (by decide)).imp fun v t3 ⟨m3, j, e, j0, j1⟩ => ?_
      subst e
      have hj : j = 0 ∨ j = 1 ∨ j = 2 ∨ j = 3 ∨ j = 4 ∨ j = 5 ∨ j = 6 ∨ j = 7 := by omega
      rcases hj with rfl | rfl | rfl | rfl | rfl | rfl | rfl | rfl
      all_goals simp
      all_goals first | exact m3 | exact ⟨m3, by omega⟩
    subst he
    have hx := b0 x hx
    have mg := mv_game (x := x) g h2 hc
    have d1 := due1_ok (fu := fu) (K := K) (s := t3) (x := x) (by omega) g h2 hc
    have mtr := (m1.trans m2).trans m3
    by_cases hr : -1000 - mi ≤ x ∧ x ≤ 1000 - ma
    · have hg : isGame (mv sd A B c x) = true := mg.mpr fun y hy => by
        have h1 := mi3 y hy
        have h2 := ma3 y hy
        exact ⟨by omega, by omega⟩
      simp [hE, evT_eq, d1, hr.1, hr.2]
      exact fin mtr (.w1 h2 hc hg)
    · have hg : isGame (mv sd A B c x) = false := by
        cases q : isGame (mv sd A B c x) with
        | false => rfl
        | true =>
          have z := mg.mp q
          have h1 := z _ mi2
          have h2 := z _ ma2
          unfold inB at h1 h2
          exact absurd ⟨by omega, by omega⟩ hr
      by_cases h1 : -1000 - mi ≤ x
      · have h3 : ¬ x ≤ 1000 - ma := fun z => hr ⟨h1, z⟩
        simp [hE, evT_eq, d1, h1, h3]
        exact fin mtr (.w1x h2 hc hg hx)
      · simp [hE, evT_eq, d1, h1]
        exact fin mtr (.w1x h2 hc hg hx)
  · have ak := at2 sd h2
    have mk := mb sd
    simp [evT_eq, ak]
    refine (pick0 (by omega) hs (by omega) (by omega)).imp fun v t ⟨m1, c, e, c0, c1⟩ => ?_
    subst e
    obtain ⟨c, rfl⟩ := Int.eq_ofNat_of_zero_le c0
    have hc : c < mn R C sd := by omega
    have d2 := due2_ok (fu := fu) (K := K) (s := t) (by omega) g h2 hc
    by_cases h1 : mn R C sd = 1
    · simp [h1, ak]
      exact fin m1 (.w2x h2 hc h1)
    · have h1' : ¬ ((mn R C sd : Nat) : Int) = 1 := by omega
      simp [h1', ak, d2]
      exact fin m1 (.w2 h2 hc h1)
end
end Law

set_option maxHeartbeats 1000000
namespace Law
open PySem SM
section
variable {fu K n : Nat} {s t u : Sto}
theorem source_ok {ns : List Int} (hK : 1 ≤ K) (hn : ns.length ≤ 1000) : Ok (callI tab fu K i__law_source [.d (.list (ns.map .int))] []) (fun v t => v = .r 0 ∧ Src 0 t) nX := by
  obtain ⟨K, rfl⟩ : ∃ k, K = k + 1 := ⟨K - 1, by omega⟩
  refine Ok_call (F := d__law_source) rfl rfl ?_
  simp [d__law_source, b__law_source, show ns.length ≤ 16777216 by omega, mkL_true]
  refine Lv_new (Nat.le_refl _) ⟨rfl, ns, 0, 0, 1, 0, ?_⟩
  simp [listAt]
/-- what was asked: how it is asked again, the game, the deed, what is due -/
def Ent (x : PyData) : Prop := ∃ (nm : Int) (A B : List (List Int)) (R C : Nat) (deed u : PyData), x = .tuple [.int nm, gD A B, deed, u] ∧ (nm = 0 ∨ nm = 1) ∧ Gv A B R C ∧ Due A B R C deed u
def rest4 : Type := Option Vl × Option Vl × Option Vl × Option Vl × Option Vl
def LwE (ns : List Int) (v2 v3 v4 v5 v6 v7 v8 v9 : Option Vl) : Sl := [some (.d (.list (ns.map .int))), some (.r 0), v2, v3, v4, v5, v6, v7, v8, v9]
def LwJ (ns : List Int) (e : Sl) (t : Sto) : Prop := Src 0 t ∧ ∃ v2 v3 v4 v5 v6 v7 v8 v9 : Option Vl, e = LwE ns v2 v3 v4 v5 v6 v7 v8 v9
/-- a game in hand, p the place of what was asked -/
def LwI (ns : List Int) (k : Nat) (e : Sl) (t : Sto) : Prop := Src 0 t ∧ ∃ (p : Nat) (A B : List (List Int)) (R C : Nat) (xs : List PyData) (v2 v5 v6 v7 v8 v9 : Option Vl), Gv A B R C ∧ 1 ≤ p ∧ listAt p t = some (xs.map Vl.d) ∧ xs.length ≤ k ∧ (∀ x ∈ xs, Ent x) ∧
  e = LwE ns v2 (some (.d (gD A B))) (some (.r p)) v5 v6 v7 v8 v9
theorem Src.put {p : Nat} {vs : List Vl} (h : Src 0 t) (hp : 1 ≤ p) : Src 0 (putL p vs t) := by
  obtain ⟨cs, i, r, m, c, h⟩ := h
  exact ⟨cs, i, r, m, c, by rw [listAt_put_ne (by omega)]; exact h⟩
theorem mv_list {p : Nat} {vs : List Vl} (m : Mv 0 t u) (hp : 1 ≤ p) (h : listAt p t = some vs) : listAt p u = some vs := by
  have := m.2.2 p (by omega)
  unfold listAt at h ⊢
  rw [this]; exact h
theorem law_ok {ns : List Int} (hK : 100 ≤ K) (hn : ns.length ≤ 63) : Ok (callI tab fu K i_law [.d (.list (ns.map .int))] []) (fun v t => v = .d (.bool true)) nX := by
  obtain ⟨K, rfl⟩ : ∃ k, K = k + 1 := ⟨K - 1, by omega⟩
  refine Ok_call (F := d_law) rfl rfl ?_
  simp only [d_law, b_law]
  refine Sw_cut (LwJ ns) ?_ fun e t h => ?_
  · simp
    exact (source_ok (by omega) (by omega)).imp fun v t ⟨h1, h2⟩ => by
      subst h1
      exact ⟨h2, _, _, _, _, _, _, _, _, rfl⟩
  refine Sw_cut (LwJ ns) ?_ fun e t h => ?_
  · obtain ⟨ht, v2, v3, v4, v5, v6, v7, v8, v9, he⟩ := h
    subst he
    simp [LwE, rng_int (show 0 ≤ max 1 (min 3 (ns.length : Int)) by omega) (show max 1 (min 3 (ns.length : Int)) ≤ 1000000 by omega)]
    refine Sw_goL (fun _ => LwJ ns) (fun x r e s h => ?_) (fun e s h => h) ⟨ht, _, _, _, _, _, _, _, _, rfl⟩
    obtain ⟨ht, v2, v3, v4, v5, v6, v7, v8, v9, he⟩ := h
    subst he
    rw [turnS_var]
    refine Sw_cut (fun e u => Src 0 u ∧ ∃ A B R C, Gv A B R C ∧ e = LwE ns (some (.d x)) (some (.d (gD A B))) v4 v5 v6 v7 v8 v9) ?_ fun e u ⟨hs, A, B, R, C, g, he⟩ => ?_
    · simp [LwE]
      refine (game_ok (K := K) (by omega) ht).imp fun v t ⟨m, y, e, hg⟩ => ?_
      subst e
      obtain ⟨A, B, R, C, rfl, g⟩ := game_typed hg
      exact ⟨m.1, A, B, ⟨R, C, g⟩, rfl⟩
    subst he
    refine Sw_cut (LwI ns 0) ?_ fun e u h => ?_
    · simp [LwE, mkL_true]
      obtain ⟨cs, i, r, m, c, hs⟩ := hs
      have h0 := listAt_lt hs
      exact ⟨⟨cs, i, r, m, c, by rw [listAt_old h0]; exact hs⟩, _, A, B, R, C, [], _, _, _, _, _, _, g, by omega, listAt_new, by simp, by simp, rfl⟩
    refine Sw_cut (LwI ns 8) ?_ fun e u h => ?_
    · obtain ⟨hs, p, A, B, R, C, xs, v2, v5, v6, v7, v8, v9, g, hp, hl, hx, hE, he⟩ := h
      subst he
      simp [LwE]
      refine Sw_goR 8 (fun j => LwI ns j) (fun j hj e t h => ?_) (fun e t h => h) ⟨hs, p, A, B, R, C, xs, _, _, _, _, _, _, g, hp, hl, hx, hE, rfl⟩
      obtain ⟨hs, p, A, B, R, C, xs, v2, v5, v6, v7, v8, v9, g, hp, hl, hx, hE, he⟩ := h
      subst he
      rw [turnS_var]
      obtain ⟨J1, hJ1⟩ : ∃ J : Sl → Sto → Prop, J = fun e u => Mv 0 t u ∧ ∃ deed w, Due A B R C deed w ∧ e = LwE ns v2 (some (.d (gD A B))) (some (.r p)) (some (.d (.int j))) (some (.d deed)) (some (.d w)) v8 v9 := ⟨_, rfl⟩
      refine Sw_cut J1 ?_ fun e u h => ?_
      · simp [LwE]
        refine (drawn_ok (K := K) (by omega) g hs).imp fun v t ⟨m, deed, w, e, d⟩ => ?_
        subst e
        simp [setTgV, setTg, setTg.setTgs]
        rw [hJ1]
        exact ⟨m, deed, w, d, rfl⟩
      rw [hJ1] at h
      obtain ⟨m, deed, w, d, he⟩ := h
      subst he
      obtain ⟨J2, hJ2⟩ : ∃ J : Sl → Sto → Prop, J = fun e v => Mv 0 t v ∧ ∃ nm : Int, (nm = 0 ∨ nm = 1) ∧ e = LwE ns v2 (some (.d (gD A B))) (some (.r p)) (some (.d (.int j))) (some (.d deed)) (some (.d w)) (some (.d (.int nm))) v9 := ⟨_, rfl⟩
      refine Sw_cut J2 ?_ fun e v h => ?_
      · simp [LwE]
        refine (pick0 (K := K) (by omega) m.1 (by decide) (by decide)).imp fun v t ⟨m2, x, e, x0, x1⟩ => ?_
        subst e
        rw [hJ2]
        exact ⟨m.trans m2, x, by omega, rfl⟩
      rw [hJ2] at h
      obtain ⟨m, nm, hnm, he⟩ := h
      subst he
      have rt := right_ok (fu := fu) (K := K) (s := v) d g (by omega) hnm
      refine Sw_cut (fun e u => u = v ∧ e = LwE ns v2 (some (.d (gD A B))) (some (.r p)) (some (.d (.int j))) (some (.d deed)) (some (.d w)) (some (.d (.int nm))) v9) (by simp [LwE, evT_eq, rt]) fun e u ⟨hu, he⟩ => ?_
      subst he hu
      have hl2 := mv_list m hp hl
      refine Sw_cut (fun e v => v = putL p ((xs ++ [PyData.tuple [.int (1 - nm), gD A B, deed, w]]).map Vl.d) u ∧ e = LwE ns v2 (some (.d (gD A B))) (some (.r p)) (some (.d (.int j))) (some (.d deed)) (some (.d w)) (some (.d (.int nm))) v9) ?_ fun e v ⟨hv, he⟩ => ?_
      · simp [LwE, meR_r hl2, app_r hl2 (show (xs.map Vl.d).length < 16777216 by simp; omega)]
      subst he hv
      have hlen : p < u.length := listAt_lt hl2
      have sx : Src 0 (putL p ((xs ++ [PyData.tuple [.int (1 - nm), gD A B, deed, w]]).map Vl.d) u) := m.1.put hp
      have hl3 := listAt_put (vs := (xs ++ [PyData.tuple [.int (1 - nm), gD A B, deed, w]]).map Vl.d) hlen
      have hx3 : (xs ++ [PyData.tuple [.int (1 - nm), gD A B, deed, w]]).length ≤ j + 1 := by simp; omega
      have hE3 : ∀ x ∈ xs ++ [PyData.tuple [.int (1 - nm), gD A B, deed, w]], Ent x := fun x hx => by
        rcases List.mem_append.mp hx with hx | hx
        · exact hE x hx
        · simp at hx
          subst hx
          exact ⟨_, A, B, R, C, deed, w, rfl, by omega, g, d⟩
      generalize putL p ((xs ++ [PyData.tuple [.int (1 - nm), gD A B, deed, w]]).map Vl.d) u = st at sx hl3
      generalize xs ++ [PyData.tuple [.int (1 - nm), gD A B, deed, w]] = xs3 at hl3 hx3 hE3
      rcases d.game g with ⟨A', B', R', C', rfl, g'⟩ | ⟨l, rfl⟩
      · simp [LwE, evT_eq, gD]
        exact ⟨sx, p, A', B', R', C', xs3, _, _, _, _, _, _, g', hp, hl3, hx3, hE3, rfl⟩
      · simp [LwE, evT_eq]
        exact ⟨sx, p, A, B, R, C, xs3, _, _, _, _, _, _, g, hp, hl3, hx3, hE3, rfl⟩
    obtain ⟨hs, p, A, B, R, C, xs, v2, v5, v6, v7, v8, v9, g, hp, hl, hx, hE, he⟩ := h
    subst he
    obtain ⟨J3, hJ3⟩ : ∃ J : Sl → Sto → Prop, J = fun e v => v = u ∧ ∃ v6 v7 v8 v9, e = LwE ns v2 (some (.d (gD A B))) (some (.r p)) v5 v6 v7 v8 v9 := ⟨_, rfl⟩
    refine Sw_cut J3 ?_ fun e v h => ?_
    · have rv : revV false (.r p) u = some (.d (.list xs.reverse), u) := by
        show (listAt p u).bind _ = _
        rw [hl, Option.bind_some, ← List.map_reverse, mkL_data, if_pos (by simp; omega)]
      simp [LwE, rv]
      refine Sw_goL (fun r e t => t = u ∧ (∀ x ∈ r, Ent x) ∧ ∃ v6 v7 v8 v9, e = LwE ns v2 (some (.d (gD A B))) (some (.r p)) v5 v6 v7 v8 v9) (fun x r e t ⟨ht, hr, v6, v7, v8, v9, he⟩ => ?_) (fun e t ⟨ht, _, v6, v7, v8, v9, he⟩ => by show J3 e t; rw [hJ3]; exact ⟨ht, v6, v7, v8, v9, he⟩) ⟨rfl, fun x hx => hE x (List.mem_reverse.mp hx), _, _, _, _, rfl⟩
      obtain ⟨nm, A2, B2, R2, C2, deed, w, ex, hnm, g2, d2⟩ := hr x List.mem_cons_self
      subst ex he ht
      have rt := right_ok (fu := fu) (K := K) (s := t) d2 g2 (by omega) hnm
      rw [turnS_of (e1 := LwE ns v2 (some (.d (gD A B))) (some (.r p)) v5 (some (.d deed)) (some (.d w)) (some (.d (.int nm))) (some (.d (gD A2 B2)))) rfl]
      simp [LwE, evT_eq, rt]
      exact fun y hy => hr y (List.mem_cons_of_mem _ hy)
    rw [hJ3] at h
    obtain ⟨hv, v6, v7, v8, v9, he⟩ := h
    subst he hv
    have t1 := turned_ok (fu := fu) (K := K) (s := v) (by omega) g
    have t2 := turned_ok (fu := fu) (K := K) (s := v) (by omega) (tr_gv g)
    rw [trT_tr (shA g), trT_tr (shB g)] at t2
    have hg := ((gv_pl g).rp (by decide)).mono (N' := 8000) (D' := 100) (by decide) (by decide) |>.shows
    simp [LwE, evT_eq, t1, t2, hg]
    exact ⟨hs, _, _, _, _, _, _, _, _, rfl⟩
  · obtain ⟨ht, v2, v3, v4, v5, v6, v7, v8, v9, he⟩ := h
    subst he
    simp [LwE]
    exact fun s' _ _ => rfl
end
end Law

set_option maxHeartbeats 0
/-! ### their checks -/
namespace Law
open PySem L2 SM
def sg : Sg := {
  fns := [("is_integer" : PySem.Str), ("anew" : PySem.Str), ("is_within" : PySem.Str), ("is_a_row" : PySem.Str), ("is_a_table" : PySem.Str), ("are_tables_like" : PySem.Str), ("is_a_game" : PySem.Str), ("is_a_side" : PySem.Str), ("many_of" : PySem.Str), ("need_game" : PySem.Str), ("need_side" : PySem.Str), ("need_number" : PySem.Str), ("transposed" : PySem.Str), ("turned" : PySem.Str), ("raised" : PySem.Str), ("moved" : PySem.Str), ("without" : PySem.Str), ("_law_source" : PySem.Str), ("_law_pick" : PySem.Str), ("_law_number" : PySem.Str), ("_law_table" : PySem.Str), ("_law_game" : PySem.Str), ("_law_columns" : PySem.Str), ("_law_due" : PySem.Str), ("_law_call" : PySem.Str), ("_law_numbers" : PySem.Str), ("_law_drawn" : PySem.Str), ("_law_right" : PySem.Str), ("law" : PySem.Str)],
  cns := [(("MOST_CHOICES" : PySem.Str), (.int 5)), (("MOST_NUMBER" : PySem.Str), (.int 1000))],
  bis := [("abs" : PySem.Str), ("all" : PySem.Str), ("bool" : PySem.Str), ("enumerate" : PySem.Str), ("int" : PySem.Str), ("isinstance" : PySem.Str), ("len" : PySem.Str), ("list" : PySem.Str), ("max" : PySem.Str), ("min" : PySem.Str), ("range" : PySem.Str), ("repr" : PySem.Str), ("tuple" : PySem.Str)],
  mth := [],
  exs := [("MixError" : PySem.Str), ("InvalidGame" : PySem.Str), ("InvalidSide" : PySem.Str), ("InvalidNumber" : PySem.Str)],
  isx := [(("MixError" : PySem.Str), [true, true, true, true]), (("InvalidGame" : PySem.Str), [false, true, false, false]), (("InvalidNumber" : PySem.Str), [false, false, false, true])],
  kws := [(("turned" : PySem.Str), [("game" : PySem.Str)], [0]), (("moved" : PySem.Str), [("choice" : PySem.Str), ("number" : PySem.Str), ("game" : PySem.Str), ("side" : PySem.Str)], [2, 3, 0, 1]), (("without" : PySem.Str), [("choice" : PySem.Str), ("side" : PySem.Str), ("game" : PySem.Str)], [2, 1, 0])] }
theorem c_is_integer : chkSs sg n_is_integer (fun _ => true) (defScope (tp 8)) b_is_integer (defBody (tp 8)) = true := by decide +kernel
theorem s_is_integer : FnScope n_is_integer [("value" : PySem.Str)] (defScope (tp 8)) := ⟨rfl, rfl, rfl, by decide +kernel, rfl, by decide +kernel, by decide +kernel⟩
theorem c_anew : chkSs sg n_anew (fun _ => true) (defScope (tp 9)) b_anew (defBody (tp 9)) = true := by decide +kernel
theorem s_anew : FnScope n_anew [("value" : PySem.Str)] (defScope (tp 9)) := ⟨rfl, rfl, rfl, by decide +kernel, rfl, by decide +kernel, by decide +kernel⟩
theorem c_is_within : chkSs sg n_is_within (fun _ => true) (defScope (tp 10)) b_is_within (defBody (tp 10)) = true := by decide +kernel
theorem s_is_within : FnScope n_is_within [("value" : PySem.Str), ("least" : PySem.Str), ("most" : PySem.Str)] (defScope (tp 10)) := ⟨rfl, rfl, rfl, by decide +kernel, rfl, by decide +kernel, by decide +kernel⟩
theorem c_is_a_row : chkSs sg n_is_a_row (fun _ => true) (defScope (tp 11)) b_is_a_row (defBody (tp 11)) = true := by decide +kernel
theorem s_is_a_row : FnScope n_is_a_row [("value" : PySem.Str), ("wide" : PySem.Str)] (defScope (tp 11)) := ⟨rfl, rfl, rfl, by decide +kernel, rfl, by decide +kernel, by decide +kernel⟩
theorem c_is_a_table : chkSs sg n_is_a_table (fun _ => true) (defScope (tp 12)) b_is_a_table (defBody (tp 12)) = true := by decide +kernel
theorem s_is_a_table : FnScope n_is_a_table [("value" : PySem.Str)] (defScope (tp 12)) := ⟨rfl, rfl, rfl, by decide +kernel, rfl, by decide +kernel, by decide +kernel⟩
theorem c_are_tables_like : chkSs sg n_are_tables_like (fun _ => true) (defScope (tp 13)) b_are_tables_like (defBody (tp 13)) = true := by decide +kernel
theorem s_are_tables_like : FnScope n_are_tables_like [("value" : PySem.Str), ("rows" : PySem.Str), ("columns" : PySem.Str)] (defScope (tp 13)) := ⟨rfl, rfl, rfl, by decide +kernel, rfl, by decide +kernel, by decide +kernel⟩
theorem c_is_a_game : chkSs sg n_is_a_game (fun _ => true) (defScope (tp 14)) b_is_a_game (defBody (tp 14)) = true := by decide +kernel
theorem s_is_a_game : FnScope n_is_a_game [("value" : PySem.Str)] (defScope (tp 14)) := ⟨rfl, rfl, rfl, by decide +kernel, rfl, by decide +kernel, by decide +kernel⟩
theorem c_is_a_side : chkSs sg n_is_a_side (fun _ => true) (defScope (tp 15)) b_is_a_side (defBody (tp 15)) = true := by decide +kernel
theorem s_is_a_side : FnScope n_is_a_side [("value" : PySem.Str)] (defScope (tp 15)) := ⟨rfl, rfl, rfl, by decide +kernel, rfl, by decide +kernel, by decide +kernel⟩
theorem c_many_of : chkSs sg n_many_of (fun _ => true) (defScope (tp 16)) b_many_of (defBody (tp 16)) = true := by decide +kernel
theorem s_many_of : FnScope n_many_of [("game" : PySem.Str), ("side" : PySem.Str)] (defScope (tp 16)) := ⟨rfl, rfl, rfl, by decide +kernel, rfl, by decide +kernel, by decide +kernel⟩
theorem c_need_game : chkSs sg n_need_game (fun _ => true) (defScope (tp 17)) b_need_game (defBody (tp 17)) = true := by decide +kernel
theorem s_need_game : FnScope n_need_game [("game" : PySem.Str)] (defScope (tp 17)) := ⟨rfl, rfl, rfl, by decide +kernel, rfl, by decide +kernel, by decide +kernel⟩
theorem c_need_side : chkSs sg n_need_side (fun _ => true) (defScope (tp 18)) b_need_side (defBody (tp 18)) = true := by decide +kernel
theorem s_need_side : FnScope n_need_side [("side" : PySem.Str)] (defScope (tp 18)) := ⟨rfl, rfl, rfl, by decide +kernel, rfl, by decide +kernel, by decide +kernel⟩
theorem c_need_number : chkSs sg n_need_number (fun _ => true) (defScope (tp 19)) b_need_number (defBody (tp 19)) = true := by decide +kernel
theorem s_need_number : FnScope n_need_number [("number" : PySem.Str), ("low" : PySem.Str), ("high" : PySem.Str)] (defScope (tp 19)) := ⟨rfl, rfl, rfl, by decide +kernel, rfl, by decide +kernel, by decide +kernel⟩
theorem c_transposed : chkSs sg n_transposed (fun _ => true) (defScope (tp 21)) b_transposed (defBody (tp 21)) = true := by decide +kernel
theorem s_transposed : FnScope n_transposed [("table" : PySem.Str)] (defScope (tp 21)) := ⟨rfl, rfl, rfl, by decide +kernel, rfl, by decide +kernel, by decide +kernel⟩
theorem c_turned : chkSs sg n_turned (fun _ => true) (defScope (tp 23)) b_turned (defBody (tp 23)) = true := by decide +kernel
theorem s_turned : FnScope n_turned [("game" : PySem.Str)] (defScope (tp 23)) := ⟨rfl, rfl, rfl, by decide +kernel, rfl, by decide +kernel, by decide +kernel⟩
theorem c_raised : chkSs sg n_raised (fun _ => true) (defScope (tp 24)) b_raised (defBody (tp 24)) = true := by decide +kernel
theorem s_raised : FnScope n_raised [("table" : PySem.Str), ("at" : PySem.Str), ("number" : PySem.Str)] (defScope (tp 24)) := ⟨rfl, rfl, rfl, by decide +kernel, rfl, by decide +kernel, by decide +kernel⟩
theorem c_moved : chkSs sg n_moved (fun _ => true) (defScope (tp 25)) b_moved (defBody (tp 25)) = true := by decide +kernel
theorem s_moved : FnScope n_moved [("game" : PySem.Str), ("side" : PySem.Str), ("choice" : PySem.Str), ("number" : PySem.Str)] (defScope (tp 25)) := ⟨rfl, rfl, rfl, by decide +kernel, rfl, by decide +kernel, by decide +kernel⟩
theorem c_without : chkSs sg n_without (fun _ => true) (defScope (tp 26)) b_without (defBody (tp 26)) = true := by decide +kernel
theorem s_without : FnScope n_without [("game" : PySem.Str), ("side" : PySem.Str), ("choice" : PySem.Str)] (defScope (tp 26)) := ⟨rfl, rfl, rfl, by decide +kernel, rfl, by decide +kernel, by decide +kernel⟩
theorem c__law_source : chkSs sg n__law_source (fun _ => true) (defScope (tp 28)) b__law_source (defBody (tp 28)) = true := by decide +kernel
theorem s__law_source : FnScope n__law_source [("script" : PySem.Str)] (defScope (tp 28)) := ⟨rfl, rfl, rfl, by decide +kernel, rfl, by decide +kernel, by decide +kernel⟩
theorem c__law_pick : chkSs sg n__law_pick (fun _ => true) (defScope (tp 29)) b__law_pick (defBody (tp 29)) = true := by decide +kernel
theorem s__law_pick : FnScope n__law_pick [("source" : PySem.Str), ("many" : PySem.Str)] (defScope (tp 29)) := ⟨rfl, rfl, rfl, by decide +kernel, rfl, by decide +kernel, by decide +kernel⟩
theorem c__law_number : chkSs sg n__law_number (fun _ => true) (defScope (tp 30)) b__law_number (defBody (tp 30)) = true := by decide +kernel
theorem s__law_number : FnScope n__law_number [("source" : PySem.Str), ("kind" : PySem.Str)] (defScope (tp 30)) := ⟨rfl, rfl, rfl, by decide +kernel, rfl, by decide +kernel, by decide +kernel⟩
theorem c__law_table : chkSs sg n__law_table (fun _ => true) (defScope (tp 31)) b__law_table (defBody (tp 31)) = true := by decide +kernel
theorem s__law_table : FnScope n__law_table [("source" : PySem.Str), ("rows" : PySem.Str), ("columns" : PySem.Str)] (defScope (tp 31)) := ⟨rfl, rfl, rfl, by decide +kernel, rfl, by decide +kernel, by decide +kernel⟩
theorem c__law_game : chkSs sg n__law_game (fun _ => true) (defScope (tp 32)) b__law_game (defBody (tp 32)) = true := by decide +kernel
theorem s__law_game : FnScope n__law_game [("source" : PySem.Str), ("most" : PySem.Str)] (defScope (tp 32)) := ⟨rfl, rfl, rfl, by decide +kernel, rfl, by decide +kernel, by decide +kernel⟩
theorem c__law_columns : chkSs sg n__law_columns (fun _ => true) (defScope (tp 33)) b__law_columns (defBody (tp 33)) = true := by decide +kernel
theorem s__law_columns : FnScope n__law_columns [("table" : PySem.Str)] (defScope (tp 33)) := ⟨rfl, rfl, rfl, by decide +kernel, rfl, by decide +kernel, by decide +kernel⟩
theorem c__law_due : chkSs sg n__law_due (fun _ => true) (defScope (tp 34)) b__law_due (defBody (tp 34)) = true := by decide +kernel
theorem s__law_due : FnScope n__law_due [("way" : PySem.Str), ("game" : PySem.Str), ("side" : PySem.Str), ("choice" : PySem.Str), ("number" : PySem.Str)] (defScope (tp 34)) := ⟨rfl, rfl, rfl, by decide +kernel, rfl, by decide +kernel, by decide +kernel⟩
theorem c__law_call : chkSs sg n__law_call (fun _ => true) (defScope (tp 35)) b__law_call (defBody (tp 35)) = true := by decide +kernel
theorem s__law_call : FnScope n__law_call [("way" : PySem.Str), ("named" : PySem.Str), ("game" : PySem.Str), ("side" : PySem.Str), ("choice" : PySem.Str), ("number" : PySem.Str)] (defScope (tp 35)) := ⟨rfl, rfl, rfl, by decide +kernel, rfl, by decide +kernel, by decide +kernel⟩
theorem c__law_numbers : chkSs sg n__law_numbers (fun _ => true) (defScope (tp 36)) b__law_numbers (defBody (tp 36)) = true := by decide +kernel
theorem s__law_numbers : FnScope n__law_numbers [("game" : PySem.Str), ("side" : PySem.Str), ("choice" : PySem.Str)] (defScope (tp 36)) := ⟨rfl, rfl, rfl, by decide +kernel, rfl, by decide +kernel, by decide +kernel⟩
theorem c__law_drawn : chkSs sg n__law_drawn (fun _ => true) (defScope (tp 37)) b__law_drawn (defBody (tp 37)) = true := by decide +kernel
theorem s__law_drawn : FnScope n__law_drawn [("source" : PySem.Str), ("game" : PySem.Str)] (defScope (tp 37)) := ⟨rfl, rfl, rfl, by decide +kernel, rfl, by decide +kernel, by decide +kernel⟩
theorem c__law_right : chkSs sg n__law_right (fun _ => true) (defScope (tp 38)) b__law_right (defBody (tp 38)) = true := by decide +kernel
theorem s__law_right : FnScope n__law_right [("named" : PySem.Str), ("game" : PySem.Str), ("deed" : PySem.Str), ("due" : PySem.Str)] (defScope (tp 38)) := ⟨rfl, rfl, rfl, by decide +kernel, rfl, by decide +kernel, by decide +kernel⟩
theorem c_law : chkSs sg n_law (fun _ => true) (defScope (tp 39)) b_law (defBody (tp 39)) = true := by decide +kernel
theorem s_law : FnScope n_law [("script" : PySem.Str)] (defScope (tp 39)) := ⟨rfl, rfl, rfl, by decide +kernel, rfl, by decide +kernel, by decide +kernel⟩
section
variable {K : PySem.W.Frag} {h : Heap} {mg : Str → Option Value}
theorem t_is_integer (X : K.In h) (ns : h.Ns mainGlobals mg) (c : He.SaysD fa fn K) : DefOk sg K mg ("is_integer" : PySem.Str) d_is_integer :=
  defOk_of (i := 0) X ns c 0 rfl rfl s_is_integer rfl rfl (fun _ _ _ _ _ _ us hl => match us, hl with | [_], _ => rfl) (fun nms perm m => (kw_none (by decide +kernel) m).elim) c_is_integer
theorem t_anew (X : K.In h) (ns : h.Ns mainGlobals mg) (c : He.SaysD fa fn K) : DefOk sg K mg ("anew" : PySem.Str) d_anew :=
  defOk_of (i := 1) X ns c 1 rfl rfl s_anew rfl rfl (fun _ _ _ _ _ _ us hl => match us, hl with | [_], _ => rfl) (fun nms perm m => (kw_none (by decide +kernel) m).elim) c_anew
theorem t_is_within (X : K.In h) (ns : h.Ns mainGlobals mg) (c : He.SaysD fa fn K) : DefOk sg K mg ("is_within" : PySem.Str) d_is_within :=
  defOk_of (i := 2) X ns c 2 rfl rfl s_is_within rfl rfl (fun _ _ _ _ _ _ us hl => match us, hl with | [_, _, _], _ => rfl) (fun nms perm m => (kw_none (by decide +kernel) m).elim) c_is_within
theorem t_is_a_row (X : K.In h) (ns : h.Ns mainGlobals mg) (c : He.SaysD fa fn K) : DefOk sg K mg ("is_a_row" : PySem.Str) d_is_a_row :=
  defOk_of (i := 3) X ns c 3 rfl rfl s_is_a_row rfl rfl (fun _ _ _ _ _ _ us hl => match us, hl with | [_, _], _ => rfl) (fun nms perm m => (kw_none (by decide +kernel) m).elim) c_is_a_row
theorem t_is_a_table (X : K.In h) (ns : h.Ns mainGlobals mg) (c : He.SaysD fa fn K) : DefOk sg K mg ("is_a_table" : PySem.Str) d_is_a_table :=
  defOk_of (i := 4) X ns c 4 rfl rfl s_is_a_table rfl rfl (fun _ _ _ _ _ _ us hl => match us, hl with | [_], _ => rfl) (fun nms perm m => (kw_none (by decide +kernel) m).elim) c_is_a_table
theorem t_are_tables_like (X : K.In h) (ns : h.Ns mainGlobals mg) (c : He.SaysD fa fn K) : DefOk sg K mg ("are_tables_like" : PySem.Str) d_are_tables_like :=
  defOk_of (i := 5) X ns c 5 rfl rfl s_are_tables_like rfl rfl (fun _ _ _ _ _ _ us hl => match us, hl with | [_, _, _], _ => rfl) (fun nms perm m => (kw_none (by decide +kernel) m).elim) c_are_tables_like
theorem t_is_a_game (X : K.In h) (ns : h.Ns mainGlobals mg) (c : He.SaysD fa fn K) : DefOk sg K mg ("is_a_game" : PySem.Str) d_is_a_game :=
  defOk_of (i := 6) X ns c 6 rfl rfl s_is_a_game rfl rfl (fun _ _ _ _ _ _ us hl => match us, hl with | [_], _ => rfl) (fun nms perm m => (kw_none (by decide +kernel) m).elim) c_is_a_game
theorem t_is_a_side (X : K.In h) (ns : h.Ns mainGlobals mg) (c : He.SaysD fa fn K) : DefOk sg K mg ("is_a_side" : PySem.Str) d_is_a_side :=
  defOk_of (i := 7) X ns c 7 rfl rfl s_is_a_side rfl rfl (fun _ _ _ _ _ _ us hl => match us, hl with | [_], _ => rfl) (fun nms perm m => (kw_none (by decide +kernel) m).elim) c_is_a_side
theorem t_many_of (X : K.In h) (ns : h.Ns mainGlobals mg) (c : He.SaysD fa fn K) : DefOk sg K mg ("many_of" : PySem.Str) d_many_of :=
  defOk_of (i := 8) X ns c 8 rfl rfl s_many_of rfl rfl (fun _ _ _ _ _ _ us hl => match us, hl with | [_, _], _ => rfl) (fun nms perm m => (kw_none (by decide +kernel) m).elim) c_many_of
theorem t_need_game (X : K.In h) (ns : h.Ns mainGlobals mg) (c : He.SaysD fa fn K) : DefOk sg K mg ("need_game" : PySem.Str) d_need_game :=
  defOk_of (i := 9) X ns c 9 rfl rfl s_need_game rfl rfl (fun _ _ _ _ _ _ us hl => match us, hl with | [_], _ => rfl) (fun nms perm m => (kw_none (by decide +kernel) m).elim) c_need_game
theorem t_need_side (X : K.In h) (ns : h.Ns mainGlobals mg) (c : He.SaysD fa fn K) : DefOk sg K mg ("need_side" : PySem.Str) d_need_side :=
  defOk_of (i := 10) X ns c 10 rfl rfl s_need_side rfl rfl (fun _ _ _ _ _ _ us hl => match us, hl with | [_], _ => rfl) (fun nms perm m => (kw_none (by decide +kernel) m).elim) c_need_side
theorem t_need_number (X : K.In h) (ns : h.Ns mainGlobals mg) (c : He.SaysD fa fn K) : DefOk sg K mg ("need_number" : PySem.Str) d_need_number :=
  defOk_of (i := 11) X ns c 11 rfl rfl s_need_number rfl rfl (fun _ _ _ _ _ _ us hl => match us, hl with | [_, _, _], _ => rfl) (fun nms perm m => (kw_none (by decide +kernel) m).elim) c_need_number
theorem t_transposed (X : K.In h) (ns : h.Ns mainGlobals mg) (c : He.SaysD fa fn K) : DefOk sg K mg ("transposed" : PySem.Str) d_transposed :=
  defOk_of (i := 12) X ns c 12 rfl rfl s_transposed rfl rfl (fun _ _ _ _ _ _ us hl => match us, hl with | [_], _ => rfl) (fun nms perm m => (kw_none (by decide +kernel) m).elim) c_transposed
theorem t_turned (X : K.In h) (ns : h.Ns mainGlobals mg) (c : He.SaysD fa fn K) : DefOk sg K mg ("turned" : PySem.Str) d_turned :=
  defOk_of (i := 13) X ns c 13 rfl rfl s_turned rfl rfl (fun _ _ _ _ _ _ us hl => match us, hl with | [_], _ => rfl) (fun nms perm m kV doc pm an cdv ct us zs hl hp => by
    have e := kw_some (a := ([("game" : PySem.Str)], [0])) (by decide +kernel) m
    cases e
    exact match us, hl, hp with | [_], _, hp => by cases hp; rfl) c_turned
theorem t_raised (X : K.In h) (ns : h.Ns mainGlobals mg) (c : He.SaysD fa fn K) : DefOk sg K mg ("raised" : PySem.Str) d_raised :=
  defOk_of (i := 14) X ns c 14 rfl rfl s_raised rfl rfl (fun _ _ _ _ _ _ us hl => match us, hl with | [_, _, _], _ => rfl) (fun nms perm m => (kw_none (by decide +kernel) m).elim) c_raised
theorem t_moved (X : K.In h) (ns : h.Ns mainGlobals mg) (c : He.SaysD fa fn K) : DefOk sg K mg ("moved" : PySem.Str) d_moved :=
  defOk_of (i := 15) X ns c 15 rfl rfl s_moved rfl rfl (fun _ _ _ _ _ _ us hl => match us, hl with | [_, _, _, _], _ => rfl) (fun nms perm m kV doc pm an cdv ct us zs hl hp => by
    have e := kw_some (a := ([("choice" : PySem.Str), ("number" : PySem.Str), ("game" : PySem.Str), ("side" : PySem.Str)], [2, 3, 0, 1])) (by decide +kernel) m
    cases e
    exact match us, hl, hp with | [_, _, _, _], _, hp => by cases hp; rfl) c_moved
theorem t_without (X : K.In h) (ns : h.Ns mainGlobals mg) (c : He.SaysD fa fn K) : DefOk sg K mg ("without" : PySem.Str) d_without :=
  defOk_of (i := 16) X ns c 16 rfl rfl s_without rfl rfl (fun _ _ _ _ _ _ us hl => match us, hl with | [_, _, _], _ => rfl) (fun nms perm m kV doc pm an cdv ct us zs hl hp => by
    have e := kw_some (a := ([("choice" : PySem.Str), ("side" : PySem.Str), ("game" : PySem.Str)], [2, 1, 0])) (by decide +kernel) m
    cases e
    exact match us, hl, hp with | [_, _, _], _, hp => by cases hp; rfl) c_without
theorem t__law_source (X : K.In h) (ns : h.Ns mainGlobals mg) (c : He.SaysD fa fn K) : DefOk sg K mg ("_law_source" : PySem.Str) d__law_source :=
  defOk_of (i := 17) X ns c 17 rfl rfl s__law_source rfl rfl (fun _ _ _ _ _ _ us hl => match us, hl with | [_], _ => rfl) (fun nms perm m => (kw_none (by decide +kernel) m).elim) c__law_source
theorem t__law_pick (X : K.In h) (ns : h.Ns mainGlobals mg) (c : He.SaysD fa fn K) : DefOk sg K mg ("_law_pick" : PySem.Str) d__law_pick :=
  defOk_of (i := 18) X ns c 18 rfl rfl s__law_pick rfl rfl (fun _ _ _ _ _ _ us hl => match us, hl with | [_, _], _ => rfl) (fun nms perm m => (kw_none (by decide +kernel) m).elim) c__law_pick
theorem t__law_number (X : K.In h) (ns : h.Ns mainGlobals mg) (c : He.SaysD fa fn K) : DefOk sg K mg ("_law_number" : PySem.Str) d__law_number :=
  defOk_of (i := 19) X ns c 19 rfl rfl s__law_number rfl rfl (fun _ _ _ _ _ _ us hl => match us, hl with | [_, _], _ => rfl) (fun nms perm m => (kw_none (by decide +kernel) m).elim) c__law_number
theorem t__law_table (X : K.In h) (ns : h.Ns mainGlobals mg) (c : He.SaysD fa fn K) : DefOk sg K mg ("_law_table" : PySem.Str) d__law_table :=
  defOk_of (i := 20) X ns c 20 rfl rfl s__law_table rfl rfl (fun _ _ _ _ _ _ us hl => match us, hl with | [_, _, _], _ => rfl) (fun nms perm m => (kw_none (by decide +kernel) m).elim) c__law_table
theorem t__law_game (X : K.In h) (ns : h.Ns mainGlobals mg) (c : He.SaysD fa fn K) : DefOk sg K mg ("_law_game" : PySem.Str) d__law_game :=
  defOk_of (i := 21) X ns c 21 rfl rfl s__law_game rfl rfl (fun _ _ _ _ _ _ us hl => match us, hl with | [_, _], _ => rfl) (fun nms perm m => (kw_none (by decide +kernel) m).elim) c__law_game
theorem t__law_columns (X : K.In h) (ns : h.Ns mainGlobals mg) (c : He.SaysD fa fn K) : DefOk sg K mg ("_law_columns" : PySem.Str) d__law_columns :=
  defOk_of (i := 22) X ns c 22 rfl rfl s__law_columns rfl rfl (fun _ _ _ _ _ _ us hl => match us, hl with | [_], _ => rfl) (fun nms perm m => (kw_none (by decide +kernel) m).elim) c__law_columns
theorem t__law_due (X : K.In h) (ns : h.Ns mainGlobals mg) (c : He.SaysD fa fn K) : DefOk sg K mg ("_law_due" : PySem.Str) d__law_due :=
  defOk_of (i := 23) X ns c 23 rfl rfl s__law_due rfl rfl (fun _ _ _ _ _ _ us hl => match us, hl with | [_, _, _, _, _], _ => rfl) (fun nms perm m => (kw_none (by decide +kernel) m).elim) c__law_due
theorem t__law_call (X : K.In h) (ns : h.Ns mainGlobals mg) (c : He.SaysD fa fn K) : DefOk sg K mg ("_law_call" : PySem.Str) d__law_call :=
  defOk_of (i := 24) X ns c 24 rfl rfl s__law_call rfl rfl (fun _ _ _ _ _ _ us hl => match us, hl with | [_, _, _, _, _, _], _ => rfl) (fun nms perm m => (kw_none (by decide +kernel) m).elim) c__law_call
theorem t__law_numbers (X : K.In h) (ns : h.Ns mainGlobals mg) (c : He.SaysD fa fn K) : DefOk sg K mg ("_law_numbers" : PySem.Str) d__law_numbers :=
  defOk_of (i := 25) X ns c 25 rfl rfl s__law_numbers rfl rfl (fun _ _ _ _ _ _ us hl => match us, hl with | [_, _, _], _ => rfl) (fun nms perm m => (kw_none (by decide +kernel) m).elim) c__law_numbers
theorem t__law_drawn (X : K.In h) (ns : h.Ns mainGlobals mg) (c : He.SaysD fa fn K) : DefOk sg K mg ("_law_drawn" : PySem.Str) d__law_drawn :=
  defOk_of (i := 26) X ns c 26 rfl rfl s__law_drawn rfl rfl (fun _ _ _ _ _ _ us hl => match us, hl with | [_, _], _ => rfl) (fun nms perm m => (kw_none (by decide +kernel) m).elim) c__law_drawn
theorem t__law_right (X : K.In h) (ns : h.Ns mainGlobals mg) (c : He.SaysD fa fn K) : DefOk sg K mg ("_law_right" : PySem.Str) d__law_right :=
  defOk_of (i := 27) X ns c 27 rfl rfl s__law_right rfl rfl (fun _ _ _ _ _ _ us hl => match us, hl with | [_, _, _, _], _ => rfl) (fun nms perm m => (kw_none (by decide +kernel) m).elim) c__law_right
theorem t_law (X : K.In h) (ns : h.Ns mainGlobals mg) (c : He.SaysD fa fn K) : DefOk sg K mg ("law" : PySem.Str) d_law :=
  defOk_of (i := 28) X ns c 28 rfl rfl s_law rfl rfl (fun _ _ _ _ _ _ us hl => match us, hl with | [_], _ => rfl) (fun nms perm m => (kw_none (by decide +kernel) m).elim) c_law
theorem tabOk (X : K.In h) (ns : h.Ns mainGlobals mg) (c : He.SaysD fa fn K) (g : gs.all (Gx.ok K) = true) : TabOk sg K mg tab where
  fn := fun f x e => match f, e with
    | 0, e => (Option.some.inj e) ▸ ⟨_, rfl, t_is_integer X ns c⟩
    | 1, e => (Option.some.inj e) ▸ ⟨_, rfl, t_anew X ns c⟩
    | 2, e => (Option.some.inj e) ▸ ⟨_, rfl, t_is_within X ns c⟩
    | 3, e => (Option.some.inj e) ▸ ⟨_, rfl, t_is_a_row X ns c⟩
    | 4, e => (Option.some.inj e) ▸ ⟨_, rfl, t_is_a_table X ns c⟩
    | 5, e => (Option.some.inj e) ▸ ⟨_, rfl, t_are_tables_like X ns c⟩
    | 6, e => (Option.some.inj e) ▸ ⟨_, rfl, t_is_a_game X ns c⟩
    | 7, e => (Option.some.inj e) ▸ ⟨_, rfl, t_is_a_side X ns c⟩
    | 8, e => (Option.some.inj e) ▸ ⟨_, rfl, t_many_of X ns c⟩
    | 9, e => (Option.some.inj e) ▸ ⟨_, rfl, t_need_game X ns c⟩
    | 10, e => (Option.some.inj e) ▸ ⟨_, rfl, t_need_side X ns c⟩
    | 11, e => (Option.some.inj e) ▸ ⟨_, rfl, t_need_number X ns c⟩
    | 12, e => (Option.some.inj e) ▸ ⟨_, rfl, t_transposed X ns c⟩
    | 13, e => (Option.some.inj e) ▸ ⟨_, rfl, t_turned X ns c⟩
    | 14, e => (Option.some.inj e) ▸ ⟨_, rfl, t_raised X ns c⟩
    | 15, e => (Option.some.inj e) ▸ ⟨_, rfl, t_moved X ns c⟩
    | 16, e => (Option.some.inj e) ▸ ⟨_, rfl, t_without X ns c⟩
    | 17, e => (Option.some.inj e) ▸ ⟨_, rfl, t__law_source X ns c⟩
    | 18, e => (Option.some.inj e) ▸ ⟨_, rfl, t__law_pick X ns c⟩
    | 19, e => (Option.some.inj e) ▸ ⟨_, rfl, t__law_number X ns c⟩
    | 20, e => (Option.some.inj e) ▸ ⟨_, rfl, t__law_table X ns c⟩
    | 21, e => (Option.some.inj e) ▸ ⟨_, rfl, t__law_game X ns c⟩
    | 22, e => (Option.some.inj e) ▸ ⟨_, rfl, t__law_columns X ns c⟩
    | 23, e => (Option.some.inj e) ▸ ⟨_, rfl, t__law_due X ns c⟩
    | 24, e => (Option.some.inj e) ▸ ⟨_, rfl, t__law_call X ns c⟩
    | 25, e => (Option.some.inj e) ▸ ⟨_, rfl, t__law_numbers X ns c⟩
    | 26, e => (Option.some.inj e) ▸ ⟨_, rfl, t__law_drawn X ns c⟩
    | 27, e => (Option.some.inj e) ▸ ⟨_, rfl, t__law_right X ns c⟩
    | 28, e => (Option.some.inj e) ▸ ⟨_, rfl, t_law X ns c⟩
    | _ + 29, e => nomatch e
  cn := fun x d m => by
    have m : (x, d) ∈ ([(("MOST_CHOICES" : PySem.Str), (.int 5)), (("MOST_NUMBER" : PySem.Str), (.int 1000))] : List (Str × PyData)) := m
    simp only [List.mem_cons, Prod.mk.injEq, List.not_mem_nil, or_false] at m
    rcases m with ⟨rfl, rfl⟩ | ⟨rfl, rfl⟩
    · exact cn_int X ns c 42 rfl
    · exact cn_int X ns c 43 rfl
  bi := fun x m => by
    have m : x ∈ ([("abs" : PySem.Str), ("all" : PySem.Str), ("bool" : PySem.Str), ("enumerate" : PySem.Str), ("int" : PySem.Str), ("isinstance" : PySem.Str), ("len" : PySem.Str), ("list" : PySem.Str), ("max" : PySem.Str), ("min" : PySem.Str), ("range" : PySem.Str), ("repr" : PySem.Str), ("tuple" : PySem.Str)] : List Str) := m
    simp only [List.mem_cons, List.not_mem_nil, or_false] at m
    rcases m with rfl | rfl | rfl | rfl | rfl | rfl | rfl | rfl | rfl | rfl | rfl | rfl | rfl
    · exact He.free_ok X ns (c.fact 29 rfl)
    · exact He.free_ok X ns (c.fact 30 rfl)
    · exact He.free_ok X ns (c.fact 31 rfl)
    · exact He.free_ok X ns (c.fact 32 rfl)
    · exact He.free_ok X ns (c.fact 33 rfl)
    · exact He.free_ok X ns (c.fact 34 rfl)
    · exact He.free_ok X ns (c.fact 35 rfl)
    · exact He.free_ok X ns (c.fact 36 rfl)
    · exact He.free_ok X ns (c.fact 37 rfl)
    · exact He.free_ok X ns (c.fact 38 rfl)
    · exact He.free_ok X ns (c.fact 39 rfl)
    · exact He.free_ok X ns (c.fact 40 rfl)
    · exact He.free_ok X ns (c.fact 41 rfl)
  gc := ⟨fun m => absurd m (by decide +kernel), fun m => absurd m (by decide +kernel)⟩
theorem tabX (X : K.In h) (ns : h.Ns mainGlobals mg) (c : xsB K xs = true) (i : iniW K xs.base = iv) : TabX sg pg K mg (clsOf K xs.names) :=
  tabX_of (P := pg) (x := xs) X ns c (by decide) i (by rfl) rfl (by decide +kernel) rfl rfl
end
/-! ### the head -/
/-- the law, by values -/
def Sound (k fu : Nat) : Prop := ∀ ns : List Int, ns.length ≤ 63 → (∀ i ∈ ns, Builtin.Int.intBits i ≤ 1048576) → ∃ s, callI tab fu k 28 [.d (.list (ns.map PyData.int))] [] = .ok (.d (.bool true)) s
end Law
open PySem PySem.W PySem.Calls PyProof.Rows
theorem law_of (k fu : Nat) (room : L2.Room (k + 2) callerA) (sound : Law.Sound k fu) : PySem.Challenge.rw_steadymixes_k04_games_turned_and_moved.Holds := by
  w_on; o_law
  refine HandSHeadRun.head_any (r := OpenLaw.row PySem.Challenge.rw_steadymixes_k04_games_turned_and_moved) (q := view (OpenLaw.row PySem.Challenge.rw_steadymixes_k04_games_turned_and_moved).prog Law.vw) (H := Law.hk) (ob := Law.ob) (M := 20000) (loose := Law.loose) (d := HandSHeadRun.topDef (OpenLaw.row PySem.Challenge.rw_steadymixes_k04_games_turned_and_moved).prog 39) (kwd := []) Law.ob_eq
    (by kernel_rfl) (fun s => by kernel_rfl) Law.run
    (by kernel_rfl) (by kernel_rfl) (by kernel_rfl) (by rfl) (by first | assumption | decide +kernel) (by decide +kernel) ⟨rfl, rfl, rfl, rfl, rfl, by decide +kernel⟩ ?hw ?hc
  case hw => w_witness2
  case hc =>
    refine SM.walk_law (l := PySem.Challenge.rw_steadymixes_k04_games_turned_and_moved) (n := 63) (k := k) (fu := fu) (G := Law.sg) (T := Law.tab) (fl := 28) rfl (by decide) (by kernel_rfl) room ?_ (by kernel_rfl) rfl sound
    intro w mg h Y ns
    obtain ⟨K, X, c, g, x, i⟩ := Y
    exact ⟨K, _, X, Law.tabOk X ns c g, Law.tabX X ns x i⟩

open PySem PySem.W PyProof.Rows
theorem PySem.Challenge.cw_steadymixes_k04_games_turned_and_moved_holds : PySem.Challenge.rw_steadymixes_k04_games_turned_and_moved.Holds := by
  refine law_of 110 1 ⟨rfl, by decide, by decide⟩ fun ns hn _ => ?_
  obtain ⟨v, t, e, q⟩ := (Law.law_ok (fu := 1) (K := 110) (ns := ns) (by decide) hn).ex
  exact ⟨t, by rw [← q]; exact e⟩
