import PyProof.Rows.All
import HandS.ForMost
import HandS.Head0
import HandS.Head1
import HandS.Head2
import HandS.HeadEnd
import HandS.HeadHook1
import HandS.HeadHook2
import HandS.EndBits
import HandS.IsInst
import HandS.Property
import HandS.Exc
import HandS.Flow
import HandS.Style
import HandS.WideBits
import HandS.TupAny
import HandS.TupMul
import HandS.Star
import HandS.Conv
import HandS.Zip
import HandS.OwnEq
import HandS.DictTup
import KE.KeyNested
import KE.KDictKeyed
import PyProof.ReprRoads
import HandS.ExcField
import HandS.TryOnly
import HandS.ExcOwn
import HandS.ExcInit
import KE.KExcIs
import HandS.Deep
import HandS.Text
import HandS.Iter
import HandS.Remove
import KE.IntBitsLaws
import KE.DataMinMax
import KE.SortData
import HandS.SortInts
import HandS.More
import HandS.Defaults
import PyProof.LongRange
import KE.GoesMore
import KE.GoesEnum
import PyProof.Draws
import HandS.ExcValue
import HandS.ExcIs
import KE.OsArith
import PyProof.P3Eq
import PySem.Challenge.RW_fillbands_k42_errors_made
set_option Elab.async false
set_option linter.all false
set_option maxRecDepth 100000
set_option maxHeartbeats 4000000
/-! Lite: the hook, what it looks at: definitions alone. -/
namespace Fb
open PySem PySem.Spec PyProof.Rows L2
inductive At where
  | fn (x : Str) | me (c m : Str) | pr (c m : Str)
def prFn (K : PySem.W.Frag) (p : Addr) : Addr := match PySem.W.recIn K p "property" with
  | some (.ref g :: _) => g
  | _ => 0
def At.adr (K : PySem.W.Frag) : At → Addr
  | .fn x => He.ga K x
  | .me c m => He.ma K (He.ga K c) m
  | .pr c m => prFn K (He.ma K (He.ga K c) m)
structure Dd where
  loc : At
  name : Str
  qual : Str
  st : Stmt
/-- the classes of errors by number, the name of their field -/
def xNames : List Str := ["FillError", "InvalidZones", "InvalidPlaces", "InvalidText", "TooLarge", "OverRoom", "InvalidBorders", "InvalidSystem", "InvalidUnknown", "InvalidSpan", "InvalidNumber", "InvalidBudget", "UnlikeSystems", "Bordered", "NotCoupled", "InvalidOperation", "Nothing", "InvalidCommand"]
def xn (c : Nat) : Str := xNames.getD c Str.empty
def xfN : Nat → Str
  | 1 => "item" | 2 => "item" | 3 => "part" | 4 => "limit" | 5 => "count" | _ => ""
/-- is a class of errors the other one, or below it (0: the base of all) -/
def xsub (d c : Nat) : Bool := d == c || c == 0
/-! the defs of a table -/
structure Tab where
  /-- the defs by number: the global name, or none for a method -/
  fn : List (Option Str)
  gl : List Str
  cls : List Str
  /-- methods, properties: class, name, number of the def; classes with their __init__; attributes -/
  me : List (Nat × Str × Nat)
  pr : List (Nat × Str × Nat)
  mks : List (Nat × Nat)
  fl : List (Nat × Str)
  /-- classes whose instances isinstance is asked of -/
  isi : List Nat
  /-- the classes of errors, by number; those with an __init__ of their own -/
  xs : List Nat
  xi : List (Nat × Dd)

def blNames : List Str := ["len", "min", "max", "sum", "all", "any", "sorted", "list", "tuple", "int", "str", "repr", "divmod", "abs", "set", "range", "enumerate", "zip", "isinstance", "dict", "bool", "ValueError"]
def tyKinds : List String := ["NoneType", "bool", "int", "str", "tuple", "list", "dict"]
def fdAt (K : PySem.W.Frag) (a : Addr) : He.FnW := match K.lookup a with
  | some ⟨_, _, .func g, _⟩ => some (g.name, g.qualname, g.params, g.body, g.scope, g.globals, g.closure, g.builtins)
  | _ => none
def Dd.want (d : Dd) : He.FnW := some (d.name, d.qual, defArgs d.st, .stmts (defBody d.st), defScope d.st, mainGlobals, [], builtinsNs)
def Dd.good (K : PySem.W.Frag) (d : Dd) : Bool := PySem.W.keepIn K (.ref (d.loc.adr K)) && match K.lookup (d.loc.adr K) with
  | some ⟨_, _, .func g, _⟩ => PySem.W.codeIn K g.code d.qual && (He.dflB K g.defaults [] && He.kwdB K g.kwdefaults [])
  | _ => false
def hkO (ds : List Dd) (ex : PySem.W.Frag → Bool) (K : PySem.W.Frag) : Bool × List He.FnW := (ex K && ds.all (Dd.good K), ds.map fun d => fdAt K (d.loc.adr K))
def hkF (n : Nat) (g : Addr → Option Obj) : PySem.W.Frag := He.frG g (sysModules :: He.asD g n)
def hk (n : Nat) (ds : List Dd) (ex : PySem.W.Frag → Bool) : PySem.W.Hook where
  α := Bool × List He.FnW
  obs := fun s => hkO ds ex (hkF n s.heap.get?)
  val := fun _ => (true, ds.map Dd.want)
  says := fun _ h => ∃ K : PySem.W.Frag, K.In h ∧ hkO ds ex K = (true, ds.map Dd.want)
  of := fun _ _ e => ⟨_, He.frG_in, e⟩
  keeps := fun _ _ _ ⟨K, hK, c⟩ k => ⟨K, PySem.W.Frag.In.keeps hK k, c⟩
theorem hk_eq {n : Nat} {ds : List Dd} {ex : PySem.W.Frag → Bool} (s : PySem.W.SharedT) : hkO ds ex (hkF n (HandSHeadRun.getT s)) = (hk n ds ex).obs s.abs := by
  have e : HandSHeadRun.getT s = s.abs.heap.get? := funext fun a => HandSHeadRun.getT_eq s a
  rw [e] <;> rfl
def cn (T : Tab) (c : Nat) : Str := T.cls.getD c Str.empty
def prB (K : PySem.W.Frag) (C : Addr) (m : Str) : Bool :=
  He.eqO (PySem.W.findIn K (.ref C) m) (some (some (.ref (He.ma K C m)))) && (He.eqO (PySem.W.specialIn K (.ref (He.ma K C m)) "__get__") (some (some (.builtin "property.__get__"))) &&
    (decide (PySem.W.takesIn K (.ref (He.ma K C m)) = some true) && match PySem.W.recIn K (He.ma K C m) "property" with
      | some (.ref _ :: _) => true
      | _ => false))
def facts (T : Tab) (gv : List Int) : List He.Fa :=
  (T.fn.filterMap id).map .glo ++ (blNames.map .free ++ ((T.gl.zip gv).map (fun p => .int p.1 p.2) ++ (T.cls.map .glo ++ ((T.mks.map fun p => .cls (cn T p.1)) ++ ((T.mks.map fun p => .mkr (cn T p.1)) ++
    ((T.me.map fun p => .meth (cn T p.1) p.2.1) ++ ((T.fl.map fun p => .noat (cn T p.1) p.2) ++ T.isi.map fun c => .cls (cn T c))))))))
def isB (T : Tab) (K : PySem.W.Frag) (c : Nat) : Bool :=
  He.eqO (PySem.W.findIn K (.ref (He.ga K (cn T c))) "__class__") (some (some (.builtin "object.__class__"))) && (He.eqO (PySem.W.specialIn K (.builtin "object.__class__") "__get__") (some (some (.builtin "getset_descriptor.__get__"))) &&
    (decide (PySem.W.takesIn K (.builtin "object.__class__") = some true) && (decide (PySem.W.mroIn K (He.ga K (cn T c)) (.type "object") = some true) && ((tyKinds.all fun n => decide (PySem.W.kitOne K (.type n) (.ref (He.ga K (cn T c))) = some false)) &&
    ((tyKinds.all fun n => decide (PySem.W.kitOne K (.ref (He.ga K (cn T c))) (.type n) = some false)) && T.isi.all fun d => decide (PySem.W.kitOne K (.ref (He.ga K (cn T c))) (.ref (He.ga K (cn T d))) = some (decide (c = d))))))))
/-- an error's class with an __init__ -/
def oexB (K : PySem.W.Frag) (C : Addr) : Bool := match K.lookup C with
  | some ⟨.type "type", _, .cls d, q⟩ => (match d.mro, q.toList with
    | .ref B :: bm, [_, _, _, _, some (.builtin n), _] => B == C && (n == "ValueError.__new__" && (!d.hasDel && (d.hasDict && PySem.HandSPX.refsVE bm)))
    | _, _ => false)
  | _ => false
def xB (T : Tab) (K : PySem.W.Frag) (c : Nat) : Bool :=
  let C := He.ga K (xn c)
  (He.Fa.glo (xn c)).ok K && (He.eqO (PySem.W.findIn K (.ref C) "__getattribute__") (some (some (.builtin "BaseException.__getattribute__"))) && (He.eqO (PySem.W.findIn K (.ref C) "__getattr__") (some none) && (decide (PySem.W.subIn K (.ref C) (.type "BaseException") = some true) &&
  (PySem.W.hasDictIn K C && (He.eqO (PySem.W.findIn K (.ref C) "__class__") (some (some (.builtin "object.__class__"))) && (He.eqO (PySem.W.specialIn K (.builtin "object.__class__") "__get__") (some (some (.builtin "getset_descriptor.__get__"))) &&
  (decide (PySem.W.takesIn K (.builtin "object.__class__") = some true) && (decide (PySem.W.mroIn K C (.type "object") = some true) && (decide (PySem.W.typeIn K (.ref C) = some (.type "type")) && (PySem.W.keepIn K (.ref C) && (decide (PySem.W.kitOne K (.ref C) (.type "ValueError") = some true) &&
  ((T.xs.all fun d => decide (PySem.W.subIn K (.ref C) (.ref (He.ga K (xn d))) = some (xsub c d)) && decide (PySem.W.kitOne K (.ref C) (.ref (He.ga K (xn d))) = some (xsub c d))) &&
  if xfN c = "" then PySem.W.excIn K C He.veBase "ValueError.__new__" else
    oexB K C && (He.eqO (PySem.W.findIn K (.ref C) "__setattr__") (some (some (.builtin "object.__setattr__"))) && (He.eqO (PySem.W.findIn K (.ref C) "__init__") (some (some (.ref (He.ma K C "__init__")))) && (PySem.W.isFn K (.ref (He.ma K C "__init__")) && He.eqO (PySem.W.findIn K (.ref C) (xfN c)) (some none))))))))))))))))
def sysB (K : PySem.W.Frag) : Bool := match K.lookup sysModules with
  | some o => o.cls == .type "dict"
  | none => false
def exT (T : Tab) (gv : List Int) (K : PySem.W.Frag) : Bool := sysB K && ((facts T gv).all (fun f => f.ok K) && ((T.pr.all fun p => prB K (He.ga K (cn T p.1)) p.2.1) && ((T.isi.all fun c => isB T K c) && T.xs.all fun c => xB T K c)))
end Fb
set_option Elab.async false
set_option linter.all false
set_option maxRecDepth 100000
set_option maxHeartbeats 0
/-! The law's row, its names. Written by gen.py. -/
namespace Fb
open PySem PySem.Spec PyProof.Rows
abbrev pg : Program := PySem.Challenge.pw_fillbands_k42_errors_made
def st (i : Nat) : Stmt := pg.main.body.getD i (.Pass ⟨0, 0, 0, 0⟩)
def stm (i j : Nat) : Stmt := match st i with
  | .ClassDef _ _ _ b _ _ _ _ _ _ _ => b.getD j (.Pass ⟨0, 0, 0, 0⟩)
  | _ => .Pass ⟨0, 0, 0, 0⟩
abbrev f__law_bag : Nat := 0
abbrev f__law_pick : Nat := 1
abbrev f__law_made : Nat := 2
abbrev f__law_classes : Nat := 3
abbrev f_law : Nat := 4
def ddx_1 : Dd := ⟨.me "InvalidZones" "__init__", "__init__", "InvalidZones.__init__", stm 2 0⟩
def ddx_2 : Dd := ⟨.me "InvalidPlaces" "__init__", "__init__", "InvalidPlaces.__init__", stm 3 0⟩
def ddx_3 : Dd := ⟨.me "InvalidText" "__init__", "__init__", "InvalidText.__init__", stm 4 0⟩
def ddx_4 : Dd := ⟨.me "TooLarge" "__init__", "__init__", "TooLarge.__init__", stm 5 0⟩
def ddx_5 : Dd := ⟨.me "OverRoom" "__init__", "__init__", "OverRoom.__init__", stm 6 0⟩
def T : Tab where
  fn := [some ("_law_bag" : Str), some ("_law_pick" : Str), some ("_law_made" : Str), some ("_law_classes" : Str), some ("law" : Str)]
  gl := []
  cls := []
  me := []
  pr := []
  mks := []
  fl := []
  isi := []
  xs := [0, 1, 2, 3, 4, 5, 6, 7, 8, 9, 10, 11, 12, 13, 14, 15, 16, 17]
  xi := [(1, ddx_1), (2, ddx_2), (3, ddx_3), (4, ddx_4), (5, ddx_5)]
def gv : List Int := []
def dd__law_bag : Dd := ⟨.fn "_law_bag", "_law_bag", "_law_bag", st 20⟩
def dd__law_pick : Dd := ⟨.fn "_law_pick", "_law_pick", "_law_pick", st 21⟩
def dd__law_made : Dd := ⟨.fn "_law_made", "_law_made", "_law_made", st 22⟩
def dd__law_classes : Dd := ⟨.fn "_law_classes", "_law_classes", "_law_classes", st 23⟩
def dd_law : Dd := ⟨.fn "law", "law", "law", st 24⟩
def dds : List Dd := [dd__law_bag, dd__law_pick, dd__law_made, dd__law_classes, dd_law]
abbrev iLaw : Nat := 24
def looseN : List Str := (["FillError", "InvalidZones", "InvalidPlaces", "InvalidText", "TooLarge", "OverRoom", "InvalidBorders", "InvalidSystem", "InvalidUnknown", "InvalidSpan", "InvalidNumber", "InvalidBudget", "UnlikeSystems", "Bordered", "NotCoupled", "InvalidOperation", "Nothing", "InvalidCommand", "_law_bag", "_law_pick", "_law_made", "_law_classes"] : List Str)
abbrev LawRow : PySem.W.OpenLaw := PySem.Challenge.rw_fillbands_k42_errors_made
abbrev Rw : PySem.W.OpenRow := PySem.W.OpenLaw.row PySem.Challenge.rw_fillbands_k42_errors_made
end Fb
set_option Elab.async false
set_option linter.all false
set_option maxRecDepth 100000
set_option maxHeartbeats 0
/-! The head's run: three looks; at the very begin of a hand-in, where least memory is taken. -/
namespace Fb
open PySem PySem.Spec PyProof.Rows L2
abbrev hkL : PySem.W.Hook := hk 6 (dds ++ T.xi.map (·.2)) (exT T gv)
def ob (s : PySem.W.SharedT) : Bool × List He.FnW := hkO (dds ++ T.xi.map (·.2)) (exT T gv) (hkF 6 (HandSHeadRun.getT s))
section
open PySem.W PySem.Calls HandSHeadRun
/-- the run, its three looks one by one -/
noncomputable def endR (w : World) (os : OsState) : Option PySem.W.SharedT := endF (stepQ (denQ tabQ) Rw.prog w) 12000 Rw.prog w os
theorem run1 (w : World) (os : OsState) : (endR w os).map (fun s => looksF Rw.prog (boot_heap w.params) s.abs) = some true := by kernel_rfl
theorem run2 (w : World) (os : OsState) : (endR w os).map (fun s => seenQ (view Rw.prog [iLaw]) looseN (importedModules Rw.prog.main.body) (fun s => xlAt (view Rw.prog [iLaw]) [] s && recOk Rw.toRowW.records s) s.abs) = some (openGood (view Rw.prog [iLaw]) looseN) := by kernel_rfl
theorem run3 (w : World) (os : OsState) : (endR w os).map (fun s => ob s) = some (hkL.val w) := by kernel_rfl
end
end Fb
set_option Elab.async false
set_option linter.all false
set_option maxRecDepth 100000
/-! Lite: a small language, its values over a store of objects, its evaluator. -/
namespace Fb
open PySem L2

/-- a value: tuples by structure, other objects by their place in the store -/
inductive W where
  | non | bl (b : Bool) | int (i : Int) | str (x : Str) | tup (xs : List W) | loc (n : Nat)
  deriving Inhabited

/-- what stands in the store -/
inductive Ob where
  /-- a list of ours; one that is read alone -/
  | lst (xs : List W) | frz (xs : List W)
  /-- a dict, its entries in order -/
  | dic (b : Bool) (kvs : List (W × W))
  /-- an instance of the c-th class, its attributes -/
  | ins (c : Nat) (fs : List (Str × W))
  /-- an exception that was caught: the number of its class, its field -/
  | exn (c : Nat) (p : Option W)
  deriving Inhabited
abbrev Sto := List Ob
abbrev En := List (Option W)

/-- what comes back: a value, an exception (its class, its field), nothing that is promised -/
inductive Res (α : Type) where
  | ok (a : α) (S : Sto) | ex (c : Nat) (p : Option W) (S : Sto) | no
def M (α : Type) := Sto → Res α
namespace M
def pure {α : Type} (a : α) : M α := fun S => .ok a S
def bind {α β : Type} (m : M α) (f : α → M β) : M β := fun S => match m S with
  | .ok a S' => f a S'
  | .ex c p S' => .ex c p S'
  | .no => .no
end M
instance : Monad M where
  pure := M.pure
  bind := M.bind
def fail {α : Type} : M α := fun _ => .no
def ofO {α : Type} : Option α → M α
  | some a => M.pure a
  | none => fail
def guardB (b : Bool) : M Unit := if b then M.pure () else fail
def new (o : Ob) : M W := fun S => .ok (.loc S.length) (S ++ [o])
def getOb (n : Nat) : M Ob := fun S => match S[n]? with
  | some o => .ok o S
  | none => .no
def setOb (n : Nat) (o : Ob) : M Unit := fun S => .ok () (S.set n o)
/-- the items of a list that stands -/
def getL (S : Sto) (n : Nat) : Option (List W) := match S[n]? with
  | some (.lst xs) => some xs
  | some (.frz xs) => some xs
  | _ => none
def getLM (n : Nat) : M (List W) := fun S => match getL S n with
  | some xs => .ok xs S
  | none => .no
/-- a list of ours -/
def getM (n : Nat) : M (List W) := fun S => match S[n]? with
  | some (.lst xs) => .ok xs S
  | _ => .no

inductive BOp where
  | add | sub | mul | fdiv | mod | pow | shl | shr | band | bor
  deriving DecidableEq
inductive COp where
  | eq | ne | lt | le | gt | ge | isN | notN | isin | notin
  deriving DecidableEq
inductive UOp where
  | neg | inv
  deriving DecidableEq
/-- built-in functions by name -/
inductive Bt where
  | len | min | max | sum | all | any | sorted | list | tuple | int | str | repr | divmod | abs | set | dict | divn
  deriving DecidableEq
/-- built-in methods by name -/
inductive Bm where
  | append | extend | pop | index | rev
  deriving DecidableEq
/-- methods with one argument -/
inductive Mt where
  | join | remove | split
  deriving DecidableEq
/-- what isinstance asks -/
inductive Ty where
  | blt (n : String) | own (c : Nat)
  deriving DecidableEq

mutual
inductive E where
  | var (i : Nat) | int (n : Int) | bl (b : Bool) | non | str (x : Str) | glob (g : Nat)
  | tup (es : Es) | lst (es : Es)
  | bin (op : BOp) (a b : E) | un (op : UOp) (a : E) | not (a : E)
  | cmp (op : COp) (a b : E) | cmp2 (o1 o2 : COp) (a b c : E)
  | and (a b : E) | or (a b : E) | ife (c : C) (a b : E)
  | ix (a i : E) | sl (a : E) (lo hi : Bd)
  | fld (a : E) (c : Nat) (f : Str) | prop (a : E) (c : Nat) (f : Str) (m : Nat)
  | call (f : Nat) (es : Es) | meth (a : E) (c : Nat) (m : Str) (f : Nat) (es : Es) | mk (c f : Nat) (es : Es)
  | blt (b : Bt) (es : Es) | bm (b : Bm) (a : E) (es : Es) | isi (a : E) (t : Ty) (cs : List Nat) | lrg (a b : E)
  | eqO (neg : Bool) (c f : Nat) (a b : E)
  | comp (elt : E) (tg : Tg) (it : It) (ifs : Fi) (own : List Nat)
  | comp2 (elt : E) (tg : Tg) (it : It) (ifs : Fi) (tg2 : Tg) (it2 : It) (ifs2 : Fi) (own own2 : List Nat)
  | dnew (b : Bool) | dsp (a b : E)
  | isx (a : E) (t : Option Nat) | xfl (a : E) (f : Str)
  | mt (m : Mt) (a e : E)
  | mkx0 (c : Nat) | mkx1 (c : Nat) (e : E)
/-- a test -/
inductive C where
  | of (e : E) | not (c : C) | and (a b : C) | or (a b : C)
/-- a bound of a slice -/
inductive Bd where
  | none | of (e : E)
/-- a comprehension's if -/
inductive Fi where
  | none | of (c : C)
inductive Es where
  | nil | cons (e : E) (r : Es) | star (e : E) (r : Es)
inductive Tg where
  | var (i : Nat) | tup (ts : Tgs) | sub (o i : E) | fld (o : E) (c : Nat) (f : Str)
inductive Tgs where
  | nil | cons (t : Tg) (r : Tgs)
inductive It where
  | seq (e : E) | rng1 (b : E) | rng2 (a b : E) | rng3 (a b c : E) | enum (e : E) | zip (a b : E)
end
mutual
inductive S where
  | expr (e : E) | asg (t : Tg) (e : E) | asg2 (t u : Tg) (e : E) | aug (t : Tg) (op : BOp) (e : E)
  | ifs (c : C) (a b : Ss) | whl (c : C) (b : Ss) | fr (t : Tg) (it : It) (b : Ss)
  | ret (e : E) | retN | pass | raise (c : Nat) (e : Option E)
  /-- try: b, except c as i: j = i; except c: j = e -/
  | tryK (b : Ss) (c i j : Nat) | tryO (b : Ss) (c j : Nat) (e : E)
inductive Ss where
  | nil | cons (s : S) (r : Ss)
end

/-! ### operations on values -/
def big : Nat := 2 ^ 9000
def mulOk (i j : Int) : Bool := decide (i.natAbs < 2 ^ 64) || decide (j.natAbs < 2 ^ 64) || (decide (i.natAbs < big) && decide (j.natAbs < big)) || (decide (i.natAbs.log2 < 60000000) && decide (j.natAbs.log2 < 60000000))
def binW (op : BOp) (x y : W) : M W := match op, x, y with
  | .add, .int i, .int j => pure (.int (i + j))
  | .add, .str i, .str j => if i.length + j.length ≤ sizeLine then pure (.str (i ++ j)) else fail
  | .add, .tup a, .tup b => if a.length + b.length ≤ sizeLine then pure (.tup (a ++ b)) else fail
  | .add, .loc n, .loc m => do
    let a ← getLM n
    let b ← getLM m
    if a.length + b.length ≤ sizeLine then new (.lst (a ++ b)) else fail
  | .sub, .int i, .int j => pure (.int (i - j))
  | .mul, .int i, .int j => if mulOk i j then pure (.int (i * j)) else fail
  | .mul, .loc n, .int k => do
    let a ← getM n
    if -(2 ^ 63) ≤ k ∧ k < 2 ^ 63 ∧ a.length * k.toNat ≤ sizeLine then new (.lst (List.replicate k.toNat a).flatten) else fail
  | .mul, .tup a, .int k => if a ≠ [] ∧ (k = 1 ∨ (2 ≤ k ∧ k < 2 ^ 60 ∧ a.length * k.toNat ≤ 16777216)) then pure (.tup (List.replicate k.toNat a).flatten) else fail
  | .fdiv, .int i, .int j => if 0 < j ∧ j.natAbs < big then pure (.int (i / j)) else fail
  | .mod, .int i, .int j => if 0 < j then pure (.int (i % j)) else fail
  | .pow, .int i, .int j => if 0 ≤ j ∧ ((j ≤ 1000 ∧ i.natAbs < 2 ^ 64) ∨ (j ≤ 8 ∧ i.natAbs < big)) then pure (.int (i ^ j.toNat)) else fail
  | .shl, .int i, .int j => if 0 ≤ j ∧ j ≤ 1000 ∧ i.natAbs < 2 ^ 64 then pure (.int (i * 2 ^ j.toNat)) else fail
  | .shr, .int i, .int j => if 0 ≤ j then pure (.int (i / 2 ^ j.toNat)) else fail
  | .band, .int i, .int j => pure (.int (Builtin.bitAnd i j))
  | .bor, .int i, .int j => pure (.int (Builtin.bitOr i j))
  | _, _, _ => fail
def unW (op : UOp) (x : W) : M W := match op, x with
  | .neg, .int i => pure (.int (-i))
  | .inv, .int i => pure (.int (Builtin.bitNot i))
  | _, _ => fail

/-- a value as data; lists are read in the store, d deep -/
def oall {α : Type} : List (Option α) → Option (List α)
  | [] => some []
  | none :: _ => none
  | some a :: r => match oall r with
    | some as => some (a :: as)
    | none => none
mutual
def toD1 (rd : Nat → Option PyData) : W → Option PyData
  | .non => some .none
  | .bl b => some (.bool b)
  | .int i => some (.int i)
  | .str x => some (.str x)
  | .tup xs => (toDs1 rd xs).map .tuple
  | .loc n => rd n
def toDs1 (rd : Nat → Option PyData) : List W → Option (List PyData)
  | [] => some []
  | x :: xs => match toD1 rd x, toDs1 rd xs with
    | some d, some ds => some (d :: ds)
    | _, _ => none
end
def rdD (S : Sto) : Nat → Nat → Option PyData
  | 0, _ => none
  | k + 1, n => (getL S n).bind fun xs => (toDs1 (rdD S k) xs).map .list
def toD (S : Sto) (x : W) : Option PyData := toD1 (rdD S 8) x

/-- flat values, their == -/
def flatW : W → Bool
  | .non => true | .bl _ => true | .int _ => true | .str _ => true | _ => false
def eqW : W → W → Bool
  | .non, .non => true
  | .bl a, .bl b => a == b
  | .bl a, .int b => (if a then 1 else 0) == b
  | .int a, .bl b => a == (if b then 1 else 0)
  | .int a, .int b => a == b
  | .str a, .str b => a == b
  | _, _ => false
def isInts : List W → Option (List Int)
  | [] => some []
  | .int i :: r => match isInts r with
    | some is => some (i :: is)
    | none => none
  | _ :: _ => none
def isBls : List W → Option (List Bool)
  | [] => some []
  | .bl i :: r => match isBls r with
    | some is => some (i :: is)
    | none => none
  | _ :: _ => none
/-! keys of dicts, up to == -/
mutual
def nkW : W → Option NestedKey
  | .non => some .none
  | .int i => some (.num i)
  | .str x => some (.text x)
  | .tup xs => (nkWs xs).map .tup
  | .bl _ => none
  | .loc _ => none
def nkWs : List W → Option (List NestedKey)
  | [] => some []
  | x :: xs => match nkW x, nkWs xs with
    | some k, some ks => some (k :: ks)
    | _, _ => none
end
/-- may stand as a key; true: tuples, false: ints and texts -/
def isKey (b : Bool) (k : W) : Bool := match b, k with
  | false, .int _ => true
  | false, .str _ => true
  | true, .tup xs => (match nkWs xs with
    | some ks => decide ((NestedKey.tup ks).depth ≤ 8)
    | none => false)
  | _, _ => false
def sameK (a b : W) : Bool := decide (nkW a = nkW b)
def dfind (kvs : List (W × W)) (k : W) : Option W := (kvs.find? fun p => sameK p.1 k).map (·.2)
def dput (kvs : List (W × W)) (k v : W) : List (W × W) :=
  if (kvs.any fun p => sameK p.1 k) = true then kvs.map (fun p => if sameK p.1 k = true then (p.1, v) else p) else kvs ++ [(k, v)]
def dicAt (S : Sto) (n : Nat) : Option (Bool × List (W × W)) := match S[n]? with
  | some (.dic b kvs) => some (b, kvs)
  | _ => none
def isDic (n : Nat) : M Bool := fun S => .ok (dicAt S n).isSome S
def dgetW (n : Nat) (k : W) : M (Option W) := fun S => match dicAt S n with
  | some (b, kvs) => if isKey b k = true then .ok (dfind kvs k) S else .no
  | none => .no
def dputW (n : Nat) (k v : W) : M Unit := fun S => match dicAt S n with
  | some (b, kvs) => if isKey b k = true ∧ kvs.length < sizeLine then .ok () (S.set n (.dic b (dput kvs k v))) else .no
  | none => .no
/-- {k: v}, the new dict stands empty till then -/
def dspN (n : Nat) (x y : W) : M W := fun S => match dicAt S n with
  | some (false, []) => if isKey false x = true then .ok (.loc n) (S.set n (.dic false [(x, y)])) else .no
  | _ => .no
def dspW (d x y : W) : M W := match d with
  | .loc n => dspN n x y
  | _ => fail
/-- a value as data, empty dicts within -/
def rdR (S : Sto) : Nat → Nat → Option PyData
  | 0, _ => none
  | k + 1, n => match getL S n with
    | some xs => (toDs1 (rdR S k) xs).map .list
    | none => (match dicAt S n with
      | some (false, []) => some (.dict [])
      | _ => none)
def toR (S : Sto) (x : W) : Option PyData := toD1 (rdR S 8) x
/-- the keys, ints, of a dict -/
def dkeysM (n : Nat) (f : List Int → M W) : M W := fun S => match dicAt S n with
  | some (false, kvs) => (match isInts (kvs.map (·.1)) with
    | some is => if is.length < 64 then f is S else .no
    | none => .no)
  | _ => .no
def pairsK : List W → Option (List (W × W))
  | [] => some []
  | .tup [k, v] :: r => if isKey false k = true then (pairsK r).map ((k, v) :: ·) else none
  | _ :: _ => none
def sortI (l : List Int) : List Int := l.mergeSort fun a b => decide (a ≤ b)
/-- the items of a list or tuple -/
def itemsOf : W → M (List W)
  | .tup xs => pure xs
  | .loc n => getLM n
  | _ => fail
def strE : W → W → Option Bool
  | .str a, .str b => some (decide (a = b))
  | _, _ => none
def eqM (x y : W) : M Bool := fun S => match strE x y with
  | some b => .ok b S
  | none => (match toD S x, toD S y with
    | some d, some e => if SeqAt.shaped d && SeqAt.shaped e then .ok (PyData.eqv d e) S else .no
    | _, _ => .no)
def inDat (x y : W) : M Bool := fun S => match toD S x, toD S y with
  | some d, some (.list ds) => if SeqAt.shaped d && SeqAt.shaped (.list ds) then .ok (ds.any fun z => PyData.eqv z d) S else .no
  | _, _ => .no
def inSeq (x y : W) : M Bool := do
  let xs ← itemsOf y
  if (flatW x && xs.all flatW) = true then pure (xs.any fun z => eqW z x) else inDat x y
def inW (x y : W) : M Bool := match y with
  | .loc n => do
    let d ← isDic n
    if d = true then do
      let r ← dgetW n x
      pure r.isSome
    else inSeq x (.loc n)
  | y => inSeq x y
def cmpW (op : COp) (x y : W) : M W := match op, x, y with
  | .lt, .int i, .int j => pure (.bl (decide (i < j)))
  | .le, .int i, .int j => pure (.bl (decide (i ≤ j)))
  | .gt, .int i, .int j => pure (.bl (decide (j < i)))
  | .ge, .int i, .int j => pure (.bl (decide (j ≤ i)))
  | .eq, x, y => do return .bl (← eqM x y)
  | .ne, x, y => do return .bl (!(← eqM x y))
  | .isN, x, .non => pure (.bl (match x with | .non => true | _ => false))
  | .notN, x, .non => pure (.bl (match x with | .non => false | _ => true))
  | .isin, x, y => do return .bl (← inW x y)
  | .notin, x, y => do return .bl (!(← inW x y))
  | _, _, _ => fail
def truW (x : W) : M Bool := match x with
  | .non => pure false
  | .bl b => pure b
  | .int i => pure (i != 0)
  | .str z => if z.length ≤ sizeLine then pure (z.length != 0) else fail
  | .tup xs => pure (!xs.isEmpty)
  | .loc n => do return !(← getLM n).isEmpty
/-- slices -/
def cut {α : Type} (xs : List α) (lo hi : Option Int) : List α := (xs.drop (HT.sIx xs.length 0 lo)).take (HT.sIx xs.length xs.length hi - HT.sIx xs.length 0 lo)
def ixL (n : Nat) (i : W) : M W := match i with
  | .int k => do ofO (atI (← getLM n) k)
  | _ => fail
def ixW (x i : W) : M W := match x with
  | .tup xs => (match i with
    | .int k => ofO (atI xs k)
    | _ => fail)
  | .loc n => do
    let d ← isDic n
    if d = true then do
      let r ← dgetW n i
      ofO r
    else ixL n i
  | _ => fail
def ixLW (x i : W) : M W := match x, i with
  | .loc n, .int k => do ofO (atI (← getLM n) k)
  | _, _ => fail
def slW (x : W) (lo hi : Option Int) : M W := match x with
  | .tup xs => pure (.tup (cut xs lo hi))
  | .loc n => do new (.lst (cut (← getLM n) lo hi))
  | _ => fail
def boundW : W → M (Option Int)
  | .int i => pure (some i)
  | _ => fail
def fldW (x : W) (c : Nat) (f : Str) : M W := match x with
  | .loc n => do
    match ← getOb n with
    | .ins d fs => if d = c then ofO (fs.lookup f) else fail
    | _ => fail
  | _ => fail
def putFW (f : Str) (v : W) : List (Str × W) → List (Str × W)
  | [] => [(f, v)]
  | (g, u) :: r => if g = f then (f, v) :: r else (g, u) :: putFW f v r
def intsM (n : Nat) (f : List Int → M W) : M W := getLM n >>= fun xs => match isInts xs with
  | some is => f is
  | none => fail
def blsM (n : Nat) (f : List Bool → M W) : M W := getLM n >>= fun xs => match isBls xs with
  | some is => f is
  | none => fail
/-! pairs of ints, the first of the least -/
def isPairs : List W → Option (List (Int × Int))
  | [] => some []
  | .tup [.int a, .int b] :: r => match isPairs r with
    | some ps => some ((a, b) :: ps)
    | none => none
  | _ :: _ => none
def ltP (p q : Int × Int) : Bool := decide (p.1 < q.1 ∨ (p.1 = q.1 ∧ p.2 < q.2))
def minP (x : Int × Int) (xs : List (Int × Int)) : Int × Int := xs.foldl (fun a y => if ltP y a = true then y else a) x
def minM (n : Nat) : M W := getLM n >>= fun xs => match isInts xs with
  | some is => ofO (is.min?.map .int)
  | none => match isPairs xs with
    | some (p :: ps) => pure (.tup [.int (minP p ps).1, .int (minP p ps).2])
    | _ => fail
def bltW (b : Bt) (vs : List W) : M W := match b, vs with
  | .len, [.str z] => if z.length ≤ sizeLine then pure (.int z.length) else fail
  | .len, [x] => do return .int (← itemsOf x).length
  | .min, [.int i, .int j] => pure (.int (if j < i then j else i))
  | .max, [.int i, .int j] => pure (.int (if j > i then j else i))
  | .min, [.loc n] => minM n
  | .max, [.loc n] => intsM n fun is => ofO (is.max?.map .int)
  | .sum, [.loc n] => intsM n fun is => pure (.int is.sum)
  | .all, [.loc n] => blsM n fun is => pure (.bl (is.all id))
  | .any, [.loc n] => blsM n fun is => pure (.bl (is.any id))
  | .list, [x] => do new (.lst (← itemsOf x))
  | .tuple, [x] => do return .tup (← itemsOf x)
  | .str, [.int i] => if i.natAbs.log2 < 1920 then pure (.str (toString i)) else fail
  | .int, [.int i] => pure (.int i)
  | .int, [.bl b] => pure (.int (if b then 1 else 0))
  | .sorted, [.loc n] => do
    let d ← isDic n
    if d = true then dkeysM n fun is => new (.lst ((sortI is).map .int)) else intsM n fun is => new (.lst ((sortI is).map .int))
  | .dict, [.loc n] => getLM n >>= fun xs => match pairsK xs with
    | some ps => new (.dic false (ps.foldl (fun l p => dput l p.1 p.2) []))
    | none => fail
  | .repr, [x] => fun S => match toD S x with
    | some d => if SeqAt.shaped d = true ∧ d.showable = true ∧ d.shown.length ≤ sizeLine then .ok (.str d.shown) S else .no
    | none => (match toR S x with
      | some d => if d.depth ≤ 64 ∧ d.showable = true ∧ d.shown.length ≤ sizeLine then .ok (.str d.shown) S else .no
      | none => .no)
  | .divn, [.int i, .int j] => if j ≠ 0 ∧ j.natAbs < big then pure (.tup [.int (i.fdiv j), .int (i.fmod j)]) else fail
  | .divmod, [.int i, .int j] => if 0 < j ∧ j.natAbs < big then pure (.tup [.int (i / j), .int (i % j)]) else fail
  | _, _ => fail
def bmW (b : Bm) (x : W) (vs : List W) : M W := match b, x, vs with
  | .append, .loc n, [y] => do
    let xs ← getM n
    if xs.length < sizeLine then do
      setOb n (.lst (xs ++ [y]))
      pure .non
    else fail
  | .extend, .loc n, [.loc m] => do
    let xs ← getM n
    let ys ← getM m
    if xs.length + ys.length ≤ sizeLine then do
      setOb n (.lst (xs ++ ys))
      pure .non
    else fail
  | .pop, .loc n, [] => do
    let xs ← getM n
    let some y := xs[xs.length - 1]? | fail
    setOb n (.lst xs.dropLast)
    pure y
  | .index, .loc n, [y] => do
    let xs ← getM n
    if (flatW y && xs.all flatW) = true then
      match xs.findIdx? (fun z => eqW z y) with
      | some j => pure (.int (j : Nat))
      | none => fail
    else fail
  | .rev, .loc n, [] => do
    let xs ← getM n
    new (.lst xs.reverse)
  | _, _, _ => fail
def isLst : W → M Unit
  | .loc n => do
    let _ ← getM n
    pure ()
  | _ => fail
def isStrs : List W → Option (List Str)
  | [] => some []
  | .str i :: r => match isStrs r with
    | some is => some (i :: is)
    | none => none
  | _ :: _ => none
/-- what is asked of the method's owner first -/
def preM (m : Mt) (x : W) : M Unit := match m with
  | .remove => isLst x
  | _ => match x with
    | .str _ => pure ()
    | _ => fail
def mtW (m : Mt) (x y : W) : M W := match m, x, y with
  | .join, .str a, .loc n => getLM n >>= fun xs => match isStrs xs with
    | some ys => if (ys.map (·.length)).sum + ys.length * a.length ≤ 16777216 then pure (.str (Txt.join a ys)) else fail
    | none => fail
  | .remove, .loc n, .int k => getM n >>= fun xs => match isInts xs with
    | some is => if k ∈ is then (setOb n (.lst ((is.erase k).map .int)) >>= fun _ => pure .non) else fail
    | none => fail
  | .split, .str a, .str b => if (b.length == 0) = false ∧ a.length + 2 ≤ sizeLine then new (.lst ((Txt.split a b).map .str)) else fail
  | _, _, _ => fail
def setL (n : Nat) (i v : W) : M Unit := match i with
  | .int k => do
    let xs ← getM n
    let some j := ixN xs.length k | fail
    setOb n (.lst (xs.set j v))
  | _ => fail
def setItemW (o i v : W) : M Unit := match o with
  | .loc n => do
    let d ← isDic n
    if d = true then dputW n i v else setL n i v
  | _ => fail
def setFldW (o : W) (c : Nat) (f : Str) (v : W) : M Unit := match o with
  | .loc n => do
    match ← getOb n with
    | .ins d fs => if d = c ∧ fs.length < 1000 then setOb n (.ins d (putFW f v fs)) else fail
    | _ => fail
  | _ => fail
/-- the type's name of what is no instance -/
def tyName : W → M (Option String)
  | .non => pure (some "NoneType")
  | .bl _ => pure (some "bool")
  | .int _ => pure (some "int")
  | .str _ => pure (some "str")
  | .tup _ => pure (some "tuple")
  | .loc n => do
    match ← getOb n with
    | .lst _ => pure (some "list")
    | .frz _ => pure (some "list")
    | .dic false _ => pure (some "dict")
    | .dic true _ => fail
    | .ins _ _ => pure none
    | .exn _ _ => fail
/-- cs: the classes of instances that are known here -/
def isiW (cs : List Nat) (x : W) (t : Ty) : M W := do
  let n ← tyName x
  match n with
  | some m => (match t with
    | .blt k => ofO ((kitB m k).map .bl)
    | .own _ => pure (.bl false))
  | none => (match x with
    | .loc n => do
      let o ← getOb n
      match o with
      | .ins c _ => if c ∈ cs then pure (.bl (decide (t = .own c))) else fail
      | _ => fail
    | _ => fail)

/-- what a loop walks: at turn i the next item, or the end -/
inductive Src where
  | lst (n : Nat) | its (xs : List W) | enm (s : Src) | zip (a b : Src)
def Src.at : Src → Sto → Nat → Option (Option W)
  | .lst n, S, i => (getL S n).map (·[i]?)
  | .its xs, _, i => some xs[i]?
  | .enm s, S, i => (s.at S i).map (·.map fun x => .tup [.int i, x])
  | .zip a b, S, i => match a.at S i, b.at S i with
    | some (some x), some (some y) => some (some (.tup [x, y]))
    | some none, some _ => some none
    | some (some _), some none => some none
    | _, _ => none
def srcOf : W → M Src
  | .tup xs => pure (.its xs)
  | .loc n => do
    let _ ← getLM n
    pure (.lst n)
  | _ => fail
def Src.len (S : Sto) : Src → Nat
  | .lst n => ((getL S n).getD []).length
  | .its xs => xs.length
  | .enm s => s.len S
  | .zip a b => min (a.len S) (b.len S)
def srcLen (s : Src) : M Nat := fun S => .ok (s.len S) S
/-- lo, lo + 1, .. -/
def rngW (lo : Int) : Nat → List W
  | 0 => []
  | n + 1 => .int lo :: rngW (lo + 1) n

def enmM (x : W) : M Src := match x with
  | .loc n => do
    let _ ← getLM n
    pure (.enm (.lst n))
  | .tup xs => pure (.enm (.its xs))
  | _ => fail
def zipM (x y : W) : M Src := match x, y with
  | .loc n, .loc m => do
    let _ ← getLM n
    let _ ← getLM m
    pure (.zip (.lst n) (.lst m))
  | _, _ => fail
/-- list(range(x, y)) -/
def lrgW (x y : W) : M W := match x, y with
  | .int i, .int j => if -(2 ^ 62) ≤ i ∧ i < 2 ^ 62 ∧ -(2 ^ 62) ≤ j ∧ j < 2 ^ 62 ∧ (j - i).toNat ≤ sizeLine then new (.lst (rngW i (j - i).toNat)) else fail
  | _, _ => fail
def stpW (lo c : Int) : Nat → List W
  | 0 => []
  | n + 1 => .int lo :: stpW (lo + c) c n
def rng3M (x y z : W) : M Src := match x, y, z with
  | .int i, .int j, .int c => if 0 < c ∧ c < 1000000 ∧ Builtin.Range.small i j c = true then pure (.its (stpW i c (Builtin.Range.rangeSize i j c).toNat)) else fail
  | _, _, _ => fail
def rngM (x y : W) : M Src := match x, y with
  | .int i, .int j => if -(2 ^ 200) ≤ i ∧ i < 2 ^ 200 ∧ -(2 ^ 200) ≤ j ∧ j < 2 ^ 200 then pure (.its (rngW i (j - i).toNat)) else fail
  | _, _ => fail
/-! the slots that a target stores -/
mutual
def tgv : Tg → List Nat
  | .var i => [i] | .tup ts => tgvs ts | .sub _ _ => [] | .fld _ _ _ => []
def tgvs : Tgs → List Nat
  | .nil => [] | .cons t r => tgv t ++ tgvs r
end
/-- x == y by the class's own def, of two of this class -/
def eqOW (fn : Nat → List W → M W) (neg : Bool) (c f : Nat) (x y : W) : M W := match x, y with
  | .loc n, .loc m => getOb n >>= fun o => match o with
    | .ins d _ => if d = c then (getOb m >>= fun o2 => match o2 with
      | .ins d2 _ => if d2 = c ∧ neg = false then (fn f [.loc n, .loc m] >>= fun r => match r with
        | .bl k => pure (.bl k)
        | _ => fail) else fail
      | _ => fail) else fail
    | _ => fail
  | _, _ => fail
/-! ### the evaluator -/
structure Ct where
  fn : Nat → List W → M W
  gl : Nat → W
/-- isinstance of a caught error: a class of errors, or ValueError -/
def isxB (d : Nat) : Option Nat → Bool
  | none => true
  | some c => xsub d c
def isxW (x : W) (t : Option Nat) : M W := match x with
  | .loc n => do
    match ← getOb n with
    | .exn d _ => pure (.bl (isxB d t))
    | _ => fail
  | _ => fail
/-- its field -/
def xflW (x : W) (f : Str) : M W := match x with
  | .loc n => do
    match ← getOb n with
    | .exn d (some w) => if xfN d = f then pure w else fail
    | _ => fail
  | _ => fail

def wipeE (env : En) : List Nat → En
  | [] => env
  | v :: vs => (wipeE env vs).set v none
/-- a for's turns: n the fuel, i the turn -/
def forL (src : Src) (f : W → En → M (Option W × En)) : Nat → Nat → En → M (Option W × En)
  | 0, _, _ => fail
  | n + 1, i, env => fun S => match src.at S i with
    | none => .no
    | some none => .ok (none, env) S
    | some (some x) => (M.bind (f x env) fun r => match r.1 with
      | some w => M.pure (some w, r.2)
      | none => forL src f n (i + 1) r.2) S
/-- a comprehension's turns: D the new list -/
def compL (src : Src) (f : W → M (Option W)) (D : Nat) : Nat → Nat → M Unit
  | 0, _ => fail
  | n + 1, i => fun S => match src.at S i with
    | none => .no
    | some none => .ok () S
    | some (some x) => (M.bind (f x) fun r => match r with
      | none => compL src f D n (i + 1)
      | some y => M.bind (getM D) fun xs => if xs.length < sizeLine then M.bind (setOb D (.lst (xs ++ [y]))) fun _ => compL src f D n (i + 1) else fail) S
/-- a while's turns -/
def whN (c : En → M Bool) (b : En → M (Option W × En)) : Nat → En → M (Option W × En)
  | 0, _ => fail
  | n + 1, env => M.bind (c env) fun t => if t = true then M.bind (b env) fun r => match r.1 with
      | some w => M.pure (some w, r.2)
      | none => whN c b n r.2
    else M.pure (none, env)
open Classical in
/-- a while: as many turns as it wants -/
noncomputable def whl (c : En → M Bool) (b : En → M (Option W × En)) (env : En) : M (Option W × En) := fun S =>
  if h : ∃ n, whN c b n env S ≠ .no then whN c b (Classical.choose h) env S else .no

def noEx {α : Type} (m : M α) : M α := fun S => match m S with
  | .ok a S' => .ok a S'
  | _ => .no

variable (G : Ct)
mutual
def ev : E → En → M W
  | .var i, env => ofO ((env[i]?).join)
  | .int n, _ => pure (.int n)
  | .bl b, _ => pure (.bl b)
  | .non, _ => pure .non
  | .str x, _ => pure (.str x)
  | .glob g, _ => pure (G.gl g)
  | .tup es, env => do
    let xs ← evs es env
    if xs.length ≤ sizeLine then pure (.tup xs) else fail
  | .lst es, env => do
    let xs ← evs es env
    if xs.length ≤ sizeLine then new (.lst xs) else fail
  | .bin op a b, env => do
    let x ← ev a env
    let y ← ev b env
    binW op x y
  | .un op a, env => do unW op (← ev a env)
  | .not a, env => do
    let b ← truW (← ev a env)
    pure (.bl (!b))
  | .cmp op a b, env => do
    let x ← ev a env
    let y ← ev b env
    cmpW op x y
  | .cmp2 o1 o2 a b c, env => do
    let x ← ev a env
    let y ← ev b env
    match ← cmpW o1 x y with
    | .bl true => do
      let z ← ev c env
      cmpW o2 y z
    | .bl false => pure (.bl false)
    | _ => fail
  | .and a b, env => do
    let x ← ev a env
    let t ← truW x
    if t then ev b env else pure x
  | .or a b, env => do
    let x ← ev a env
    let t ← truW x
    if t then pure x else ev b env
  | .ife c a b, env => do
    let t ← evT c env
    if t then ev a env else ev b env
  | .ix a i, env => do
    let x ← ev a env
    let y ← ev i env
    ixW x y
  | .sl a lo hi, env => do
    let x ← ev a env
    let l ← evB lo env
    let h ← evB hi env
    slW x l h
  | .fld a c f, env => do fldW (← ev a env) c f
  | .prop a c f m, env => do
    let x ← ev a env
    let .loc n := x | fail
    let .ins d fs ← getOb n | fail
    if d = c ∧ fs.lookup f = none then G.fn m [x] else fail
  | .call f es, env => do G.fn f (← evs es env)
  | .meth a c m f es, env => do
    let x ← ev a env
    let .loc n := x | fail
    let .ins d fs ← getOb n | fail
    if d = c ∧ fs.lookup m = none then do
      let vs ← evs es env
      G.fn f (x :: vs)
    else fail
  | .mk c f es, env => do
    let vs ← evs es env
    let x ← new (.ins c [])
    match ← G.fn f (x :: vs) with
    | .non => pure x
    | _ => fail
  | .blt b es, env => do bltW b (← evs es env)
  | .bm b a es, env => do
    let x ← ev a env
    isLst x
    let vs ← evs es env
    bmW b x vs
  | .isi a t cs, env => do isiW cs (← ev a env) t
  | .lrg a b, env => do
    let x ← ev a env
    let y ← ev b env
    lrgW x y
  | .eqO neg c f a b, env => do
    let x ← ev a env
    let y ← ev b env
    eqOW G.fn neg c f x y
  | .comp elt tg it ifs own, env => do
    let src ← evI it env
    let n ← srcLen src
    let D ← new (.lst [])
    let .loc d := D | fail
    compL src (fun x => noEx (do
      let env2 ← asg tg x (wipeE env own)
      let t ← evTs ifs env2
      if t then do
        let y ← ev elt env2
        pure (some y)
      else pure none)) d (n + 1) 0
    pure D
  | .comp2 .., _ => fail
  | .dnew b, _ => new (.dic b [])
  | .dsp a b, env => do
    let d ← new (.dic false [])
    let x ← ev a env
    let y ← ev b env
    dspW d x y
  | .isx a t, env => do isxW (← ev a env) t
  | .xfl a f, env => do xflW (← ev a env) f
  | .mt m a e, env => do
    let x ← ev a env
    preM m x
    let y ← ev e env
    mtW m x y
  | .mkx0 c, _ => new (.exn c none)
  | .mkx1 c e, env => do
    let x ← ev e env
    new (.exn c (some x))
def evs : Es → En → M (List W)
  | .nil, _ => pure []
  | .cons e r, env => do
    let x ← ev e env
    let xs ← evs r env
    pure (x :: xs)
  | .star e r, env => do
    let x ← ev e env
    let ys ← itemsOf x
    let xs ← evs r env
    pure (ys ++ xs)
/-- a bound of a slice -/
def evB : Bd → En → M (Option Int)
  | .none, _ => pure none
  | .of e, env => do boundW (← ev e env)
/-- a test -/
def evT : C → En → M Bool
  | .not a, env => do return !(← evT a env)
  | .and a b, env => do
    let t ← evT a env
    if t then evT b env else pure false
  | .or a b, env => do
    let t ← evT a env
    if t then pure true else evT b env
  | .of e, env => do truW (← ev e env)
/-- a comprehension's if, or none -/
def evTs : Fi → En → M Bool
  | .none, _ => pure true
  | .of e, env => evT e env
def evI : It → En → M Src
  | .seq e, env => do srcOf (← ev e env)
  | .rng1 b, env => do
    let x ← ev b env
    rngM (.int 0) x
  | .rng2 a b, env => do
    let x ← ev a env
    let y ← ev b env
    rngM x y
  | .rng3 a b c, env => do
    let x ← ev a env
    let y ← ev b env
    let z ← ev c env
    rng3M x y z
  | .enum e, env => do
    let x ← ev e env
    enmM x
  | .zip a b, env => do
    let x ← ev a env
    let y ← ev b env
    zipM x y
def asg : Tg → W → En → M En
  | .var i, x, env => if i < env.length then pure (env.set i (some x)) else fail
  | .tup ts, x, env => do
    let .tup xs := x | fail
    asgs ts xs env
  | .sub o i, x, env => do
    let ov ← ev o env
    let iv ← ev i env
    setItemW ov iv x
    pure env
  | .fld o c f, x, env => do
    let ov ← ev o env
    setFldW ov c f x
    pure env
def asgs : Tgs → List W → En → M En
  | .nil, [], env => pure env
  | .cons t r, x :: xs, env => do
    let env2 ← asg t x env
    asgs r xs env2
  | _, _, _ => fail
end
/-- x op= y -/
def augW (op : BOp) (x y : W) : M W := match x, y with
  | .int _, .int _ => binW op x y
  | .str _, .str _ => binW op x y
  | _, _ => fail
/-- what may raise: a call whose arguments raise nothing -/
def evX : E → En → M W
  | .call f es, env => do G.fn f (← noEx (evs G es env))
  | .meth a c m f es, env => do
    let x ← noEx (ev G a env)
    let .loc n := x | fail
    let .ins d fs ← getOb n | fail
    if d = c ∧ fs.lookup m = none then do
      let vs ← noEx (evs G es env)
      G.fn f (x :: vs)
    else fail
  | .mk c f es, env => do
    let vs ← noEx (evs G es env)
    let x ← new (.ins c [])
    match ← G.fn f (x :: vs) with
    | .non => pure x
    | _ => fail
  | e, env => noEx (ev G e env)
/-- what a try with a name gives -/
def tryK (c i j : Nat) (env : En) (r : Res (Option W × En)) : Res (Option W × En) := match r with
  | .ok a S => .ok a S
  | .ex d p S => if xsub d c = true ∧ i < env.length ∧ j < env.length ∧ i ≠ j then .ok (none, (env.set j (some (.loc S.length))).set i none) (S ++ [.exn d p]) else .no
  | .no => .no
/-- a try without a name: x is stored -/
def tryO (c j : Nat) (x : W) (env : En) (r : Res (Option W × En)) : Res (Option W × En) := match r with
  | .ok a S => .ok a S
  | .ex d p S => if xsub d c = true ∧ j < env.length then .ok (none, env.set j (some x)) S else .no
  | .no => .no
def raiseM {α : Type} (c : Nat) (p : Option W) : M α := fun S => .ex c p S
def tryKM (c i j : Nat) (env : En) (m : M (Option W × En)) : M (Option W × En) := fun S => tryK c i j env (m S)
def tryOM (c j : Nat) (x : W) (env : En) (m : M (Option W × En)) : M (Option W × En) := fun S => tryO c j x env (m S)
/-- a constant -/
def litE : E → Option W
  | .str x => some (.str x) | .bl b => some (.bl b) | .non => some .non | .int i => some (.int i) | _ => none
noncomputable section
mutual
def ex : S → En → M (Option W × En)
  | .expr e, env => do
    let _ ← evX G e env
    pure (none, env)
  | .asg t e, env => do
    let x ← evX G e env
    let env2 ← noEx (asg G t x env)
    pure (none, env2)
  | .asg2 t u e, env => do
    let x ← noEx (ev G e env)
    let env2 ← noEx (asg G t x env)
    let env3 ← noEx (asg G u x env2)
    pure (none, env3)
  | .aug t op e, env => match t with
    | .var i => do
      let x ← ofO ((env[i]?).join)
      let y ← noEx (ev G e env)
      let z ← noEx (augW op x y)
      if i < env.length then pure (none, env.set i (some z)) else fail
    | .sub o j => do
      let ov ← noEx (ev G o env)
      let iv ← noEx (ev G j env)
      let x ← noEx (ixLW ov iv)
      let y ← noEx (ev G e env)
      let z ← noEx (augW op x y)
      noEx (setItemW ov iv z)
      pure (none, env)
    | _ => fail
  | .ifs c a b, env => do
    let t ← noEx (evT G c env)
    if t = true then exs a env else exs b env
  | .whl c b, env => whl (fun env => noEx (evT G c env)) (fun env => exs b env) env
  | .fr t it b, env => do
    let src ← noEx (evI G it env)
    let n ← srcLen src
    forL src (fun x env => do
      let env2 ← noEx (asg G t x env)
      exs b env2) (n + 1) 0 env
  | .ret e, env => do
    let x ← evX G e env
    pure (some x, env)
  | .retN, env => pure (some .non, env)
  | .pass, env => pure (none, env)
  | .raise c o, env => match o with
    | none => raiseM c none
    | some e => do
      let x ← noEx (ev G e env)
      raiseM c (some x)
  | .tryK b c i j, env => tryKM c i j env (exs b env)
  | .tryO b c j e, env => match litE e with
    | some x => tryOM c j x env (exs b env)
    | none => fail
def exs : Ss → En → M (Option W × En)
  | .nil, env => pure (none, env)
  | .cons s r, env => do
    let x ← ex s env
    match x.1 with
    | some w => pure (some w, x.2)
    | none => exs r x.2
end
end
/-- a def: how many parameters, how many slots, its body -/
structure Df where
  np : Nat
  ns : Nat
  body : Ss
noncomputable def runDf (d : Df) (vs : List W) : M W :=
  if vs.length = d.np then do
    let r ← exs G d.body (vs.map some ++ List.replicate (d.ns - d.np) none)
    pure (r.1.getD .non)
  else fail
end Fb
set_option Elab.async false
set_option linter.all false
set_option maxRecDepth 100000
/-! Lite: how values and stores of ours stand for those of the layer. -/
namespace Fb
open PySem PySem.Spec PyProof.Rows L2

/-- tuples stay, and the dicts of errors -/
structure Mono (K : PySem.W.Frag) (H H' : Hp) : Prop where
  tup : ∀ a vs, SqT K H a vs → SqT K H' a vs
  xds : ∀ a fs, H a = some (.xd fs) → H' a = some (.xd fs)
theorem Mono.refl {K : PySem.W.Frag} (H : Hp) : Mono K H H := ⟨fun _ _ h => h, fun _ _ h => h⟩
theorem Mono.trans {K : PySem.W.Frag} {H H1 H2 : Hp} (a : Mono K H H1) (b : Mono K H1 H2) : Mono K H H2 := ⟨fun x vs h => b.tup x vs (a.tup x vs h), fun x fs h => b.xds x fs (a.xds x fs h)⟩
theorem Mono.new {K : PySem.W.Frag} {H : Hp} {p : Addr} {o : HO} (h : H p = none) : Mono K H (upd H p o) := ⟨fun a vs q => by
  rcases q with (q | ⟨z, q⟩) | q
  · exact .inl (.inl (by rw [upd_ne (ne_of_none q h)]; exact q))
  · exact .inl (.inr ⟨z, by rw [upd_ne (ne_of_none q h)]; exact q⟩)
  · exact .inr q, fun a fs q => by rw [upd_ne (ne_of_none q h)]; exact q⟩
theorem Mono.mut {K : PySem.W.Frag} {H : Hp} {p : Addr} {o u : HO} (h : H p = some u) (m : Mut (some u)) : Mono K H (upd H p o) := ⟨fun a vs q => by
  rcases q with (q | ⟨z, q⟩) | q
  · have : a ≠ p := fun e => by
      rw [e, h] at q
      cases q
      exact m
    exact .inl (.inl (by rw [upd_ne this]; exact q))
  · have : a ≠ p := fun e => by
      rw [e, h] at q
      cases q
      exact m
    exact .inl (.inr ⟨z, by rw [upd_ne this]; exact q⟩)
  · exact .inr q, fun a fs q => by
    have : a ≠ p := fun e => by
      rw [e, h] at q
      cases q
      exact m
    rw [upd_ne this]
    exact q⟩

mutual
def WR (K : PySem.W.Frag) (ι : List Addr) (H : Hp) : W → V → Prop
  | .non, v => v = .non
  | .bl b, v => v = .bl b
  | .int i, v => v = .int i
  | .str x, v => v = .str x
  | .tup xs, v => ∃ a vs, v = .ref a ∧ SqT K H a vs ∧ WRs K ι H xs vs
  | .loc n, v => ∃ a, v = .ref a ∧ ι[n]? = some a
def WRs (K : PySem.W.Frag) (ι : List Addr) (H : Hp) : List W → List V → Prop
  | [], vs => vs = []
  | x :: xs, vs => ∃ v r, vs = v :: r ∧ WR K ι H x v ∧ WRs K ι H xs r
end
section
variable {K : PySem.W.Frag} {ι ι' : List Addr} {H H' : Hp}
mutual
theorem WR.mono (hi : ι <+: ι') (hm : Mono K H H') : ∀ {x : W} {v : V}, WR K ι H x v → WR K ι' H' x v
  | .non, _, h => h
  | .bl _, _, h => h
  | .int _, _, h => h
  | .str _, _, h => h
  | .tup xs, v, h => by
    obtain ⟨a, vs, e, s, r⟩ := h
    exact ⟨a, vs, e, hm.tup _ _ s, WRs.mono hi hm r⟩
  | .loc n, v, h => by
    obtain ⟨a, e, q⟩ := h
    refine ⟨a, e, ?_⟩
    obtain ⟨t, rfl⟩ := hi
    rw [List.getElem?_append_left (List.getElem?_eq_some_iff.mp q).1]
    exact q
theorem WRs.mono (hi : ι <+: ι') (hm : Mono K H H') : ∀ {xs : List W} {vs : List V}, WRs K ι H xs vs → WRs K ι' H' xs vs
  | [], _, h => h
  | x :: xs, vs, h => by
    obtain ⟨v, r, e, h1, h2⟩ := h
    exact ⟨v, r, e, WR.mono hi hm h1, WRs.mono hi hm h2⟩
end
theorem WRs.nil : WRs K ι H [] [] := by unfold WRs; rfl
theorem WRs.cons {x : W} {v : V} {xs : List W} {vs : List V} (a : WR K ι H x v) (b : WRs K ι H xs vs) : WRs K ι H (x :: xs) (v :: vs) := by
  unfold WRs; exact ⟨v, vs, rfl, a, b⟩
theorem WRs.length : ∀ {xs : List W} {vs : List V}, WRs K ι H xs vs → vs.length = xs.length
  | [], vs, h => by unfold WRs at h; rw [h]; rfl
  | x :: xs, vs, h => by
    unfold WRs at h
    obtain ⟨v, r, e, h1, h2⟩ := h
    rw [e, List.length_cons, List.length_cons, WRs.length h2]
theorem WRs.get : ∀ {xs : List W} {vs : List V} {i : Nat} {x : W}, WRs K ι H xs vs → xs[i]? = some x → ∃ v, vs[i]? = some v ∧ WR K ι H x v
  | [], vs, i, x, h, e => by simp at e
  | x :: xs, vs, 0, y, h, e => by
    unfold WRs at h
    obtain ⟨v, r, rfl, h1, h2⟩ := h
    have e' : x = y := by simpa using e
    exact ⟨v, rfl, e' ▸ h1⟩
  | x :: xs, vs, i + 1, y, h, e => by
    unfold WRs at h
    obtain ⟨v, r, rfl, h1, h2⟩ := h
    obtain ⟨u, q, r'⟩ := WRs.get (i := i) (x := y) h2 (by simpa using e)
    exact ⟨u, by simpa using q, r'⟩
theorem WRs.get_none {xs : List W} {vs : List V} {i : Nat} (h : WRs K ι H xs vs) (e : xs[i]? = none) : vs.length ≤ i := by
  rw [h.length]
  exact List.getElem?_eq_none_iff.mp e
theorem WRs.append : ∀ {xs ys : List W} {vs us : List V}, WRs K ι H xs vs → WRs K ι H ys us → WRs K ι H (xs ++ ys) (vs ++ us)
  | [], _, _, _, h, h' => by unfold WRs at h; rw [h]; exact h'
  | x :: xs, _, _, _, h, h' => by
    unfold WRs at h
    obtain ⟨v, r, rfl, h1, h2⟩ := h
    exact .cons h1 (.append h2 h')
theorem WRs.take : ∀ {xs : List W} {vs : List V} (n : Nat), WRs K ι H xs vs → WRs K ι H (xs.take n) (vs.take n)
  | _, _, 0, _ => .nil
  | [], _, n + 1, h => by unfold WRs at h; rw [h]; exact .nil
  | x :: xs, _, n + 1, h => by
    unfold WRs at h
    obtain ⟨v, r, rfl, h1, h2⟩ := h
    exact .cons h1 (.take n h2)
theorem WRs.drop : ∀ {xs : List W} {vs : List V} (n : Nat), WRs K ι H xs vs → WRs K ι H (xs.drop n) (vs.drop n)
  | _, _, 0, h => h
  | [], _, n + 1, h => by unfold WRs at h; rw [h]; exact .nil
  | x :: xs, _, n + 1, h => by
    unfold WRs at h
    obtain ⟨v, r, rfl, h1, h2⟩ := h
    exact .drop n h2
theorem WRs.set {x : W} {v : V} (r : WR K ι H x v) : ∀ {xs : List W} {vs : List V} (i : Nat), WRs K ι H xs vs → WRs K ι H (xs.set i x) (vs.set i v)
  | [], _, _, h => by unfold WRs at h; rw [h]; exact .nil
  | y :: xs, _, 0, h => by
    unfold WRs at h
    obtain ⟨u, q, rfl, h1, h2⟩ := h
    exact .cons r h2
  | y :: xs, _, i + 1, h => by
    unfold WRs at h
    obtain ⟨u, q, rfl, h1, h2⟩ := h
    exact .cons h1 (.set r i h2)
theorem WRs.flatten_rep {xs : List W} {vs : List V} (h : WRs K ι H xs vs) : ∀ k : Nat, WRs K ι H (List.replicate k xs).flatten (List.replicate k vs).flatten
  | 0 => .nil
  | k + 1 => by
    rw [List.replicate_succ, List.replicate_succ, List.flatten_cons, List.flatten_cons]
    exact h.append (flatten_rep h k)
theorem WRs.dropLast {xs : List W} {vs : List V} (h : WRs K ι H xs vs) : WRs K ι H xs.dropLast vs.dropLast := by
  rw [List.dropLast_eq_take, List.dropLast_eq_take, h.length]
  exact h.take _
theorem WRs.cut {xs : List W} {vs : List V} (h : WRs K ι H xs vs) (lo hi : Option Int) : WRs K ι H (Fb.cut xs lo hi) (cutV vs lo hi) := by
  unfold Fb.cut cutV
  rw [h.length]
  exact (h.drop _).take _
theorem WRs.ints : ∀ {xs : List W} {vs : List V} {is : List Int}, WRs K ι H xs vs → isInts xs = some is → vs = is.map V.int
  | [], _, is, h, e => by
    unfold WRs at h
    cases e
    exact h
  | .int i :: xs, vs, is, h, e => by
    unfold WRs at h
    obtain ⟨v, r, rfl, h1, h2⟩ := h
    unfold isInts at e
    cases q : isInts xs with
    | none => rw [q] at e; cases e
    | some js =>
      rw [q] at e
      cases e
      unfold WR at h1
      rw [h1, WRs.ints h2 q]
      rfl
  | .non :: _, _, _, _, e => by cases e
  | .bl _ :: _, _, _, _, e => by cases e
  | .str _ :: _, _, _, _, e => by cases e
  | .tup _ :: _, _, _, _, e => by cases e
  | .loc _ :: _, _, _, _, e => by cases e
theorem WRs.bls : ∀ {xs : List W} {vs : List V} {is : List Bool}, WRs K ι H xs vs → isBls xs = some is → vs = is.map V.bl
  | [], _, is, h, e => by
    unfold WRs at h
    cases e
    exact h
  | .bl i :: xs, vs, is, h, e => by
    unfold WRs at h
    obtain ⟨v, r, rfl, h1, h2⟩ := h
    unfold isBls at e
    cases q : isBls xs with
    | none => rw [q] at e; cases e
    | some js =>
      rw [q] at e
      cases e
      unfold WR at h1
      rw [h1, WRs.bls h2 q]
      rfl
  | .non :: _, _, _, _, e => by cases e
  | .int _ :: _, _, _, _, e => by cases e
  | .str _ :: _, _, _, _, e => by cases e
  | .tup _ :: _, _, _, _, e => by cases e
  | .loc _ :: _, _, _, _, e => by cases e
theorem WR.flat {x : W} {v : V} (h : WR K ι H x v) (f : flatW x = true) : flatV v = true := by
  cases x with
  | tup _ => cases f
  | loc _ => cases f
  | _ => unfold WR at h; subst h; rfl
theorem WRs.flat : ∀ {xs : List W} {vs : List V}, WRs K ι H xs vs → xs.all flatW = true → vs.all flatV = true
  | [], _, h, _ => by unfold WRs at h; rw [h]; rfl
  | x :: xs, _, h, f => by
    unfold WRs at h
    obtain ⟨v, r, rfl, h1, h2⟩ := h
    rw [List.all_cons, Bool.and_eq_true] at f
    rw [List.all_cons, h1.flat f.1, WRs.flat h2 f.2]
    rfl
theorem WR.eqV {x y : W} {v u : V} (h : WR K ι H x v) (h' : WR K ι H y u) (f : flatW x = true) (f' : flatW y = true) : L2.eqV v u = eqW x y := by
  cases x with
  | tup _ => cases f
  | loc _ => cases f
  | _ =>
    unfold WR at h
    subst h
    cases y with
    | tup _ => cases f'
    | loc _ => cases f'
    | _ => unfold WR at h'; subst h'; rfl
theorem WRs.inV {x : W} {v : V} (h : WR K ι H x v) (f : flatW x = true) : ∀ {xs : List W} {vs : List V}, WRs K ι H xs vs → xs.all flatW = true → L2.inV v vs = xs.any fun z => eqW z x
  | [], _, q, _ => by unfold WRs at q; rw [q]; rfl
  | y :: xs, _, q, g => by
    unfold WRs at q
    obtain ⟨u, r, rfl, h1, h2⟩ := q
    rw [List.all_cons, Bool.and_eq_true] at g
    have e := WRs.inV h f h2 g.2
    unfold L2.inV at e ⊢
    rw [List.any_cons, List.any_cons, e, h1.eqV h g.1 f]
end

/-- a list of the written part -/
def KL (K : PySem.W.Frag) (a : Addr) (xs : List V) : Prop := ∃ (o : Obj) (its : Array Value) (n : Nat), K.lookup a = some o ∧ o.cls = .type "list" ∧ o.dict = none ∧ o.data = .seq its n ∧ its.size ≤ sizeLine ∧ Vals xs its.toList
/-- attributes -/
def FRs (K : PySem.W.Frag) (ι : List Addr) (H : Hp) : List (Str × W) → List (Str × V) → Prop
  | [], vs => vs = []
  | x :: xs, vs => ∃ v r, vs = (x.1, v) :: r ∧ WR K ι H x.2 v ∧ FRs K ι H xs r
section
variable {K : PySem.W.Frag} {ι ι' : List Addr} {H H' : Hp}
theorem FRs.mono (hi : ι <+: ι') (hm : Mono K H H') : ∀ {xs : List (Str × W)} {vs : List (Str × V)}, FRs K ι H xs vs → FRs K ι' H' xs vs
  | [], _, h => h
  | x :: xs, vs, h => by
    obtain ⟨v, r, e, h1, h2⟩ := h
    exact ⟨v, r, e, WR.mono hi hm h1, FRs.mono hi hm h2⟩
theorem FRs.length : ∀ {xs : List (Str × W)} {vs : List (Str × V)}, FRs K ι H xs vs → vs.length = xs.length
  | [], vs, h => by unfold FRs at h; rw [h]; rfl
  | x :: xs, vs, h => by
    obtain ⟨v, r, e, h1, h2⟩ := h
    rw [e, List.length_cons, List.length_cons, FRs.length h2]
theorem FRs.lookup : ∀ {xs : List (Str × W)} {vs : List (Str × V)} {f : Str} {x : W}, FRs K ι H xs vs → xs.lookup f = some x → ∃ v, vs.lookup f = some v ∧ WR K ι H x v
  | [], vs, f, x, h, e => by cases e
  | (g, y) :: xs, vs, f, x, h, e => by
    obtain ⟨v, r, rfl, h1, h2⟩ := h
    rw [List.lookup_cons] at e ⊢
    cases q : f == g with
    | true =>
      rw [q] at e
      cases e
      exact ⟨v, by simp only [q], h1⟩
    | false =>
      rw [q] at e
      obtain ⟨u, q1, q2⟩ := FRs.lookup h2 e
      exact ⟨u, by simp only [q]; exact q1, q2⟩
theorem FRs.lookup_none : ∀ {xs : List (Str × W)} {vs : List (Str × V)} {f : Str}, FRs K ι H xs vs → xs.lookup f = none → vs.lookup f = none
  | [], vs, f, h, e => by unfold FRs at h; rw [h]; rfl
  | (g, y) :: xs, vs, f, h, e => by
    obtain ⟨v, r, rfl, h1, h2⟩ := h
    rw [List.lookup_cons] at e ⊢
    cases q : f == g with
    | true => rw [q] at e; cases e
    | false =>
      rw [q] at e
      simp only [q]
      exact FRs.lookup_none h2 e
theorem FRs.put {f : Str} {x : W} {v : V} (h0 : WR K ι H x v) : ∀ {xs : List (Str × W)} {vs : List (Str × V)}, FRs K ι H xs vs → FRs K ι H (putFW f x xs) (putF f v vs)
  | [], vs, h => by
    unfold FRs at h
    rw [h]
    exact ⟨v, [], rfl, h0, rfl⟩
  | (g, y) :: xs, vs, h => by
    obtain ⟨u, r, rfl, h1, h2⟩ := h
    unfold putFW putF
    by_cases q : g = f
    · subst q
      simp only [if_true, beq_self_eq_true]
      exact ⟨v, r, rfl, h0, h2⟩
    · rw [if_neg q, if_neg (by first | exact q | exact fun z => q (beq_iff_eq.mp z) | exact fun z => q z.symm)]
      exact ⟨u, putF f v r, rfl, h1, FRs.put h0 h2⟩
end
/-- the classes' addresses, the world -/
structure Cl where
  adr : Nat → Addr
  w : World
  /-- the classes of errors -/
  xad : Nat → Addr
  xok : Nat → Bool
instance : CoeFun Cl fun _ => Nat → Addr := ⟨Cl.adr⟩
def keyW : W → Option Key
  | .int i => some (.inl i)
  | .str x => some (.inr x)
  | _ => none
/-- a dict's entries, keys ints and texts -/
def DRs (K : PySem.W.Frag) (ι : List Addr) (H : Hp) : List (W × W) → List (Key × V) → Prop
  | [], vs => vs = []
  | x :: xs, vs => ∃ k v r, vs = (k, v) :: r ∧ keyW x.1 = some k ∧ WR K ι H x.2 v ∧ DRs K ι H xs r
/-- a dict's entries, keys tuples -/
def NRs (K : PySem.W.Frag) (ι : List Addr) (H : Hp) : List (W × W) → List (NestedKey × Addr × V) → Prop
  | [], vs => vs = []
  | x :: xs, vs => ∃ k b v r, vs = (k, b, v) :: r ∧ isKey true x.1 = true ∧ nkW x.1 = some k ∧ WR K ι H x.1 (.ref b) ∧ WR K ι H x.2 v ∧ NRs K ι H xs r
/-- at a: a dict whose keys are the tuples at the told addresses -/
def dN (a : Addr) (w : World) (xs : List (NestedKey × Addr × V)) : HO := .ext fun h => ∃ (o : Obj) (es : Array DictEntry) (ep : Nat) (ys : List (NestedKey × Addr × Value)),
  h.get? a = some o ∧ o.ExactDict ∧ o.data = .dict es ep ∧ es.toList = ys.map (fun y => (⟨y.1.hash w, .ref y.2.1, y.2.2⟩ : DictEntry)) ∧
  Paired (fun (p : NestedKey × Addr × V) (q : NestedKey × Addr × Value) => p.1 = q.1 ∧ p.2.1 = q.2.1 ∧ RelV p.2.2 q.2.2) xs ys ∧ (xs.map (·.1)).Nodup ∧ xs.length ≤ sizeLine ∧ (a == sysModules) = false
section
variable {K : PySem.W.Frag} {ι ι' : List Addr} {H H' : Hp}
theorem DRs.mono (hi : ι <+: ι') (hm : Mono K H H') : ∀ {xs : List (W × W)} {vs : List (Key × V)}, DRs K ι H xs vs → DRs K ι' H' xs vs
  | [], _, h => h
  | x :: xs, vs, h => by
    obtain ⟨k, v, r, e, h1, h2, h3⟩ := h
    exact ⟨k, v, r, e, h1, WR.mono hi hm h2, DRs.mono hi hm h3⟩
theorem NRs.mono (hi : ι <+: ι') (hm : Mono K H H') : ∀ {xs : List (W × W)} {vs : List (NestedKey × Addr × V)}, NRs K ι H xs vs → NRs K ι' H' xs vs
  | [], _, h => h
  | x :: xs, vs, h => by
    obtain ⟨k, b, v, r, e, h0, h1, h2, h3, h4⟩ := h
    exact ⟨k, b, v, r, e, h0, h1, WR.mono hi hm h2, WR.mono hi hm h3, NRs.mono hi hm h4⟩
end
/-- at a: an error's object, its class, its dict -/
def exc (a : Addr) (cls : Value) (d : Option Addr) : HO := .ext fun h => ∃ (oe : Obj) (vs : Array Value), h.get? a = some oe ∧ Zc cls d oe ∧ oe.data = .fields vs
/-- an error of ours and its class, its dict -/
def XR (cl : Cl) (K : PySem.W.Frag) (ι : List Addr) (H : Hp) (c : Nat) (p : Option W) (cls : Value) (d : Option Addr) : Prop := (cl.xok c = true ∧ cls = .ref (cl.xad c)) ∧ match p with
  | none => d = none
  | some w => xfN c ≠ "" ∧ ∃ (dd : Addr) (v : V), d = some dd ∧ H dd = some (.xd [(xfN c, v)]) ∧ WR K ι H w v
theorem XR.mono {cl : Cl} {K : PySem.W.Frag} {ι ι' : List Addr} {H H' : Hp} {c : Nat} {p : Option W} {cls : Value} {d : Option Addr} (hi : ι <+: ι') (hm : Mono K H H') (h : XR cl K ι H c p cls d) : XR cl K ι' H' c p cls d := by
  obtain ⟨e, h⟩ := h
  refine ⟨e, ?_⟩
  cases p with
  | none => exact h
  | some w =>
    obtain ⟨nf, dd, v, e1, e2, r⟩ := h
    exact ⟨nf, dd, v, e1, hm.xds _ _ e2, r.mono hi hm⟩
/-- an object of the store as it stands -/
def OR (cl : Cl) (K : PySem.W.Frag) (ι : List Addr) (H : Hp) (a : Addr) : Ob → Prop
  | .lst xs => ∃ vs, H a = some (.lst vs) ∧ WRs K ι H xs vs
  | .frz xs => (∃ o vs, H a = some (.frz o (.lst vs)) ∧ WRs K ι H xs vs) ∨ ∃ vs, KL K a vs ∧ WRs K ι H xs vs
  | .dic false kvs => ∃ vs, H a = some (.dK vs) ∧ DRs K ι H kvs vs
  | .dic true kvs => ∃ vs, H a = some (dN a cl.w vs) ∧ NRs K ι H kvs vs
  | .ins c fs => ∃ dx vs, H a = some (.ins (cl c) dx vs) ∧ FRs K ι H fs vs
  | .exn c p => ∃ cls d, H a = some (exc a cls d) ∧ XR cl K ι H c p cls d
/-- a read list of the written part stands there -/
def FK (K : PySem.W.Frag) (ι : List Addr) (S : Sto) (n : Nat) : Prop := ∃ a vs xs, ι[n]? = some a ∧ S[n]? = some (.frz xs) ∧ KL K a vs ∧ ∀ ι' H', WRs K ι' H' xs vs
structure Rel (cl : Cl) (K : PySem.W.Frag) (ι : List Addr) (S : Sto) (H : Hp) : Prop where
  len : ι.length = S.length
  ob : ∀ (n : Nat) (a : Addr) (o : Ob), ι[n]? = some a → S[n]? = some o → OR cl K ι H a o
  inj : ∀ (n m : Nat) (a : Addr), ι[n]? = some a → ι[m]? = some a → n ≠ m → FK K ι S n ∨ FK K ι S m
  frz : ∀ (n : Nat) (xs : List W), S[n]? = some (.frz xs) → FK K ι S n ∨ ∃ a o vs, ι[n]? = some a ∧ H a = some (.frz o (.lst vs)) ∧ WRs K ι H xs vs
/-- further on -/
structure Ext (cl : Cl) (K : PySem.W.Frag) (ι : List Addr) (H : Hp) (ι' : List Addr) (S' : Sto) (H' : Hp) : Prop where
  pre : ι <+: ι'
  mono : Mono K H H'
  rel : Rel cl K ι' S' H'
section
variable {cl : Cl} {K : PySem.W.Frag} {ι ι' ι2 : List Addr} {S S' S2 : Sto} {H H' H2 : Hp} {a p : Addr} {n : Nat} {o o' : Ob}
theorem Ext.refl (r : Rel cl K ι S H) : Ext cl K ι H ι S H := ⟨List.prefix_refl _, .refl _, r⟩
theorem Ext.trans (x : Ext cl K ι H ι' S' H') (y : Ext cl K ι' H' ι2 S2 H2) : Ext cl K ι H ι2 S2 H2 := ⟨x.pre.trans y.pre, x.mono.trans y.mono, y.rel⟩
theorem WR.ext {x : W} {v : V} (e : Ext cl K ι H ι' S' H') (h : WR K ι H x v) : WR K ι' H' x v := h.mono e.pre e.mono
theorem WRs.ext {x : List W} {v : List V} (e : Ext cl K ι H ι' S' H') (h : WRs K ι H x v) : WRs K ι' H' x v := h.mono e.pre e.mono
theorem Rel.at (r : Rel cl K ι S H) (h : S[n]? = some o) : ∃ a, ι[n]? = some a ∧ OR cl K ι H a o := by
  have hl : n < ι.length := by rw [r.len]; exact (List.getElem?_eq_some_iff.mp h).1
  exact ⟨ι[n], List.getElem?_eq_getElem hl, r.ob n _ o (List.getElem?_eq_getElem hl) h⟩
theorem Rel.loc (r : Rel cl K ι S H) (h : S[n]? = some o) (q : ι[n]? = some a) : OR cl K ι H a o := r.ob n a o q h
/-- an object of another kind than those that change stands where it stood -/
theorem OR.stay {xs : List W} (hi : ι <+: ι') (hm : Mono K H H') (ha : H' a = H a) (h : OR cl K ι H a o) : OR cl K ι' H' a o := by
  cases o with
  | lst xs =>
    obtain ⟨vs, q, r⟩ := h
    exact ⟨vs, ha.trans q, r.mono hi hm⟩
  | frz xs =>
    rcases h with ⟨o, vs, q, r⟩ | ⟨vs, q, r⟩
    · exact .inl ⟨o, vs, ha.trans q, r.mono hi hm⟩
    · exact .inr ⟨vs, q, r.mono hi hm⟩
  | dic b kvs =>
    cases b with
    | false =>
      obtain ⟨vs, q, r⟩ := h
      exact ⟨vs, ha.trans q, r.mono hi hm⟩
    | true =>
      obtain ⟨vs, q, r⟩ := h
      exact ⟨vs, ha.trans q, r.mono hi hm⟩
  | ins c fs =>
    obtain ⟨dx, vs, q, r⟩ := h
    exact ⟨dx, vs, ha.trans q, r.mono hi hm⟩
  | exn c p =>
    obtain ⟨cls, d, q, r⟩ := h
    exact ⟨cls, d, ha.trans q, r.mono hi hm⟩
theorem FK.or (f : FK K ι S n) (hi : ι[n]? = some a) (ho : S[n]? = some o) (ι' : List Addr) (H' : Hp) : OR cl K ι' H' a o := by
  obtain ⟨b, vs, xs, e1, e2, e3, e4⟩ := f
  rw [hi] at e1
  cases e1
  rw [ho] at e2
  cases e2
  exact .inr ⟨vs, e3, e4 _ _⟩
theorem FK.mono (f : FK K ι S n) (hi : ι <+: ι') (hS : ∀ o, S[n]? = some o → S'[n]? = some o) : FK K ι' S' n := by
  obtain ⟨b, vs, xs, e1, e2, e3, e4⟩ := f
  obtain ⟨t, rfl⟩ := hi
  exact ⟨b, vs, xs, by rw [List.getElem?_append_left (List.getElem?_eq_some_iff.mp e1).1]; exact e1, hS _ e2, e3, e4⟩
/-- something of ours stands there -/
theorem OR.some (r : Rel cl K ι S H) (hi : ι[n]? = some a) (ho : S[n]? = some o) : FK K ι S n ∨ ∃ u, H a = some u := by
  have h := r.ob n a o hi ho
  cases o with
  | lst xs => obtain ⟨vs, q, _⟩ := h; exact .inr ⟨_, q⟩
  | frz xs =>
    rcases r.frz n xs ho with f | ⟨b, o, vs, e, q, _⟩
    · exact .inl f
    · rw [hi] at e
      cases e
      exact .inr ⟨_, q⟩
  | dic b kvs => cases b <;> (obtain ⟨_, q, _⟩ := h; exact .inr ⟨_, q⟩)
  | ins c fs => obtain ⟨dx, vs, q, _⟩ := h; exact .inr ⟨_, q⟩
  | exn c p => obtain ⟨_, _, q, _⟩ := h; exact .inr ⟨_, q⟩
/-- a new object; H' : the heap with it (an instance lays its dict, too) -/
theorem Rel.new (r : Rel cl K ι S H) (hp : H p = none) (hm : Mono K H H') (hk : ∀ b u, H b = some u → H' b = some u) (hnf : ∀ xs, o ≠ .frz xs) (new : OR cl K (ι ++ [p]) H' p o) : Ext cl K ι H (ι ++ [p]) (S ++ [o]) H' := by
  have pre : ι <+: ι ++ [p] := List.prefix_append _ _
  have hl := r.len
  have old : ∀ {m : Nat} {b : Addr}, m < ι.length → (ι ++ [p])[m]? = some b → ι[m]? = some b := fun h e => by rwa [List.getElem?_append_left h] at e
  have oldS : ∀ {m : Nat} {u : Ob}, m < ι.length → (S ++ [o])[m]? = some u → S[m]? = some u := fun h e => by rwa [List.getElem?_append_left (by omega)] at e
  have last : ∀ {m : Nat} {b : Addr}, ¬ m < ι.length → (ι ++ [p])[m]? = some b → m = ι.length ∧ b = p := fun {m b} h e => by
    have := (List.getElem?_eq_some_iff.mp e).1
    rw [List.length_append, List.length_singleton] at this
    have em : m = ι.length := by omega
    subst em
    rw [List.getElem?_append_right (Nat.le_refl _), Nat.sub_self] at e
    exact ⟨rfl, (Option.some.inj e).symm⟩
  have fk : ∀ {m : Nat}, FK K ι S m → FK K (ι ++ [p]) (S ++ [o]) m := fun f => f.mono pre fun u e => by
    rw [List.getElem?_append_left (List.getElem?_eq_some_iff.mp e).1]; exact e
  have back : ∀ {m : Nat} {b : Addr}, m < ι.length → ι[m]? = some b → ∃ u, S[m]? = some u := fun h e => ⟨S[_]'(by omega), List.getElem?_eq_getElem (by omega)⟩
  refine ⟨pre, hm, by rw [List.length_append, List.length_append, hl]; rfl, fun m b u e1 e2 => ?_, fun m k b e1 e2 ne => ?_, fun m xs e => ?_⟩
  · by_cases h : m < ι.length
    · have q1 := old h e1
      have q2 := oldS h e2
      rcases OR.some r q1 q2 with f | ⟨z, hz⟩
      · exact f.or q1 q2 _ _
      · exact OR.stay (xs := []) pre hm (by rw [hz, hk _ _ hz]) (r.ob m b u q1 q2)
    · obtain ⟨rfl, rfl⟩ := last h e1
      rw [hl, List.getElem?_append_right (Nat.le_refl _), Nat.sub_self] at e2
      cases e2
      exact new
  · by_cases h : m < ι.length
    · by_cases h' : k < ι.length
      · rcases r.inj m k b (old h e1) (old h' e2) ne with f | f
        · exact .inl (fk f)
        · exact .inr (fk f)
      · obtain ⟨_, rfl⟩ := last h' e2
        obtain ⟨u, hu⟩ := back h (old h e1)
        rcases OR.some r (old h e1) hu with f | ⟨z, hz⟩
        · exact .inl (fk f)
        · rw [hp] at hz; cases hz
    · obtain ⟨rfl, rfl⟩ := last h e1
      by_cases h' : k < ι.length
      · obtain ⟨u, hu⟩ := back h' (old h' e2)
        rcases OR.some r (old h' e2) hu with f | ⟨z, hz⟩
        · exact .inr (fk f)
        · rw [hp] at hz; cases hz
      · exact absurd (last h' e2).1.symm ne
  · by_cases h : m < ι.length
    · have q := oldS h e
      rcases r.frz m xs q with f | ⟨b, o, vs, e1, e2, e3⟩
      · exact .inl (fk f)
      · exact .inr ⟨b, o, vs, by rw [List.getElem?_append_left h]; exact e1, hk _ _ e2, e3.mono pre hm⟩
    · have := (List.getElem?_eq_some_iff.mp e).1
      rw [List.length_append, List.length_singleton] at this
      have em : m = S.length := by omega
      subst em
      rw [List.getElem?_append_right (Nat.le_refl _), Nat.sub_self] at e
      exact absurd (Option.some.inj e) (hnf xs)
/-- an object is written -/
theorem Rel.write {u : HO} (r : Rel cl K ι S H) (hi : ι[n]? = some a) (hn : n < S.length) (hu : H a = some u) (mu : Mut (some u)) (hS : ∀ xs, S[n]? ≠ some (.frz xs)) (hnf : ∀ xs, o ≠ .frz xs) {o2 : HO} (new : OR cl K ι (upd H a o2) a o) :
    Ext cl K ι H ι (S.set n o) (upd H a o2) := by
  have hm : Mono K H (upd H a o2) := .mut hu mu
  have nfk : ¬ FK K ι S n := fun ⟨_, _, xs, _, e, _⟩ => hS xs e
  have setS : ∀ {m : Nat}, m ≠ n → (S.set n o)[m]? = S[m]? := fun h => List.getElem?_set_ne (Ne.symm h)
  have fk : ∀ {m : Nat}, FK K ι S m → FK K ι (S.set n o) m := fun {m} f => f.mono (List.prefix_refl _) fun z e => by
    rw [setS (fun q => by subst q; exact nfk f)]; exact e
  refine ⟨List.prefix_refl _, hm, by rw [List.length_set]; exact r.len, fun m b z e1 e2 => ?_, fun m k b e1 e2 ne => (r.inj m k b e1 e2 ne).imp fk fk, fun m xs e => ?_⟩
  · by_cases h : m = n
    · subst h
      rw [List.getElem?_set_self hn] at e2
      cases e2
      rw [hi] at e1
      cases e1
      exact new
    · rw [setS h] at e2
      by_cases hb : b = a
      · subst hb
        rcases r.inj m n b e1 hi h with f | f
        · exact f.or e1 e2 _ _
        · exact absurd f nfk
      · exact OR.stay (xs := []) (List.prefix_refl _) hm (upd_ne hb) (r.ob m b z e1 e2)
  · by_cases h : m = n
    · subst h
      rw [List.getElem?_set_self hn] at e
      exact absurd (Option.some.inj e) (hnf xs)
    · rw [setS h] at e
      rcases r.frz m xs e with f | ⟨b, z, vs, e1, e2, e3⟩
      · exact .inl (fk f)
      · refine .inr ⟨b, z, vs, e1, ?_, e3.mono (List.prefix_refl _) hm⟩
        have : b ≠ a := fun q => by
          rw [q, hu] at e2
          cases e2
          exact mu
        rw [upd_ne this]
        exact e2
end

/-- the slots -/
def ER (K : PySem.W.Frag) (ι : List Addr) (H : Hp) (env : En) (σ : L2.St) : Prop := env.length = σ.length ∧ ∀ (i : Nat) (w : W), env[i]? = some (some w) → ∃ v : V, σ[i]? = some (some v) ∧ WR K ι H w v
section
variable {cl : Cl} {K : PySem.W.Frag} {ι ι' : List Addr} {S' : Sto} {H H' : Hp} {env : En} {σ : L2.St}
theorem ER.ext (e : Ext cl K ι H ι' S' H') (h : ER K ι H env σ) : ER K ι' H' env σ := ⟨h.1, fun i w q => by
  obtain ⟨v, q1, q2⟩ := h.2 i w q
  exact ⟨v, q1, q2.ext e⟩⟩
theorem ER.set {i : Nat} {x : W} {v : V} (h : ER K ι H env σ) (r : WR K ι H x v) : ER K ι H (env.set i (some x)) (σ.set i (some v)) := by
  refine ⟨by rw [List.length_set, List.length_set]; exact h.1, fun j w q => ?_⟩
  by_cases e : i = j
  · subst e
    have hl : i < env.length := by
      have := (List.getElem?_eq_some_iff.mp q).1
      rwa [List.length_set] at this
    rw [List.getElem?_set_self hl] at q
    have q' : x = w := Option.some.inj (Option.some.inj q)
    subst q'
    exact ⟨v, List.getElem?_set_self (by rw [← h.1]; exact hl), r⟩
  · rw [List.getElem?_set_ne e] at q ⊢
    exact h.2 j w q
theorem ER.clear {i : Nat} (h : ER K ι H env σ) : ER K ι H (env.set i none) (σ.set i none) := by
  refine ⟨by rw [List.length_set, List.length_set]; exact h.1, fun j w q => ?_⟩
  by_cases e : i = j
  · subst e
    have hl : i < env.length := by
      have := (List.getElem?_eq_some_iff.mp q).1
      rwa [List.length_set] at this
    rw [List.getElem?_set_self hl] at q
    cases q
  · rw [List.getElem?_set_ne e] at q ⊢
    exact h.2 j w q
theorem ER.wipe : ∀ {vs : List Nat}, ER K ι H env σ → ER K ι H (wipeE env vs) (L2.wipe σ vs)
  | [], h => h
  | v :: vs, h => by
    unfold wipeE L2.wipe
    exact (ER.wipe (vs := vs) h).clear
end
end Fb
set_option Elab.async false
set_option linter.all false
set_option maxRecDepth 100000
set_option maxHeartbeats 2000000
/-! Lite: the operations on values keep what the evaluator says. -/
namespace Fb
open PySem PySem.Spec PyProof.Rows L2

/-- what is promised behind a computation -/
def Po (cl : Cl) (K : PySem.W.Frag) (ι : List Addr) (H : Hp) {α : Type} (r : Res α) (Φ : α → Sto → List Addr → Hp → Prop) : Prop := match r with
  | .ok a S' => ∀ ι' H', Ext cl K ι H ι' S' H' → Φ a S' ι' H'
  | .ex _ _ _ => False
  | .no => False
section
variable {cl : Cl} {K : PySem.W.Frag} {ι ι1 : List Addr} {S S1 : Sto} {H H1 : Hp} {α β : Type}
theorem Po.mono {r : Res α} {Φ : α → Sto → List Addr → Hp → Prop} (e : Ext cl K ι H ι1 S1 H1) (h : Po cl K ι H r Φ) : Po cl K ι1 H1 r Φ := by
  cases r with
  | ok a S' => exact fun ι' H' e' => h ι' H' (e.trans e')
  | ex _ _ _ => exact h
  | no => exact h
theorem Po.imp {r : Res α} {Φ Ψ : α → Sto → List Addr → Hp → Prop} (h : Po cl K ι H r Φ) (f : ∀ a S' ι' H', Ext cl K ι H ι' S' H' → Φ a S' ι' H' → Ψ a S' ι' H') : Po cl K ι H r Ψ := by
  cases r with
  | ok a S' => exact fun ι' H' e' => f a S' ι' H' e' (h ι' H' e')
  | ex _ _ _ => exact h
  | no => exact h
theorem Po.bind {m : M α} {f : α → M β} {Φ : β → Sto → List Addr → Hp → Prop} {Ψ : α → Sto → List Addr → Hp → Prop} (h : Po cl K ι H ((m >>= f) S) Φ)
    (k : ∀ a S1 ι1 H1, Ext cl K ι H ι1 S1 H1 → Po cl K ι1 H1 (f a S1) Φ → Ψ a S1 ι1 H1) : Po cl K ι H (m S) Ψ := by
  have e : (m >>= f) S = M.bind m f S := rfl
  rw [e] at h
  unfold M.bind at h
  cases q : m S with
  | ok a S' =>
    rw [q] at h
    exact fun ι' H' e' => k a S' ι' H' e' (Po.mono e' h)
  | ex _ _ _ => rw [q] at h; exact h
  | no => rw [q] at h; exact h
theorem Po.pure {a : α} {Φ : α → Sto → List Addr → Hp → Prop} (r : Rel cl K ι S H) (h : Po cl K ι H ((pure a : M α) S) Φ) : Φ a S ι H := h ι H (.refl r)
theorem Po.fail {Φ : α → Sto → List Addr → Hp → Prop} (h : Po cl K ι H ((Fb.fail : M α) S) Φ) : False := h
/-- a computation that gives its value at once -/
theorem Po.ret {m : M α} {a : α} {S1 : Sto} {Φ : α → Sto → List Addr → Hp → Prop} (h : Po cl K ι H (m S) Φ) (e : m S = .ok a S1) : ∀ ι' H', Ext cl K ι H ι' S1 H' → Φ a S1 ι' H' := by
  rw [e] at h
  exact h
end
/-- the same, and what is promised behind an error -/
def PoX (cl : Cl) (K : PySem.W.Frag) (ι : List Addr) (H : Hp) {α : Type} (r : Res α) (Φ : α → Sto → List Addr → Hp → Prop) (Ψ : Nat → Option W → Sto → List Addr → Hp → Prop) : Prop := match r with
  | .ok a S' => ∀ ι' H', Ext cl K ι H ι' S' H' → Φ a S' ι' H'
  | .ex c p S' => ∀ ι' H', Ext cl K ι H ι' S' H' → Ψ c p S' ι' H'
  | .no => False
section
variable {cl : Cl} {K : PySem.W.Frag} {ι ι1 : List Addr} {S S1 : Sto} {H H1 : Hp} {α β : Type} {Ψ : Nat → Option W → Sto → List Addr → Hp → Prop}
theorem Po.toX {r : Res α} {Φ : α → Sto → List Addr → Hp → Prop} (h : Po cl K ι H r Φ) : PoX cl K ι H r Φ Ψ := by
  cases r with
  | ok a S' => exact h
  | ex _ _ _ => exact h.elim
  | no => exact h.elim
theorem PoX.mono {r : Res α} {Φ : α → Sto → List Addr → Hp → Prop} (e : Ext cl K ι H ι1 S1 H1) (h : PoX cl K ι H r Φ Ψ) : PoX cl K ι1 H1 r Φ Ψ := by
  cases r with
  | ok a S' => exact fun ι' H' e' => h ι' H' (e.trans e')
  | ex _ _ _ => exact fun ι' H' e' => h ι' H' (e.trans e')
  | no => exact h
theorem PoX.imp {r : Res α} {Φ Φ' : α → Sto → List Addr → Hp → Prop} {Ψ' : Nat → Option W → Sto → List Addr → Hp → Prop} (h : PoX cl K ι H r Φ Ψ) (f : ∀ a S' ι' H', Ext cl K ι H ι' S' H' → Φ a S' ι' H' → Φ' a S' ι' H')
    (g : ∀ c p S' ι' H', Ext cl K ι H ι' S' H' → Ψ c p S' ι' H' → Ψ' c p S' ι' H') : PoX cl K ι H r Φ' Ψ' := by
  cases r with
  | ok a S' => exact fun ι' H' e' => f a S' ι' H' e' (h ι' H' e')
  | ex c p S' => exact fun ι' H' e' => g c p S' ι' H' e' (h ι' H' e')
  | no => exact h
theorem PoX.bind {m : M α} {f : α → M β} {Φ : β → Sto → List Addr → Hp → Prop} {Θ : α → Sto → List Addr → Hp → Prop} (h : PoX cl K ι H ((m >>= f) S) Φ Ψ)
    (k : ∀ a S1 ι1 H1, Ext cl K ι H ι1 S1 H1 → PoX cl K ι1 H1 (f a S1) Φ Ψ → Θ a S1 ι1 H1) : PoX cl K ι H (m S) Θ Ψ := by
  have e : (m >>= f) S = M.bind m f S := rfl
  rw [e] at h
  unfold M.bind at h
  cases q : m S with
  | ok a S' =>
    rw [q] at h
    exact fun ι' H' e' => k a S' ι' H' e' (PoX.mono e' h)
  | ex _ _ _ => rw [q] at h; exact h
  | no => rw [q] at h; exact h
/-- what raises nothing, at the head -/
theorem PoX.bindN {m : M α} {f : α → M β} {Φ : β → Sto → List Addr → Hp → Prop} {Θ : α → Sto → List Addr → Hp → Prop} (h : PoX cl K ι H ((noEx m >>= f) S) Φ Ψ)
    (k : ∀ a S1 ι1 H1, Ext cl K ι H ι1 S1 H1 → PoX cl K ι1 H1 (f a S1) Φ Ψ → Θ a S1 ι1 H1) : Po cl K ι H (m S) Θ := by
  have e : (noEx m >>= f) S = M.bind (noEx m) f S := rfl
  rw [e] at h
  unfold M.bind noEx at h
  cases q : m S with
  | ok a S' =>
    rw [q] at h
    exact fun ι' H' e' => k a S' ι' H' e' (PoX.mono e' h)
  | ex _ _ _ => rw [q] at h; exact h
  | no => rw [q] at h; exact h
theorem PoX.pure {a : α} {Φ : α → Sto → List Addr → Hp → Prop} (r : Rel cl K ι S H) (h : PoX cl K ι H ((pure a : M α) S) Φ Ψ) : Φ a S ι H := h ι H (.refl r)
end
/-- the wish on an error -/
abbrev XWish (cl : Cl) (K : PySem.W.Frag) (E : XK) : Nat → Option W → Sto → List Addr → Hp → Prop := fun c p _ ι' H' => ∀ cls d, XR cl K ι' H' c p cls d → E cls d H'
/-- the wish on a value -/
abbrev VW (K : PySem.W.Frag) (Q : VK) : W → Sto → List Addr → Hp → Prop := fun w _ ι' H' => ∀ v, WR K ι' H' w v → Q v H'
section
variable {cl : Cl} {K : PySem.W.Frag} {ι : List Addr} {S : Sto} {H : Hp} {n : Nat} {a p : Addr}
theorem up_new {H : Hp} {p : Addr} {o : HO} (hp : H p = none) : ∀ b u, H b = some u → upd H p o b = some u := fun b u e => by rw [upd_ne (ne_of_none e hp)]; exact e
theorem Rel.newL (r : Rel cl K ι S H) (hp : H p = none) {xs : List W} {vs : List V} (w : WRs K ι H xs vs) : Ext cl K ι H (ι ++ [p]) (S ++ [.lst xs]) (upd H p (.lst vs)) :=
  r.new hp (.new hp) (up_new hp) (fun _ q => nomatch q) ⟨vs, upd_same, w.mono (List.prefix_append _ _) (.new hp)⟩
theorem wr_new (r : Rel cl K ι S H) {K' : PySem.W.Frag} {H' : Hp} : WR K' (ι ++ [p]) H' (.loc S.length) (.ref p) := by
  unfold WR
  exact ⟨p, rfl, by rw [← r.len, List.getElem?_append_right (Nat.le_refl _), Nat.sub_self]; rfl⟩
/-- a list of ours is asked -/
theorem getM_ok {xs : List W} (h : S[n]? = some (.lst xs)) : getM n S = .ok xs S := by unfold getM; rw [h]
theorem getM_cases {α : Type} {f : List W → M α} {Φ : α → Sto → List Addr → Hp → Prop} (r : Rel cl K ι S H) (h : Po cl K ι H ((getM n >>= f) S) Φ) : ∃ xs a vs, S[n]? = some (.lst xs) ∧ ι[n]? = some a ∧ H a = some (.lst vs) ∧ WRs K ι H xs vs ∧ Po cl K ι H (f xs S) Φ := by
  have e : (getM n >>= f) S = M.bind (getM n) f S := rfl
  rw [e] at h
  unfold M.bind getM at h
  cases q : S[n]? with
  | none => rw [q] at h; exact h.elim
  | some o =>
    rw [q] at h
    cases o with
    | lst xs =>
      obtain ⟨a, ha, vs, e1, e2⟩ := r.at q
      exact ⟨xs, a, vs, rfl, ha, e1, e2, h⟩
    | frz _ => exact h.elim
    | dic _ _ => exact h.elim
    | ins _ _ => exact h.elim
    | exn _ _ => exact h.elim
theorem KL.sq {K : PySem.W.Frag} {a : Addr} {vs : List V} (h : KL K a vs) : SqL K H a vs := .inr h
theorem getL_at (r : Rel cl K ι S H) {xs : List W} (h : getL S n = some xs) : ∃ a vs, ι[n]? = some a ∧ SqL K H a vs ∧ WRs K ι H xs vs := by
  unfold getL at h
  cases q : S[n]? with
  | none => rw [q] at h; cases h
  | some o =>
    rw [q] at h
    cases o with
    | lst ys =>
      cases h
      obtain ⟨a, ha, vs, e1, e2⟩ := r.at q
      exact ⟨a, vs, ha, .of e1, e2⟩
    | frz ys =>
      cases h
      obtain ⟨a, ha, ob⟩ := r.at q
      rcases ob with ⟨o, vs, e1, e2⟩ | ⟨vs, e1, e2⟩
      · exact ⟨a, vs, ha, .inl (.inr ⟨o, e1⟩), e2⟩
      · exact ⟨a, vs, ha, e1.sq, e2⟩
    | dic _ _ => cases h
    | ins _ _ => cases h
    | exn _ _ => cases h
theorem getLM_cases {α : Type} {f : List W → M α} {Φ : α → Sto → List Addr → Hp → Prop} (r : Rel cl K ι S H) (h : Po cl K ι H ((getLM n >>= f) S) Φ) : ∃ xs a vs, getL S n = some xs ∧ ι[n]? = some a ∧ SqL K H a vs ∧ WRs K ι H xs vs ∧ Po cl K ι H (f xs S) Φ := by
  have e : (getLM n >>= f) S = M.bind (getLM n) f S := rfl
  rw [e] at h
  unfold M.bind getLM at h
  cases q : getL S n with
  | none => rw [q] at h; exact h.elim
  | some xs =>
    rw [q] at h
    obtain ⟨a, vs, e1, e2, e3⟩ := getL_at r q
    exact ⟨xs, a, vs, rfl, e1, e2, e3, h⟩
theorem getOb_cases {α : Type} {f : Ob → M α} {Φ : α → Sto → List Addr → Hp → Prop} (r : Rel cl K ι S H) (h : Po cl K ι H ((getOb n >>= f) S) Φ) : ∃ o a, S[n]? = some o ∧ ι[n]? = some a ∧ OR cl K ι H a o ∧ Po cl K ι H (f o S) Φ := by
  have e : (getOb n >>= f) S = M.bind (getOb n) f S := rfl
  rw [e] at h
  unfold M.bind getOb at h
  cases q : S[n]? with
  | none => rw [q] at h; exact h.elim
  | some o =>
    rw [q] at h
    obtain ⟨a, e1, e2⟩ := r.at q
    exact ⟨o, a, rfl, e1, e2, h⟩
theorem wr_loc {x : V} (h : WR K ι H (.loc n) x) (e : ι[n]? = some a) : x = .ref a := by
  unfold WR at h
  obtain ⟨b, q, e'⟩ := h
  rw [e] at e'
  cases e'
  exact q
theorem ite_po {c : Prop} [Decidable c] {α : Type} {m : M α} {Φ : α → Sto → List Addr → Hp → Prop} (h : Po cl K ι H ((if c then m else Fb.fail) S) Φ) : c ∧ Po cl K ι H (m S) Φ := by
  by_cases q : c
  · rw [if_pos q] at h; exact ⟨q, h⟩
  · rw [if_neg q] at h; exact h.elim
theorem ofO_po {α : Type} {o : Option α} {Φ : α → Sto → List Addr → Hp → Prop} (r : Rel cl K ι S H) (h : Po cl K ι H (ofO o S) Φ) : ∃ x, o = some x ∧ Φ x S ι H := by
  cases o with
  | none => exact h.elim
  | some x => exact ⟨x, rfl, h ι H (.refl r)⟩
theorem setOb_lst (r : Rel cl K ι S H) {xs ys : List W} {vs us : List V} (hS : S[n]? = some (.lst xs)) (hi : ι[n]? = some a) (hv : H a = some (.lst vs)) (w : WRs K ι H ys us) : Ext cl K ι H ι (S.set n (.lst ys)) (upd H a (.lst us)) :=
  r.write hi (List.getElem?_eq_some_iff.mp hS).1 hv trivial (fun zs q => by rw [hS] at q; cases q) (by intro _ q; cases q) ⟨us, upd_same, w.mono (List.prefix_refl _) (.mut hv trivial)⟩
end

/-! ### the tuple repeated -/
theorem tuple_mulOne (l : Addr) (items : Array Value) (n : Nat) (dd : Option Addr) (sl : Array (Option Value)) (u : Tok) :
    Meets (Builtin.«tuple.__mul__» ⟨[.ref l, .int 1 u], []⟩) (fun _ R s => s.heap.get? l = some { cls := .type "tuple", dict := dd, data := .seq items n, slots := sl } ∧ R (.ok (.ret (Value.ref l))) s) :=
  .of_wp fun prog w A R s h => by
    obtain ⟨hp, g, d, tk, os⟩ := s
    obtain ⟨hl, h⟩ := h
    have f1 := AutoSeq1.idx_int
    have c1 : (items.isEmpty || (1 : Int) == 1) = true := by rw [show ((1 : Int) == 1) = true from rfl, Bool.or_true]
    wp_walk using wpAny_loadPart' hl
    repeat (first
      | (refine wpAny_ite_false (decide_eq_false (by decide)) ?_; wp_walk using wpAny_loadPart' hl)
      | (refine wpAny_ite_true (decide_eq_true c1) ?_; wp_walk using wpAny_loadPart' hl))
    exact ⟨_, rfl, h⟩
def rRepU (K : PySem.W.Frag) : R2 := fun x y H Q => ∃ l k xs, x = .ref l ∧ y = .int k ∧ SqT K H l xs ∧ xs ≠ [] ∧ ((k = 1 ∧ Q (.ref l) H) ∨ (2 ≤ k ∧ k < 2 ^ 60 ∧ xs.length * k.toNat ≤ 16777216 ∧ ∀ p, H p = none → Q (.ref p) (upd H p (.tup (List.replicate k.toNat xs).flatten))))
theorem op_repU {X : Cx} : OpR X (binaryOp .Mult) (rRepU X.K) := by
  intro pins s σ H x y v u Q I rx ry h
  obtain ⟨l, k, xs, rfl, rfl, hT, hne, h⟩ := h
  cases rx
  obtain ⟨t, rfl⟩ := ry
  obtain ⟨its, r, ⟨⟨cls, dd, data, sl⟩, ho, hc, n, hd⟩, hs⟩ := I.tuple hT
  simp only at hc hd
  subst hc hd
  have hle : its.length = xs.length := r.length.symm
  have hn : its ≠ [] := fun e => hne (by
    rw [e] at hle
    exact List.eq_nil_of_length_eq_zero hle.symm)
  have hi : its.toArray.isEmpty = false := by
    cases its with
    | nil => exact absurd rfl hn
    | cons a b => rfl
  have hsz0 : its.toArray.size = xs.length := by rw [List.size_toArray, hle]
  rcases h with ⟨rfl, q⟩ | ⟨h1, h2, hz, q⟩
  · exact wpAny_binaryOp_repeat_ref (T := "tuple") (U := "int") (by decide) ⟨_, ho, rfl⟩ (fun s' => typeIs_int s' 1 t) noFill_tuple_mul F.fills_int_mul F.slot_int_rmul repeat_tuple F.slot_int_index.lookup
      (call_meets F.slot_int_rmul (typeIs_int s 1 t) F.entry_int_rmul (F.args_int_rmul_2 _ _) (int_rmul_tuple 1 t l its.toArray n dd sl)
        ⟨ho, rfl, ⟨_, ho, rfl⟩, call_meets F.slot_tuple_mul ⟨_, ho, rfl⟩ F.entry_tuple_mul (F.args_tuple_mul_2 _ _) (tuple_mulOne l its.toArray n dd sl t) ⟨ho, ⟨.ref l, H, I, rfl, q⟩⟩⟩)
  have hm : ((its.toArray.size : Nat) : Int) * k ≤ 16777216 := by
    rw [hsz0]
    have e : ((xs.length : Nat) : Int) * k = ((xs.length * k.toNat : Nat) : Int) := by
      rw [Int.natCast_mul, Int.toNat_of_nonneg (by omega)]
    rw [e]
    exact Int.ofNat_le.mpr hz
  have flen : (List.replicate k.toNat its).flatten.length ≤ sizeLine := by
    rw [PyProof.Rows.lm_len_rep_flat, hle, sizeLine_eq, Nat.mul_comm]
    omega
  have c0 : (decide (k < -(2 ^ 63)) || decide (k ≥ 2 ^ 63)) = false := by
    rw [decide_eq_false (by omega), decide_eq_false (by omega)] <;> rfl
  have c1 : (its.toArray.isEmpty || k == 1) = false := by
    rw [hi, Bool.false_or]
    exact beq_eq_false_iff_ne.mpr (by omega)
  have c2 : (decide (k ≤ 0) || its.toArray.isEmpty) = false := by
    rw [hi, Bool.or_false]
    exact decide_eq_false (by omega)
  have c4 : Builtin.Tuple.tupleTooMany (((its.toArray.size : Nat) : Int) * k) = false := by
    unfold Builtin.Tuple.tupleTooMany
    rw [sizeLine_eq]
    exact decide_eq_false (by omega)
  refine wpAny_binaryOp_repeat_ref (T := "tuple") (U := "int") (by decide) ⟨_, ho, rfl⟩ (fun s' => typeIs_int s' k t) noFill_tuple_mul F.fills_int_mul F.slot_int_rmul repeat_tuple F.slot_int_index.lookup
    (call_meets F.slot_int_rmul (typeIs_int s k t) F.entry_int_rmul (F.args_int_rmul_2 _ _) (int_rmul_tuple k t l its.toArray n dd sl)
      ⟨ho, rfl, ⟨_, ho, rfl⟩, call_meets F.slot_tuple_mul ⟨_, ho, rfl⟩ F.entry_tuple_mul (F.args_tuple_mul_2 _ _) (tuple_mulW l its.toArray n dd sl k t c0 c1 c2 (by omega) c4 (by rw [size_rep, List.size_toArray]; exact flen)) ⟨ho, ?_⟩⟩)
  rw [size_rep]
  refine ⟨.ref s.heap.objs.size, _, I.laid (t' := s.toks) (o := .tup (List.replicate k.toNat xs).flatten) (fun b ob q => Heap.get?_push_of_some _ q) (Nat.le_refl _) ⟨?_, (List.replicate k.toNat its).flatten, ?_, ?_⟩, rfl, q _ (I.hok.fresh (Nat.le_refl _))⟩
  · rw [PyProof.Rows.lm_len_rep_flat, sizeLine_eq, Nat.mul_comm]
    omega
  · have : ∀ m : Nat, Vals (List.replicate m xs).flatten (List.replicate m its).flatten := fun m => by
      induction m with
      | zero => exact .nil
      | succ m ih => rw [List.replicate_succ, List.replicate_succ, List.flatten_cons, List.flatten_cons]; exact r.append ih
    exact this _
  · exact ⟨_, Heap.get?_push_size s.heap rfl, rfl, 0, rfl⟩
end Fb
set_option Elab.async false
set_option linter.all false
set_option maxRecDepth 100000
set_option maxHeartbeats 2000000
namespace Fb
open PySem PySem.Spec PyProof.Rows L2

def bopP : BOp → Operator
  | .add => .Add | .sub => .Sub | .mul => .Mult | .fdiv => .FloorDiv | .mod => .Mod | .pow => .Pow | .shl => .LShift | .shr => .RShift | .band => .BitAnd | .bor => .BitOr
/-- list + list, of any lists that there are -/
def rCatL (K : PySem.W.Frag) : R2 := fun x y H Q => ∃ l b xs zs, x = .ref l ∧ y = .ref b ∧ SqL K H l xs ∧ SqL K H b zs ∧ xs.length + zs.length ≤ sizeLine ∧ ∀ p, H p = none → Q (.ref p) (upd H p (.lst (xs ++ zs)))
/-- an operation on two values of ours -/
def rB (cl : Cl) (K : PySem.W.Frag) (f : W → W → M W) : R2 := fun x y H Q => ∃ ι S a b, Rel cl K ι S H ∧ WR K ι H a x ∧ WR K ι H b y ∧ Po cl K ι H (f a b S) (VW K Q)
section
variable {cl : Cl} {K : PySem.W.Frag} {ι : List Addr} {S : Sto} {H : Hp} {X : Cx}
theorem wr_int {i : Int} {x : V} (h : WR K ι H (.int i) x) : x = .int i := h
theorem wr_str {i : Str} {x : V} (h : WR K ι H (.str i) x) : x = .str i := h
theorem wr_bl {i : Bool} {x : V} (h : WR K ι H (.bl i) x) : x = .bl i := h
theorem wr_non {x : V} (h : WR K ι H .non x) : x = .non := h
theorem wr_tup {xs : List W} {x : V} (h : WR K ι H (.tup xs) x) : ∃ a vs, x = .ref a ∧ SqT K H a vs ∧ WRs K ι H xs vs := h
theorem mk_tup {xs : List W} {a : Addr} {vs : List V} (h : SqT K H a vs) (w : WRs K ι H xs vs) : WR K ι H (.tup xs) (.ref a) := ⟨a, vs, rfl, h, w⟩
theorem new_tup {xs : List W} {p : Addr} {vs : List V} (hp : H p = none) (w : WRs K ι H xs vs) : WR K ι (upd H p (.tup vs)) (.tup xs) (.ref p) :=
  ⟨p, vs, rfl, .of upd_same, w.mono (List.prefix_refl _) (.new hp)⟩
/-- a new tuple of the layer is nothing of the store -/
theorem Rel.newT (r : Rel cl K ι S H) {p : Addr} {vs : List V} (hp : H p = none) : Ext cl K ι H ι S (upd H p (.tup vs)) := by
  have hm : Mono K H (upd H p (.tup vs)) := .new hp
  refine ⟨List.prefix_refl _, hm, r.len, fun n a o e1 e2 => ?_, r.inj, fun n xs e => ?_⟩
  · rcases OR.some r e1 e2 with f | ⟨z, hz⟩
    · exact f.or e1 e2 _ _
    · exact OR.stay (xs := []) (List.prefix_refl _) hm (by rw [hz, up_new hp _ _ hz]) (r.ob n a o e1 e2)
  · rcases r.frz n xs e with f | ⟨a, o, vs, e1, e2, e3⟩
    · exact .inl f
    · exact .inr ⟨a, o, vs, e1, up_new hp _ _ e2, e3.mono (List.prefix_refl _) hm⟩
theorem big_lt {i : Int} (h : i.natAbs < big) : i.natAbs.log2 < 9000 := PySem.Flt.log2_lt_of (by decide) h
theorem mulOk_ok {i j : Int} (h : mulOk i j = true) : IntMulOk i j := by
  unfold mulOk at h
  rw [Bool.or_eq_true, Bool.or_eq_true, Bool.or_eq_true, Bool.and_eq_true, Bool.and_eq_true] at h
  rcases h with ((h | h) | ⟨h1, h2⟩) | ⟨h1, h2⟩
  · have := of_decide_eq_true h
    exact .of_left (intBits_le_64 (by omega) (by omega))
  · have := of_decide_eq_true h
    exact .of_right (intBits_le_64 (by omega) (by omega))
  · have a := big_lt (of_decide_eq_true h1)
    have b := big_lt (of_decide_eq_true h2)
    exact CMulW.ok (by unfold CMulW; omega)
  · have a := of_decide_eq_true h1
    have b := of_decide_eq_true h2
    have lb : ∀ {k : Int}, k.natAbs.log2 < 60000000 → Builtin.Int.intBits k ≤ 60000000 := fun {k} hk => by
      unfold Builtin.Int.intBits
      split <;> omega
    exact IntMulOk.of_le (lb a) (lb b) (by omega)
theorem bits_le {i : Int} {k : Nat} (h0 : 0 < k) (h : i.natAbs < 2 ^ k) : Builtin.Int.intBits i ≤ k := by
  have := PySem.Flt.log2_lt_of h0 h
  unfold Builtin.Int.intBits
  split <;> omega
theorem powOk {i j : Int} (h0 : 0 ≤ j) (h : (j ≤ 1000 ∧ i.natAbs < 2 ^ 64) ∨ (j ≤ 8 ∧ i.natAbs < big)) : (Builtin.Int.intBits i : Int) * j ≤ 2 ^ 27 := by
  rcases h with ⟨h1, h2⟩ | ⟨h1, h2⟩
  · have b := bits_le (by decide) h2
    have : (Builtin.Int.intBits i : Int) * j ≤ 64 * 1000 := Int.mul_le_mul (by omega) h1 h0 (by omega)
    omega
  · have b := bits_le (k := 9000) (by decide) h2
    have : (Builtin.Int.intBits i : Int) * j ≤ 9000 * 8 := Int.mul_le_mul (by omega) h1 h0 (by omega)
    omega
theorem op_powW : OpR X (binaryOp .Pow) (rI (fun i j => 0 ≤ j ∧ ((j ≤ 1000 ∧ i.natAbs < 2 ^ 64) ∨ (j ≤ 8 ∧ i.natAbs < big))) fun i j => .int (i ^ j.toNat)) := opI fun _ _ _ _ _ _ _ hc q => pow_int hc.1 (powOk hc.1 hc.2) q
theorem op_mulV : OpR X (binaryOp .Mult) (rI (fun i j => mulOk i j = true) fun i j => .int (i * j)) := opI fun _ _ _ _ _ _ _ hc q => mul_int q (mulOk_ok hc)
theorem op_fdivV : OpR X (binaryOp .FloorDiv) (rI (fun _ j => 0 < j ∧ j.natAbs < big) fun i j => .int (i / j)) := fun pins s σ H x y v u Q I rx ry ⟨i, j, e1, e2, ⟨h1, h2⟩, q⟩ => op_fdivW pins s σ H x y v u Q I rx ry ⟨i, j, e1, e2, ⟨h1, big_lt h2⟩, q⟩
theorem op_shlV : OpR X (binaryOp .LShift) (rI (fun i j => 0 ≤ j ∧ j ≤ 1000 ∧ i.natAbs < 2 ^ 64) fun i j => .int (i * 2 ^ j.toNat)) := fun pins s σ H x y v u Q I rx ry ⟨i, j, e1, e2, ⟨h1, h2, h3⟩, q⟩ => op_shl pins s σ H x y v u Q I rx ry ⟨i, j, e1, e2, ⟨h1, by omega, h3⟩, q⟩

theorem op_catL : OpR X (binaryOp .Add) (rCatL X.K) := by
  intro pins s σ H x y v u Q I rx ry h
  obtain ⟨l, b, xs, zs, rfl, rfl, hH, hB, hz, q⟩ := h
  cases rx
  cases ry
  obtain ⟨its, r, pl, _⟩ := I.list hH
  obtain ⟨its2, r2, pl2, _⟩ := I.list hB
  have l1 := r.length
  have l2 := r2.length
  have hsz : its.length + its2.length ≤ sizeLine := by omega
  obtain ⟨⟨cls, dd, data, sl⟩, n, ho, hc, hdd, hd⟩ := id pl
  obtain ⟨⟨cls2, dd2, data2, sl2⟩, n2, ho2, hc2, hdd2, hd2⟩ := id pl2
  simp only at hc hd hc2 hd2
  subst hc hd hc2 hd2
  refine concat_meets ⟨_, ho, rfl⟩ ⟨_, ho2, rfl⟩ noFill_list_add seq_list_add PySem.F.slot_list_add PySem.F.entry_list_add (PySem.F.args_list_add_2 _ _) (PyProof.Rows.list_addW l b its.toArray its2.toArray n n2 dd dd2 sl sl2 (by simpa using hsz)) ⟨ho, ho2, ?_⟩
  have ea : its.toArray ++ its2.toArray = (its ++ its2).toArray := by simp
  rw [ea]
  exact ⟨.ref _, _, I.lnew (t' := s.toks) (r.append r2) (by rw [List.length_append]; omega), rfl, q _ I.fresh⟩
theorem op_bin (op : BOp) : OpR X (binaryOp (bopP op)) (rB cl X.K (binW op)) := by
  intro pins s σ H x y v u Q I rx ry h
  obtain ⟨ι, S, a, b, R, ha, hb, h⟩ := h
  have pr : ∀ {w : W}, Po cl X.K ι H ((pure w : M W) S) (VW X.K Q) → ∀ v, WR X.K ι H w v → Q v H := fun h v hv => h ι H (.refl R) v hv
  cases op with
  | add =>
    cases a with
    | int i =>
      cases b with
      | int j => cases wr_int ha; cases wr_int hb; exact op_add pins s σ H _ _ v u Q I rx ry ⟨i, j, rfl, rfl, pr h _ rfl⟩
      | _ => exact h.elim
    | str i =>
      cases b with
      | str j =>
        cases wr_str ha; cases wr_str hb
        obtain ⟨c, h⟩ := ite_po h
        exact op_add_str pins s σ H _ _ v u Q I rx ry ⟨i, j, rfl, rfl, c, pr h _ rfl⟩
      | _ => exact h.elim
    | tup xs =>
      cases b with
      | tup ys =>
        obtain ⟨p, vs, rfl, s1, w1⟩ := wr_tup ha
        obtain ⟨q, us, rfl, s2, w2⟩ := wr_tup hb
        obtain ⟨c, h⟩ := ite_po h
        have l1 := w1.length
        have l2 := w2.length
        refine op_catA pins s σ H _ _ v u Q I rx ry ⟨p, q, vs, us, rfl, rfl, s1, s2, by omega, fun e => ?_, fun e1 e2 => ?_, fun e1 e2 p' hp' => ?_⟩
        · have e0 : xs = [] := List.eq_nil_of_length_eq_zero (by rw [e] at l1; exact l1.symm)
          subst e0
          exact pr h _ (mk_tup s2 w2)
        · have e0 : ys = [] := List.eq_nil_of_length_eq_zero (by rw [e2] at l2; exact l2.symm)
          subst e0
          rw [List.append_nil] at h
          exact pr h _ (mk_tup s1 w1)
        · exact h ι _ (R.newT hp') _ (new_tup hp' (w1.append w2))
      | _ => exact h.elim
    | loc n =>
      cases b with
      | loc m =>
        obtain ⟨xs, p, vs, e1, e2, e3, e4, h⟩ := getLM_cases R h
        obtain ⟨ys, q, us, f1, f2, f3, f4, h⟩ := getLM_cases R h
        obtain ⟨c, h⟩ := ite_po h
        cases wr_loc ha e2; cases wr_loc hb f2
        refine op_catL pins s σ H _ _ v u Q I rx ry ⟨p, q, vs, us, rfl, rfl, e3, f3, by rw [e4.length, f4.length]; exact c, fun p' hp' => ?_⟩
        exact h _ _ (R.newL hp' (e4.append f4)) _ (wr_new R)
      | _ => exact h.elim
    | _ => exact h.elim
  | sub =>
    cases a with
    | int i =>
      cases b with
      | int j => cases wr_int ha; cases wr_int hb; exact op_sub pins s σ H _ _ v u Q I rx ry ⟨i, j, rfl, rfl, pr h _ rfl⟩
      | _ => exact h.elim
    | _ => exact h.elim
  | mul =>
    cases a with
    | int i =>
      cases b with
      | int j =>
        cases wr_int ha; cases wr_int hb
        obtain ⟨c, h⟩ := ite_po h
        exact op_mulV pins s σ H _ _ v u Q I rx ry ⟨i, j, rfl, rfl, c, pr h _ rfl⟩
      | _ => exact h.elim
    | tup xs =>
      cases b with
      | int j =>
        cases wr_int hb
        obtain ⟨p, vs, rfl, s1, w1⟩ := wr_tup ha
        obtain ⟨⟨hne, c⟩, h⟩ := ite_po h
        have l1 := w1.length
        refine op_repU pins s σ H _ _ v u Q I rx ry ⟨p, j, vs, rfl, rfl, s1, fun e => hne (List.eq_nil_of_length_eq_zero (by rw [e] at l1; exact l1.symm)), ?_⟩
        rcases c with rfl | ⟨c1, c2, c3⟩
        · refine .inl ⟨rfl, ?_⟩
          have e : (List.replicate (1 : Int).toNat xs).flatten = xs := by
            show (List.replicate 1 xs).flatten = xs
            rw [List.replicate_succ, List.flatten_cons]
            exact List.append_nil xs
          rw [e] at h
          exact pr h _ (mk_tup s1 w1)
        · exact .inr ⟨c1, c2, by rw [l1]; exact c3, fun p' hp' => h ι _ (R.newT hp') _ (new_tup hp' (w1.flatten_rep _))⟩
      | _ => exact h.elim
    | loc n =>
      cases b with
      | int j =>
        cases wr_int hb
        obtain ⟨xs, p, vs, e1, e2, e3, e4, h⟩ := getM_cases R h
        obtain ⟨⟨c1, c2, c3⟩, h⟩ := ite_po h
        cases wr_loc ha e2
        refine op_rep pins s σ H _ _ v u Q I rx ry ⟨p, j, vs, rfl, rfl, e3, c1, c2, by rw [e4.length]; exact c3, fun p' hp' => ?_⟩
        exact h _ _ (R.newL hp' (e4.flatten_rep _)) _ (wr_new R)
      | _ => exact h.elim
    | _ => exact h.elim
  | fdiv =>
    cases a with
    | int i =>
      cases b with
      | int j =>
        cases wr_int ha; cases wr_int hb
        obtain ⟨c, h⟩ := ite_po h
        exact op_fdivV pins s σ H _ _ v u Q I rx ry ⟨i, j, rfl, rfl, c, pr h _ rfl⟩
      | _ => exact h.elim
    | _ => exact h.elim
  | mod =>
    cases a with
    | int i =>
      cases b with
      | int j =>
        cases wr_int ha; cases wr_int hb
        obtain ⟨c, h⟩ := ite_po h
        exact op_mod pins s σ H _ _ v u Q I rx ry ⟨i, j, rfl, rfl, c, pr h _ rfl⟩
      | _ => exact h.elim
    | _ => exact h.elim
  | pow =>
    cases a with
    | int i =>
      cases b with
      | int j =>
        cases wr_int ha; cases wr_int hb
        obtain ⟨c, h⟩ := ite_po h
        exact op_powW pins s σ H _ _ v u Q I rx ry ⟨i, j, rfl, rfl, c, pr h _ rfl⟩
      | _ => exact h.elim
    | _ => exact h.elim
  | shl =>
    cases a with
    | int i =>
      cases b with
      | int j =>
        cases wr_int ha; cases wr_int hb
        obtain ⟨c, h⟩ := ite_po h
        exact op_shlV pins s σ H _ _ v u Q I rx ry ⟨i, j, rfl, rfl, c, pr h _ rfl⟩
      | _ => exact h.elim
    | _ => exact h.elim
  | shr =>
    cases a with
    | int i =>
      cases b with
      | int j =>
        cases wr_int ha; cases wr_int hb
        obtain ⟨c, h⟩ := ite_po h
        exact op_shr pins s σ H _ _ v u Q I rx ry ⟨i, j, rfl, rfl, c, pr h _ rfl⟩
      | _ => exact h.elim
    | _ => exact h.elim
  | band =>
    cases a with
    | int i =>
      cases b with
      | int j => cases wr_int ha; cases wr_int hb; exact op_and pins s σ H _ _ v u Q I rx ry ⟨i, j, rfl, rfl, pr h _ rfl⟩
      | _ => exact h.elim
    | _ => exact h.elim
  | bor =>
    cases a with
    | int i =>
      cases b with
      | int j => cases wr_int ha; cases wr_int hb; exact op_or pins s σ H _ _ v u Q I rx ry ⟨i, j, rfl, rfl, pr h _ rfl⟩
      | _ => exact h.elim
    | _ => exact h.elim

/-- in place: of ints and texts -/
theorem op_aug (op : BOp) : OpR X (inplaceOp (bopP op)) (rB cl X.K (augW op)) := by
  intro pins s σ H x y v u Q I rx ry h
  obtain ⟨ι, S, a, b, R, ha, hb, h⟩ := h
  have pr : ∀ {w : W}, Po cl X.K ι H ((pure w : M W) S) (VW X.K Q) → ∀ v, WR X.K ι H w v → Q v H := fun h v hv => h ι H (.refl R) v hv
  cases a with
  | int i =>
    cases b with
    | int j =>
      cases wr_int ha; cases wr_int hb
      obtain ⟨t, rfl⟩ := rx
      obtain ⟨t', rfl⟩ := ry
      have fin : ∀ {k : Int}, Po cl X.K ι H ((pure (.int k) : M W) S) (VW X.K Q) → EP X pins σ Q (.int k s.toks) { s with toks := s.toks + 1 } := fun h => ⟨.int _, H, I.tok _, ⟨_, rfl⟩, pr h _ rfl⟩
      cases op with
      | add => exact iadd_int (fin h)
      | sub => exact isub_int (fin h)
      | mul => obtain ⟨c, h⟩ := ite_po h; exact imul_int (fin h) (mulOk_ok c)
      | fdiv =>
        obtain ⟨c, h⟩ := ite_po h
        have h1 : (0 : Int) < j := c.1
        exact ifloordiv_int (by omega) (by rw [Int.fdiv_eq_ediv_of_nonneg i (by omega)]; exact fin h) (.inl (PyProof.noPylong_of_log2 (big_lt c.2)))
      | mod =>
        obtain ⟨c, h⟩ := ite_po h
        exact imod_int (by omega) (by rw [Int.fmod_eq_emod_of_nonneg i (by omega)]; exact fin h)
      | pow => obtain ⟨c, h⟩ := ite_po h; exact ipow_int c.1 (powOk c.1 c.2) (fin h)
      | shl =>
        obtain ⟨c, h⟩ := ite_po h
        exact ilshift_int_small c.1 (by omega) c.2.2 (fin h)
      | shr =>
        obtain ⟨c, h⟩ := ite_po h
        exact (iop_shr (X := X)) pins s σ H (.int i) (.int j) _ _ Q I ⟨t, rfl⟩ ⟨t', rfl⟩ ⟨i, j, rfl, rfl, c, pr h _ rfl⟩
      | band => exact iand_int (fin h)
      | bor => exact ior_int (fin h)
    | _ => exact h.elim
  | str i =>
    cases b with
    | str j =>
      cases wr_str ha; cases wr_str hb
      cases op with
      | add =>
        obtain ⟨c, h⟩ := ite_po h
        exact iop_add_str pins s σ H _ _ v u Q I rx ry ⟨i, j, rfl, rfl, c, pr h _ rfl⟩
      | _ => exact h.elim
    | _ => exact h.elim
  | _ => exact h.elim
theorem un_op (op : UOp) {f : Value → Sem Value} (hf : f = unaryOp (match op with | .neg => .USub | .inv => .Invert)) : UnR X f (fun x H Q => ∃ ι S a, Rel cl X.K ι S H ∧ WR X.K ι H a x ∧ Po cl X.K ι H (unW op a S) (VW X.K Q)) := by
  subst hf
  intro pins s σ H x u Q I rx h
  obtain ⟨ι, S, a, R, ha, h⟩ := h
  have pr : ∀ {w : W}, Po cl X.K ι H ((pure w : M W) S) (VW X.K Q) → ∀ v, WR X.K ι H w v → Q v H := fun h v hv => h ι H (.refl R) v hv
  cases a with
  | int i =>
    cases wr_int ha
    cases op with
    | neg => exact un_neg pins s σ H _ u Q I rx ⟨i, rfl, pr h _ rfl⟩
    | inv => exact un_inv pins s σ H _ u Q I rx ⟨i, rfl, pr h _ rfl⟩
  | _ => cases op <;> exact h.elim
end
end Fb
set_option Elab.async false
set_option linter.all false
set_option maxRecDepth 100000
set_option maxHeartbeats 2000000
/-! Lite: dicts. -/
namespace Fb
open PySem PySem.Spec PyProof.Rows L2

/-! ### keys -/
mutual
def NKV (K : PySem.W.Frag) (H : Hp) : NestedKey → V → Prop
  | .none, v => v = .non
  | .num i, v => v = .int i
  | .text x, v => v = .str x
  | .tup ks, v => ∃ a vs, v = .ref a ∧ SqT K H a vs ∧ NKVs K H ks vs
def NKVs (K : PySem.W.Frag) (H : Hp) : List NestedKey → List V → Prop
  | [], vs => vs = []
  | k :: ks, vs => ∃ v r, vs = v :: r ∧ NKV K H k v ∧ NKVs K H ks r
end
section
variable {cl : Cl} {K : PySem.W.Frag} {ι : List Addr} {S : Sto} {H : Hp} {X : Cx} {a : Addr} {n : Nat}
mutual
theorem wr_nk : ∀ {x : W} {k : NestedKey} {v : V}, nkW x = some k → WR K ι H x v → NKV K H k v
  | .non, _, _, e, h => by cases e; exact wr_non h
  | .int i, _, _, e, h => by cases e; exact wr_int h
  | .str i, _, _, e, h => by cases e; exact wr_str h
  | .bl _, _, _, e, _ => by cases e
  | .loc _, _, _, e, _ => by cases e
  | .tup xs, k, v, e, h => by
    unfold nkW at e
    cases q : nkWs xs with
    | none => rw [q] at e; cases e
    | some ks =>
      rw [q] at e
      cases e
      obtain ⟨b, vs, rfl, s1, w1⟩ := wr_tup h
      exact ⟨b, vs, rfl, s1, wrs_nk q w1⟩
theorem wrs_nk : ∀ {xs : List W} {ks : List NestedKey} {vs : List V}, nkWs xs = some ks → WRs K ι H xs vs → NKVs K H ks vs
  | [], _, _, e, h => by cases e; unfold WRs at h; exact h
  | x :: xs, ks, vs, e, h => by
    unfold WRs at h
    obtain ⟨v, r, rfl, h1, h2⟩ := h
    unfold nkWs at e
    cases q : nkW x with
    | none => rw [q] at e; cases e
    | some k =>
      cases q2 : nkWs xs with
      | none => rw [q, q2] at e; cases e
      | some ks2 =>
        rw [q, q2] at e
        cases e
        exact ⟨v, r, rfl, wr_nk q h1, wrs_nk q2 h2⟩
end
mutual
theorem nk_is {pins : List (Addr × Obj)} {σ : L2.St} {s : Shared} (I : Inv X pins σ H s) : ∀ {k : NestedKey} {v : V} {u : Value}, NKV X.K H k v → RelV v u → NestedIs s.heap k u
  | .none, v, u, h, r => by cases (show v = .non from h); cases (show u = Value.none from r); exact .none
  | .num i, v, u, h, r => by cases (show v = .int i from h); obtain ⟨t, rfl⟩ := r; exact .int i t
  | .text x, v, u, h, r => by cases (show v = .str x from h); obtain ⟨t, rfl⟩ := r; exact .text x t
  | .tup ks, v, u, h, r => by
    obtain ⟨b, vs, rfl, s1, w1⟩ := (show ∃ a vs, v = .ref a ∧ SqT X.K H a vs ∧ NKVs X.K H ks vs from h)
    cases (show u = Value.ref b from r)
    obtain ⟨its, rv, ⟨o, e1, e2, m, e3⟩, _⟩ := I.tuple s1
    exact .tup e1 e2 e3 (by simpa using nks_is I w1 rv)
theorem nks_is {pins : List (Addr × Obj)} {σ : L2.St} {s : Shared} (I : Inv X pins σ H s) : ∀ {ks : List NestedKey} {vs : List V} {us : List Value}, NKVs X.K H ks vs → Vals vs us → NestedAll s.heap ks us
  | [], vs, us, h, r => by
    cases (show vs = [] from h)
    cases r
    exact .nil
  | k :: ks, vs, us, h, r => by
    obtain ⟨v, t, rfl, h1, h2⟩ := (show ∃ v r, vs = v :: r ∧ NKV X.K H k v ∧ NKVs X.K H ks r from h)
    cases r with
    | cons r1 r2 => exact .cons (nk_is I h1 r1) (nks_is I h2 r2)
end
/-- where a key stands in such a dict -/
def nfind (xs : List (NestedKey × Addr × V)) (k : NestedKey) : Option V := (xs.find? fun p => decide (p.1 = k)).map fun p => p.2.2
def nput (xs : List (NestedKey × Addr × V)) (k : NestedKey) (b : Addr) (v : V) : List (NestedKey × Addr × V) :=
  if (xs.any fun p => decide (p.1 = k)) = true then xs.map (fun p => if p.1 = k then (p.1, p.2.1, v) else p) else xs ++ [(k, b, v)]
abbrev NP : NestedKey × Addr × V → NestedKey × Addr × Value → Prop := fun p q => p.1 = q.1 ∧ p.2.1 = q.2.1 ∧ RelV p.2.2 q.2.2
theorem np_find {k : NestedKey} : ∀ {xs : List (NestedKey × Addr × V)} {ys : List (NestedKey × Addr × Value)}, Paired NP xs ys → RelO (nfind xs k) ((atKey ys k).map (·.2))
  | _, _, .nil => trivial
  | p :: xs, q :: ys, .cons r t => by
    have ih := np_find (k := k) t
    unfold nfind atKey at ih ⊢
    rw [List.find?_cons, List.find?_cons, ← r.1]
    by_cases e : p.1 = k
    · rw [decide_eq_true e]
      exact r.2.2
    · rw [decide_eq_false e]
      exact ih
theorem np_any {k : NestedKey} : ∀ {xs : List (NestedKey × Addr × V)} {ys : List (NestedKey × Addr × Value)}, Paired NP xs ys → (xs.any fun p => decide (p.1 = k)) = (atKey ys k).isSome
  | _, _, .nil => rfl
  | p :: xs, q :: ys, .cons r t => by
    have ih := np_any (k := k) t
    unfold atKey at ih ⊢
    rw [List.any_cons, List.find?_cons, ← r.1]
    by_cases e : p.1 = k
    · rw [decide_eq_true e]
      rfl
    · rw [decide_eq_false e, Bool.false_or]
      exact ih
theorem np_put {k : NestedKey} {b : Addr} {v : V} {u : Value} (rv : RelV v u) {xs : List (NestedKey × Addr × V)} {ys : List (NestedKey × Addr × Value)} (h : Paired NP xs ys) : Paired NP (nput xs k b v) (storedH ys k b u) := by
  unfold nput storedH
  rw [np_any h]
  by_cases c : (atKey ys k).isSome = true
  · rw [if_pos c, if_pos c]
    clear c
    induction h with
    | nil => exact .nil
    | @cons p q ps qs r t ih =>
      refine .cons ?_ ih
      unfold putAt
      dsimp only
      by_cases e : p.1 = k
      · have e' : q.1 = k := by rw [← r.1]; exact e
        rw [if_pos e, if_pos e']
        exact ⟨r.1, r.2.1, rv⟩
      · have e' : ¬ q.1 = k := by rw [← r.1]; exact e
        rw [if_neg e, if_neg e']
        exact r
  · rw [if_neg c, if_neg c]
    have app : ∀ {l : List (NestedKey × Addr × V)} {m : List (NestedKey × Addr × Value)}, Paired NP l m → Paired NP (l ++ [(k, b, v)]) (m ++ [(k, b, u)]) := by
      intro l m q
      induction q with
      | nil => exact .cons ⟨rfl, rfl, rv⟩ .nil
      | cons r t ih => exact .cons r ih
    exact app h
theorem np_len {xs : List (NestedKey × Addr × V)} {ys : List (NestedKey × Addr × Value)} (h : Paired NP xs ys) : xs.length = ys.length := Paired.length h
theorem np_keys {xs : List (NestedKey × Addr × V)} {ys : List (NestedKey × Addr × Value)} (h : Paired NP xs ys) : xs.map (·.1) = ys.map (·.1) := by
  induction h with
  | nil => rfl
  | cons r t ih => rw [List.map_cons, List.map_cons, r.1, ih]
theorem nput_le {xs : List (NestedKey × Addr × V)} {k : NestedKey} {b : Addr} {v : V} : (nput xs k b v).length ≤ xs.length + 1 := by
  unfold nput
  split
  · rw [List.length_map]; omega
  · rw [List.length_append]; exact Nat.le_refl _
/-- all keys stand at their addresses -/
def NAll (K : PySem.W.Frag) (H : Hp) (xs : List (NestedKey × Addr × V)) : Prop := ∀ p ∈ xs, NKV K H p.1 (.ref p.2.1) ∧ p.1.depth ≤ 8
theorem nrs_all : ∀ {kvs : List (W × W)} {xs : List (NestedKey × Addr × V)}, NRs K ι H kvs xs → NAll K H xs
  | [], _, h => by cases (show _ = [] from h); exact fun _ h => nomatch h
  | x :: r, xs, h => by
    obtain ⟨k, b, v, t, rfl, h0, h1, h2, h3, h4⟩ := h
    intro p hp
    rcases List.mem_cons.mp hp with rfl | hp
    · refine ⟨wr_nk h1 h2, ?_⟩
      obtain ⟨x1, x2⟩ := x
      dsimp only at h0 h1
      unfold isKey at h0
      cases x1 with
      | tup zs =>
        dsimp only at h0
        unfold nkW at h1
        cases q : nkWs zs with
        | none => rw [q] at h0; cases h0
        | some ks =>
          rw [q] at h0 h1
          cases h1
          exact of_decide_eq_true h0
      | _ => cases h0
    · exact nrs_all h4 p hp
/-- the layer's dict there -/
theorem dn_at {pins : List (Addr × Obj)} {σ : L2.St} {s : Shared} {xs : List (NestedKey × Addr × V)} (I : Inv X pins σ H s) (e : H a = some (dN a X.w xs)) (al : NAll X.K H xs) :
    ∃ ys, Paired NP xs ys ∧ s.heap.DictOfH (nestedKind X.prog X.w) a ys ∧ xs.length ≤ sizeLine ∧ (a == sysModules) = false ∧ ∃ o, s.heap.get? a = some o ∧ o.ExactDict := by
  have h0 : ObjOk X.prog X.w H s.heap a (dN a X.w xs) := I.hok a _ e
  obtain ⟨⟨o, es, ep, ys, h1, h2, h3, h4, h5, h6, h7, h8⟩, _, _⟩ := h0
  refine ⟨ys, h5, ⟨o, es, ep, h1, h2, h3, h4, ?_, by rw [← np_keys h5]; exact h6⟩, h7, h8, o, h1, h2⟩
  have all : ∀ {l : List (NestedKey × Addr × V)} {m : List (NestedKey × Addr × Value)}, Paired NP l m → NAll X.K H l → ∀ y ∈ m, (nestedKind X.prog X.w).is s.heap y.1 y.2.1 := by
    intro l m q
    induction q with
    | nil => exact fun _ _ h => nomatch h
    | @cons p q ps qs r t ih =>
      intro al y hy
      rcases List.mem_cons.mp hy with rfl | hy
      · obtain ⟨z1, z2⟩ := al p (List.mem_cons_self ..)
        refine ⟨?_, by rw [← r.1]; exact z2⟩
        have := nk_is I z1 (u := .ref p.2.1) rfl
        rw [← r.1, ← r.2.1]
        exact this
      · exact ih (fun z hz => al z (List.mem_cons_of_mem _ hz)) y hy
  exact all h5 al
theorem dn_ok {P : Program} {w : World} {h : Heap} {xs : List (NestedKey × Addr × V)} {ys : List (NestedKey × Addr × Value)} (hp : Paired NP xs ys) (hd : h.DictOfH (nestedKind P w) a ys) (hl : xs.length ≤ sizeLine) (hs : (a == sysModules) = false) : ObjOk P w H h a (dN a w xs) := by
  obtain ⟨o, es, ep, h1, h2, h3, h4, h5, h6⟩ := hd
  exact ⟨⟨o, es, ep, ys, h1, h2, h3, h4, hp, by rw [np_keys hp]; exact h6, hl, hs⟩, ⟨o, h1⟩, fun g1 g2 ⟨o, es, ep, ys, h1, r⟩ k => ⟨o, es, ep, ys, k o h1, r⟩⟩
/-! ### what a dict of ours is asked -/
theorem sameK_eq {a b : W} {k l : NestedKey} (h : nkW a = some k) (h' : nkW b = some l) : sameK a b = decide (k = l) := by
  unfold sameK
  rw [h, h']
  by_cases e : k = l
  · rw [decide_eq_true e, e, decide_eq_true rfl]
  · rw [decide_eq_false e, decide_eq_false (fun z => e (Option.some.inj z))]
theorem sameK_key {a b : W} {k l : Key} (h : keyW a = some k) (h' : keyW b = some l) : sameK a b = decide (k = l) := by
  have : ∀ {x : W} {k : Key}, keyW x = some k → (∃ i, x = .int i ∧ k = .inl i) ∨ ∃ z, x = .str z ∧ k = .inr z := by
    intro x k h
    cases x <;> first | (cases h; done) | skip
    · exact .inl ⟨_, rfl, (Option.some.inj h).symm⟩
    · exact .inr ⟨_, rfl, (Option.some.inj h).symm⟩
  rcases this h with ⟨i, rfl, rfl⟩ | ⟨i, rfl, rfl⟩ <;> rcases this h' with ⟨j, rfl, rfl⟩ | ⟨j, rfl, rfl⟩
  · rw [sameK_eq (k := .num i) (l := .num j) rfl rfl]
    by_cases e : i = j
    · rw [e, decide_eq_true rfl, decide_eq_true rfl]
    · rw [decide_eq_false (fun z => e (NestedKey.num.inj z)), decide_eq_false (fun z => e (Sum.inl.inj z))]
  · rw [sameK_eq (k := .num i) (l := .text j) rfl rfl, decide_eq_false (fun z => nomatch z), decide_eq_false (fun z => nomatch z)]
  · rw [sameK_eq (k := .text i) (l := .num j) rfl rfl, decide_eq_false (fun z => nomatch z), decide_eq_false (fun z => nomatch z)]
  · rw [sameK_eq (k := .text i) (l := .text j) rfl rfl]
    by_cases e : i = j
    · rw [e, decide_eq_true rfl, decide_eq_true rfl]
    · rw [decide_eq_false (fun z => e (NestedKey.text.inj z)), decide_eq_false (fun z => e (Sum.inr.inj z))]
/-- found here, found there -/
def RO (K : PySem.W.Frag) (ι : List Addr) (H : Hp) : Option W → Option V → Prop
  | some x, some v => WR K ι H x v
  | none, none => True
  | _, _ => False
theorem RO.isSome {o : Option W} {p : Option V} (h : RO K ι H o p) : o.isSome = p.isSome := by
  cases o <;> cases p <;> first | rfl | exact h.elim
theorem drs_find {k : W} {kk : Key} (hk : keyW k = some kk) : ∀ {kvs : List (W × W)} {vs : List (Key × V)}, DRs K ι H kvs vs → RO K ι H (dfind kvs k) (valV vs kk)
  | [], _, h => by cases (show _ = [] from h); exact trivial
  | x :: r, vs, h => by
    obtain ⟨l, v, t, rfl, h1, h2, h3⟩ := h
    have ih := drs_find hk h3
    unfold dfind valV at ih ⊢
    rw [List.find?_cons, List.find?_cons, sameK_key h1 hk]
    cases decide (l = kk) with
    | true => exact h2
    | false => exact ih
theorem nrs_find {k : W} {kk : NestedKey} (hk : nkW k = some kk) : ∀ {kvs : List (W × W)} {vs : List (NestedKey × Addr × V)}, NRs K ι H kvs vs → RO K ι H (dfind kvs k) (nfind vs kk)
  | [], _, h => by cases (show _ = [] from h); exact trivial
  | x :: r, vs, h => by
    obtain ⟨l, b, v, t, rfl, h0, h1, h2, h3, h4⟩ := h
    have ih := nrs_find hk h4
    unfold dfind nfind at ih ⊢
    rw [List.find?_cons, List.find?_cons, sameK_eq h1 hk]
    cases decide (l = kk) with
    | true => exact h3
    | false => exact ih
theorem drs_any {k : W} {kk : Key} (hk : keyW k = some kk) : ∀ {kvs : List (W × W)} {vs : List (Key × V)}, DRs K ι H kvs vs → (kvs.any fun p => sameK p.1 k) = vs.any fun p => decide (p.1 = kk)
  | [], _, h => by cases (show _ = [] from h); rfl
  | x :: r, vs, h => by
    obtain ⟨l, v, t, rfl, h1, h2, h3⟩ := h
    rw [List.any_cons, List.any_cons, drs_any hk h3, sameK_key h1 hk]
theorem nrs_any {k : W} {kk : NestedKey} (hk : nkW k = some kk) : ∀ {kvs : List (W × W)} {vs : List (NestedKey × Addr × V)}, NRs K ι H kvs vs → (kvs.any fun p => sameK p.1 k) = vs.any fun p => decide (p.1 = kk)
  | [], _, h => by cases (show _ = [] from h); rfl
  | x :: r, vs, h => by
    obtain ⟨l, b, v, t, rfl, h0, h1, h2, h3, h4⟩ := h
    rw [List.any_cons, List.any_cons, nrs_any hk h4, sameK_eq h1 hk]
theorem drs_put {k y : W} {kk : Key} {v : V} (hk : keyW k = some kk) (hy : WR K ι H y v) {kvs : List (W × W)} {vs : List (Key × V)} (h : DRs K ι H kvs vs) : DRs K ι H (dput kvs k y) (putK vs kk v) := by
  unfold dput putK
  rw [drs_any hk h]
  by_cases c : (vs.any fun p => decide (p.1 = kk)) = true
  · rw [if_pos c, if_pos c]
    clear c
    induction kvs generalizing vs with
    | nil => cases (show _ = [] from h); rfl
    | cons x r ih =>
      obtain ⟨l, u, t, rfl, h1, h2, h3⟩ := h
      have ih := ih h3
      rw [List.map_cons, List.map_cons]
      by_cases e : l = kk
      · have e' : sameK x.1 k = true := by rw [sameK_key h1 hk]; exact decide_eq_true e
        rw [if_pos e, if_pos e']
        exact ⟨l, v, _, rfl, h1, hy, ih⟩
      · have e' : ¬ sameK x.1 k = true := by rw [sameK_key h1 hk, decide_eq_false e]; exact Bool.false_ne_true
        rw [if_neg e, if_neg e']
        exact ⟨l, u, _, rfl, h1, h2, ih⟩
  · rw [if_neg c, if_neg c]
    clear c
    induction kvs generalizing vs with
    | nil => cases (show _ = [] from h); exact ⟨kk, v, [], rfl, hk, hy, rfl⟩
    | cons x r ih =>
      obtain ⟨l, u, t, rfl, h1, h2, h3⟩ := h
      exact ⟨l, u, _, rfl, h1, h2, ih h3⟩
theorem nrs_put {k y : W} {kk : NestedKey} {b : Addr} {v : V} (h0 : isKey true k = true) (hk : nkW k = some kk) (hb : WR K ι H k (.ref b)) (hy : WR K ι H y v) {kvs : List (W × W)} {vs : List (NestedKey × Addr × V)} (h : NRs K ι H kvs vs) : NRs K ι H (dput kvs k y) (nput vs kk b v) := by
  unfold dput nput
  rw [nrs_any hk h]
  by_cases c : (vs.any fun p => decide (p.1 = kk)) = true
  · rw [if_pos c, if_pos c]
    clear c
    induction kvs generalizing vs with
    | nil => cases (show _ = [] from h); rfl
    | cons x r ih =>
      obtain ⟨l, d, u, t, rfl, g0, h1, h2, h3, h4⟩ := h
      have ih := ih h4
      rw [List.map_cons, List.map_cons]
      by_cases e : l = kk
      · have e' : sameK x.1 k = true := by rw [sameK_eq h1 hk]; exact decide_eq_true e
        rw [if_pos e, if_pos e']
        exact ⟨l, d, v, _, rfl, g0, h1, h2, hy, ih⟩
      · have e' : ¬ sameK x.1 k = true := by rw [sameK_eq h1 hk, decide_eq_false e]; exact Bool.false_ne_true
        rw [if_neg e, if_neg e']
        exact ⟨l, d, u, _, rfl, g0, h1, h2, h3, ih⟩
  · rw [if_neg c, if_neg c]
    clear c
    induction kvs generalizing vs with
    | nil => cases (show _ = [] from h); exact ⟨kk, b, v, [], rfl, h0, hk, hb, hy, rfl⟩
    | cons x r ih =>
      obtain ⟨l, d, u, t, rfl, g0, h1, h2, h3, h4⟩ := h
      exact ⟨l, d, u, _, rfl, g0, h1, h2, h3, ih h4⟩
theorem isKey_key {k : W} (h : isKey false k = true) : ∃ kk, keyW k = some kk ∧ ∀ {v : V}, WR K ι H k v → v = kV kk := by
  cases k <;> first | (cases h; done) | skip
  · exact ⟨_, rfl, fun w => wr_int w⟩
  · exact ⟨_, rfl, fun w => wr_str w⟩
theorem isKey_nk {k : W} (h : isKey true k = true) : ∃ kk, nkW k = some kk ∧ kk.depth ≤ 8 ∧ ∀ {v : V}, WR K ι H k v → ∃ b, v = .ref b := by
  cases k <;> first | (cases h; done) | skip
  rename_i zs
  unfold isKey at h
  dsimp only at h
  cases q : nkWs zs with
  | none => rw [q] at h; cases h
  | some ks =>
    rw [q] at h
    exact ⟨.tup ks, by unfold nkW; rw [q]; rfl, of_decide_eq_true h, fun w => by obtain ⟨b, vs, rfl, _⟩ := wr_tup w; exact ⟨b, rfl⟩⟩
theorem dicAt_cases (r : Rel cl K ι S H) {b : Bool} {kvs : List (W × W)} (h : dicAt S n = some (b, kvs)) : S[n]? = some (.dic b kvs) ∧ ∃ a, ι[n]? = some a ∧ OR cl K ι H a (.dic b kvs) := by
  unfold dicAt at h
  cases q : S[n]? with
  | none => rw [q] at h; cases h
  | some o =>
    rw [q] at h
    cases o with
    | dic c l =>
      cases h
      obtain ⟨a, e1, e2⟩ := r.at q
      exact ⟨rfl, a, e1, e2⟩
    | _ => cases h
/-- what is found at the key, in the layer's heap -/
def DG (K : PySem.W.Frag) (w : World) (H : Hp) (a : Addr) (y : V) (r : Option V) : Prop :=
  (∃ kvs k, H a = some (.dK kvs) ∧ y = kV k ∧ r = valV kvs k) ∨ ∃ kvs k b, H a = some (dN a w kvs) ∧ NAll K H kvs ∧ y = .ref b ∧ NKV K H k (.ref b) ∧ k.depth ≤ 8 ∧ r = nfind kvs k
theorem dget_dg (r : Rel cl K ι S H) {k : W} {y : V} {o : Option W} {S1 : Sto} (h : dgetW n k S = .ok o S1) (hk : WR K ι H k y) : S1 = S ∧ ∃ a p, ι[n]? = some a ∧ DG K cl.w H a y p ∧ RO K ι H o p := by
  unfold dgetW at h
  cases q : dicAt S n with
  | none => rw [q] at h; cases h
  | some z =>
    obtain ⟨b, kvs⟩ := z
    rw [q] at h
    dsimp only at h
    by_cases c : isKey b k = true
    · rw [if_pos c] at h
      cases h
      obtain ⟨e1, a, e2, ob⟩ := dicAt_cases r q
      cases b with
      | false =>
        obtain ⟨vs, ha, rs⟩ := ob
        obtain ⟨kk, k1, k2⟩ := isKey_key (K := K) (ι := ι) (H := H) c
        exact ⟨rfl, a, _, e2, .inl ⟨vs, kk, ha, k2 hk, rfl⟩, drs_find k1 rs⟩
      | true =>
        obtain ⟨vs, ha, rs⟩ := ob
        obtain ⟨kk, k1, kd, k2⟩ := isKey_nk (K := K) (ι := ι) (H := H) c
        obtain ⟨b, rfl⟩ := k2 hk
        exact ⟨rfl, a, _, e2, .inr ⟨vs, kk, b, ha, nrs_all rs, rfl, wr_nk k1 hk, kd, rfl⟩, nrs_find k1 rs⟩
    · rw [if_neg c] at h
      cases h
theorem dg_type {pins : List (Addr × Obj)} {σ : L2.St} {s : Shared} {y : V} {o : Option V} (I : Inv X pins σ H s) (g : DG X.K X.w H a y o) : s.TypeIs (.ref a) "dict" := by
  rcases g with ⟨kvs, k, e, _, _⟩ | ⟨kvs, k, b, e, al, _⟩
  · obtain ⟨_, _, vs, _, dd⟩ := dk_rd I.hok (.inl e)
    exact dd.typeIs
  · obtain ⟨ys, _, dd, _⟩ := dn_at I e al
    exact dd.typeIs
theorem dg_get {pins : List (Addr × Obj)} {σ : L2.St} {s : Shared} {y v : V} {u : Value} {A : Around} {E : Value → Shared → Prop} {Q : Value → Shared → Prop} (hu : A.units + 64 < cLine) (I : Inv X pins σ H s) (g : DG X.K X.w H a y (some v)) (ry : RelV y u) (h : ∀ w' s', Inv X pins σ H s' → RelV v w' → Q w' s') :
    wpAny (model X.prog X.w) A (getItem (.ref a) u) Q E s := by
  rcases g with ⟨kvs, k, e, ey, l⟩ | ⟨kvs, k, b, e, al, ey, nk, kd, l⟩
  · exact d_getItem (by omega) I (.inl ⟨kvs, k, .inl e, ey, l⟩) ry h
  · subst ey
    cases (show u = Value.ref b from ry)
    obtain ⟨ys, pp, dd, _⟩ := dn_at I e al
    have q := np_find (k := k) pp
    rw [← l] at q
    cases z : atKey ys k with
    | none => rw [z] at q; exact q.elim
    | some p =>
      rw [z] at q
      exact wpAny_getItem_heap (knd := nestedKind X.prog X.w) (k := k) (by show A.units + 1 + 8 < cLine; omega) ⟨nk_is I nk rfl, kd⟩ dd z (h p.2 _ (I.tok _) q)
theorem dg_in {pins : List (Addr × Obj)} {σ : L2.St} {s : Shared} {y : V} {o : Option V} {u : Value} {A : Around} {E : Value → Shared → Prop} {Q : Value → Shared → Prop} (hu : A.units + 64 < cLine) (I : Inv X pins σ H s) (g : DG X.K X.w H a y o) (ry : RelV y u) (h : ∀ s', Inv X pins σ H s' → Q (.bool o.isSome) s') :
    wpAny (model X.prog X.w) A (compareOp .In u (.ref a)) Q E s := by
  rcases g with ⟨kvs, k, e, ey, l⟩ | ⟨kvs, k, b, e, al, ey, nk, kd, l⟩
  · exact d_in (by omega) I (.inl ⟨kvs, k, .inl e, ey, l⟩) ry h
  · subst ey
    cases (show u = Value.ref b from ry)
    obtain ⟨ys, pp, dd, _, hs, _⟩ := dn_at I e al
    refine wpAny_in_heap (knd := nestedKind X.prog X.w) (k := k) (by show A.units + 1 + 8 < cLine; omega) ⟨nk_is I nk rfl, kd⟩ hs dd ?_
    have q := (np_find (k := k) pp).isSome_eq
    rw [Option.isSome_map] at q
    rw [← q, ← l]
    exact h _ (I.tok _)
theorem dg_notIn {pins : List (Addr × Obj)} {σ : L2.St} {s : Shared} {y : V} {o : Option V} {u : Value} {A : Around} {E : Value → Shared → Prop} {Q : Value → Shared → Prop} (hu : A.units + 64 < cLine) (I : Inv X pins σ H s) (g : DG X.K X.w H a y o) (ry : RelV y u) (h : ∀ s', Inv X pins σ H s' → Q (.bool (!o.isSome)) s') :
    wpAny (model X.prog X.w) A (compareOp .NotIn u (.ref a)) Q E s := by
  rcases g with ⟨kvs, k, e, ey, l⟩ | ⟨kvs, k, b, e, al, ey, nk, kd, l⟩
  · exact d_notIn (by omega) I (.inl ⟨kvs, k, .inl e, ey, l⟩) ry h
  · subst ey
    cases (show u = Value.ref b from ry)
    obtain ⟨ys, pp, dd, _, hs, _⟩ := dn_at I e al
    refine wpAny_notIn_heap (knd := nestedKind X.prog X.w) (k := k) (by show A.units + 1 + 8 < cLine; omega) ⟨nk_is I nk rfl, kd⟩ hs dd ?_
    have q := (np_find (k := k) pp).isSome_eq
    rw [Option.isSome_map] at q
    rw [← q, ← l]
    exact h _ (I.tok _)
def rDG (K : PySem.W.Frag) (w : World) : R2 := fun x y H Q => ∃ a v, x = .ref a ∧ DG K w H a y (some v) ∧ Q v H
theorem ix_dg (hu : X.A.units + 64 < cLine) : IxR X (rDG X.K X.w) := by
  intro value slice pins s σ H x y v u Q I rx ry h hs
  obtain ⟨a, z, rfl, g, q⟩ := h
  cases (show v = Value.ref a from rx)
  exact tail_any (dg_type I g) PySem.F.slot_dict_getitem.lookup (dg_get hu I g ry fun w' s' J rw' => ⟨z, H, J, rw', q⟩) hs
theorem drs_len : ∀ {kvs : List (W × W)} {vs : List (Key × V)}, DRs K ι H kvs vs → kvs.length = vs.length
  | [], _, h => by cases (show _ = [] from h); rfl
  | x :: t, _, h => by
    obtain ⟨l, v, t', rfl, h1, h2, h3⟩ := h
    rw [List.length_cons, List.length_cons, drs_len h3]
theorem nrs_len : ∀ {kvs : List (W × W)} {vs : List (NestedKey × Addr × V)}, NRs K ι H kvs vs → kvs.length = vs.length
  | [], _, h => by cases (show _ = [] from h); rfl
  | x :: t, _, h => by
    obtain ⟨l, d, v, t', rfl, h0, h1, h2, h3, h4⟩ := h
    rw [List.length_cons, List.length_cons, nrs_len h4]
/-- a dict of ours is written -/
theorem dput_ok (r : Rel cl X.K ι S H) (hw : cl.w = X.w) {k y : W} {i v : V} {pins : List (Addr × Obj)} {σ : L2.St} {s : Shared} {u r' : Value} {A : Around} {E : Value → Shared → Prop} {Q : Unit → Shared → Prop} {S1 : Sto} (hu : A.units + 64 < cLine) (I : Inv X pins σ H s)
    (hk : WR X.K ι H k i) (hy : WR X.K ι H y v) (ri : RelV i u) (rv : RelV v r') (h : dputW n k y S = .ok () S1) (ha : ι[n]? = some a) (q : ∀ H' s', Ext cl X.K ι H ι S1 H' → Inv X pins σ H' s' → Q () s') :
    wpAny (model X.prog X.w) A (setItem (.ref a) u r') Q E s := by
  unfold dputW at h
  cases z : dicAt S n with
  | none => rw [z] at h; cases h
  | some p =>
    obtain ⟨b, kvs⟩ := p
    rw [z] at h
    dsimp only at h
    by_cases c : isKey b k = true ∧ kvs.length < sizeLine
    · rw [if_pos c] at h
      cases h
      obtain ⟨e1, a', e2, ob⟩ := dicAt_cases r z
      rw [ha] at e2
      cases e2
      have hl : n < S.length := (List.getElem?_eq_some_iff.mp e1).1
      have nf : ∀ xs, S[n]? ≠ some (.frz xs) := fun xs e => by rw [e1] at e; cases e
      cases b with
      | false =>
        obtain ⟨vs, hH, rs⟩ := ob
        obtain ⟨kk, k1, k2⟩ := isKey_key (K := X.K) (ι := ι) (H := H) c.1
        have lv := drs_len rs
        refine d_setItem (H' := upd H a (.dK (putK vs kk v))) (by omega) I (.inl ⟨vs, kk, hH, k2 hk, by rw [← lv]; exact c.2, rfl⟩) ri rv fun s' J => q _ s' ?_ J
        have hm : Mono X.K H (upd H a (.dK (putK vs kk v))) := .mut hH trivial
        exact r.write ha hl hH trivial nf (fun xs e => by cases e) ⟨_, upd_same, (drs_put k1 hy rs).mono (List.prefix_refl _) hm⟩
      | true =>
        obtain ⟨vs, hH, rs⟩ := ob
        obtain ⟨kk, k1, kd, k2⟩ := isKey_nk (K := X.K) (ι := ι) (H := H) c.1
        obtain ⟨b, rfl⟩ := k2 hk
        cases (show u = Value.ref b from ri)
        rw [hw] at hH
        obtain ⟨ys, pp, dd, hl2, hs, o0, _⟩ := dn_at I hH (nrs_all rs)
        have lv := nrs_len rs
        refine wpAny_setItem_heap (knd := nestedKind X.prog X.w) (k := kk) (hsz := by rw [← np_len pp]; exact hl2) (by show A.units + 1 + 8 < cLine; omega) ⟨nk_is I (wr_nk k1 hk) rfl, kd⟩ dd fun h' dd' sb => q (upd H a (dN a X.w (nput vs kk b v))) _ ?_ ?_
        · have hm : Mono X.K H (upd H a (dN a X.w (nput vs kk b v))) := .mut hH trivial
          exact r.write ha hl hH trivial nf (fun xs e => by cases e) ⟨_, by rw [hw]; exact upd_same, (nrs_put c.1 k1 hk hy rs).mono (List.prefix_refl _) hm⟩
        · have e' : ∃ o, h'.get? a = some o := let ⟨o, _, _, e, _⟩ := dd'; ⟨o, e⟩
          refine d_write I (by rw [hH]; exact trivial) sb e' (dn_ok (np_put rv pp) dd' ?_ hs)
          have := nput_le (xs := vs) (k := kk) (b := b) (v := v)
          have c2 := c.2
          omega
    · rw [if_neg c] at h
      cases h
theorem Rel.newD {p : Addr} (r : Rel cl K ι S H) (hp : H p = none) {xs : List (W × W)} {vs : List (Key × V)} (w : DRs K ι H xs vs) : Ext cl K ι H (ι ++ [p]) (S ++ [.dic false xs]) (upd H p (.dK vs)) :=
  r.new hp (.new hp) (up_new hp) (fun _ q => nomatch q) ⟨vs, upd_same, w.mono (List.prefix_append _ _) (.new hp)⟩
theorem Rel.newN {p : Addr} (r : Rel cl K ι S H) (hp : H p = none) : Ext cl K ι H (ι ++ [p]) (S ++ [.dic true []]) (upd H p (dN p cl.w [])) :=
  r.new hp (.new hp) (up_new hp) (fun _ q => nomatch q) ⟨[], upd_same, rfl⟩
/-- {} -/
def tDic (b : Bool) (w : World) : TE := fun _ H Q => ∀ p, H p = none → Q (.ref p) (upd H p (if b = true then dN p w [] else .dK []))
theorem pe_dic {b : Bool} {pos : Pos} : PE X (.Dict [] [] pos) (tDic b X.w) := by
  cases b with
  | false => exact ⟨fun pins s σ H Q I h => pe_dnewK.run pins s σ H Q I h⟩
  | true =>
    refine ⟨fun pins s σ H Q I h => ?_⟩
    have hs : (s.heap.objs.size == sysModules) = false := beq_eq_false_iff_ne.mpr (Nat.ne_of_gt I.big)
    exact wpAny_Dict_empty ⟨.ref s.heap.objs.size, _, I.laid (a := s.heap.objs.size) (o := dN s.heap.objs.size X.w []) (t' := s.toks) (fun _ _ q => Heap.get?_push_of_some _ q) (Nat.le_refl _) (dn_ok .nil (Heap.DictOfH.new s.heap) (Nat.zero_le _) hs), rfl, h _ (I.hok.fresh (Nat.le_refl _))⟩
end
end Fb
set_option Elab.async false
set_option linter.all false
set_option maxRecDepth 100000
set_option maxHeartbeats 2000000
namespace Fb
open PySem PySem.Spec PyProof.Rows L2

def copP : COp → CmpOp
  | .eq => .Eq | .ne => .NotEq | .lt => .Lt | .le => .LtE | .gt => .Gt | .ge => .GtE | .isN => .Is | .notN => .IsNot | .isin => .In | .notin => .NotIn
section
variable {cl : Cl} {K : PySem.W.Frag} {ι : List Addr} {S : Sto} {H : Hp} {X : Cx}

/-! ### data -/
mutual
theorem toD1_dp {rd : Nat → Option PyData} (hrd : ∀ n d v, rd n = some d → WR K ι H (.loc n) v → Dp K H v d) : ∀ {x : W} {d : PyData} {v : V}, toD1 rd x = some d → WR K ι H x v → Dp K H v d
  | .non, _, _, e, h => by cases e; cases wr_non h; exact .non
  | .bl b, _, _, e, h => by cases e; cases wr_bl h; exact .bl b
  | .int b, _, _, e, h => by cases e; cases wr_int h; exact .int b
  | .str b, _, _, e, h => by cases e; cases wr_str h; exact .str b
  | .tup xs, d, v, e, h => by
    unfold toD1 at e
    cases q : toDs1 rd xs with
    | none => rw [q] at e; cases e
    | some ds =>
      rw [q] at e
      cases e
      obtain ⟨a, vs, rfl, s1, w1⟩ := wr_tup h
      exact .tup s1 (toDs1_dp hrd q w1)
  | .loc n, d, v, e, h => hrd n d v e h
theorem toDs1_dp {rd : Nat → Option PyData} (hrd : ∀ n d v, rd n = some d → WR K ι H (.loc n) v → Dp K H v d) : ∀ {xs : List W} {ds : List PyData} {vs : List V}, toDs1 rd xs = some ds → WRs K ι H xs vs → DpAll K H vs ds
  | [], _, _, e, h => by cases e; unfold WRs at h; rw [h]; exact .nil
  | x :: xs, ds, vs, e, h => by
    unfold WRs at h
    obtain ⟨v, r, rfl, h1, h2⟩ := h
    unfold toDs1 at e
    cases q : toD1 rd x with
    | none => rw [q] at e; cases e
    | some d =>
      cases q2 : toDs1 rd xs with
      | none => rw [q, q2] at e; cases e
      | some ds2 =>
        rw [q, q2] at e
        cases e
        exact .cons (toD1_dp hrd q h1) (toDs1_dp hrd q2 h2)
end
theorem rdD_dp (r : Rel cl K ι S H) : ∀ (k n : Nat) (d : PyData) (v : V), rdD S k n = some d → WR K ι H (.loc n) v → Dp K H v d
  | 0, _, _, _, e, _ => by cases e
  | k + 1, n, d, v, e, h => by
    unfold rdD at e
    cases q : getL S n with
    | none => rw [q] at e; cases e
    | some xs =>
      rw [q, Option.bind_some] at e
      cases q2 : toDs1 (rdD S k) xs with
      | none => rw [q2] at e; cases e
      | some ds =>
        rw [q2] at e
        cases e
        obtain ⟨a, vs, e1, e2, e3⟩ := getL_at r q
        cases wr_loc h e1
        exact .lst e2 (toDs1_dp (rdD_dp r k) q2 e3)
theorem toD_dp (r : Rel cl K ι S H) {x : W} {d : PyData} {v : V} (e : toD S x = some d) (h : WR K ι H x v) : Dp K H v d := toD1_dp (rdD_dp r 8) e h
/-! data for repr: empty dicts within -/
mutual
inductive DpR (K : PySem.W.Frag) (H : Hp) : V → PyData → Prop
  | non : DpR K H .non .none
  | bl (b : Bool) : DpR K H (.bl b) (.bool b)
  | int (i : Int) : DpR K H (.int i) (.int i)
  | str (x : Str) : DpR K H (.str x) (.str x)
  | lst {a : Addr} {xs : List V} {ds : List PyData} : SqL K H a xs → DpRs K H xs ds → DpR K H (.ref a) (.list ds)
  | tup {a : Addr} {xs : List V} {ds : List PyData} : SqT K H a xs → DpRs K H xs ds → DpR K H (.ref a) (.tuple ds)
  | dic {a : Addr} : H a = some (.dK []) → DpR K H (.ref a) (.dict [])
inductive DpRs (K : PySem.W.Frag) (H : Hp) : List V → List PyData → Prop
  | nil : DpRs K H [] []
  | cons {v : V} {vs : List V} {d : PyData} {ds : List PyData} : DpR K H v d → DpRs K H vs ds → DpRs K H (v :: vs) (d :: ds)
end
/-- the dict of modules stands in the written part -/
def SysD (K : PySem.W.Frag) : Prop := ∃ o, K.lookup sysModules = some o ∧ o.cls = .type "dict"
section
variable {pins : List (Addr × Obj)} {σ : L2.St} {s : Shared}
mutual
theorem DpR.reads (hs : ∃ o, s.heap.get? sysModules = some o ∧ o.cls = .type "dict") (I : Inv X pins σ H s) : ∀ (d : PyData) (v : V) (u : Value), DpR X.K H v d → RelV v u → ∃ as, Reads s.heap u d as ∧ sysModules ∉ as
  | .none, _, _, h, r => by
    cases h
    cases r
    exact ⟨_, Reads.none, List.not_mem_nil⟩
  | .bool b, _, _, h, r => by
    cases h
    cases r
    exact ⟨_, Reads.bool b, List.not_mem_nil⟩
  | .int i, _, _, h, r => by
    cases h
    obtain ⟨t, rfl⟩ := r
    exact ⟨_, Reads.int i t, List.not_mem_nil⟩
  | .str x, _, _, h, r => by
    cases h
    obtain ⟨t, rfl⟩ := r
    exact ⟨_, Reads.str x t, List.not_mem_nil⟩
  | .list ds, _, _, h, r => by
    cases h with
    | lst hq ha =>
      cases r
      obtain ⟨its, rv, ⟨o, n, ho, hc, _, hd⟩, _⟩ := I.list hq
      obtain ⟨as, hr, hn⟩ := DpR.readsAll hs I ds _ its ha rv
      refine ⟨_, Reads.list ho hc hd hr, fun m => ?_⟩
      rcases List.mem_cons.mp m with e | m
      · obtain ⟨o2, e2, c2⟩ := hs
        rw [e, ho] at e2
        cases e2
        rw [hc] at c2
        exact absurd c2 (by intro z; injection z with z; revert z; decide)
      · exact hn m
  | .tuple ds, _, _, h, r => by
    cases h with
    | tup hq ha =>
      cases r
      obtain ⟨its, rv, ⟨o, ho, hc, n, hd⟩, _⟩ := I.tuple hq
      obtain ⟨as, hr, hn⟩ := DpR.readsAll hs I ds _ its ha rv
      exact ⟨_, Reads.tuple ho hc hd hr, hn⟩
  | .dict _, _, _, h, r => by
    cases h with
    | dic ha =>
      cases r
      obtain ⟨_, hne, vs, kv, o, es, ep, ho, hx, hd, _, hp, _⟩ := dk_rd I.hok (.inl ha)
      cases kv
      have hes : es.toList = [] := by
        cases q : es.toList with
        | nil => rfl
        | cons x r => rw [q] at hp; cases hp
      refine ⟨_, Reads.dict (kvs := []) ho hx.1 hd (by rw [hes]; exact .nil) (by rw [hes]; exact .nil), fun m => ?_⟩
      have m : sysModules ∈ [_] := m
      rw [List.mem_singleton] at m
      rw [← m] at hne
      exact absurd hne (by decide)
theorem DpR.readsAll (hs : ∃ o, s.heap.get? sysModules = some o ∧ o.cls = .type "dict") (I : Inv X pins σ H s) : ∀ (ds : List PyData) (vs : List V) (us : List Value), DpRs X.K H vs ds → Vals vs us → ∃ as, ReadsAll s.heap us ds as ∧ sysModules ∉ as
  | [], _, _, h, r => by
    cases h
    cases r
    exact ⟨_, ReadsAll.nil, List.not_mem_nil⟩
  | d :: ds, _, _, h, r => by
    cases h with
    | cons h1 h2 =>
      cases r with
      | cons r1 r2 =>
        obtain ⟨as, q1, n1⟩ := DpR.reads hs I d _ _ h1 r1
        obtain ⟨bs, q2, n2⟩ := DpR.readsAll hs I ds _ _ h2 r2
        refine ⟨_, ReadsAll.cons q1 q2, fun m => ?_⟩
        rcases List.mem_append.mp m with m | m
        · exact n1 m
        · exact n2 m
end
end
mutual
theorem toD1_dpR {rd : Nat → Option PyData} (hrd : ∀ n d v, rd n = some d → WR K ι H (.loc n) v → DpR K H v d) : ∀ {x : W} {d : PyData} {v : V}, toD1 rd x = some d → WR K ι H x v → DpR K H v d
  | .non, _, _, e, h => by cases e; cases wr_non h; exact .non
  | .bl b, _, _, e, h => by cases e; cases wr_bl h; exact .bl b
  | .int b, _, _, e, h => by cases e; cases wr_int h; exact .int b
  | .str b, _, _, e, h => by cases e; cases wr_str h; exact .str b
  | .tup xs, d, v, e, h => by
    unfold toD1 at e
    cases q : toDs1 rd xs with
    | none => rw [q] at e; cases e
    | some ds =>
      rw [q] at e
      cases e
      obtain ⟨a, vs, rfl, s1, w1⟩ := wr_tup h
      exact .tup s1 (toDs1_dpR hrd q w1)
  | .loc n, d, v, e, h => hrd n d v e h
theorem toDs1_dpR {rd : Nat → Option PyData} (hrd : ∀ n d v, rd n = some d → WR K ι H (.loc n) v → DpR K H v d) : ∀ {xs : List W} {ds : List PyData} {vs : List V}, toDs1 rd xs = some ds → WRs K ι H xs vs → DpRs K H vs ds
  | [], _, _, e, h => by cases e; unfold WRs at h; rw [h]; exact .nil
  | x :: xs, ds, vs, e, h => by
    unfold WRs at h
    obtain ⟨v, r, rfl, h1, h2⟩ := h
    unfold toDs1 at e
    cases q : toD1 rd x with
    | none => rw [q] at e; cases e
    | some d =>
      cases q2 : toDs1 rd xs with
      | none => rw [q, q2] at e; cases e
      | some ds2 =>
        rw [q, q2] at e
        cases e
        exact .cons (toD1_dpR hrd q h1) (toDs1_dpR hrd q2 h2)
end
theorem rdR_dp (r : Rel cl K ι S H) : ∀ (k n : Nat) (d : PyData) (v : V), rdR S k n = some d → WR K ι H (.loc n) v → DpR K H v d
  | 0, _, _, _, e, _ => by cases e
  | k + 1, n, d, v, e, h => by
    unfold rdR at e
    cases q : getL S n with
    | none =>
      rw [q] at e
      dsimp only at e
      cases q3 : dicAt S n with
      | none => rw [q3] at e; cases e
      | some z =>
        rw [q3] at e
        obtain ⟨b, kvs⟩ := z
        cases b with
        | true => cases e
        | false =>
          cases kvs with
          | cons _ _ => cases e
          | nil =>
            cases e
            obtain ⟨_, a, e1, vs, e2, e3⟩ := dicAt_cases r q3
            cases wr_loc h e1
            cases (show vs = [] from e3)
            exact .dic e2
    | some xs =>
      rw [q] at e
      dsimp only at e
      cases q2 : toDs1 (rdR S k) xs with
      | none => rw [q2] at e; cases e
      | some ds =>
        rw [q2] at e
        cases e
        obtain ⟨a, vs, e1, e2, e3⟩ := getL_at r q
        cases wr_loc h e1
        exact .lst e2 (toDs1_dpR (rdR_dp r k) q2 e3)
theorem toR_dp (r : Rel cl K ι S H) {x : W} {d : PyData} {v : V} (e : toR S x = some d) (h : WR K ι H x v) : DpR K H v d := toD1_dpR (rdR_dp r 8) e h
theorem bind_po {α β : Type} {m : M α} {f : α → M β} {Φ : β → Sto → List Addr → Hp → Prop} (h : Po cl K ι H ((m >>= f) S) Φ) : (∃ a S1, m S = .ok a S1 ∧ Po cl K ι H (f a S1) Φ) := by
  have e : (m >>= f) S = M.bind m f S := rfl
  rw [e] at h
  unfold M.bind at h
  cases q : m S with
  | ok a S1 => rw [q] at h; exact ⟨a, S1, rfl, h⟩
  | ex _ _ _ => rw [q] at h; exact h.elim
  | no => rw [q] at h; exact h.elim
theorem strE_some {x y : W} {b : Bool} (h : strE x y = some b) : ∃ i j, x = .str i ∧ y = .str j ∧ b = decide (i = j) := by
  cases x with
  | str i =>
    cases y with
    | str j => cases h; exact ⟨i, j, rfl, rfl, rfl⟩
    | _ => cases h
  | _ => cases h
theorem eqM_ok {x y : W} {b : Bool} {S1 : Sto} (h : eqM x y S = .ok b S1) : S1 = S ∧ ((∃ i j, x = .str i ∧ y = .str j ∧ b = decide (i = j)) ∨ ∃ d e, toD S x = some d ∧ toD S y = some e ∧ SeqAt.shaped d = true ∧ SeqAt.shaped e = true ∧ b = PyData.eqv d e) := by
  unfold eqM at h
  cases qs : strE x y with
  | some b' =>
    rw [qs] at h
    cases h
    exact ⟨rfl, .inl (strE_some qs)⟩
  | none =>
    rw [qs] at h
    dsimp only at h
    cases q : toD S x with
    | none => rw [q] at h; cases h
    | some d =>
      cases q2 : toD S y with
      | none => rw [q, q2] at h; cases h
      | some e =>
        rw [q, q2] at h
        dsimp only at h
        by_cases c : (SeqAt.shaped d && SeqAt.shaped e) = true
        · rw [if_pos c] at h
          cases h
          rw [Bool.and_eq_true] at c
          exact ⟨rfl, .inr ⟨d, e, rfl, rfl, c.1, c.2, rfl⟩⟩
        · rw [if_neg c] at h
          cases h
theorem itemsOf_ok (r : Rel cl K ι S H) {x : W} {v : V} {xs : List W} {S1 : Sto} (h : itemsOf x S = .ok xs S1) (w : WR K ι H x v) : S1 = S ∧ ∃ a vs, v = .ref a ∧ (SqL K H a vs ∨ SqT K H a vs) ∧ WRs K ι H xs vs := by
  cases x with
  | tup ys =>
    cases h
    obtain ⟨a, vs, rfl, s1, w1⟩ := wr_tup w
    exact ⟨rfl, a, vs, rfl, .inr s1, w1⟩
  | loc n =>
    have h' : getLM n S = .ok xs S1 := h
    unfold getLM at h'
    cases q : getL S n with
    | none => rw [q] at h'; cases h'
    | some ys =>
      rw [q] at h'
      cases h'
      obtain ⟨a, vs, e1, e2, e3⟩ := getL_at r q
      exact ⟨rfl, a, vs, wr_loc w e1, .inl e2, e3⟩
  | _ => cases h
theorem bnd_ok {α β : Type} {m : M α} {f : α → M β} {b : β} {S2 : Sto} (h : (m >>= f) S = .ok b S2) : ∃ a S1, m S = .ok a S1 ∧ f a S1 = .ok b S2 := by
  have e : (m >>= f) S = M.bind m f S := rfl
  rw [e] at h
  unfold M.bind at h
  cases q : m S with
  | ok a S1 => rw [q] at h; exact ⟨a, S1, rfl, h⟩
  | ex _ _ _ => rw [q] at h; cases h
  | no => rw [q] at h; cases h
theorem inDat_ok {x y : W} {r : Bool} {S S1 : Sto} (h : inDat x y S = .ok r S1) : S1 = S ∧ ∃ d ds, toD S x = some d ∧ toD S y = some (.list ds) ∧ SeqAt.shaped d = true ∧ SeqAt.shaped (.list ds) = true ∧ r = ds.any fun z => PyData.eqv z d := by
  unfold inDat at h
  cases q1 : toD S x with
  | none => rw [q1] at h; cases h
  | some d =>
    cases q2 : toD S y with
    | none => rw [q1, q2] at h; cases h
    | some e =>
      rw [q1, q2] at h
      cases e with
      | list ds =>
        dsimp only at h
        by_cases c : (SeqAt.shaped d && SeqAt.shaped (.list ds)) = true
        · rw [if_pos c] at h
          cases h
          rw [Bool.and_eq_true] at c
          exact ⟨rfl, d, ds, rfl, rfl, c.1, c.2, rfl⟩
        · rw [if_neg c] at h; cases h
      | _ => cases h
theorem itemsOf_st {y : W} {xs : List W} {S S1 : Sto} (h : itemsOf y S = .ok xs S1) : S1 = S := by
  cases y with
  | tup ys => cases h; rfl
  | loc n =>
    have h : getLM n S = .ok xs S1 := h
    unfold getLM at h
    cases q : getL S n with
    | none => rw [q] at h; cases h
    | some zs => rw [q] at h; cases h; rfl
  | _ => cases h
theorem inSeq_ok {x y : W} {r : Bool} {S1 : Sto} (h : inSeq x y S = .ok r S1) : (∃ xs, itemsOf y S = .ok xs S1 ∧ flatW x = true ∧ xs.all flatW = true ∧ r = xs.any fun z => eqW z x) ∨ S1 = S ∧ ∃ d ds, toD S x = some d ∧ toD S y = some (.list ds) ∧ SeqAt.shaped d = true ∧ SeqAt.shaped (.list ds) = true ∧ r = ds.any fun z => PyData.eqv z d := by
  obtain ⟨xs, S2, e, h⟩ := bnd_ok (m := itemsOf y) h
  by_cases c : (flatW x && xs.all flatW) = true
  · rw [if_pos c] at h
    cases h
    rw [Bool.and_eq_true] at c
    exact .inl ⟨xs, e, c.1, c.2, rfl⟩
  · rw [if_neg c] at h
    have h2 := inDat_ok h
    rw [itemsOf_st e] at h2
    exact .inr h2
theorem inW_ok {x y : W} {r : Bool} {S1 : Sto} (h : inW x y S = .ok r S1) : (∃ n o, y = .loc n ∧ dgetW n x S = .ok o S1 ∧ r = o.isSome) ∨ inSeq x y S = .ok r S1 := by
  cases y with
  | loc n =>
    have h : (isDic n >>= fun d => if d = true then (do let r ← dgetW n x; pure r.isSome) else inSeq x (.loc n)) S = .ok r S1 := h
    obtain ⟨d, S2, e, h⟩ := bnd_ok h
    cases e
    by_cases c : (dicAt S n).isSome = true
    · rw [if_pos c] at h
      obtain ⟨o, S3, e, h⟩ := bnd_ok (m := dgetW n x) h
      cases h
      exact .inl ⟨n, o, rfl, e, rfl⟩
    · rw [if_neg c] at h
      exact .inr h
  | _ => exact .inr h
theorem WR.at_loc {n : Nat} {a : Addr} {x : V} (h : WR K ι H (.loc n) x) (e : ι[n]? = some a) : x = .ref a := wr_loc h e
theorem op_cmp (hw : cl.w = X.w) (hu5 : X.A.units + 65 < cLine) (op : COp) : OpR X (compareOp (copP op)) (rB cl X.K (cmpW op)) := by
  have hu : X.A.units + 64 < cLine := by omega
  intro pins s σ H x y v u Q I rx ry h
  obtain ⟨ι, S, a, b, R, ha, hb, h⟩ := h
  have pr : ∀ {w : W}, Po cl X.K ι H ((pure w : M W) S) (VW X.K Q) → ∀ v, WR X.K ι H w v → Q v H := fun h v hv => h ι H (.refl R) v hv
  cases op with
  | eq =>
    obtain ⟨c, S1, e, h⟩ := bind_po (m := eqM a b) h
    obtain ⟨rfl, ⟨i, j, rfl, rfl, rfl⟩ | ⟨d, e', d1, d2, s1, s2, rfl⟩⟩ := eqM_ok e
    · cases wr_str ha
      cases wr_str hb
      exact op_eq pins s σ H _ _ v u Q I rx ry ⟨rfl, by rw [show decide (V.str i = V.str j) = decide (i = j) from decide_eq_decide.mpr ⟨fun h => by injection h, fun h => by rw [h]⟩]; exact pr h _ rfl⟩
    exact op_eqD hu pins s σ H x y v u Q I rx ry ⟨d, e', toD_dp R d1 ha, toD_dp R d2 hb, s1, s2, pr h _ rfl⟩
  | ne =>
    obtain ⟨c, S1, e, h⟩ := bind_po (m := eqM a b) h
    obtain ⟨rfl, ⟨i, j, rfl, rfl, rfl⟩ | ⟨d, e', d1, d2, s1, s2, rfl⟩⟩ := eqM_ok e
    · cases wr_str ha
      cases wr_str hb
      exact op_ne pins s σ H _ _ v u Q I rx ry ⟨rfl, by rw [show decide (V.str i = V.str j) = decide (i = j) from decide_eq_decide.mpr ⟨fun h => by injection h, fun h => by rw [h]⟩]; exact pr h _ rfl⟩
    exact op_neD hu pins s σ H x y v u Q I rx ry ⟨d, e', toD_dp R d1 ha, toD_dp R d2 hb, s1, s2, pr h _ rfl⟩
  | lt =>
    cases a with
    | int i =>
      cases b with
      | int j => cases wr_int ha; cases wr_int hb; exact op_lt pins s σ H _ _ v u Q I rx ry ⟨i, j, rfl, rfl, pr h _ rfl⟩
      | _ => exact h.elim
    | _ => exact h.elim
  | le =>
    cases a with
    | int i =>
      cases b with
      | int j => cases wr_int ha; cases wr_int hb; exact op_le pins s σ H _ _ v u Q I rx ry ⟨i, j, rfl, rfl, pr h _ rfl⟩
      | _ => exact h.elim
    | _ => exact h.elim
  | gt =>
    cases a with
    | int i =>
      cases b with
      | int j => cases wr_int ha; cases wr_int hb; exact op_gt pins s σ H _ _ v u Q I rx ry ⟨i, j, rfl, rfl, pr h _ rfl⟩
      | _ => exact h.elim
    | _ => exact h.elim
  | ge =>
    cases a with
    | int i =>
      cases b with
      | int j => cases wr_int ha; cases wr_int hb; exact op_ge pins s σ H _ _ v u Q I rx ry ⟨i, j, rfl, rfl, pr h _ rfl⟩
      | _ => exact h.elim
    | _ => exact h.elim
  | isN =>
    cases b with
    | non =>
      cases wr_non hb
      refine op_isN pins s σ H _ _ v u Q I rx ry ⟨rfl, ?_⟩
      cases a with
      | non => cases wr_non ha; exact pr h _ rfl
      | bl _ => cases wr_bl ha; exact pr h _ rfl
      | int _ => cases wr_int ha; exact pr h _ rfl
      | str _ => cases wr_str ha; exact pr h _ rfl
      | tup _ => obtain ⟨a, vs, rfl, _⟩ := wr_tup ha; exact pr h _ rfl
      | loc _ => obtain ⟨a, rfl, _⟩ := id ha; exact pr h _ rfl
    | _ => exact h.elim
  | notN =>
    cases b with
    | non =>
      cases wr_non hb
      refine op_notN pins s σ H _ _ v u Q I rx ry ⟨rfl, ?_⟩
      cases a with
      | non => cases wr_non ha; exact pr h _ rfl
      | bl _ => cases wr_bl ha; exact pr h _ rfl
      | int _ => cases wr_int ha; exact pr h _ rfl
      | str _ => cases wr_str ha; exact pr h _ rfl
      | tup _ => obtain ⟨a, vs, rfl, _⟩ := wr_tup ha; exact pr h _ rfl
      | loc _ => obtain ⟨a, rfl, _⟩ := id ha; exact pr h _ rfl
    | _ => exact h.elim
  | isin =>
    obtain ⟨r, S1, e, hp⟩ := bind_po (m := inW a b) h
    rcases inW_ok e with ⟨n, o, rfl, e1, rfl⟩ | e1
    · obtain ⟨rfl, p, g, ep, dg, ro⟩ := dget_dg R e1 ha
      cases wr_loc hb ep
      cases (show u = Value.ref p from ry)
      rw [hw] at dg
      refine dg_in hu I dg rx fun s' J => ⟨.bl _, H, J, rfl, ?_⟩
      rw [← ro.isSome]
      exact pr hp _ rfl
    · rcases inSeq_ok e1 with ⟨xs, e2, c1, c2, rfl⟩ | ⟨rfl, d, ds, d1, d2, s1, s2, rfl⟩
      case inr => exact op_inD hu5 pins s σ H _ _ v u Q I rx ry ⟨d, ds, toD_dp R d1 ha, toD_dp R d2 hb, s1, s2, pr hp _ rfl⟩
      obtain ⟨rfl, p, vs, rfl, sq, w⟩ := itemsOf_ok R e2 hb
      refine op_in_seq pins s σ H _ _ v u Q I rx ry ⟨p, vs, rfl, sq, ha.flat c1, w.flat c2, ?_⟩
      have e := WRs.inV ha c1 w c2
      rw [e]
      exact pr hp _ rfl
  | notin =>
    obtain ⟨r, S1, e, hp⟩ := bind_po (m := inW a b) h
    rcases inW_ok e with ⟨n, o, rfl, e1, rfl⟩ | e1
    · obtain ⟨rfl, p, g, ep, dg, ro⟩ := dget_dg R e1 ha
      cases wr_loc hb ep
      cases (show u = Value.ref p from ry)
      rw [hw] at dg
      refine dg_notIn hu I dg rx fun s' J => ⟨.bl _, H, J, rfl, ?_⟩
      rw [← ro.isSome]
      exact pr hp _ rfl
    · rcases inSeq_ok e1 with ⟨xs, e2, c1, c2, rfl⟩ | ⟨rfl, d, ds, d1, d2, s1, s2, rfl⟩
      case inr => exact op_notInD hu5 pins s σ H _ _ v u Q I rx ry ⟨d, ds, toD_dp R d1 ha, toD_dp R d2 hb, s1, s2, pr hp _ rfl⟩
      obtain ⟨rfl, p, vs, rfl, sq, w⟩ := itemsOf_ok R e2 hb
      refine op_notIn_seq pins s σ H _ _ v u Q I rx ry ⟨p, vs, rfl, sq, ha.flat c1, w.flat c2, ?_⟩
      have e := WRs.inV ha c1 w c2
      rw [e]
      exact pr hp _ rfl

/-! ### truth, items, slices -/
theorem isEmpty_wrs {xs : List W} {vs : List V} (w : WRs K ι H xs vs) : vs.isEmpty = xs.isEmpty := by
  cases xs with
  | nil => unfold WRs at w; subst w; rfl
  | cons x xs => obtain ⟨v, r, rfl, _⟩ := id w; rfl
theorem tru_read (r : Rel cl K ι S H) {x : W} {v : V} {Q : Bool → Hp → Prop} (w : WR K ι H x v) (h : Po cl K ι H (truW x S) (fun b _ _ H' => Q b H')) : ∃ k, TruV K v H k ∧ Q k H := by
  have pr : ∀ {b : Bool}, Po cl K ι H ((pure b : M Bool) S) (fun b _ _ H' => Q b H') → Q b H := fun h => h ι H (.refl r)
  cases x with
  | non => cases wr_non w; exact ⟨false, rfl, pr h⟩
  | bl b => cases wr_bl w; exact ⟨b, rfl, pr h⟩
  | int i => cases wr_int w; exact ⟨i != 0, rfl, pr h⟩
  | str z =>
    cases wr_str w
    obtain ⟨c, h⟩ := ite_po h
    refine ⟨(z.length : Int) != 0, ⟨c, rfl⟩, ?_⟩
    have e : (z.length != 0) = ((z.length : Int) != 0) := by
      by_cases q : z.length = 0
      · rw [q]; rfl
      · have : (z.length : Int) ≠ 0 := by omega
        rw [bne_iff_ne.mpr q, bne_iff_ne.mpr this]
    rw [← e]
    exact pr h
  | tup xs =>
    obtain ⟨a, vs, rfl, s1, w1⟩ := wr_tup w
    exact ⟨!vs.isEmpty, .inr (.inl ⟨vs, s1, rfl⟩), by rw [isEmpty_wrs w1]; exact pr h⟩
  | loc n =>
    obtain ⟨xs, a, vs, e0, e1, e2, e3, h⟩ := getLM_cases r h
    cases wr_loc w e1
    exact ⟨!vs.isEmpty, .inl ⟨vs, e2, rfl⟩, by rw [isEmpty_wrs e3]; exact pr h⟩
theorem WRs.atI {xs : List W} {vs : List V} {i : Int} {x : W} (w : WRs K ι H xs vs) (e : L2.atI xs i = some x) : ∃ v, L2.atI vs i = some v ∧ WR K ι H x v := by
  unfold L2.atI at e ⊢
  rw [w.length]
  cases q : ixN xs.length i with
  | none => rw [q] at e; cases e
  | some j =>
    rw [q, Option.bind_some] at e
    rw [Option.bind_some]
    exact w.get e
/-- items of lists and tuples, values of dicts -/
def rIxW (K : PySem.W.Frag) (w : World) : R2 := fun x y H Q => rIx K x y H Q ∨ rDG K w x y H Q
theorem ix_any (hu : X.A.units + 64 < cLine) : IxR X (rIxW X.K X.w) := ix_seq.or (ix_dg hu)
theorem isDic_po {n : Nat} {α : Type} {f : Bool → M α} {Φ : α → Sto → List Addr → Hp → Prop} (h : Po cl K ι H ((isDic n >>= f) S) Φ) : Po cl K ι H (f (dicAt S n).isSome S) Φ := h
theorem ix_read {x y : V} {Q : VK} (h : rB cl K ixW x y H Q) : rIxW K cl.w x y H Q := by
  obtain ⟨ι, S, a, b, R, ha, hb, h⟩ := h
  cases a with
  | tup xs =>
    cases b with
    | int k =>
      cases wr_int hb
      obtain ⟨p, vs, rfl, s1, w1⟩ := wr_tup ha
      obtain ⟨x, e, q⟩ := ofO_po R h
      obtain ⟨v, e2, wv⟩ := w1.atI e
      exact .inl (.inr (.inl ⟨p, vs, k, v, rfl, rfl, s1, e2, q v wv⟩))
    | _ => exact h.elim
  | loc n =>
    have h := isDic_po (f := fun d => if d = true then (do let r ← dgetW n b; ofO r) else ixL n b) h
    by_cases c : (dicAt S n).isSome = true
    · rw [if_pos c] at h
      obtain ⟨o, S1, e, hp⟩ := bind_po (m := dgetW n b) h
      obtain ⟨rfl, p, g, ep, dg, ro⟩ := dget_dg R e hb
      obtain ⟨z, rfl, q⟩ := ofO_po R hp
      cases g with
      | none => exact ro.elim
      | some v =>
        cases wr_loc ha ep
        exact .inr ⟨p, v, rfl, dg, q v ro⟩
    · rw [if_neg c] at h
      cases b with
      | int k =>
        cases wr_int hb
        obtain ⟨xs, p, vs, e0, e1, e2, e3, h⟩ := getLM_cases R h
        obtain ⟨x, e, q⟩ := ofO_po R h
        obtain ⟨v, e4, wv⟩ := e3.atI e
        cases wr_loc ha e1
        exact .inl (.inl ⟨p, vs, k, v, rfl, rfl, e2, e4, q v wv⟩)
      | _ => exact h.elim
  | _ => exact h.elim
def rSlW (cl : Cl) (K : PySem.W.Frag) : V → Option Int → Option Int → Hp → VK → Prop := fun x lo hi H Q => ∃ ι S a, Rel cl K ι S H ∧ WR K ι H a x ∧ Po cl K ι H (slW a lo hi S) (VW K Q)
theorem cut_whole {xs : List V} {lo hi : Option Int} (h : HT.sIx xs.length 0 lo = 0 ∧ HT.sIx xs.length xs.length hi = xs.length) : cutV xs lo hi = xs := by
  unfold cutV
  rw [h.1, h.2, List.drop_zero, Nat.sub_zero, List.take_length]
theorem sl_W : SlR X (rSlW cl X.K) := by
  intro pins s σ H x v vl vu lo hi sl Q I rx hs pl pu h
  obtain ⟨ι, S, a, R, ha, h⟩ := h
  cases a with
  | tup xs =>
    obtain ⟨p, vs, rfl, s1, w1⟩ := wr_tup ha
    refine sl_tupA pins s σ H _ v vl vu lo hi sl Q I rx hs pl pu ⟨p, vs, rfl, s1, fun e => ?_, fun e p' hp' => ?_⟩
    · refine h ι H (.refl R) _ (mk_tup s1 ?_)
      have := w1.cut lo hi
      rwa [cut_whole e] at this
    · exact h ι _ (R.newT hp') _ (new_tup hp' (w1.cut lo hi))
  | loc n =>
    obtain ⟨xs, p, vs, e0, e1, e2, e3, h⟩ := getLM_cases R h
    cases wr_loc ha e1
    exact sl_list pins s σ H _ v vl vu lo hi sl Q I rx hs pl pu ⟨p, vs, rfl, e2, fun p' hp' => h _ _ (R.newL hp' (e3.cut lo hi)) _ (wr_new R)⟩
  | _ => exact h.elim

/-! ### stores -/
theorem setI_ok (hw : cl.w = X.w) (hu : X.A.units + 64 < cLine) : PSet X (fun o i v H Q => ∃ ι S a b c, Rel cl X.K ι S H ∧ WR X.K ι H a o ∧ WR X.K ι H b i ∧ WR X.K ι H c v ∧ Po cl X.K ι H (setItemW a b c S) (fun _ _ _ H' => Q H')) := by
  intro pins s σ H o i v ov iv u Q I ro ri rv h
  obtain ⟨ι, S, a, b, c, R, ha, hb, hc, h⟩ := h
  cases a with
  | loc n =>
    have h := isDic_po (f := fun d => if d = true then dputW n b c else setL n b c) h
    by_cases d : (dicAt S n).isSome = true
    · rw [if_pos d] at h
      cases q : dputW n b c S with
      | ok z S1 =>
        rw [q] at h
        obtain ⟨kvs, hk⟩ := Option.isSome_iff_exists.mp d
        obtain ⟨kb, kl⟩ := kvs
        obtain ⟨_, p, ep, _⟩ := dicAt_cases R hk
        cases wr_loc ha ep
        cases (show ov = Value.ref p from ro)
        exact dput_ok R hw hu I hb hc ri rv q ep fun H' s' E J => ⟨H', J, h _ _ E⟩
      | ex _ _ _ => rw [q] at h; exact h.elim
      | no => rw [q] at h; exact h.elim
    · rw [if_neg d] at h
      cases b with
      | int k =>
        cases wr_int hb
        obtain ⟨xs, p, vs, e1, e2, e3, e4, h⟩ := getM_cases R h
        cases wr_loc ha e2
        cases q : ixN xs.length k with
        | none => rw [q] at h; exact h.elim
        | some j =>
          rw [q] at h
          refine set_list pins s σ H _ _ v ov iv u Q I ro ri rv ⟨p, vs, k, j, rfl, rfl, e3, by rw [e4.length]; exact q, ?_⟩
          exact h ι _ (setOb_lst R e1 e2 e3 (e4.set hc j))
      | _ => exact h.elim
  | _ => exact h.elim
end
end Fb
set_option Elab.async false
set_option linter.all false
set_option maxRecDepth 100000
set_option maxHeartbeats 2000000
/-! Lite: min of a list of pairs of ints. -/
namespace Fb
open PySem PySem.Spec PyProof.Rows L2

def encP (p : Int × Int) : PyData := .tuple [.int p.1, .int p.2]
theorem encP_inj {p q : Int × Int} (h : encP p = encP q) : p = q := by
  obtain ⟨a, b⟩ := p
  obtain ⟨c, d⟩ := q
  unfold encP at h
  simp only [PyData.tuple.injEq, List.cons.injEq, PyData.int.injEq, and_true] at h
  rw [h.1, h.2]
theorem encP_lt (p q : Int × Int) : PySem.W.dataLt (encP p) (encP q) = ltP p q := PySem.W.dataLt_ii _ _ _ _
theorem minD_enc : ∀ (xs : List (Int × Int)) (x : Int × Int), PySem.W.minD (encP x) (xs.map encP) = encP (minP x xs)
  | [], _ => rfl
  | y :: ys, x => by
    have ih := minD_enc ys (if ltP y x = true then y else x)
    unfold PySem.W.minD minP at ih ⊢
    rw [List.map_cons, List.foldl_cons, List.foldl_cons, encP_lt, ← ih]
    congr 1
    by_cases c : ltP y x = true
    · rw [if_pos c, if_pos c]
    · rw [if_neg c, if_neg c]
theorem enc_depth : ∀ xs : List (Int × Int), PyData.depthAll (xs.map encP) ≤ 8
  | [] => by decide
  | x :: xs => by
    have ih := enc_depth xs
    rw [List.map_cons]
    show max (PyData.depth (encP x)) _ ≤ 8
    exact Nat.max_le.mpr ⟨by show PyData.depth (.tuple [.int x.1, .int x.2]) ≤ 8; simp [PyData.depth, PyData.depthAll], ih⟩
theorem enc_alike (xs : List (Int × Int)) : PySem.W.AlikeAll (xs.map encP) := by
  refine ⟨fun x hx y hy => ?_, fun x hx => ?_⟩
  · obtain ⟨p, _, rfl⟩ := List.mem_map.mp hx
    obtain ⟨q, _, rfl⟩ := List.mem_map.mp hy
    rfl
  · obtain ⟨p, _, rfl⟩ := List.mem_map.mp hx
    intro e
    cases e
section
variable {X : Cx}
/-- a pair of ints -/
def PV (K : PySem.W.Frag) (H : Hp) (v : V) (p : Int × Int) : Prop := ∃ t, v = .ref t ∧ SqT K H t [.int p.1, .int p.2]
def rMinP (K : PySem.W.Frag) : List V → Hp → VK → Prop := fun vs H Q => ∃ (a : Addr) (us : List V) (p : Int × Int) (ps : List (Int × Int)), vs = [V.ref a] ∧ SqL K H a us ∧ Paired (PV K H) us (p :: ps) ∧
  ∀ t, SqT K H t [.int (minP p ps).1, .int (minP p ps).2] → Q (.ref t) H
theorem pv_reads {pins : List (Addr × Obj)} {σ : L2.St} {H : Hp} {s : Shared} {v : V} {u : Value} {p : Int × Int} (I : Inv X pins σ H s) (h : PV X.K H v p) (r : RelV v u) : Reads s.heap u (encP p) [] := by
  obtain ⟨t, rfl, sq⟩ := h
  obtain rfl : u = Value.ref t := r
  obtain ⟨its, rv, ⟨o, e1, e2, m, e3⟩, _⟩ := I.tuple sq
  cases rv with
  | cons r1 rv =>
    cases rv with
    | cons r2 rv =>
      cases rv
      obtain ⟨t1, rfl⟩ := r1
      obtain ⟨t2, rfl⟩ := r2
      exact .tuple e1 e2 e3 (.cons (.int _ _) (.cons (.int _ _) .nil))
theorem pvs_reads {pins : List (Addr × Obj)} {σ : L2.St} {H : Hp} {s : Shared} (I : Inv X pins σ H s) : ∀ {us : List V} {ps : List (Int × Int)} {vs : List Value}, Paired (PV X.K H) us ps → Vals us vs → ReadsAll s.heap vs (ps.map encP) []
  | _, _, _, .nil, .nil => .nil
  | _, _, _, .cons h hs, .cons r rs => .cons (as := []) (bs := []) (pv_reads I h r) (pvs_reads I hs rs)
theorem pv_at {K : PySem.W.Frag} {H : Hp} : ∀ {us : List V} {ps : List (Int × Int)} {i : Nat} {u : V}, Paired (PV K H) us ps → us[i]? = some u → ∃ p, ps[i]? = some p ∧ PV K H u p
  | _, _, _, _, .nil, e => by simp at e
  | _, _, 0, _, .cons h _, e => by cases e; exact ⟨_, rfl, h⟩
  | _, _, i + 1, _, .cons _ hs, e => pv_at (i := i) hs e
theorem vals_at : ∀ {us : List V} {vs : List Value} {i : Nat} {v : Value}, Vals us vs → vs[i]? = some v → ∃ u, us[i]? = some u ∧ RelV u v
  | _, _, _, _, .nil, e => by simp at e
  | _, _, 0, _, .cons h _, e => by cases e; exact ⟨_, rfl, h⟩
  | _, _, i + 1, _, .cons _ hs, e => vals_at (i := i) hs e
theorem cr_minP (hc : X.calm = true) (hu : X.A.units + 64 < cLine) : CallR X (.builtin "min") (rMinP X.K) := by
  intro pins s σ H vs us Q I r h
  obtain ⟨a, ws, p, ps, rfl, hs, hp, q⟩ := h
  obtain ⟨its, rv, hl, _⟩ := I.list hs
  rw [Vals.ref1 r]
  have rd : ReadsAll s.heap its.toArray.toList (encP p :: ps.map encP) [] := pvs_reads I hp rv
  refine PySem.W.min_list_data (I.ok.hd hc) hl.isList rd (enc_alike (p :: ps)) ?_ fun i v h' tk bs hv hr hk => ?_
  · have := enc_depth (p :: ps)
    rw [List.map_cons] at this
    omega
  · rw [minD_enc] at hr
    have hv' : its[i]? = some v := by simpa using hv
    obtain ⟨u, hu', ru⟩ := vals_at rv hv'
    obtain ⟨p', hp', pv⟩ := pv_at hp hu'
    have r1 : Reads h' v (encP p') [] := PySem.W.reads_keeps hk (pv_reads I pv ru)
    have e := (Reads.unique r1 _ _ hr).1
    have e := encP_inj e
    subst e
    obtain ⟨t, rfl, sq⟩ := pv
    exact ⟨.ref t, H, I.kept hk, ru, q t sq⟩
end
end Fb
set_option Elab.async false
set_option linter.all false
set_option maxRecDepth 100000
set_option maxHeartbeats 2000000
namespace Fb
open PySem PySem.Spec PyProof.Rows L2

def btName : Bt → Str
  | .len => "len" | .min => "min" | .max => "max" | .sum => "sum" | .all => "all" | .any => "any" | .sorted => "sorted" | .list => "list" | .tuple => "tuple" | .int => "int" | .str => "str" | .repr => "repr" | .divmod => "divmod" | .abs => "abs" | .set => "set" | .dict => "dict" | .divn => "divmod"
def btTy : Bt → Bool
  | .list => true | .tuple => true | .int => true | .str => true | .set => true | .dict => true | _ => false
def btId : Bt → String
  | .len => "len" | .min => "min" | .max => "max" | .sum => "sum" | .all => "all" | .any => "any" | .sorted => "sorted" | .list => "list" | .tuple => "tuple" | .int => "int" | .str => "str" | .repr => "repr" | .divmod => "divmod" | .abs => "abs" | .set => "set" | .dict => "dict" | .divn => "divmod"
def btVal (b : Bt) : Value := if btTy b then .type (btId b) else .builtin (btId b)
/-- a call on values of ours -/
def rC (cl : Cl) (K : PySem.W.Frag) (f : List W → M W) : List V → Hp → VK → Prop := fun vs H Q => ∃ ι S ws, Rel cl K ι S H ∧ WRs K ι H ws vs ∧ Po cl K ι H (f ws S) (VW K Q)
section
variable {cl : Cl} {K : PySem.W.Frag} {ι : List Addr} {S : Sto} {H : Hp} {X : Cx}
theorem wrs1 {a : W} {vs : List V} (w : WRs K ι H [a] vs) : ∃ x, vs = [x] ∧ WR K ι H a x := by
  unfold WRs at w
  obtain ⟨x, r, rfl, h1, h2⟩ := w
  unfold WRs at h2
  subst h2
  exact ⟨x, rfl, h1⟩
theorem wrs2 {a b : W} {vs : List V} (w : WRs K ι H [a, b] vs) : ∃ x y, vs = [x, y] ∧ WR K ι H a x ∧ WR K ι H b y := by
  unfold WRs at w
  obtain ⟨x, r, rfl, h1, h2⟩ := w
  obtain ⟨y, rfl, h3⟩ := wrs1 h2
  exact ⟨x, y, rfl, h1, h3⟩
theorem min_mem {ns : List Int} {m : Int} (h : ns.min? = some m) : m ∈ ns ∧ ∀ y, y ∈ ns → m ≤ y := List.min?_eq_some_iff.mp h
theorem max_mem {ns : List Int} {m : Int} (h : ns.max? = some m) : m ∈ ns ∧ ∀ y, y ∈ ns → y ≤ m := List.max?_eq_some_iff.mp h
theorem wr_pair {t : Addr} {a b : Int} (h : SqT K H t [.int a, .int b]) : WR K ι H (.tup [.int a, .int b]) (.ref t) := mk_tup h (.cons rfl (.cons rfl rfl))
theorem wrs_pairs : ∀ {xs : List W} {vs : List V} {ps : List (Int × Int)}, WRs K ι H xs vs → isPairs xs = some ps → Paired (PV K H) vs ps
  | [], vs, ps, h, e => by
    unfold WRs at h
    cases e
    rw [h]
    exact .nil
  | x :: xs, vs, ps, h, e => by
    unfold WRs at h
    obtain ⟨v, r, rfl, h1, h2⟩ := h
    unfold isPairs at e
    split at e
    · rename_i z
      cases z
    · rename_i a b r' z
      cases z
      cases q : isPairs xs with
      | none => rw [q] at e; cases e
      | some qs =>
        rw [q] at e
        cases e
        refine .cons ?_ (wrs_pairs h2 q)
        obtain ⟨t, us, rfl, s1, w1⟩ := wr_tup h1
        obtain ⟨x1, x2, rfl, k1, k2⟩ := wrs2 w1
        rw [wr_int k1, wr_int k2] at s1
        exact ⟨t, rfl, s1⟩
    · cases e
theorem len_of_mem {α : Type} {a : α} {xs : List α} (h : a ∈ xs) : 0 < xs.length := List.length_pos_of_mem h
/-- the one list handed in, its items ints -/
theorem ints_arg {n : Nat} {vs : List V} {f : List Int → M W} {Q : VK} (R : Rel cl K ι S H) (w : WRs K ι H [.loc n] vs)
    (h : Po cl K ι H (intsM n f S) (VW K Q)) : ∃ a is, vs = [.ref a] ∧ SqL K H a (is.map V.int) ∧ Po cl K ι H (f is S) (VW K Q) := by
  obtain ⟨x, rfl, w1⟩ := wrs1 w
  obtain ⟨xs, a, us, e0, e1, e2, e3, h⟩ := getLM_cases R h
  cases q : isInts xs with
  | none => rw [q] at h; exact h.elim
  | some is =>
    rw [q] at h
    have := e3.ints q
    subst this
    rw [wr_loc w1 e1]
    exact ⟨a, is, rfl, e2, h⟩
theorem bls_arg {n : Nat} {vs : List V} {f : List Bool → M W} {Q : VK} (R : Rel cl K ι S H) (w : WRs K ι H [.loc n] vs)
    (h : Po cl K ι H (blsM n f S) (VW K Q)) : ∃ a is, vs = [.ref a] ∧ SqL K H a (is.map V.bl) ∧ Po cl K ι H (f is S) (VW K Q) := by
  obtain ⟨x, rfl, w1⟩ := wrs1 w
  obtain ⟨xs, a, us, e0, e1, e2, e3, h⟩ := getLM_cases R h
  cases q : isBls xs with
  | none => rw [q] at h; exact h.elim
  | some is =>
    rw [q] at h
    have := e3.bls q
    subst this
    rw [wr_loc w1 e1]
    exact ⟨a, is, rfl, e2, h⟩
theorem seq_arg {x : W} {vs : List V} {f : List W → M W} {Q : VK} (R : Rel cl K ι S H) (w : WRs K ι H [x] vs) (h : Po cl K ι H ((itemsOf x >>= f) S) (VW K Q)) :
    ∃ a us ws, vs = [.ref a] ∧ (SqL K H a us ∨ SqT K H a us) ∧ WRs K ι H ws us ∧ Po cl K ι H (f ws S) (VW K Q) ∧ ((∃ ys, x = .tup ys) → SqT K H a us) ∧ ((∃ n, x = .loc n) → SqL K H a us) := by
  obtain ⟨v, rfl, w1⟩ := wrs1 w
  obtain ⟨ws, S1, e, h2⟩ := bind_po h
  cases x with
  | tup ys =>
    cases e
    obtain ⟨a, us, rfl, s1, w2⟩ := wr_tup w1
    exact ⟨a, us, _, rfl, .inr s1, w2, h2, fun _ => s1, fun ⟨_, q⟩ => nomatch q⟩
  | loc n =>
    have e' : getLM n S = .ok ws S1 := e
    unfold getLM at e'
    cases q : getL S n with
    | none => rw [q] at e'; cases e'
    | some ys =>
      rw [q] at e'
      cases e'
      obtain ⟨a, us, e1, e2, e3⟩ := getL_at R q
      rw [wr_loc w1 e1]
      exact ⟨a, us, _, rfl, .inl e2, e3, h2, fun ⟨_, q⟩ => (nomatch q), fun _ => e2⟩
  | _ => cases e
theorem sort_uniq {is js : List Int} (h : js.Perm is) (p : js.Pairwise (· ≤ ·)) : js = sortI is := by
  refine (h.trans (List.mergeSort_perm is _).symm).eq_of_pairwise (fun a b _ _ h1 h2 => Int.le_antisymm h1 h2) p ?_
  have := List.pairwise_mergeSort (le := fun a b : Int => decide (a ≤ b)) (fun a b c h1 h2 => by simp at *; omega) (fun a b => by simp; omega) is
  exact this.imp fun h => by simpa using h
theorem wrs_ints {is : List Int} : WRs K ι H (is.map W.int) (is.map V.int) := by
  induction is with
  | nil => exact .nil
  | cons i r ih => exact .cons rfl ih
theorem drs_keys : ∀ {kvs : List (W × W)} {vs : List (Key × V)} {is : List Int}, DRs K ι H kvs vs → isInts (kvs.map (·.1)) = some is → vs.map (·.1) = is.map Sum.inl
  | [], vs, is, h, e => by
    cases (show vs = [] from h)
    cases e
    rfl
  | (x1, x2) :: r, vs, is, h, e => by
    obtain ⟨k, v, t, rfl, h1, h2, h3⟩ := h
    rw [List.map_cons] at e
    dsimp only at e h1
    cases x1 with
    | int i =>
      unfold isInts at e
      cases q : isInts (r.map (·.1)) with
      | none => rw [q] at e; cases e
      | some js =>
        rw [q] at e
        cases e
        rw [List.map_cons, List.map_cons, drs_keys h3 q]
        cases h1
        rfl
    | _ => cases e
theorem dkeys_ok (R : Rel cl K ι S H) {n : Nat} {f : List Int → M W} {Q : VK} (h : Po cl K ι H (dkeysM n f S) (VW K Q)) : ∃ a kvs is, ι[n]? = some a ∧ H a = some (.dK kvs) ∧ kvs.map (·.1) = is.map Sum.inl ∧ is.length < 64 ∧ Po cl K ι H (f is S) (VW K Q) := by
  unfold dkeysM at h
  cases q : dicAt S n with
  | none => rw [q] at h; exact h.elim
  | some z =>
    obtain ⟨b, kvs⟩ := z
    rw [q] at h
    cases b with
    | true => exact h.elim
    | false =>
      dsimp only at h
      cases q2 : isInts (kvs.map (·.1)) with
      | none => rw [q2] at h; exact h.elim
      | some is =>
        rw [q2] at h
        dsimp only at h
        by_cases c : is.length < 64
        · rw [if_pos c] at h
          obtain ⟨_, a, e, vs, ha, rs⟩ := dicAt_cases R q
          exact ⟨a, vs, is, e, ha, drs_keys rs q2, c, h⟩
        · rw [if_neg c] at h; exact h.elim
/-- a list of pairs -/
theorem pairsK_ok : ∀ {xs : List W} {ps : List (W × W)} {vs : List V}, pairsK xs = some ps → WRs K ι H xs vs → ∃ (as : List Addr) (kvs : List (Key × V)), vs = as.map V.ref ∧ Paired (fun p kv => SqT K H p [kV kv.1, kv.2]) as kvs ∧ DRs K ι H ps kvs
  | [], ps, vs, e, w => by
    cases e
    unfold WRs at w
    subst w
    exact ⟨[], [], rfl, .nil, rfl⟩
  | x :: xs, ps, vs, e, w => by
    unfold WRs at w
    obtain ⟨v, r, rfl, h1, h2⟩ := w
    unfold pairsK at e
    split at e
    · rename_i z
      cases z
    · rename_i k y r' z
      cases z
      by_cases c : isKey false k = true
      · rw [if_pos c] at e
        cases q : pairsK xs with
        | none => rw [q] at e; cases e
        | some qs =>
          rw [q] at e
          cases e
          obtain ⟨as, kvs, rfl, pp, rs⟩ := pairsK_ok q h2
          obtain ⟨a, us, rfl, s1, w1⟩ := wr_tup h1
          obtain ⟨kv, yv, rfl, wk, wy⟩ := wrs2 w1
          obtain ⟨kk, k1, k2⟩ := isKey_key (K := K) (ι := ι) (H := H) c
          rw [k2 wk] at s1
          exact ⟨a :: as, (kk, yv) :: kvs, rfl, .cons s1 pp, kk, yv, kvs, rfl, k1, wy, rs⟩
      · rw [if_neg c] at e; cases e
    · cases e
theorem drs_merge : ∀ {ps : List (W × W)} {kvs : List (Key × V)} {l : List (W × W)} {m : List (Key × V)}, DRs K ι H ps kvs → DRs K ι H l m → DRs K ι H (ps.foldl (fun l p => dput l p.1 p.2) l) (mergeK m kvs)
  | [], kvs, l, m, h, g => by
    cases (show kvs = [] from h)
    exact g
  | p :: ps, kvs, l, m, h, g => by
    obtain ⟨k, v, t, rfl, h1, h2, h3⟩ := h
    have := drs_merge (ps := ps) (kvs := t) h3 (drs_put h1 h2 g)
    exact this
theorem call_repr (hg : X.A.guards = some []) (hu : X.A.units + 70 < cLine) : CallR X (.builtin "repr") (fun xs H Q => ∃ v d, xs = [v] ∧ Dp X.K H v d ∧ SeqAt.shaped d = true ∧ d.showable = true ∧ d.shown.length ≤ sizeLine ∧ Q (.str d.shown) H) := by
  intro pins s σ H xs us Q I r h
  obtain ⟨v, d, rfl, dp, sh, sw, hl, q⟩ := h
  obtain ⟨u, rfl, ru⟩ := vals1 r
  have fin : ∀ (h' : Heap) (t : Tok) (tk : Nat), (∀ b o, s.heap.get? b = some o → h'.get? b = some o) → EP X pins σ Q (.str d.shown t) { s with heap := h', toks := tk } := fun h' t tk k => ⟨.str d.shown, H, I.kept k, ⟨t, rfl⟩, q⟩
  have sd := SeqAt.depth_of_shaped sh
  have hd : d.hasDict = true → sysModules ∉ ([] : List Addr) := fun _ z => nomatch z
  cases v with
  | ref a =>
    cases (show u = Value.ref a from ru)
    obtain ⟨as, rd⟩ := Dp.reads I d _ _ dp rfl
    exact repr_of_reads' rd sw (PyData.noDict_hsm (PyData.hasDict_of_canLay d (SeqAt.canLay_of_shaped sh))) hg (by omega) (fun _ _ e => e) fin hl
  | non => cases dp; cases (show u = Value.none from ru); exact PySem.P.repr_of_none (fin _ _ _ fun _ _ e => e)
  | bl b => cases dp; cases (show u = Value.bool b from ru); exact PySem.P.repr_of_bool (fin _ _ _ fun _ _ e => e)
  | int i => cases dp; obtain ⟨t, rfl⟩ := ru; exact PySem.P.repr_of_int (by simpa [PyData.showable] using sw) (fin _ _ _ fun _ _ e => e)
  | str x => cases dp; obtain ⟨t, rfl⟩ := ru; exact PySem.P.repr_of_str (fin _ _ _ fun _ _ e => e) hl
  | byt _ => cases dp
  | flt _ => cases dp
  | ty _ => cases dp
theorem call_reprR (hy : SysD X.K) (hg : X.A.guards = some []) (hu : X.A.units + 70 < cLine) : CallR X (.builtin "repr") (fun xs H Q => ∃ v d, xs = [v] ∧ DpR X.K H v d ∧ d.depth ≤ 64 ∧ d.showable = true ∧ d.shown.length ≤ sizeLine ∧ Q (.str d.shown) H) := by
  intro pins s σ H xs us Q I r h
  obtain ⟨v, d, rfl, dp, sd, sw, hl, q⟩ := h
  obtain ⟨u, rfl, ru⟩ := vals1 r
  have fin : ∀ (h' : Heap) (t : Tok) (tk : Nat), (∀ b o, s.heap.get? b = some o → h'.get? b = some o) → EP X pins σ Q (.str d.shown t) { s with heap := h', toks := tk } := fun h' t tk k => ⟨.str d.shown, H, I.kept k, ⟨t, rfl⟩, q⟩
  have hs : ∃ o, s.heap.get? sysModules = some o ∧ o.cls = .type "dict" := by
    obtain ⟨o, e, c⟩ := hy
    exact ⟨o, I.kIn _ _ e, c⟩
  cases v with
  | ref a =>
    cases (show u = Value.ref a from ru)
    obtain ⟨as, rd, hn⟩ := DpR.reads hs I d _ _ dp rfl
    exact repr_of_reads' rd sw (fun _ => hn) hg (by omega) (fun _ _ e => e) fin hl
  | non => cases dp; cases (show u = Value.none from ru); exact PySem.P.repr_of_none (fin _ _ _ fun _ _ e => e)
  | bl b => cases dp; cases (show u = Value.bool b from ru); exact PySem.P.repr_of_bool (fin _ _ _ fun _ _ e => e)
  | int i => cases dp; obtain ⟨t, rfl⟩ := ru; exact PySem.P.repr_of_int (by simpa [PyData.showable] using sw) (fin _ _ _ fun _ _ e => e)
  | str x => cases dp; obtain ⟨t, rfl⟩ := ru; exact PySem.P.repr_of_str (fin _ _ _ fun _ _ e => e) hl
  | byt _ => cases dp
  | flt _ => cases dp
  | ty _ => cases dp
/-- divmod by what is not 0 -/
theorem call_divmodX : CallR X (.builtin "divmod") (fun xs H Q => ∃ i j, xs = [.int i, .int j] ∧ (j ≠ 0 ∧ Builtin.divisionGoesByPylong i j = false) ∧ ∀ p, H p = none → Q (.ref p) (upd H p (.tup [.int (i.fdiv j), .int (i.fmod j)]))) := by
  intro pins s σ H xs us Q I r h
  obtain ⟨i, j, rfl, ⟨h1, h2⟩, q⟩ := h
  obtain ⟨u, w', rfl, ⟨t, rfl⟩, ⟨t', rfl⟩⟩ := vals2 r
  refine PyProof.Rows.divmod_int h1 ?_ (.inl h2)
  have hn : H s.heap.objs.size = none := I.hok.fresh (Nat.le_refl _)
  refine ⟨.ref s.heap.objs.size, _, ?_, rfl, q _ hn⟩
  refine I.laid (fun b o e => Heap.get?_push_of_some _ e) (Nat.le_refl _) ⟨by simp only [List.length_cons, List.length_nil]; rw [sizeLine_eq]; decide, [.int (i.fdiv j) s.toks, .int (i.fmod j) (s.toks + 1)], .cons ⟨_, rfl⟩ (.cons ⟨_, rfl⟩ .nil), ?_⟩
  exact ⟨_, Heap.get?_push_size s.heap rfl, rfl, 0, rfl⟩
theorem call_blt (hy : SysD X.K) (hg : X.A.guards = some []) (hu : X.A.units + 70 < cLine) (hc : X.calm = true) (b : Bt) : CallR X (btVal b) (rC cl X.K (bltW b)) := by
  intro pins s σ H vs us Q I r h
  obtain ⟨ι, S, ws, R, w, h⟩ := h
  have pr : ∀ {w : W}, Po cl X.K ι H ((pure w : M W) S) (VW X.K Q) → ∀ v, WR X.K ι H w v → Q v H := fun h v hv => h ι H (.refl R) v hv
  cases ws with
  | nil => cases b <;> exact h.elim
  | cons a ws =>
    cases ws with
    | nil =>
      cases b with
      | len =>
        cases a with
        | str z =>
          obtain ⟨c, h⟩ := ite_po h
          obtain ⟨x, rfl, w1⟩ := wrs1 w
          cases wr_str w1
          exact call_len_str pins s σ H _ us Q I r ⟨z, rfl, c, pr h _ rfl⟩
        | tup xs =>
          obtain ⟨p, ys, ws, rfl, q, w2, h, _⟩ := seq_arg (f := fun xs => pure (.int xs.length)) R w (x := .tup xs) h
          refine call_len_seq pins s σ H _ us Q I r ⟨p, ys, rfl, q, ?_⟩
          rw [w2.length]
          exact pr h _ rfl
        | loc n =>
          obtain ⟨p, ys, ws, rfl, q, w2, h, _⟩ := seq_arg (f := fun xs => pure (.int xs.length)) R w (x := .loc n) h
          refine call_len_seq pins s σ H _ us Q I r ⟨p, ys, rfl, q, ?_⟩
          rw [w2.length]
          exact pr h _ rfl
        | _ => exact h.elim
      | min =>
        cases a with
        | loc n =>
          obtain ⟨y, rfl, w1⟩ := wrs1 w
          obtain ⟨xs, p, us', e0, e1, e2, e3, h⟩ := getLM_cases R h
          rw [wr_loc w1 e1] at r
          cases qi : isInts xs with
          | some is =>
            rw [qi] at h
            have := e3.ints qi
            subst this
            have h : Po cl X.K ι H (ofO (is.min?.map W.int) S) (VW X.K Q) := h
            cases e : is.min? with
            | none => rw [e] at h; exact h.elim
            | some m =>
              rw [e] at h
              have mm := min_mem e
              refine cr_min hc pins s σ H _ us Q I r ⟨p, is, rfl, e2, len_of_mem mm.1, fun m' h1 h2 => ?_⟩
              have : m' = m := Int.le_antisymm (h2 _ mm.1) (mm.2 _ h1)
              subst this
              exact pr h _ rfl
          | none =>
            rw [qi] at h
            dsimp only at h
            cases qp : isPairs xs with
            | none => rw [qp] at h; exact h.elim
            | some ps =>
              cases ps with
              | nil => rw [qp] at h; exact h.elim
              | cons p0 ps =>
                rw [qp] at h
                refine cr_minP hc (by omega) pins s σ H _ us Q I r ⟨p, us', p0, ps, rfl, e2, wrs_pairs e3 qp, fun t ht => ?_⟩
                exact pr h _ (wr_pair ht)
        | _ => exact h.elim
      | max =>
        cases a with
        | loc n =>
          obtain ⟨p, is, rfl, q, h⟩ := ints_arg (f := fun is => ofO (is.max?.map .int)) R w h
          cases e : is.max? with
          | none => rw [e] at h; exact h.elim
          | some m =>
            rw [e] at h
            have mm := max_mem e
            refine cr_max hc pins s σ H _ us Q I r ⟨p, is, rfl, q, len_of_mem mm.1, fun m' h1 h2 => ?_⟩
            have : m' = m := Int.le_antisymm (mm.2 _ h1) (h2 _ mm.1)
            subst this
            exact pr h _ rfl
        | _ => exact h.elim
      | sum =>
        cases a with
        | loc n =>
          obtain ⟨p, is, rfl, q, h⟩ := ints_arg (f := fun is => pure (.int is.sum)) R w h
          exact cr_sum hc pins s σ H _ us Q I r ⟨p, is, rfl, q, pr h _ rfl⟩
        | _ => exact h.elim
      | all =>
        cases a with
        | loc n =>
          obtain ⟨p, is, rfl, q, h⟩ := bls_arg (f := fun is => pure (.bl (is.all id))) R w h
          exact cr_all hc pins s σ H _ us Q I r ⟨p, is, rfl, q, pr h _ rfl⟩
        | _ => exact h.elim
      | any =>
        cases a with
        | loc n =>
          obtain ⟨p, is, rfl, q, h⟩ := bls_arg (f := fun is => pure (.bl (is.any id))) R w h
          exact cr_any hc pins s σ H _ us Q I r ⟨p, is, rfl, q, pr h _ rfl⟩
        | _ => exact h.elim
      | list =>
        obtain ⟨p, ys, ws, rfl, q, w2, h, _⟩ := seq_arg (f := fun xs => new (.lst xs)) R w (x := a) h
        exact call_list_of pins s σ H _ us Q I r ⟨p, ys, rfl, q, fun l hl => h _ _ (R.newL hl w2) _ (wr_new R)⟩
      | tuple =>
        cases a with
        | tup zs =>
          obtain ⟨x, rfl, w1⟩ := wrs1 w
          obtain ⟨p, ys, rfl, s1, w2⟩ := wr_tup w1
          exact call_tuple_of pins s σ H _ us Q I r ⟨p, ys, rfl, .inr ⟨s1, pr h _ (mk_tup s1 w2)⟩⟩
        | loc n =>
          have h : Po cl X.K ι H ((getLM n >>= fun xs => pure (.tup xs)) S) (VW X.K Q) := h
          obtain ⟨x, rfl, w1⟩ := wrs1 w
          obtain ⟨xs, p, ys, e0, e1, e2, e3, h⟩ := getLM_cases R h
          cases wr_loc w1 e1
          exact call_tuple_of pins s σ H _ us Q I r ⟨p, ys, rfl, .inl ⟨e2, fun l hl => h ι _ (R.newT hl) _ (new_tup hl e3)⟩⟩
        | _ => exact h.elim
      | sorted =>
        cases a with
        | loc n =>
          have h := isDic_po (f := fun d => if d = true then dkeysM n (fun is => new (.lst ((sortI is).map .int))) else intsM n fun is => new (.lst ((sortI is).map .int))) h
          by_cases c : (dicAt S n).isSome = true
          · rw [if_pos c] at h
            obtain ⟨p, kvs, is, e, ha, hk, h64, h⟩ := dkeys_ok R h
            obtain ⟨x, rfl, w1⟩ := wrs1 w
            cases wr_loc w1 e
            refine call_sortedDI hc pins s σ H _ us Q I r ⟨p, kvs, is, rfl, .inl ha, hk, h64, fun ys l pm ps hl => ?_⟩
            rw [sort_uniq pm ps]
            exact h _ _ (R.newL hl wrs_ints) _ (wr_new R)
          · rw [if_neg c] at h
            obtain ⟨p, is, rfl, q, h⟩ := ints_arg (f := fun is => new (.lst ((sortI is).map .int))) R w h
            refine cr_sortedI pins s σ H _ us Q I r ⟨p, is, rfl, q, fun ys l pm ps hl => ?_⟩
            rw [sort_uniq pm ps]
            exact h _ _ (R.newL hl wrs_ints) _ (wr_new R)
        | _ => exact h.elim
      | dict =>
        cases a with
        | loc n =>
          obtain ⟨x, rfl, w1⟩ := wrs1 w
          obtain ⟨xs, p, vs, e0, e1, e2, e3, h⟩ := getLM_cases R h
          cases wr_loc w1 e1
          cases q : pairsK xs with
          | none => rw [q] at h; exact h.elim
          | some ps =>
            rw [q] at h
            obtain ⟨as, kvs, rfl, pp, rs⟩ := pairsK_ok q e3
            exact call_dictP hc pins s σ H _ us Q I r ⟨p, as, kvs, rfl, e2, pp, fun l hl => h _ _ (R.newD hl (drs_merge rs rfl)) _ (wr_new R)⟩
        | _ => exact h.elim
      | repr =>
        obtain ⟨x, rfl, w1⟩ := wrs1 w
        have h : Po cl X.K ι H ((match toD S a with | some d => if SeqAt.shaped d = true ∧ d.showable = true ∧ d.shown.length ≤ sizeLine then Res.ok (.str d.shown) S else .no | none => (match toR S a with | some d => if d.depth ≤ 64 ∧ d.showable = true ∧ d.shown.length ≤ sizeLine then Res.ok (.str d.shown) S else .no | none => .no)) : Res W) (VW X.K Q) := h
        cases q : toD S a with
        | none =>
          rw [q] at h
          dsimp only at h
          cases q2 : toR S a with
          | none => rw [q2] at h; exact h.elim
          | some d =>
            rw [q2] at h
            dsimp only at h
            by_cases c : d.depth ≤ 64 ∧ d.showable = true ∧ d.shown.length ≤ sizeLine
            · rw [if_pos c] at h
              exact call_reprR hy hg hu pins s σ H _ us Q I r ⟨x, d, rfl, toR_dp R q2 w1, c.1, c.2.1, c.2.2, pr h _ rfl⟩
            · rw [if_neg c] at h; exact h.elim
        | some d =>
          rw [q] at h
          dsimp only at h
          by_cases c : SeqAt.shaped d = true ∧ d.showable = true ∧ d.shown.length ≤ sizeLine
          · rw [if_pos c] at h
            exact call_repr hg hu pins s σ H _ us Q I r ⟨x, d, rfl, toD_dp R q w1, c.1, c.2.1, c.2.2, pr h _ rfl⟩
          · rw [if_neg c] at h; exact h.elim
      | str =>
        cases a with
        | int i =>
          obtain ⟨x, rfl, w1⟩ := wrs1 w
          cases wr_int w1
          obtain ⟨c, h⟩ := ite_po h
          exact call_str_int pins s σ H _ us Q I r ⟨i, rfl, c, pr h _ rfl⟩
        | _ => exact h.elim
      | int =>
        cases a with
        | int i =>
          obtain ⟨x, rfl, w1⟩ := wrs1 w
          cases wr_int w1
          exact call_int1 pins s σ H _ us Q I r (.inl ⟨i, rfl, pr h _ rfl⟩)
        | bl k =>
          obtain ⟨x, rfl, w1⟩ := wrs1 w
          cases (show x = V.bl k from w1)
          exact call_int1 pins s σ H _ us Q I r (.inr ⟨k, rfl, pr h _ rfl⟩)
        | _ => exact h.elim
      | _ => cases a <;> exact h.elim
    | cons a2 ws =>
      cases ws with
      | nil =>
        cases b with
        | min =>
          cases a with
          | int i =>
            cases a2 with
            | int j =>
              obtain ⟨x, y, rfl, w1, w2⟩ := wrs2 w
              cases wr_int w1; cases wr_int w2
              exact call_min2 hc pins s σ H _ us Q I r ⟨i, j, rfl, pr h _ rfl⟩
            | _ => exact h.elim
          | _ => exact h.elim
        | max =>
          cases a with
          | int i =>
            cases a2 with
            | int j =>
              obtain ⟨x, y, rfl, w1, w2⟩ := wrs2 w
              cases wr_int w1; cases wr_int w2
              exact call_max2 hc pins s σ H _ us Q I r ⟨i, j, rfl, pr h _ rfl⟩
            | _ => exact h.elim
          | _ => exact h.elim
        | divn =>
          cases a with
          | int i =>
            cases a2 with
            | int j =>
              obtain ⟨x, y, rfl, w1, w2⟩ := wrs2 w
              cases wr_int w1; cases wr_int w2
              obtain ⟨⟨c1, c2⟩, h⟩ := ite_po h
              exact call_divmodX pins s σ H _ us Q I r ⟨i, j, rfl, ⟨c1, PyProof.noPylong_of_log2 (big_lt c2)⟩, fun p hp => h ι _ (R.newT hp) _ (new_tup hp (.cons rfl (.cons rfl .nil)))⟩
            | _ => exact h.elim
          | _ => exact h.elim
        | divmod =>
          cases a with
          | int i =>
            cases a2 with
            | int j =>
              obtain ⟨x, y, rfl, w1, w2⟩ := wrs2 w
              cases wr_int w1; cases wr_int w2
              obtain ⟨⟨c1, c2⟩, h⟩ := ite_po h
              exact call_divmodW pins s σ H _ us Q I r ⟨i, j, rfl, ⟨c1, PyProof.noPylong_of_log2 (big_lt c2)⟩, fun p hp => h ι _ (R.newT hp) _ (new_tup hp (.cons rfl (.cons rfl .nil)))⟩
            | _ => exact h.elim
          | _ => exact h.elim
        | _ => cases a <;> exact h.elim
      | cons a3 ws => cases b <;> first | exact h.elim | (cases a <;> first | exact h.elim | (cases a2 <;> exact h.elim))

/-! ### methods of lists -/
def mtName : Mt → Str
  | .join => "join" | .remove => "remove" | .split => "split"
def bmName : Bm → Str
  | .append => "append" | .extend => "extend" | .pop => "pop" | .index => "index" | .rev => ""
def bmId : Bm → String
  | .append => "list.append" | .extend => "list.extend" | .pop => "list.pop" | .index => "list.index" | .rev => ""
def rM (cl : Cl) (K : PySem.W.Frag) (f : W → List W → M W) : V → List V → Hp → VK → Prop := fun x vs H Q => ∃ ι S a ws, Rel cl K ι S H ∧ WR K ι H a x ∧ WRs K ι H ws vs ∧ Po cl K ι H (f a ws S) (VW K Q)
theorem setOb_po {n : Nat} {o : Ob} {α : Type} {f : Unit → M α} {Φ : α → Sto → List Addr → Hp → Prop} (h : Po cl K ι H ((setOb n o >>= f) S) Φ) : Po cl K ι H (f () (S.set n o)) Φ := h
theorem mt_bm (b : Bm) (hb : b ≠ .rev) : MtR X (bmId b) (rM cl X.K (bmW b)) := by
  intro pins s σ H x vs v us Q I rx r h
  obtain ⟨ι, S, a, ws, R, wa, w, h⟩ := h
  cases a with
  | loc n =>
    cases b with
    | append =>
      cases ws with
      | nil => exact h.elim
      | cons y ws =>
        cases ws with
        | cons _ _ => exact h.elim
        | nil =>
          obtain ⟨xs, p, zs, e1, e2, e3, e4, h⟩ := getM_cases R h
          obtain ⟨c, h⟩ := ite_po h
          obtain ⟨yv, rfl, w1⟩ := wrs1 w
          cases wr_loc wa e2
          refine mt_append pins s σ H _ _ v us Q I rx r ⟨p, zs, yv, rfl, rfl, e3, by rw [e4.length]; exact c, ?_⟩
          exact h ι _ (setOb_lst R e1 e2 e3 (e4.append (.cons w1 .nil))) _ rfl
    | extend =>
      cases ws with
      | nil => exact h.elim
      | cons y ws =>
        cases y with
        | loc m =>
          cases ws with
          | cons _ _ => exact h.elim
          | nil =>
            obtain ⟨xs, p, zs, e1, e2, e3, e4, h⟩ := getM_cases R h
            obtain ⟨ys, q, ts, f1, f2, f3, f4, h⟩ := getM_cases R h
            obtain ⟨c, h⟩ := ite_po h
            obtain ⟨yv, rfl, w1⟩ := wrs1 w
            cases wr_loc wa e2; cases wr_loc w1 f2
            refine mt_extend pins s σ H _ _ v us Q I rx r ⟨p, q, zs, ts, rfl, rfl, e3, f3, by rw [e4.length, f4.length]; exact c, ?_⟩
            exact h ι _ (setOb_lst R e1 e2 e3 (e4.append f4)) _ rfl
        | _ => cases ws <;> exact h.elim
    | pop =>
      cases ws with
      | cons _ _ => exact h.elim
      | nil =>
        obtain ⟨xs, p, zs, e1, e2, e3, e4, h⟩ := getM_cases R h
        cases q : xs[xs.length - 1]? with
        | none => rw [q] at h; exact h.elim
        | some y =>
          rw [q] at h
          obtain ⟨yv, q2, wy⟩ := e4.get q
          cases wr_loc wa e2
          unfold WRs at w
          subst w
          have X1 := setOb_lst R e1 e2 e3 e4.dropLast
          refine mt_pop pins s σ H _ _ v us Q I rx r ⟨p, zs, yv, rfl, rfl, e3, by rw [e4.length]; exact q2, ?_⟩
          exact h ι _ X1 _ (wy.ext X1)
    | rev => exact absurd rfl hb
    | index =>
      cases ws with
      | nil => exact h.elim
      | cons y ws =>
        cases ws with
        | cons _ _ => exact h.elim
        | nil =>
          obtain ⟨xs, p, zs, e1, e2, e3, e4, h⟩ := getM_cases R h
          obtain ⟨c, h⟩ := ite_po h
          obtain ⟨c1, c2⟩ := Bool.and_eq_true_iff.mp c
          obtain ⟨yv, rfl, w1⟩ := wrs1 w
          cases q : xs.findIdx? (fun z => eqW z y) with
          | none => rw [q] at h; exact h.elim
          | some j =>
            rw [q] at h
            obtain ⟨hj, f1, f2⟩ := List.findIdx?_eq_some_iff_getElem.mp q
            obtain ⟨zv, g1, g2⟩ := e4.get (List.getElem?_eq_getElem hj)
            have fl : ∀ z ∈ xs, flatW z = true := List.all_eq_true.mp c2
            cases wr_loc wa e2
            refine mt_index pins s σ H _ _ v us Q I rx r ⟨p, zs, yv, j, zv, rfl, rfl, .of e3, w1.flat c1, e4.flat c2, g1, ?_, fun m z' hm hz' => ?_, ?_⟩
            · rw [g2.eqV w1 (fl _ (List.getElem_mem hj)) c1]
              exact f1
            · have hm2 : m < xs.length := by omega
              obtain ⟨zv', g1', g2'⟩ := e4.get (List.getElem?_eq_getElem hm2)
              rw [hz'] at g1'
              cases g1'
              rw [g2'.eqV w1 (fl _ (List.getElem_mem hm2)) c1]
              exact Bool.eq_false_iff.mpr (f2 m hm)
            · exact Po.pure R h _ rfl
  | _ => cases b <;> cases ws <;> first | exact h.elim | (rename_i y ws; cases ws <;> first | exact h.elim | (cases y <;> exact h.elim))
end
end Fb
set_option Elab.async false
set_option linter.all false
set_option maxRecDepth 100000
set_option maxHeartbeats 2000000
/-! Lite: defs that are called where no repr is under way (repr of lists asks that). -/
namespace Fb
open PySem PySem.Spec PyProof.Rows L2

/-- a def's promise, no guard around it -/
structure FnG (P : Program) (w : World) (K : PySem.W.Frag) (mg : Str → Option Value) (base : Heap) (k : Nat) (f : Addr) (fd : FuncData) (ps : List Str) (sp : Sp) : Prop where
  len : ∀ vs H Q E, sp vs H Q E → vs.length = ps.length
  go : ∀ (B : Around) (out : List Env) (s : Shared) (H : Hp) (us : List Value) (vs : List V) (Q : VK) (E : XK), B.guards = some [] → Room k B → Env0 P w K mg base B out s H → BindsTo s fd ⟨us, []⟩ (ps.zip us) → Vals vs us → sp vs H Q E →
    codeAny (model P w) B (.call (.ref f) ⟨us, []⟩) (CR (L2.CX P w) out P w H s Q E) s
theorem FnG.imp {P : Program} {w : World} {K : PySem.W.Frag} {mg : Str → Option Value} {base : Heap} {k : Nat} {f : Addr} {fd : FuncData} {ps : List Str} {sp sp' : Sp} (F : FnG P w K mg base k f fd ps sp) (h : ∀ vs H Q E, sp' vs H Q E → sp vs H Q E) : FnG P w K mg base k f fd ps sp' :=
  ⟨fun vs H Q E q => F.len vs H Q E (h _ _ _ _ q), fun B out s H us vs Q E hg hr e0 hb rv q => F.go B out s H us vs Q E hg hr e0 hb rv (h _ _ _ _ q)⟩
section
variable {X : Cx} {k : Nat} {f C : Addr} {fd : FuncData} {ps : List Str} {sp : Sp} {x m : Str} {p pos apos : Pos} {e o : Expr} {es : List Expr} {te : TE} {t : TA}
/-- what a call lets out is taken, at the slots σ -/
abbrev PAt (X : Cx) (σ : L2.St) (E : XK) : Prop := PassesAt (L2.CX X.prog X.w) X σ E
theorem pat0 {σ : L2.St} : PAt X σ E0 := fun _ _ _ _ _ _ c => by
  obtain ⟨_, _, _, _, _, _, _, _, _, _, _, _, h⟩ := c
  exact False.elim h
theorem g_run {pins : List (Addr × Obj)} {σ : L2.St} {H : Hp} {s : Shared} {Q : VK} {E : XK} {us : List Value} {vs : List V} (gd : X.A.guards = some []) (F : FnG X.prog X.w X.K X.mg X.base k f fd ps sp) (hr : Room k X.A) (hb : Binds X.K fd ps []) (hx : PAt X σ E) (I : Inv X pins σ H s)
    (rv : Vals vs us) (h : sp vs H Q E) : wpAny (model X.prog X.w) X.A (call (.ref f) us) (EP X pins σ Q) X.xe s := by
  have hl : (us ++ []).length = ps.length := by rw [List.append_nil, ← rv.length, F.len _ _ _ _ h]
  have b := hb s us I.kIn hl
  rw [List.append_nil] at b
  refine wpAny_call (codeAny_mono (F.go X.A X.stack s H us vs Q E gd hr I.env0 b rv h) fun r s' hq => ?_)
  match r, hq with
  | .ok (.ret u), z => exact I.after z
  | .error e, z => exact hx pins H s e s' I z
/-- C(..) -/
theorem g_make {pins : List (Addr × Obj)} {σ : L2.St} {H : Hp} {s : Shared} {Q : VK} {E : XK} {us : List Value} {vs : List V} (gd : X.A.guards = some []) (M : Mk X.K C f) (F : FnG X.prog X.w X.K X.mg X.base k f fd ps sp) (hr : Room (k + 1) X.A) (hb : Binds X.K fd ps []) (hx : PAt X σ E)
    (I : Inv X pins σ H s) (rv : Vals vs us) (h : ∀ a d, H a = none → H d = none → d ≠ a → sp (.ref a :: vs) (upd (upd H d (.own a)) a (.ins C d [])) (fun v H2 => v = .non ∧ Q (.ref a) H2) E) :
    wpAny (model X.prog X.w) X.A (call (.ref C) us) (EP X pins σ Q) X.xe s := by
  have n1 : H (s.heap.objs.size + 1) = none := I.hok.fresh (by omega)
  have n2 : H s.heap.objs.size = none := I.hok.fresh (by omega)
  have hq := h _ _ n1 n2 (Nat.ne_of_lt (Nat.lt_succ_self _))
  have J := Inv.made (C := C) I
  have rv2 : Vals (V.ref (s.heap.objs.size + 1) :: vs) (Value.ref (s.heap.objs.size + 1) :: us) := .cons rfl rv
  have hl : ((Value.ref (s.heap.objs.size + 1) :: us) ++ []).length = ps.length := by rw [List.append_nil, ← rv2.length, F.len _ _ _ _ hq]
  have b := hb _ (Value.ref (s.heap.objs.size + 1) :: us) J.kIn hl
  rw [List.append_nil] at b
  refine wpAny_call (make_map (f := f) I.kIn M.makes M.init (beq_iff_eq.mp M.fn) ?_)
  refine codeAny_mono (F.go _ X.stack _ _ _ _ _ E ?_ (hr.make C us []) (J.env0.make C us []) b rv2 hq) fun r s' z => ?_
  · simp [Around.under, Code.guards, Code.isGuard, guardIds, pushGuards, gd]
  · match r, z with
    | .ok (.ret u), z =>
      obtain ⟨v, H', J2, r1, ev, q3⟩ := J.after z
      subst ev
      exact ⟨r1, V.ref (s.heap.objs.size + 1), H', J2, rfl, q3⟩
    | .error e, z => exact hx pins _ _ e s' J z
/-! the rules -/
def tCalG (sp : Sp) (E : L2.St → XK) (t : TA) : TE := fun σ H Q => t σ H fun vs H1 => sp vs H1 Q (E σ)
def tMetG (C : Addr) (m : Str) (sp : Sp) (E : L2.St → XK) (te : TE) (t : TA) : TE := fun σ H Q => te σ H fun x H1 => ∃ a dx fs, x = .ref a ∧ H1 a = some (.ins C dx fs) ∧ fs.lookup m = none ∧ t σ H1 fun vs H2 => sp (.ref a :: vs) H2 Q (E σ)
def tMakG (C : Addr) (sp : Sp) (E : L2.St → XK) (t : TA) : TE := fun σ H Q => t σ H fun vs H1 => ∀ a d, H1 a = none → H1 d = none → d ≠ a → sp (.ref a :: vs) (upd (upd H1 d (.own a)) a (.ins C d [])) (fun v H2 => v = .non ∧ Q (.ref a) H2) (E σ)
def tPropG (C : Addr) (sp : Sp) (te : TE) : TE := fun σ H Q => te σ H fun x H1 => ∃ a dx fs, x = .ref a ∧ H1 a = some (.ins C dx fs) ∧ sp [.ref a] H1 Q E0
variable {E : L2.St → XK}
theorem g_call0 (gd : X.A.guards = some []) (F : FnG X.prog X.w X.K X.mg X.base k f fd ps sp) (hr : Room k X.A) (gx : Gl X x) (mx : X.mg x = some (.ref f)) (kf : PySem.W.keepIn X.K (.ref f) = true) (hb : Binds X.K fd ps []) (hx : ∀ σ, PAt X σ (E σ)) (db : (x == ("__debug__" : Str)) = false) :
    PE X (.Call (.Name x p) [] [] pos) (tCalG sp E tNil) :=
  ⟨fun pins s σ H Q I h => wpAny_Call_Name_kw (ld_glob I gx mx (PySem.W.callWith_K0 I.kIn kf (g_run gd F hr hb (hx σ) I .nil h)) db)⟩
theorem g_call (gd : X.A.guards = some []) (F : FnG X.prog X.w X.K X.mg X.base k f fd ps sp) (hr : Room k X.A) (gx : Gl X x) (mx : X.mg x = some (.ref f)) (kf : PySem.W.keepIn X.K (.ref f) = true) (hb : Binds X.K fd ps []) (hx : ∀ σ, PAt X σ (E σ)) (ha : PA X (e :: es) t)
    (db : (x == ("__debug__" : Str)) = false) (st : starEach (e :: es) X.env = (false, eval e X.env) :: starEach es X.env) (ns : (backTo pos (starEach es X.env)).any (·.1) = false) : PE X (.Call (.Name x p) (e :: es) [] pos) (tCalG sp E t) := by
  constructor
  intro pins s σ H Q I h
  refine wpAny_Call_Name_kw (ld_glob I gx mx ?_ db)
  refine PySem.W.callWith_K (h₀ := X.base) I.ok.mod.kin kf (thn (ha.run pos pins s σ H _ I h) ?_) st ns
  rintro us s1 ⟨vs, H1, J, rv, q⟩
  exact ⟨J.kIn, g_run gd F hr hb (hx σ) J rv q⟩
theorem g_meth0 {pl : Sem Bool} (gd : X.A.guards = some []) (he : PE X o te) (c : Cls X.K C) (hm : Meth X.K C m f) (F : FnG X.prog X.w X.K X.mg X.base k f fd ps sp) (hr : Room k X.A) (hb : Binds X.K fd ps []) (hx : ∀ σ, PAt X σ (E σ))
    (form : eval (.Call (.Attribute o m apos) [] [] pos) X.env = (eval o X.env >>= fun ov => standAt apos.atName >>= fun _ => holding [ov] (getMethod ov m pl) >>= fun z => callWith pos z.1 z.2 (backTo pos (starEach [] X.env)) (backToKw pos (keywordEach [] X.env)))) :
    PE X (.Call (.Attribute o m apos) [] [] pos) (tMetG C m sp E te tNil) := by
  constructor
  intro pins s σ H Q I h
  refine PySem.W.methodCall_KW (pl := pl) (thn (he.run pins s σ H _ I h) ?_) form
  rintro u s1 ⟨y, H1, J, ry, a, dx, fs, rfl, ea, l, q⟩
  cases (show u = Value.ref a from ry)
  refine getmeth_ok J ea c hm l ?_
  have rv : Vals [V.ref a] [Value.ref a] := .cons rfl .nil
  exact PySem.W.callWith_K0 (first := [.ref a]) J.kIn hm.kp (g_run gd F hr hb (hx σ) J rv q)
theorem g_meth {pl : Sem Bool} (gd : X.A.guards = some []) (he : PE X o te) (c : Cls X.K C) (hm : Meth X.K C m f) (F : FnG X.prog X.w X.K X.mg X.base k f fd ps sp) (hr : Room k X.A) (hb : Binds X.K fd ps []) (hx : ∀ σ, PAt X σ (E σ)) (ha : PA X (e :: es) t)
    (st : starEach (e :: es) X.env = (false, eval e X.env) :: starEach es X.env) (ns : (backTo pos (starEach es X.env)).any (·.1) = false)
    (form : eval (.Call (.Attribute o m apos) (e :: es) [] pos) X.env = (eval o X.env >>= fun ov => standAt apos.atName >>= fun _ => holding [ov] (getMethod ov m pl) >>= fun z => callWith pos z.1 z.2 (backTo pos (starEach (e :: es) X.env)) (backToKw pos (keywordEach [] X.env)))) :
    PE X (.Call (.Attribute o m apos) (e :: es) [] pos) (tMetG C m sp E te t) := by
  constructor
  intro pins s σ H Q I h
  refine PySem.W.methodCall_KW (pl := pl) (thn (he.run pins s σ H _ I h) ?_) form
  rintro u s1 ⟨y, H1, J, ry, a, dx, fs, rfl, ea, l, q⟩
  cases (show u = Value.ref a from ry)
  refine getmeth_ok J ea c hm l ?_
  refine PySem.W.callWith_K (first := [.ref a]) (h₀ := X.base) J.ok.mod.kin hm.kp (thn (ha.run pos pins s1 σ H1 _ J q) ?_) st ns
  rintro us s2 ⟨vs, H2, J2, rv, q2⟩
  have rv2 : Vals (V.ref a :: vs) (Value.ref a :: us) := .cons rfl rv
  exact ⟨J2.kIn, g_run gd F hr hb (hx σ) J2 rv2 q2⟩
theorem g_mk0 (gd : X.A.guards = some []) (M : Mk X.K C f) (F : FnG X.prog X.w X.K X.mg X.base k f fd ps sp) (hr : Room (k + 1) X.A) (gx : Gl X x) (mx : X.mg x = some (.ref C)) (hb : Binds X.K fd ps []) (hx : ∀ σ, PAt X σ (E σ)) (db : (x == ("__debug__" : Str)) = false) :
    PE X (.Call (.Name x p) [] [] pos) (tMakG C sp E tNil) :=
  ⟨fun pins s σ H Q I h => wpAny_Call_Name_kw (ld_glob I gx mx (PySem.W.callWith_K0 I.kIn M.kp (g_make gd M F hr hb (hx σ) I .nil h)) db)⟩
theorem g_mk (gd : X.A.guards = some []) (M : Mk X.K C f) (F : FnG X.prog X.w X.K X.mg X.base k f fd ps sp) (hr : Room (k + 1) X.A) (gx : Gl X x) (mx : X.mg x = some (.ref C)) (hb : Binds X.K fd ps []) (hx : ∀ σ, PAt X σ (E σ)) (ha : PA X (e :: es) t)
    (db : (x == ("__debug__" : Str)) = false) (st : starEach (e :: es) X.env = (false, eval e X.env) :: starEach es X.env) (ns : (backTo pos (starEach es X.env)).any (·.1) = false) : PE X (.Call (.Name x p) (e :: es) [] pos) (tMakG C sp E t) := by
  constructor
  intro pins s σ H Q I h
  refine wpAny_Call_Name_kw (ld_glob I gx mx ?_ db)
  refine PySem.W.callWith_K (h₀ := X.base) I.ok.mod.kin M.kp (thn (ha.run pos pins s σ H _ I h) ?_) st ns
  rintro us s1 ⟨vs, H1, J, rv, q⟩
  exact ⟨J.kIn, g_make gd M F hr hb (hx σ) J rv q⟩
/-- e.f, a property -/
theorem g_prop {g pa : Addr} {y : Str} (gd : X.A.guards = some []) (he : PE X o te) (c : Cls X.K C) (hp : PropOf X.K C y pa g) (F : FnG X.prog X.w X.K X.mg X.base k g fd ps sp) (hr : Room (k + 1) X.A) (hb : Binds X.K fd ps [])
    (ab : attributeBase o y X.env (eval o X.env) = eval o X.env) : PE X (.Attribute o y pos) (tPropG C sp te) := by
  constructor
  intro pins s σ H Q I h
  refine attr_of ab (thn (he.run pins s σ H _ I h) ?_)
  rintro u s1 ⟨z, H1, J, rz, a, dx, fs, rfl, ea, q⟩
  cases (show u = Value.ref a from rz)
  obtain ⟨mA, O, _, _, _, _⟩ := ins_get J.hok ea
  obtain ⟨od, L, _⟩ := O.look
  obtain ⟨rest, hrec⟩ := hp.rec_
  have J1 := J.tok (s1.toks + 1)
  have hl : ([Value.ref a] ++ []).length = ps.length := F.len _ _ _ _ q
  have b := hb { s1 with toks := s1.toks + 1 } [.ref a] J1.kIn hl
  have isC : (PySem.W.clsIn X.K C).isSome = true := by
    obtain ⟨cd, z, _⟩ := PySem.W.any_some c.hd
    rw [z]
    rfl
  have pg := PySem.W.plainGet_of (c.get y)
  have rv : Vals [V.ref a] [Value.ref a] := .cons rfl .nil
  refine PySem.W.get_bind J.kIn L pg.1 (PySem.W.findObj_data isC hp.at_ hp.get hp.tak) pg.2 ?_
  refine wpAny_call (PySem.W.prop_get (s := { s1 with toks := s1.toks + 1 }) J.kIn hrec ?_)
  refine codeAny_mono (F.go X.A.in1 X.stack _ H1 [.ref a] [.ref a] Q E0 gd hr.in1 J1.env0.in1 b rv q) fun r s' z => ?_
  match r, z with
  | .ok (.ret w), z =>
    obtain ⟨v, H', J3, r3, q3⟩ := J1.after z
    show wpAny _ _ (handedOut w) _ _ _
    rw [PySem.W.handedOut_of (handed_of r3)]
    exact wpAny_pure ⟨v, H', J3, r3, q3⟩
  | .error e, z =>
    obtain ⟨_, _, _, _, _, _, _, _, _, _, _, _, h⟩ := z
    exact False.elim h
end

/-! ### a def -/
theorem g_def {P : Program} {w : World} {K : PySem.W.Frag} {mg : Str → Option Value} {base : Heap} {nm qual : Str} {params : Arguments} {body : List Stmt} {scope : Scope} {f : Addr} {fd : FuncData} {N ps : List Str} {k : Nat} {sp : Sp}
    (F : FunD K nm qual params body scope [] [] f fd) (S : FnScope N ps scope) (len : ∀ vs H Q E, sp vs H Q E → vs.length = ps.length)
    (inside : ∀ (cd : Value) (B : Around) (out : List Env) (s : Shared) (H : Hp) (vs : List V) (Q : VK) (E : XK), (B.deeper (envOfC qual scope s.heap.objs.size f cd)).guards = some [] → Room k (B.deeper (envOfC qual scope s.heap.objs.size f cd)) → sp vs H Q E →
      ∃ t, PSs (cxOf (L2.CX P w) P w K mg base N qual scope f cd B out s H E) body t ∧ t { nx := fun _ H' => Q .non H', rt := Q } (L2.start N vs) H) : FnG P w K mg base (k + 1) f fd ps sp := by
  obtain ⟨oc, od, dV, kV, doc, pm, an, cd, ct, osl, rfl, lk, hcd, _, _⟩ := F.ex
  refine ⟨len, ?_⟩
  intro B out s H us vs Q E gd hr e0 hb rv q
  have kin : K.In s.heap := e0.mod.kin.keeps fun b o z => (e0.bs b o z).1
  have nol : s.heap.NoLimit := e0.mod.nolimit.keeps fun b o z => (e0.bs b o z).1
  have kinds : ∀ y ∈ ps.zip us, scope.names.lookup y.1 = some .local ∨ (scope.names.lookup y.1 = some .cell ∧ ((cellsFrom (s.heap.objs.size + 1) scope.names []).lookup y.1).isSome = true) := by
    rintro ⟨n, v⟩ hy
    refine (S.par n (List.of_mem_zip hy).1).imp id fun z => ⟨z, ?_⟩
    exact PySem.W.cellsFrom_some _ _ _ (.inl z)
  refine codeAny_call_function hr.depth (kin _ _ lk) rfl S.co S.gen rfl (PySem.W.codeRec_of kin hcd) (hb _ _ _ _ (wpAny_newFunctionEnv_cells S.kind kinds ?_))
  rintro env rfl s1 x
  refine ⟨nol.keeps x.toInCall.keep, codeAny_func ?_⟩
  obtain ⟨t, ht, hq⟩ := inside cd B out s H vs Q E gd (hr.deeper _) q
  have J : Inv (cxOf (L2.CX P w) P w K mg base N qual scope f cd B out s H E) [] (L2.start N vs) H s1 := inv_start S hr.hd e0 (len _ _ _ _ q) rv x
  refine wpAny_mono (ht.run [] s1 (L2.start N vs) H _ J hq) (fun fl s' hs => ?_) fun _ _ z => z
  match fl, hs with
  | .ret u, ⟨v, σ', H', J2, r2, q2⟩ => exact ⟨v, H', J2.os, J2.bare, J2.base, J2.hok, r2, q2⟩
  | .next, ⟨σ', H', J2, q2⟩ => exact ⟨.non, H', J2.os, J2.bare, J2.base, J2.hok, rfl, q2⟩
  | .brk, ⟨_, _, _, z⟩ => exact z.elim
  | .cont, ⟨_, _, _, z⟩ => exact z.elim
end Fb
set_option Elab.async false
set_option linter.all false
set_option maxRecDepth 100000
set_option maxHeartbeats 2000000
/-! Lite: is a tree of ours the tree of the text? -/
namespace Fb
open PySem PySem.Spec PyProof.Rows L2

/-- may a target be a cell: all names; those that the block makes -/
def anyT : Str → Bool := fun _ => true
def cellT (sc : Scope) : Str → Bool := fun x => sc.names.lookup x == some .cell
/-- the built-in types that isinstance may name -/
def tyNames : List (Str × String) := [("int", "int"), ("bool", "bool"), ("str", "str"), ("list", "list"), ("tuple", "tuple"), ("dict", "dict")]

def seen (sc : Scope) (x : Str) : Bool := match sc.names.lookup x with
  | some .local => true | some .cell => true | some .free => true | _ => false
def owned (sc : Scope) (x : Str) : Bool := match sc.names.lookup x with
  | some .local => true | _ => false
def glob (sc : Scope) (x : Str) : Bool := match sc.names.lookup x with
  | some .globalImplicit => true | _ => false
def plainName (x : Str) : Bool := !(x == ("__debug__" : Str)) && !(x == ("__classdict__" : Str)) && !(x == ("__name__" : Str))
/-- no star -/
def nst : Expr → Bool | .Starred .. => false | _ => true
/-- a test that is asked by its truth -/
def plainT : Expr → Bool | .UnaryOp .. => false | .BoolOp .. => false | .IfExp .. => false | .Compare .. => false | _ => true
def isCmp : Expr → Bool | .Compare .. => true | _ => false
/-- no comprehension -/
def noCmp : Expr → Bool | .ListComp .. => false | .SetComp .. => false | .DictComp .. => false | _ => true
def noSup : Expr → Bool | .Call (.Name ..) [] [] _ => false | _ => true
def noSet : Expr → Bool | .Set .. => false | _ => true
def noSli : Expr → Bool | .Slice .. => false | _ => true
def uopP : UOp → UnaryOp | .neg => .USub | .inv => .Invert

def nm1 (sc : Scope) (l : Nat) : Expr → Option Str
  | .Name id pos => if sc.names.lookup id == some .local && pos.line == l then some id else none
  | _ => none
def swNames (ts : List Expr) (sc : Scope) : List Str := ts.filterMap (nm1 sc ((ts.head?.map (·.pos.line)).getD 0))
/-- the stores of a, b = x, y: the names that are swapped; none: not by this road -/
def swN (ts vs : List Expr) (sc : Scope) : Option (Option (List Str)) :=
  if (!(ts.length == 2 || ts.length == 3) || vs.length != ts.length) = true then some none
  else if (vs.any fun | .Starred .. => true | _ => false) = true then some none
  else if ((swNames ts sc).length != ts.length || (swNames ts sc).eraseDups.length != (swNames ts sc).length) = true then some none
  else if (vs.all (foldedForSure 8)) = true then some none
  else if (vs.all (constantsAlone 8)) = true then none
  else some (some (swNames ts sc))

def swOk (tg v : Expr) (sc : Scope) : Bool := match tg, v with
  | .Tuple ts _ _, .Tuple vs _ _ => (swN ts vs sc).isSome
  | _, _ => true
def chkTy (T : Tab) (t : Ty) (y : Str) : Bool := match t with
  | .own c => T.cls[c]? == some y && T.isi.contains c
  | .blt n => tyNames.contains (y, n)
def tokB (T : Tab) (y : Str) : Option Nat → Bool
  | none => y == ("ValueError" : Str)
  | some c => T.xs.contains c && y == xn c
variable (N : List Str) (T : Tab)
def ownN (own : List Nat) : List (Str × Nat) := own.map fun i => ((N[i]?).getD "", i)
mutual
def chkE : E → Scope → Expr → Bool
  | .var i, sc, e => match e with
    | .Name x _ => N[i]? == some x && seen sc x && plainName x
    | _ => false
  | .int n, _, e => match e with
    | .Constant (.int m) _ _ => n == m
    | _ => false
  | .bl b, _, e => match e with
    | .Constant (.bool c) _ _ => b == c
    | _ => false
  | .non, _, e => match e with
    | .Constant .none _ _ => true
    | _ => false
  | .str x, _, e => match e with
    | .Constant (.str y) _ _ => x == y
    | _ => false
  | .glob g, sc, e => match e with
    | .Name x _ => T.gl[g]? == some x && glob sc x && plainName x
    | _ => false
  | .tup es, sc, e => match e with
    | .Tuple vs _ _ => chkEs es sc vs
    | _ => false
  | .lst es, sc, e => match e with
    | .List vs _ => chkEs es sc vs
    | _ => false
  | .bin op a b, sc, e => match e with
    | .BinOp x o y _ => o == bopP op && chkE a sc x && chkE b sc y
    | _ => false
  | .un op a, sc, e => match e with
    | .UnaryOp o x _ => o == uopP op && chkE a sc x
    | _ => false
  | .not a, sc, e => match e with
    | .UnaryOp .Not x _ => chkE a sc x
    | _ => false
  | .cmp op a b, sc, e => match e with
    | .Compare x [o] [y] _ => o == copP op && chkE a sc x && chkE b sc y && noSet y
    | _ => false
  | .cmp2 o1 o2 a b c, sc, e => match e with
    | .Compare x [p1, p2] [y, z] _ => p1 == copP o1 && p2 == copP o2 && chkE a sc x && chkE b sc y && chkE c sc z && noSet y && noSet z
    | _ => false
  | .and a b, sc, e => match e with
    | .BoolOp .And (x :: y :: r) pos => chkE a sc x && chkE b sc (match r with | [] => y | _ => .BoolOp .And (y :: r) pos)
    | _ => false
  | .or a b, sc, e => match e with
    | .BoolOp .Or (x :: y :: r) pos => chkE a sc x && chkE b sc (match r with | [] => y | _ => .BoolOp .Or (y :: r) pos)
    | _ => false
  | .ife c a b, sc, e => match e with
    | .IfExp z x y _ => chkC c sc z && chkE a sc x && chkE b sc y
    | _ => false
  | .ix a i, sc, e => match e with
    | .Subscript x y _ => chkE a sc x && chkE i sc y && noSli y
    | _ => false
  | .sl a lo hi, sc, e => match e with
    | .Subscript x (.Slice l h none _) _ => chkE a sc x && chkB lo sc l && chkB hi sc h
    | _ => false
  | .fld a c f, sc, e => match e with
    | .Attribute x g _ => f == g && chkE a sc x && noSup x && T.fl.contains (c, f)
    | _ => false
  | .prop a c f m, sc, e => match e with
    | .Attribute x g _ => f == g && chkE a sc x && noSup x && T.pr.contains (c, f, m)
    | _ => false
  | .call f es, sc, e => match e with
    | .Call (.Name x _) vs [] _ => T.fn[f]? == some (some x) && glob sc x && plainName x && chkEs es sc vs && vs.all nst
    | _ => false
  | .meth a c m f es, sc, e => match e with
    | .Call (.Attribute x g ap) vs [] cp => m == g && chkE a sc x && noSup x && T.me.contains (c, m, f) && chkEs es sc vs && vs.all nst && ap.endLine == cp.line && decide (vs.length < 20)
    | _ => false
  | .mk c f es, sc, e => match e with
    | .Call (.Name x _) vs [] _ => T.cls[c]? == some x && T.mks.contains (c, f) && glob sc x && plainName x && chkEs es sc vs && vs.all nst
    | _ => false
  | .blt b es, sc, e => match e with
    | .Call (.Name x _) vs [] _ => x == btName b && glob sc x && chkEs es sc vs && vs.all nst && !vs.isEmpty
    | _ => false
  | .bm b a es, sc, e => match e with
    | .Subscript x (.Slice none none (some (.UnaryOp .USub (.Constant (.int 1) _ _) _)) _) _ => decide (b = .rev) && (match es with | .nil => true | _ => false) && chkE a sc x
    | .Call (.Attribute x g ap) vs [] cp => decide (b ≠ .rev) && g == bmName b && chkE a sc x && noSup x && chkEs es sc vs && vs.all nst && ap.endLine == cp.line && decide (vs.length < 20)
    | _ => false
  | .isi a t cs, sc, e => match e with
    | .Call (.Name f _) [x, .Name y _] [] _ => f == ("isinstance" : Str) && glob sc f && chkE a sc x && nst x && glob sc y && plainName y && cs.all (T.isi.contains ·) && chkTy T t y
    | _ => false
  | .lrg a b, sc, e => match e with
    | .Call (.Name f _) [.Call (.Name g _) [x, y] [] _] [] _ => f == ("list" : Str) && g == ("range" : Str) && glob sc f && glob sc g && chkE a sc x && chkE b sc y && nst x && nst y
    | .Call (.Name f _) [.Call (.Name g _) [y] [] _] [] _ => f == ("list" : Str) && g == ("range" : Str) && glob sc f && glob sc g && (match a with | .int i => decide (i = 0) | _ => false) && chkE b sc y && nst y
    | _ => false
  | .eqO neg c f a b, sc, e => match e with
    | .Compare x [.Eq] [y] _ => !neg && T.me.contains (c, "__eq__", f) && chkE a sc x && chkE b sc y && noSet y
    | _ => false
  | .comp elt tg it ifs own, sc, e => match e with
    | .ListComp x [⟨t, i, fs, a⟩] sc2 _ => a == 0 && chkI it sc t i && (tgv tg).all (own.contains ·) && blkC N sc sc2 (ownN N own) && chkG (cellT sc2) tg (relS sc2 sc) t && chkF ifs (relS sc2 sc) fs && chkE elt (relS sc2 sc) x && noSet i
    | _ => false
  | .comp2 .., _, _ => false
  | .dnew _, _, e => match e with
    | .Dict [] [] _ => true
    | _ => false
  | .dsp a b, sc, e => match e with
    | .Dict [some x] [y] _ => chkE a sc x && chkE b sc y
    | _ => false
  | .isx a t, sc, e => match e with
    | .Call (.Name f _) [x, .Name y _] [] _ => f == ("isinstance" : Str) && glob sc f && chkE a sc x && nst x && glob sc y && plainName y && tokB T y t
    | _ => false
  | .xfl a f, sc, e => match e with
    | .Attribute x g _ => f == g && chkE a sc x && noSup x
    | _ => false
  | .mt m a b, sc, e => match e with
    | .Call (.Attribute x g ap) [y] [] cp => g == mtName m && chkE a sc x && noSup x && chkE b sc y && nst y && ap.endLine == cp.line
    | _ => false
  | .mkx0 c, sc, e => match e with
    | .Call (.Name x _) [.Constant (.str _) _ _] [] _ => x == xn c && T.xs.contains c && xfN c == Str.empty && glob sc x && plainName x
    | _ => false
  | .mkx1 c a, sc, e => match e with
    | .Call (.Name x _) [v] [] _ => x == xn c && T.xs.contains c && (T.xi.map (·.1)).contains c && glob sc x && plainName x && chkE a sc v && nst v
    | _ => false
def chkEs : Es → Scope → List Expr → Bool
  | .nil, _, vs => match vs with
    | [] => true
    | _ => false
  | .cons e r, sc, vs => match vs with
    | v :: vs => nst v && chkE e sc v && chkEs r sc vs
    | _ => false
  | .star e r, sc, vs => match vs with
    | .Starred v _ :: vs => chkE e sc v && chkEs r sc vs
    | _ => false
/-- a bound of a slice -/
def chkB : Bd → Scope → Option Expr → Bool
  | .none, _, v => match v with
    | none => true
    | _ => false
  | .of e, sc, v => match v with
    | some v => chkE e sc v
    | _ => false
/-- a test -/
def chkC : C → Scope → Expr → Bool
  | .not a, sc, e => match e with
    | .UnaryOp .Not x _ => chkC a sc x
    | _ => false
  | .and a b, sc, e => match e with
    | .BoolOp .And (x :: y :: r) pos => chkC a sc x && chkC b sc (match r with | [] => y | _ => .BoolOp .And (y :: r) pos)
    | _ => false
  | .or a b, sc, e => match e with
    | .BoolOp .Or (x :: y :: r) pos => chkC a sc x && chkC b sc (match r with | [] => y | _ => .BoolOp .Or (y :: r) pos)
    | _ => false
  | .of e, sc, v => chkE e sc v && (plainT v || isCmp v)
def chkF : Fi → Scope → List Expr → Bool
  | .none, _, vs => match vs with
    | [] => true
    | _ => false
  | .of e, sc, vs => match vs with
    | [v] => chkC e sc v
    | _ => false
/-- what is walked, and the target -/
def chkI : It → Scope → Expr → Expr → Bool
  | .seq e, sc, _, v => chkE e sc v
  | .rng1 b, sc, _, v => match v with
    | .Call (.Name x _) [y] [] _ => x == ("range" : Str) && glob sc x && chkE b sc y && nst y
    | _ => false
  | .rng2 a b, sc, _, v => match v with
    | .Call (.Name x _) [y, z] [] _ => x == ("range" : Str) && glob sc x && chkE a sc y && chkE b sc z && nst y && nst z
    | _ => false
  | .rng3 a b c, sc, _, v => match v with
    | .Call (.Name x _) [y, z, u] [] _ => x == ("range" : Str) && glob sc x && chkE a sc y && chkE b sc z && chkE c sc u && nst y && nst z && nst u
    | _ => false
  | .enum e, sc, t, v => match v, t with
    | .Call (.Name x _) [y] [] _, .Tuple .. => x == ("enumerate" : Str) && glob sc x && chkE e sc y && nst y
    | _, _ => false
  | .zip a b, sc, t, v => match v, t with
    | .Call (.Name x _) [y, z] [] _, .Tuple .. => x == ("zip" : Str) && glob sc x && chkE a sc y && chkE b sc z && nst y && nst z
    | _, _ => false
/-- a target; top: in a def's body (not in a comprehension) -/
def chkG (top : Str → Bool) : Tg → Scope → Expr → Bool
  | .var i, sc, e => match e with
    | .Name x _ => N[i]? == some x && (owned sc x || (top x && seen sc x && !(sc.names.lookup x == some .free)))
    | _ => false
  | .tup ts, sc, e => match e with
    | .Tuple vs _ _ => chkGs top ts sc vs
    | _ => false
  | .sub o i, sc, e => match e with
    | .Subscript x y _ => chkE o sc x && chkE i sc y && noSli y
    | _ => false
  | .fld o c f, sc, e => match e with
    | .Attribute x g _ => f == g && chkE o sc x && T.fl.contains (c, f)
    | _ => false
def chkGs (top : Str → Bool) : Tgs → Scope → List Expr → Bool
  | .nil, _, vs => match vs with
    | [] => true
    | _ => false
  | .cons t r, sc, vs => match vs with
    | v :: vs => nst v && chkG top t sc v && chkGs top r sc vs
    | _ => false
end
/-! the body of a try: one statement that may raise, its slots as they were till then -/
mutual
def tb1 : S → Bool
  | .expr _ => true | .asg _ _ => true | .pass => true
  | .ifs _ a b => tbs a && tbs b
  | _ => false
def tbs : Ss → Bool
  | .nil => true
  | .cons s r => tb1 s && (match r with | .nil => true | _ => false)
end
mutual
def chkS : S → Scope → Stmt → Bool
  | .expr e, sc, s => match s with
    | .Expr v _ => chkE N T e sc v && noCmp v
    | _ => false
  | .asg t e, sc, s => match s with
    | .Assign [tg] v _ => chkE N T e sc v && chkG N T anyT t sc tg && swOk tg v sc
    | _ => false
  | .asg2 _ _ _, _, _ => false
  | .aug t op e, sc, s => match s with
    | .AugAssign tg o v _ => o == bopP op && chkE N T e sc v && (match t with
      | .var _ => chkG N T anyT t sc tg
      | .sub _ _ => chkG N T anyT t sc tg
      | _ => false)
    | _ => false
  | .ifs c a b, sc, s => match s with
    | .If x y z _ => chkC N T c sc x && chkSs a sc y && chkSs b sc z
    | _ => false
  | .whl c b, sc, s => match s with
    | .While x y [] _ => chkC N T c sc x && chkSs b sc y
    | _ => false
  | .fr t it b, sc, s => match s with
    | .For x y z [] _ => chkI N T it sc x y && chkG N T anyT t sc x && chkSs b sc z && noSet y
    | _ => false
  | .ret e, sc, s => match s with
    | .Return (some v) _ => chkE N T e sc v
    | _ => false
  | .retN, _, s => match s with
    | .Return none _ => true
    | _ => false
  | .pass, _, s => match s with
    | .Pass _ => true
    | .Expr (.Constant (.str _) _ _) _ => true
    | _ => false
  | .raise c o, sc, s => match o with
    | none => (match s with
      | .Raise (some (.Call (.Name x _) [.Constant (.str _) _ _] [] _)) none _ => x == xn c && T.xs.contains c && xfN c == Str.empty && glob sc x && plainName x
      | _ => false)
    | some e => (match s with
      | .Raise (some (.Call (.Name x _) [v] [] _)) none _ => x == xn c && T.xs.contains c && (T.xi.map (·.1)).contains c && glob sc x && plainName x && chkE N T e sc v && nst v
      | _ => false)
  | .tryK b c i j, sc, s => match s with
    | .Try body [.ExceptHandler (some (.Name x _)) (some n) [.Assign [.Name y _] (.Name m _) _] _] [] [] _ => x == xn c && T.xs.contains c && glob sc x && plainName x && N[i]? == some n && owned sc n && m == n && N[j]? == some y && owned sc y && plainName n && i != j && tbs b && chkSs b sc body
    | _ => false
  | .tryO b c j e, sc, s => match s with
    | .Try body [.ExceptHandler (some (.Name x _)) none [.Assign [.Name y _] v _] _] [] [] _ => x == xn c && T.xs.contains c && glob sc x && plainName x && N[j]? == some y && owned sc y && (litE e).isSome && chkE N T e sc v && tbs b && chkSs b sc body
    | _ => false
def chkSs : Ss → Scope → List Stmt → Bool
  | .nil, _, ss => match ss with
    | [] => true
    | _ => false
  | .cons s r, sc, ss => match ss with
    | x :: xs => chkS s sc x && chkSs r sc xs
    | _ => false
end
end Fb
set_option Elab.async false
set_option linter.all false
set_option maxRecDepth 100000
set_option maxHeartbeats 2000000
/-! Lite: readings by meaning; the context's facts. -/
namespace Fb
open PySem PySem.Spec PyProof.Rows L2

example (G : Ct) : ev G (.bin .add (.int 1) (.int 2)) [] [] = .ok (.int 3) [] := rfl

/-! ### the readings of the layer, by meaning -/
def tE (X : Cx) (e : Expr) : TE := fun σ H Q => ∃ t, PE X e t ∧ t σ H Q
def tT (X : Cx) (e : Expr) : TT := fun σ H Q => ∃ t, PT X e t ∧ t σ H Q
def tA (X : Cx) (es : List Expr) : TA := fun σ H Q => ∃ t, PA X es t ∧ t σ H Q
def tS (X : Cx) (s : Stmt) : TS := fun D σ H => ∃ t, PS X s t ∧ t D σ H
def tSs (X : Cx) (s : List Stmt) : TS := fun D σ H => ∃ t, PSs X s t ∧ t D σ H
def tG (X : Cx) (e : Expr) : TG := fun v σ H Q => ∃ t, PG X e t ∧ t v σ H Q
def tGs (X : Cx) (es : List Expr) : TGs := fun vs σ H Q => ∃ t, PGs X es t ∧ t vs σ H Q
def tO (X : Cx) (e : Option Expr) : TO := fun σ H Q => ∃ t, PO X e t ∧ t σ H Q
def tI (X : Cx) (tg e : Expr) : TI := fun σ H R => ∃ t, PI X tg e t ∧ t σ H R
def tF (X : Cx) (es : List Expr) : TT := fun σ H Q => ∃ t, PTs X es t ∧ t σ H Q
section
variable {X : Cx}
theorem pe_s {e : Expr} : PE X e (tE X e) := ⟨fun pins s σ H Q I ⟨t, h, q⟩ => h.run pins s σ H Q I q⟩
theorem pt_s {e : Expr} : PT X e (tT X e) := ⟨fun pins s σ H Q I ⟨t, h, q⟩ => h.run pins s σ H Q I q⟩
theorem pa_s {e : List Expr} : PA X e (tA X e) := ⟨fun pos pins s σ H Q I ⟨t, h, q⟩ => h.run pos pins s σ H Q I q⟩
theorem ps_s {e : Stmt} : PS X e (tS X e) := ⟨fun pins s σ H Q I ⟨t, h, q⟩ => h.run pins s σ H Q I q⟩
theorem pss_s {e : List Stmt} : PSs X e (tSs X e) := ⟨fun pins s σ H Q I ⟨t, h, q⟩ => h.run pins s σ H Q I q⟩
theorem pg_s {e : Expr} : PG X e (tG X e) := ⟨fun pins s σ H v u Q I r ⟨t, h, q⟩ => h.run pins s σ H v u Q I r q⟩
theorem pgs_s {e : List Expr} : PGs X e (tGs X e) := ⟨fun pins s σ H v u Q I r ⟨t, h, q⟩ => h.run pins s σ H v u Q I r q⟩
theorem po_s {e : Option Expr} : PO X e (tO X e) := ⟨fun pins s σ H Q I ⟨t, h, q⟩ => h.run pins s σ H Q I q⟩
theorem pi_s {tg e : Expr} : PI X tg e (tI X tg e) := ⟨fun pins s σ H R I ⟨t, h, q⟩ => h.run pins s σ H R I q⟩
theorem pf_s {e : List Expr} : PTs X e (tF X e) := ⟨fun pins s σ H Q I ⟨t, h, q⟩ => h.run pins s σ H Q I q⟩
end

/-! ### the context -/
/-- what isinstance needs of a class -/
structure IsiC (K : PySem.W.Frag) (C : Addr) : Prop where
  cls : Cls K C
  at_ : PySem.W.findIn K (.ref C) "__class__" = some (some (.builtin "object.__class__"))
  get : PySem.W.specialIn K (.builtin "object.__class__") "__get__" = some (some (.builtin "getset_descriptor.__get__"))
  tak : PySem.W.takesIn K (.builtin "object.__class__") = some true
  mro : PySem.W.mroIn K C (.type "object") = some true
  no : ∀ n ∈ tyKinds, PySem.W.kitOne K (.type n) (.ref C) = some false
  isno : ∀ n ∈ tyKinds, PySem.W.kitOne K (.ref C) (.type n) = some false
/-- what a def of ours promises -/
def spOf (cl : Cl) (K : PySem.W.Frag) (F : List W → M W) : Sp := fun vs H Q E => ∃ (ι : List Addr) (S : Sto) (ws : List W), Rel cl K ι S H ∧ WRs K ι H ws vs ∧ PoX cl K ι H (F ws S) (VW K Q) (XWish cl K E)
/-- what is known of a class of errors -/
structure XC (cl : Cl) (T : Tab) (K : PySem.W.Frag) (mg : Str → Option Value) (c : Nat) : Prop where
  gl : mg (xn c) = some (.ref (cl.xad c))
  ga : PySem.W.findIn K (.ref (cl.xad c)) "__getattribute__" = some (some (.builtin "BaseException.__getattribute__"))
  gg : PySem.W.findIn K (.ref (cl.xad c)) "__getattr__" = some none
  bx : PySem.W.subIn K (.ref (cl.xad c)) (.type "BaseException") = some true
  hd : PySem.W.hasDictIn K (cl.xad c) = true
  ca : PySem.W.findIn K (.ref (cl.xad c)) "__class__" = some (some (.builtin "object.__class__"))
  cn : PySem.W.specialIn K (.builtin "object.__class__") "__get__" = some (some (.builtin "getset_descriptor.__get__"))
  ct : PySem.W.takesIn K (.builtin "object.__class__") = some true
  mo : PySem.W.mroIn K (cl.xad c) (.type "object") = some true
  ty : PySem.W.typeIn K (.ref (cl.xad c)) = some (.type "type")
  kp : PySem.W.keepIn K (.ref (cl.xad c)) = true
  ve : PySem.W.kitOne K (.ref (cl.xad c)) (.type "ValueError") = some true
  sub : ∀ d, T.xs.contains d = true → PySem.W.subIn K (.ref (cl.xad c)) (.ref (cl.xad d)) = some (xsub c d) ∧ PySem.W.kitOne K (.ref (cl.xad c)) (.ref (cl.xad d)) = some (xsub c d)
  lo : xfN c = "" → PySem.W.excIn K (cl.xad c) He.veBase "ValueError.__new__" = true
  hi : xfN c ≠ "" → OexC K (cl.xad c) ∧ PySem.W.findIn K (.ref (cl.xad c)) "__init__" = some (some (.ref (He.ma K (cl.xad c) "__init__"))) ∧ PySem.W.typeIn K (.ref (He.ma K (cl.xad c) "__init__")) = some (.type "function") ∧ PySem.W.findIn K (.ref (cl.xad c)) (xfN c) = some none
/-- an error's __init__: the field is set -/
def spXI (C : Addr) (f : Str) : Sp := fun vs H Q _ => ∃ (a : Addr) (y : V), vs = [.ref a, y] ∧ H a = some (exo a C none) ∧ ∀ dx, H dx = none → dx ≠ a → Q .non (upd (upd H dx (exd dx [(f, y)])) a (exo a C (some dx)))
structure Lib (cl : Cl) (G : Ct) (T : Tab) (k : Nat) (P : Program) (w : World) (K : PySem.W.Frag) (mg : Str → Option Value) (base : Heap) : Prop where
  fn : ∀ i x, T.fn[i]? = some (some x) → ∃ f fd ps, mg x = some (.ref f) ∧ PySem.W.keepIn K (.ref f) = true ∧ Binds K fd ps [] ∧ FnG P w K mg base k f fd ps (spOf cl K (G.fn i))
  wo : cl.w = w
  bl : ∀ x ∈ blNames, mg x = none
  gl : ∀ i x, T.gl[i]? = some x → ∃ u v, mg x = some u ∧ RelV v u ∧ ∀ ι H, WR K ι H (G.gl i) v
  cls : ∀ c x, T.cls[c]? = some x → mg x = some (.ref (cl c))
  me : ∀ c m i, T.me.contains (c, m, i) = true → ∃ f fd ps, Cls K (cl c) ∧ Meth K (cl c) m f ∧ Binds K fd ps [] ∧ FnG P w K mg base k f fd ps (spOf cl K (G.fn i))
  pr : ∀ c m i, T.pr.contains (c, m, i) = true → ∃ p g fd ps, Cls K (cl c) ∧ PropOf K (cl c) m p g ∧ Binds K fd ps [] ∧ FnG P w K mg base k g fd ps (spOf cl K (G.fn i))
  mks : ∀ c i, T.mks.contains (c, i) = true → ∃ f fd ps, Mk K (cl c) f ∧ Binds K fd ps [] ∧ FnG P w K mg base k f fd ps (spOf cl K (G.fn i))
  fl : ∀ c f, T.fl.contains (c, f) = true → Cls K (cl c) ∧ NoAttr K (cl c) f
  xo : ∀ c, cl.xok c = T.xs.contains c
  xc : ∀ c, T.xs.contains c = true → XC cl T K mg c
  xi : ∀ c, (T.xi.map (·.1)).contains c = true → xfN c ≠ "" ∧ ∃ fd ps, Binds K fd ps [] ∧ FnOk P w K mg base (L2.CX P w) 1 (He.ma K (cl.xad c) "__init__") fd ps (spXI (cl.xad c) (xfN c))
  sys : SysD K
  isi : ∀ c, T.isi.contains c = true → IsiC K (cl c) ∧ ∀ d, T.isi.contains d = true → PySem.W.kitOne K (.ref (cl c)) (.ref (cl d)) = some (decide (c = d))
structure Ok (cl : Cl) (G : Ct) (T : Tab) (k : Nat) (N : List Str) (top : Str → Bool) (sc : Scope) (X : Cx) : Prop where
  hN : X.N = N
  nd : N.Nodup
  calm : X.calm = true
  gd : X.A.guards = some []
  room : Room (k + 1) X.A
  kpos : 1 ≤ k
  hsc : X.env.scope = sc
  lib : Lib cl G T k X.prog X.w X.K X.mg X.base
  top : ∀ x, top x = true → X.fn x = true

/-! ### side conditions -/
theorem seen_vis {sc : Scope} {x : Str} (h : seen sc x = true) : Vis sc x := by
  unfold seen at h
  unfold Vis
  cases q : sc.names.lookup x with
  | none => rw [q] at h; cases h
  | some k => rw [q] at h; cases k <;> first | exact .inl rfl | exact .inr (.inl rfl) | exact .inr (.inr rfl) | cases h
theorem owned_loc {sc : Scope} {x : Str} (h : owned sc x = true) : sc.names.lookup x = some .local := by
  unfold owned at h
  cases q : sc.names.lookup x with
  | none => rw [q] at h; cases h
  | some k => rw [q] at h; cases k <;> first | rfl | cases h
theorem glob_gl {X : Cx} {sc : Scope} {x : Str} (e : X.env.scope = sc) (h : glob sc x = true) : Gl X x := by
  unfold glob at h
  unfold Gl Env.kindOf
  rw [e]
  cases q : sc.names.lookup x with
  | none => rw [q] at h; cases h
  | some k => rw [q] at h; cases k <;> first | rfl | cases h
theorem plain3 {x : Str} (h : plainName x = true) : (x == ("__debug__" : Str)) = false ∧ (x == ("__classdict__" : Str)) = false ∧ x ≠ "__name__" := by
  unfold plainName at h
  rw [Bool.and_eq_true, Bool.and_eq_true] at h
  obtain ⟨⟨h1, h2⟩, h3⟩ := h
  refine ⟨by simpa using h1, by simpa using h2, fun e => ?_⟩
  subst e
  revert h3
  decide
theorem star_cons {e : Expr} {r : List Expr} {env : Env} (h : nst e = true) : starEach (e :: r) env = (false, eval e env) :: starEach r env := by
  cases e <;> first | rfl | cases h
theorem no_star {env : Env} {pos : Pos} : ∀ {es : List Expr}, es.all nst = true → (backTo pos (starEach es env)).any (·.1) = false
  | [], _ => rfl
  | e :: es, h => by
    rw [List.all_cons, Bool.and_eq_true] at h
    rw [star_cons h.1]
    exact no_star h.2
theorem all_star {env : Env} {pos : Pos} : ∀ {es : List Expr}, es.all nst = true → (backTo pos (starEach es env)).all (fun x => !x.1) = true
  | [], _ => rfl
  | e :: es, h => by
    rw [List.all_cons, Bool.and_eq_true] at h
    rw [star_cons h.1]
    exact all_star h.2
theorem plain_test {e : Expr} {env : Env} (h : plainT e = true) : ∀ whole, isTrue e env whole = (do let v ← whole; standAt e.pos; holding [v] (truthy v)) := by
  intro whole
  cases e <;> first | rfl | cases h
theorem no_swap {e : Expr} {t : Option Expr} {l : Nat} {env : Env} (h : noCmp e = true) : swapsWith e t l env = pure false := by
  cases e <;> first | rfl | cases h
theorem no_sup {e : Expr} {f : Str} {env : Env} (h : noSup e = true) : attributeBase e f env (eval e env) = eval e env := by
  unfold attributeBase
  split
  · cases h
  · rfl
theorem no_mark {op : CmpOp} {e : Expr} (h : noSet e = true) : behindInMarks op e = false := by
  cases e <;> first | rfl | cases h
theorem no_fold {e : Expr} {env : Env} (h : noSet e = true) : ∀ x, foldedSetIterable e env x = pure x := by
  intro x
  cases e <;> first | rfl | cases h
theorem no_sli {e : Expr} (h : noSli e = true) : PlainIx e := by
  intro o i
  cases e <;> first | rfl | cases h
theorem pw_bool {X : Cx} {op : BoolOp} {vs : List Expr} {pos : Pos} {t : TT} (h : PT X (.BoolOp op vs pos) t) : PW X (.BoolOp op vs pos) t := ⟨fun whole pins s σ H Q I q => h.run pins s σ H Q I q⟩
theorem no_marks {o1 o2 : CmpOp} {b c : Expr} (h2 : noSet c = true) : lastMarks [o1, o2] [b, c] = false := by
  show behindInMarks o2 c = false
  exact no_mark h2

theorem star_len {env : Env} {pos : Pos} : ∀ {es : List Expr}, es.all nst = true → (backTo pos (starEach es env)).length = es.length
  | [], _ => rfl
  | e :: es, h => by
    rw [List.all_cons, Bool.and_eq_true] at h
    rw [star_cons h.1]
    show (backTo pos (starEach es env)).length + 1 = es.length + 1
    rw [star_len h.2]
theorem eval_meth {x : Expr} {m : Str} {ap p : Pos} {vs : List Expr} {env : Env} (hs : noSup x = true) (hn : vs.all nst = true) (hl : vs.length < 20) (he : (ap.endLine == p.line) = true) :
    eval (.Call (.Attribute x m ap) vs [] p) env = (do
      let ov ← eval x env
      standAt ap.atName
      let (f, first) ← holding [ov] (getMethod ov m (do return (← importBound x env).getD true))
      callWith p f first (backTo p (starEach vs env)) (backToKw p (keywordEach [] env))) := by
  have hf : methodCallForm (vs.length + ([] : List Keyword).length) (backTo p (starEach vs env)) (backToKw p (keywordEach [] env)) = true := by
    unfold methodCallForm
    rw [all_star hn]
    show (true && true && decide (vs.length + 0 + 0 < 30)) = true
    rw [decide_eq_true (by omega)]
    rfl
  show (do
    let ov ← attributeBase x m env (eval x env)
    standAt ap.atName
    methodCall x m ap p env ov (vs.length + ([] : List Keyword).length) (backTo p (starEach vs env)) (backToKw p (keywordEach [] env))) = _
  rw [no_sup hs]
  simp only [methodCall, calleeOf, methodCallPos, hf, he, if_true, Bool.not_true, Bool.false_or]
  rfl
/-- o.f = v as a target -/
def gFld (K : PySem.W.Frag) (to : TE) (f : Str) : TG := fun v σ H Q => to σ H fun x H1 => ∃ a C dx fs, x = .ref a ∧ H1 a = some (.ins C dx fs) ∧ Cls K C ∧ NoAttr K C f ∧ fs.length < 1000 ∧ Q σ (upd H1 a (.ins C dx (putF f v fs)))
theorem pg_fld {X : Cx} {o : Expr} {to : TE} {f : Str} {pos : Pos} (ho : PE X o to) : PG X (.Attribute o f pos) (gFld X.K to f) := by
  refine ⟨fun pins s σ H v u Q I r h => ?_⟩
  show wpAny _ _ (do
      let ov ← holding [u] (eval o X.env)
      standAt pos.atName
      holding [u, ov] (setAttr ov f u)
      release [u, ov] []) _ _ _
  refine wpAny_bind (wpAny_holding (thn (ho.run pins s σ H _ I h) fun ov s1 ⟨x, H1, I1, r1, a, C, dx, fs, ex, ea, c, n, l, q⟩ => ?_))
  subst ex
  obtain rfl : ov = Value.ref a := r1
  refine wpAny_bind (wpAny_standAt (wpAny_bind (wpAny_holding (setattr_ok I1 ea c n l r fun s3 I3 => ?_))))
  exact wpAny_release ⟨σ, _, I3, q⟩
end Fb
set_option Elab.async false
set_option linter.all false
set_option maxRecDepth 100000
set_option maxHeartbeats 4000000
/-! Lite: what the evaluator says, the program does. -/
namespace Fb
open PySem PySem.Spec PyProof.Rows L2

section
variable {cl : Cl} {G : Ct} {T : Tab} {k : Nat} {N : List Str}
theorem Ok.h7 {top : Str → Bool} {sc : Scope} {X : Cx} (ok : Ok cl G T k N top sc X) : X.A.units + 70 < cLine := by
  have := ok.room.un
  omega
theorem Ok.hw {top : Str → Bool} {sc : Scope} {X : Cx} (ok : Ok cl G T k N top sc X) : cl.w = X.w := ok.lib.wo
theorem Ok.hu {top : Str → Bool} {sc : Scope} {X : Cx} (ok : Ok cl G T k N top sc X) : X.A.units + 64 < cLine := ok.room.units
theorem cmpW_bl {op : COp} {a b w : W} {S S1 : Sto} (h : cmpW op a b S = .ok w S1) : ∃ c, w = .bl c := by
  have bb : ∀ {α : Type} {m : M α} {g : α → W} , ((m >>= fun x => (pure (.bl (match g x with | .bl c => c | _ => false)) : M W)) S = .ok w S1) → ∃ c, w = .bl c := fun {α m g} h => by
    have e : (m >>= fun x => (pure (.bl (match g x with | .bl c => c | _ => false)) : M W)) S = M.bind m _ S := rfl
    rw [e] at h
    unfold M.bind at h
    cases q : m S with
    | ok a S' => rw [q] at h; cases h; exact ⟨_, rfl⟩
    | ex _ _ _ => rw [q] at h; cases h
    | no => rw [q] at h; cases h
  cases op with
  | eq =>
    have h : M.bind (eqM a b) (fun c => M.pure (.bl c)) S = .ok w S1 := h
    unfold M.bind at h
    cases q : eqM a b S with
    | ok c S' => rw [q] at h; cases h; exact ⟨_, rfl⟩
    | ex _ _ _ => rw [q] at h; cases h
    | no => rw [q] at h; cases h
  | ne =>
    have h : M.bind (eqM a b) (fun c => M.pure (.bl (!c))) S = .ok w S1 := h
    unfold M.bind at h
    cases q : eqM a b S with
    | ok c S' => rw [q] at h; cases h; exact ⟨_, rfl⟩
    | ex _ _ _ => rw [q] at h; cases h
    | no => rw [q] at h; cases h
  | isin =>
    have h : M.bind (inW a b) (fun c => M.pure (.bl c)) S = .ok w S1 := h
    unfold M.bind at h
    cases q : inW a b S with
    | ok c S' => rw [q] at h; cases h; exact ⟨_, rfl⟩
    | ex _ _ _ => rw [q] at h; cases h
    | no => rw [q] at h; cases h
  | notin =>
    have h : M.bind (inW a b) (fun c => M.pure (.bl (!c))) S = .ok w S1 := h
    unfold M.bind at h
    cases q : inW a b S with
    | ok c S' => rw [q] at h; cases h; exact ⟨_, rfl⟩
    | ex _ _ _ => rw [q] at h; cases h
    | no => rw [q] at h; cases h
  | _ => cases a <;> cases b <;> first | (cases h; exact ⟨_, rfl⟩) | cases h

/-! the parts, one by one: what the parts say, the whole says -/
variable {top : Str → Bool} {sc : Scope} {X : Cx}
abbrev SE (cl : Cl) (G : Ct) (X : Cx) (e : E) (e' : Expr) : Prop := ∀ {ι : List Addr} {S : Sto} {H : Hp} {env : En} {σ : L2.St} {Q : VK}, Rel cl X.K ι S H → ER X.K ι H env σ → Po cl X.K ι H (ev G e env S) (VW X.K Q) → tE X e' σ H Q
abbrev SC (cl : Cl) (G : Ct) (X : Cx) (e : C) (e' : Expr) : Prop := ∀ {ι : List Addr} {S : Sto} {H : Hp} {env : En} {σ : L2.St} {Q : Bool → Hp → Prop}, Rel cl X.K ι S H → ER X.K ι H env σ → Po cl X.K ι H (evT G e env S) (fun b _ _ H' => Q b H') → tT X e' σ H Q
abbrev SA (cl : Cl) (G : Ct) (X : Cx) (es : Es) (vs : List Expr) : Prop := ∀ {ι : List Addr} {S : Sto} {H : Hp} {env : En} {σ : L2.St} {Q : List V → Hp → Prop}, Rel cl X.K ι S H → ER X.K ι H env σ → Po cl X.K ι H (evs G es env S) (fun ws _ ι' H' => ∀ vs, WRs X.K ι' H' ws vs → Q vs H') → tA X vs σ H Q

theorem s_bin {op : BOp} {a b : E} {x y : Expr} {p : Pos} (ok : Ok cl G T k N top sc X) (ha : SE cl G X a x) (hb : SE cl G X b y) : SE cl G X (.bin op a b) (.BinOp x (bopP op) y p) := by
  intro ι S H env σ Q R E h
  refine ⟨_, pe_op (op_bin (cl := cl) op) pe_s pe_s, ?_⟩
  have h : Po cl X.K ι H ((ev G a env >>= fun x => ev G b env >>= fun y => binW op x y) S) (VW X.K Q) := h
  refine ha R E (Po.bind h fun w1 S1 ι1 H1 e1 h => ?_)
  intro v1 r1
  refine hb e1.rel (E.ext e1) (Po.bind h fun w2 S2 ι2 H2 e2 h => ?_)
  intro v2 r2
  exact ⟨ι2, S2, w1, w2, e2.rel, r1.ext e2, r2, h⟩
theorem s_un {op : UOp} {a : E} {x : Expr} {p : Pos} (ha : SE cl G X a x) : SE cl G X (.un op a) (.UnaryOp (uopP op) x p) := by
  intro ι S H env σ Q R E h
  refine ⟨_, pe_un (un_op (cl := cl) op (by cases op <;> rfl)) pe_s, ?_⟩
  have h : Po cl X.K ι H ((ev G a env >>= fun x => unW op x) S) (VW X.K Q) := h
  refine ha R E (Po.bind h fun w1 S1 ι1 H1 e1 h => ?_)
  intro v1 r1
  exact ⟨ι1, S1, w1, e1.rel, r1, h⟩
theorem s_not {a : E} {x : Expr} {p : Pos} (ha : SE cl G X a x) : SE cl G X (.not a) (.UnaryOp .Not x p) := by
  intro ι S H env σ Q R E h
  refine ⟨_, pe_notT pe_s, ?_⟩
  have h : Po cl X.K ι H ((ev G a env >>= fun x => truW x >>= fun b => pure (.bl (!b))) S) (VW X.K Q) := h
  refine ha R E (Po.bind h fun w1 S1 ι1 H1 e1 h => ?_)
  intro v1 r1
  have h := Po.bind (Ψ := fun b _ _ H' => Q (.bl (!b)) H') h fun b S2 ι2 H2 e2 h => Po.pure e2.rel h _ rfl
  exact tru_read e1.rel r1 h
theorem s_cmp {op : COp} {a b : E} {x y : Expr} {p : Pos} (ok : Ok cl G T k N top sc X) (ha : SE cl G X a x) (hb : SE cl G X b y) (hs : noSet y = true) : SE cl G X (.cmp op a b) (.Compare x [copP op] [y] p) := by
  intro ι S H env σ Q R E h
  refine ⟨_, pe_cmpR (op_cmp (cl := cl) ok.hw (by have := ok.h7; omega) op) pe_s pe_s (no_mark hs), ?_⟩
  have h : Po cl X.K ι H ((ev G a env >>= fun x => ev G b env >>= fun y => cmpW op x y) S) (VW X.K Q) := h
  refine ha R E (Po.bind h fun w1 S1 ι1 H1 e1 h => ?_)
  intro v1 r1
  refine hb e1.rel (E.ext e1) (Po.bind h fun w2 S2 ι2 H2 e2 h => ?_)
  intro v2 r2
  exact ⟨ι2, S2, w1, w2, e2.rel, r1.ext e2, r2, h⟩
theorem c_cmp {op : COp} {a b : E} {x y : Expr} {p : Pos} (ok : Ok cl G T k N top sc X) (ha : SE cl G X a x) (hb : SE cl G X b y) (hs : noSet y = true) : SC cl G X (.of (.cmp op a b)) (.Compare x [copP op] [y] p) := by
  intro ι S H env σ Q R E h
  refine ⟨_, pt_cmpR (op_cmp (cl := cl) ok.hw (by have := ok.h7; omega) op) pe_s pe_s (no_mark hs), ?_⟩
  have h : Po cl X.K ι H (((ev G a env >>= fun x => ev G b env >>= fun y => cmpW op x y) >>= truW) S) (fun b _ _ H' => Q b H') := h
  have h : Po cl X.K ι H ((ev G a env >>= fun x => ev G b env >>= fun y => cmpW op x y >>= truW) S) (fun b _ _ H' => Q b H') := by
    have e : ((ev G a env >>= fun x => ev G b env >>= fun y => cmpW op x y) >>= truW) S = (ev G a env >>= fun x => ev G b env >>= fun y => cmpW op x y >>= truW) S := by
      show M.bind (M.bind _ _) _ S = M.bind _ _ S
      unfold M.bind
      cases ev G a env S with
      | ok w S1 =>
        show M.bind (M.bind _ _) _ S1 = M.bind _ _ S1
        unfold M.bind
        cases ev G b env S1 <;> rfl
      | ex _ _ _ => rfl
      | no => rfl
    rw [← e]
    exact h
  refine ha R E (Po.bind h fun w1 S1 ι1 H1 e1 h => ?_)
  intro v1 r1
  refine hb e1.rel (E.ext e1) (Po.bind h fun w2 S2 ι2 H2 e2 h => ?_)
  intro v2 r2
  refine ⟨ι2, S2, w1, w2, e2.rel, r1.ext e2, r2, ?_⟩
  obtain ⟨w, S3, e3, h3⟩ := bind_po h
  obtain ⟨c, rfl⟩ := cmpW_bl e3
  rw [e3]
  intro ι3 H3 e3 v hv
  exact ⟨c, wr_bl hv, (Po.mono e3 h3) ι3 H3 (.refl e3.rel)⟩
end
end Fb
set_option Elab.async false
set_option linter.all false
set_option maxRecDepth 100000
set_option maxHeartbeats 4000000
namespace Fb
open PySem PySem.Spec PyProof.Rows L2
section
variable {cl : Cl} {G : Ct} {T : Tab} {k : Nat} {N : List Str} {top : Str → Bool} {sc : Scope} {X : Cx}
theorem bind_assoc' {α β γ : Type} (m : M α) (f : α → M β) (g : β → M γ) (S : Sto) : ((m >>= f) >>= g) S = (m >>= fun x => f x >>= g) S := by
  show M.bind (M.bind m f) g S = M.bind m (fun x => M.bind (f x) g) S
  unfold M.bind
  cases m S <;> rfl
theorem s_cmp2 {o1 o2 : COp} {a b c : E} {x y z : Expr} {p : Pos} (ok : Ok cl G T k N top sc X) (ha : SE cl G X a x) (hb : SE cl G X b y) (hc : SE cl G X c z) (hz : noSet z = true) : SE cl G X (.cmp2 o1 o2 a b c) (.Compare x [copP o1, copP o2] [y, z] p) := by
  intro ι S H env σ Q R E h
  refine ⟨_, pe_chain (op_cmp (cl := cl) ok.hw (by have := ok.h7; omega) o1) (op_cmp (cl := cl) ok.hw (by have := ok.h7; omega) o2) pe_s pe_s pe_s (no_marks hz), ?_⟩
  have h : Po cl X.K ι H ((ev G a env >>= fun x => ev G b env >>= fun y => cmpW o1 x y >>= fun r => match r with
    | .bl true => (ev G c env >>= fun z => cmpW o2 y z)
    | .bl false => pure (.bl false)
    | _ => Fb.fail) S) (VW X.K Q) := h
  refine ha R E (Po.bind h fun w1 S1 ι1 H1 e1 h => ?_)
  intro v1 r1
  refine hb e1.rel (E.ext e1) (Po.bind h fun w2 S2 ι2 H2 e2 h => ?_)
  intro v2 r2
  refine ⟨ι2, S2, w1, w2, e2.rel, r1.ext e2, r2, Po.bind h fun w3 S3 ι3 H3 e3 h => ?_⟩
  intro v3 r3
  cases w3 with
  | bl t =>
    refine ⟨t, wr_bl r3, ?_⟩
    cases t with
    | true =>
      rw [if_pos rfl]
      have h : Po cl X.K ι3 H3 ((ev G c env >>= fun z => cmpW o2 w2 z) S3) (VW X.K Q) := h
      refine hc e3.rel (E.ext (e1.trans (e2.trans e3))) (Po.bind h fun w4 S4 ι4 H4 e4 h => ?_)
      intro v4 r4
      exact ⟨ι4, S4, w2, w4, e4.rel, r2.ext (e3.trans e4), r4, h⟩
    | false =>
      rw [if_neg Bool.false_ne_true]
      exact Po.pure e3.rel h _ rfl
  | _ => exact h.elim
theorem c_cmp2 {o1 o2 : COp} {a b c : E} {x y z : Expr} {p : Pos} (ok : Ok cl G T k N top sc X) (ha : SE cl G X a x) (hb : SE cl G X b y) (hc : SE cl G X c z) (hz : noSet z = true) : SC cl G X (.of (.cmp2 o1 o2 a b c)) (.Compare x [copP o1, copP o2] [y, z] p) := by
  intro ι S H env σ Q R E h
  refine ⟨_, pt_chain (op_cmp (cl := cl) ok.hw (by have := ok.h7; omega) o1) (op_cmp (cl := cl) ok.hw (by have := ok.h7; omega) o2) pe_s pe_s pe_s (no_marks hz), ?_⟩
  have h : Po cl X.K ι H (((ev G a env >>= fun x => ev G b env >>= fun y => cmpW o1 x y >>= fun r => match r with
    | .bl true => (ev G c env >>= fun z => cmpW o2 y z)
    | .bl false => pure (.bl false)
    | _ => Fb.fail) >>= truW) S) (fun b _ _ H' => Q b H') := h
  rw [bind_assoc'] at h
  refine ha R E (Po.bind h fun w1 S1 ι1 H1 e1 h => ?_)
  rw [bind_assoc'] at h
  intro v1 r1
  refine hb e1.rel (E.ext e1) (Po.bind h fun w2 S2 ι2 H2 e2 h => ?_)
  rw [bind_assoc'] at h
  intro v2 r2
  refine ⟨ι2, S2, w1, w2, e2.rel, r1.ext e2, r2, Po.bind h fun w3 S3 ι3 H3 e3 h => ?_⟩
  intro v3 r3
  cases w3 with
  | bl t =>
    refine ⟨t, wr_bl r3, ?_⟩
    cases t with
    | true =>
      rw [if_pos rfl]
      have h : Po cl X.K ι3 H3 (((ev G c env >>= fun z => cmpW o2 w2 z) >>= truW) S3) (fun b _ _ H' => Q b H') := h
      rw [bind_assoc'] at h
      refine hc e3.rel (E.ext (e1.trans (e2.trans e3))) (Po.bind h fun w4 S4 ι4 H4 e4 h => ?_)
      intro v4 r4
      refine ⟨ι4, S4, w2, w4, e4.rel, r2.ext (e3.trans e4), r4, ?_⟩
      obtain ⟨w, S5, e5, h5⟩ := bind_po h
      obtain ⟨c, rfl⟩ := cmpW_bl e5
      rw [e5]
      intro ι6 H6 e6 v hv
      exact ⟨c, wr_bl hv, (Po.mono e6 h5) ι6 H6 (.refl e6.rel)⟩
    | false =>
      rw [if_neg Bool.false_ne_true]
      exact ⟨false, rfl, h ι3 H3 (.refl e3.rel)⟩
  | _ => exact h.elim
theorem s_and {a b : E} {x y : Expr} {r : List Expr} {p : Pos} {z : Expr} (ha : SE cl G X a x) (hb : SE cl G X b z) (hz : z = (match r with | [] => y | _ => .BoolOp .And (y :: r) p)) : SE cl G X (.and a b) (.BoolOp .And (x :: y :: r) p) := by
  intro ι S H env σ Q R E h
  have pb : PE X (.BoolOp .And (y :: r) p) (tE X z) := by
    cases r with
    | nil => subst hz; exact pe_one pe_s
    | cons _ _ => subst hz; exact pe_s
  refine ⟨_, pe_andT pe_s pb, ?_⟩
  have h : Po cl X.K ι H ((ev G a env >>= fun x => truW x >>= fun t => if t = true then ev G b env else pure x) S) (VW X.K Q) := h
  refine ha R E (Po.bind h fun w1 S1 ι1 H1 e1 h => ?_)
  intro v1 r1
  have h := Po.bind (Ψ := fun t _ _ H' => if t = true then tE X z σ H' Q else Q v1 H') h fun t S2 ι2 H2 e2 h => by
    cases t with
    | true => rw [if_pos rfl] at h ⊢; exact hb e2.rel (E.ext (e1.trans e2)) h
    | false => rw [if_neg Bool.false_ne_true] at h ⊢; exact Po.pure e2.rel h _ (r1.ext e2)
  exact tru_read e1.rel r1 h
theorem s_or {a b : E} {x y : Expr} {r : List Expr} {p : Pos} {z : Expr} (ha : SE cl G X a x) (hb : SE cl G X b z) (hz : z = (match r with | [] => y | _ => .BoolOp .Or (y :: r) p)) : SE cl G X (.or a b) (.BoolOp .Or (x :: y :: r) p) := by
  intro ι S H env σ Q R E h
  have pb : PE X (.BoolOp .Or (y :: r) p) (tE X z) := by
    cases r with
    | nil => subst hz; exact pe_one pe_s
    | cons _ _ => subst hz; exact pe_s
  refine ⟨_, pe_orT pe_s pb, ?_⟩
  have h : Po cl X.K ι H ((ev G a env >>= fun x => truW x >>= fun t => if t = true then pure x else ev G b env) S) (VW X.K Q) := h
  refine ha R E (Po.bind h fun w1 S1 ι1 H1 e1 h => ?_)
  intro v1 r1
  have h := Po.bind (Ψ := fun t _ _ H' => if t = true then Q v1 H' else tE X z σ H' Q) h fun t S2 ι2 H2 e2 h => by
    cases t with
    | true => rw [if_pos rfl] at h ⊢; exact Po.pure e2.rel h _ (r1.ext e2)
    | false => rw [if_neg Bool.false_ne_true] at h ⊢; exact hb e2.rel (E.ext (e1.trans e2)) h
  exact tru_read e1.rel r1 h
theorem s_ife {c : C} {a b : E} {z x y : Expr} {p : Pos} (hc : SC cl G X c z) (ha : SE cl G X a x) (hb : SE cl G X b y) : SE cl G X (.ife c a b) (.IfExp z x y p) := by
  intro ι S H env σ Q R E h
  refine ⟨_, pe_ifExp pt_s pe_s pe_s, ?_⟩
  have h : Po cl X.K ι H ((evT G c env >>= fun t => if t = true then ev G a env else ev G b env) S) (VW X.K Q) := h
  refine hc R E (Po.bind h fun t S1 ι1 H1 e1 h => ?_)
  cases t with
  | true => rw [if_pos rfl] at h ⊢; exact ha e1.rel (E.ext e1) h
  | false => rw [if_neg Bool.false_ne_true] at h ⊢; exact hb e1.rel (E.ext e1) h
theorem c_not {c : C} {z : Expr} {p : Pos} (hc : SC cl G X c z) : SC cl G X (.not c) (.UnaryOp .Not z p) := by
  intro ι S H env σ Q R E h
  refine ⟨_, pt_not pt_s, ?_⟩
  have h : Po cl X.K ι H ((evT G c env >>= fun t => pure (!t)) S) (fun b _ _ H' => Q b H') := h
  exact hc R E (Po.bind h fun t S1 ι1 H1 e1 h => Po.pure e1.rel h)
theorem c_and {a b : C} {x y : Expr} {r : List Expr} {p : Pos} {z : Expr} (ha : SC cl G X a x) (hb : SC cl G X b z) (hz : z = (match r with | [] => y | _ => .BoolOp .And (y :: r) p)) : SC cl G X (.and a b) (.BoolOp .And (x :: y :: r) p) := by
  intro ι S H env σ Q R E h
  have pb : PW X (.BoolOp .And (y :: r) p) (tT X z) := by
    cases r with
    | nil => subst hz; exact pw_and1 pt_s
    | cons _ _ => subst hz; exact pw_bool pt_s
  refine ⟨_, (pw_and pt_s pb).pt, ?_⟩
  have h : Po cl X.K ι H ((evT G a env >>= fun t => if t = true then evT G b env else pure false) S) (fun b _ _ H' => Q b H') := h
  refine ha R E (Po.bind h fun t S1 ι1 H1 e1 h => ?_)
  cases t with
  | true => rw [if_pos rfl] at h ⊢; exact hb e1.rel (E.ext e1) h
  | false => rw [if_neg Bool.false_ne_true] at h ⊢; exact Po.pure e1.rel h
theorem c_or {a b : C} {x y : Expr} {r : List Expr} {p : Pos} {z : Expr} (ha : SC cl G X a x) (hb : SC cl G X b z) (hz : z = (match r with | [] => y | _ => .BoolOp .Or (y :: r) p)) : SC cl G X (.or a b) (.BoolOp .Or (x :: y :: r) p) := by
  intro ι S H env σ Q R E h
  have pb : PW X (.BoolOp .Or (y :: r) p) (tT X z) := by
    cases r with
    | nil => subst hz; exact pw_or1 pt_s
    | cons _ _ => subst hz; exact pw_bool pt_s
  refine ⟨_, (pw_or pt_s pb).pt, ?_⟩
  have h : Po cl X.K ι H ((evT G a env >>= fun t => if t = true then pure true else evT G b env) S) (fun b _ _ H' => Q b H') := h
  refine ha R E (Po.bind h fun t S1 ι1 H1 e1 h => ?_)
  cases t with
  | true => rw [if_pos rfl] at h ⊢; exact Po.pure e1.rel h
  | false => rw [if_neg Bool.false_ne_true] at h ⊢; exact hb e1.rel (E.ext e1) h
theorem c_of {a : E} {x : Expr} (ha : SE cl G X a x) (hp : plainT x = true) : SC cl G X (.of a) x := by
  intro ι S H env σ Q R E h
  refine ⟨_, pt_truth pe_s (plain_test hp), ?_⟩
  have h : Po cl X.K ι H ((ev G a env >>= fun x => truW x) S) (fun b _ _ H' => Q b H') := h
  refine ha R E (Po.bind h fun w1 S1 ι1 H1 e1 h => ?_)
  intro v1 r1
  exact tru_read e1.rel r1 h
theorem s_ix {a i : E} {x y : Expr} {p : Pos} (ok : Ok cl G T k N top sc X) (ha : SE cl G X a x) (hb : SE cl G X i y) (hs : noSli y = true) : SE cl G X (.ix a i) (.Subscript x y p) := by
  intro ι S H env σ Q R E h
  refine ⟨_, pe_ix (ix_any ok.hu) pe_s pe_s (no_sli hs), ?_⟩
  have h : Po cl X.K ι H ((ev G a env >>= fun x => ev G i env >>= fun y => ixW x y) S) (VW X.K Q) := h
  refine ha R E (Po.bind h fun w1 S1 ι1 H1 e1 h => ?_)
  intro v1 r1
  refine hb e1.rel (E.ext e1) (Po.bind h fun w2 S2 ι2 H2 e2 h => ?_)
  intro v2 r2
  rw [← ok.hw]
  exact ix_read ⟨ι2, S2, w1, w2, e2.rel, r1.ext e2, r2, h⟩
abbrev SB (cl : Cl) (G : Ct) (X : Cx) (b : Bd) (e : Option Expr) : Prop := ∀ {ι : List Addr} {S : Sto} {H : Hp} {env : En} {σ : L2.St} {Q : Option Int → Hp → Prop}, Rel cl X.K ι S H → ER X.K ι H env σ → Po cl X.K ι H (evB G b env S) (fun o _ _ H' => Q o H') → tO X e σ H Q
theorem b_none : SB cl G X .none none := by
  intro ι S H env σ Q R E h
  exact ⟨_, po_none, Po.pure R h⟩
theorem b_of {a : E} {x : Expr} (ha : SE cl G X a x) : SB cl G X (.of a) (some x) := by
  intro ι S H env σ Q R E h
  refine ⟨_, po_some pe_s, ?_⟩
  have h : Po cl X.K ι H ((ev G a env >>= fun x => boundW x) S) (fun o _ _ H' => Q o H') := h
  refine ha R E (Po.bind h fun w1 S1 ι1 H1 e1 h => ?_)
  intro v1 r1
  cases w1 with
  | int i => cases wr_int r1; exact ⟨i, rfl, Po.pure e1.rel h⟩
  | _ => exact h.elim
theorem s_sl {a : E} {lo hi : Bd} {x : Expr} {l u : Option Expr} {p p2 : Pos} (ha : SE cl G X a x) (hl : SB cl G X lo l) (hu : SB cl G X hi u) : SE cl G X (.sl a lo hi) (.Subscript x (.Slice l u none p2) p) := by
  intro ι S H env σ Q R E h
  refine ⟨_, pe_slice (sl_W (cl := cl)) pe_s po_s po_s, ?_⟩
  have h : Po cl X.K ι H ((ev G a env >>= fun x => evB G lo env >>= fun l => evB G hi env >>= fun h => slW x l h) S) (VW X.K Q) := h
  refine ha R E (Po.bind h fun w1 S1 ι1 H1 e1 h => ?_)
  intro v1 r1
  refine hl e1.rel (E.ext e1) (Po.bind h fun o2 S2 ι2 H2 e2 h => ?_)
  refine hu e2.rel (E.ext (e1.trans e2)) (Po.bind h fun o3 S3 ι3 H3 e3 h => ?_)
  exact ⟨ι3, S3, w1, e3.rel, r1.ext (e2.trans e3), h⟩
theorem s_fld {a : E} {c : Nat} {f : Str} {x : Expr} {p : Pos} (ok : Ok cl G T k N top sc X) (ha : SE cl G X a x) (hs : noSup x = true) (hf : T.fl.contains (c, f) = true) : SE cl G X (.fld a c f) (.Attribute x f p) := by
  intro ι S H env σ Q R E h
  refine ⟨_, pe_fld pe_s (no_sup hs), ?_⟩
  have h : Po cl X.K ι H ((ev G a env >>= fun x => fldW x c f) S) (VW X.K Q) := h
  refine ha R E (Po.bind h fun w1 S1 ι1 H1 e1 h => ?_)
  intro v1 r1
  cases w1 with
  | loc n =>
    have h : Po cl X.K ι1 H1 ((getOb n >>= fun o => match o with
      | .ins d fs => if d = c then ofO (fs.lookup f) else Fb.fail
      | _ => Fb.fail) S1) (VW X.K Q) := h
    obtain ⟨o, b, q1, q2, q3, h⟩ := getOb_cases e1.rel h
    cases o with
    | ins d fs =>
      obtain ⟨ed, h2⟩ := ite_po h
      subst ed
      obtain ⟨y, e, q⟩ := ofO_po e1.rel h2
      obtain ⟨dx, vs, ho, hr⟩ := q3
      obtain ⟨v, l, wv⟩ := hr.lookup e
      obtain ⟨C, n⟩ := ok.lib.fl _ _ hf
      exact ⟨b, cl d, dx, vs, v, wr_loc r1 q2, ho, C, n, l, q v wv⟩
    | _ => exact h.elim
  | _ => exact h.elim
theorem a_nil : SA cl G X .nil [] := by
  intro ι S H env σ Q R E h
  exact ⟨_, pa_nil, Po.pure R h _ .nil⟩
theorem a_cons {e : E} {r : Es} {x : Expr} {xs : List Expr} (hs : nst x = true) (ha : SE cl G X e x) (hr : SA cl G X r xs) : SA cl G X (.cons e r) (x :: xs) := by
  intro ι S H env σ Q R E h
  refine ⟨_, pa_cons pe_s pa_s (star_cons hs), ?_⟩
  have h : Po cl X.K ι H ((ev G e env >>= fun x => evs G r env >>= fun xs => pure (x :: xs)) S) (fun ws _ ι' H' => ∀ vs, WRs X.K ι' H' ws vs → Q vs H') := h
  refine ha R E (Po.bind h fun w1 S1 ι1 H1 e1 h => ?_)
  intro v1 r1
  refine hr e1.rel (E.ext e1) (Po.bind h fun ws S2 ι2 H2 e2 h => ?_)
  intro vs rs
  exact Po.pure e2.rel h _ (.cons (r1.ext e2) rs)
theorem a_star {e : E} {r : Es} {x : Expr} {xs : List Expr} {p : Pos} (ha : SE cl G X e x) (hr : SA cl G X r xs) : SA cl G X (.star e r) (.Starred x p :: xs) := by
  intro ι S H env σ Q R E h
  refine ⟨_, StX.pa_star pe_s pa_s, ?_⟩
  have h : Po cl X.K ι H ((ev G e env >>= fun x => itemsOf x >>= fun ys => evs G r env >>= fun xs => pure (ys ++ xs)) S) (fun ws _ ι' H' => ∀ vs, WRs X.K ι' H' ws vs → Q vs H') := h
  refine ha R E (Po.bind h fun w1 S1 ι1 H1 e1 h => ?_)
  intro v1 r1
  obtain ⟨ys, S2, q, h2⟩ := bind_po h
  obtain ⟨q0, a, vs, rfl, s1, w⟩ := itemsOf_ok e1.rel q r1
  subst q0
  refine ⟨a, vs, rfl, s1.symm, ?_⟩
  refine hr e1.rel (E.ext e1) (Po.bind h2 fun ws S2 ι2 H2 e2 h => ?_)
  intro us rs
  exact Po.pure e2.rel h _ ((w.ext e2).append rs)
theorem s_tup {es : Es} {vs : List Expr} {j : Nat} {p : Pos} (ha : SA cl G X es vs) : SE cl G X (.tup es) (.Tuple vs j p) := by
  intro ι S H env σ Q R E h
  refine ⟨_, pe_tup pa_s, ?_⟩
  have h : Po cl X.K ι H ((evs G es env >>= fun xs => if xs.length ≤ sizeLine then pure (.tup xs) else Fb.fail) S) (VW X.K Q) := h
  refine ha R E (Po.bind h fun ws S1 ι1 H1 e1 h => ?_)
  intro us rs
  obtain ⟨c, h⟩ := ite_po h
  exact ⟨by rw [rs.length]; exact c, fun p' hp' => h ι1 _ (e1.rel.newT hp') _ (new_tup hp' rs)⟩
theorem s_lst {es : Es} {vs : List Expr} {p : Pos} (ha : SA cl G X es vs) : SE cl G X (.lst es) (.List vs p) := by
  intro ι S H env σ Q R E h
  refine ⟨_, pe_lst pa_s, ?_⟩
  have h : Po cl X.K ι H ((evs G es env >>= fun xs => if xs.length ≤ sizeLine then new (.lst xs) else Fb.fail) S) (VW X.K Q) := h
  refine ha R E (Po.bind h fun ws S1 ι1 H1 e1 h => ?_)
  intro us rs
  obtain ⟨c, h⟩ := ite_po h
  exact ⟨by rw [rs.length]; exact c, fun p' hp' => h _ _ (e1.rel.newL hp' rs) _ (wr_new e1.rel)⟩
/-- calls -/
theorem s_call0 {f : Nat} {x : Str} {q p : Pos} (ok : Ok cl G T k N top sc X) (hf : T.fn[f]? = some (some x)) (hg : glob sc x = true) (hp : plainName x = true) : SE cl G X (.call f .nil) (.Call (.Name x q) [] [] p) := by
  intro ι S H env σ Q R E h
  obtain ⟨fa, fd, ps, hm, kp, hb, F⟩ := ok.lib.fn f x hf
  have h : Po cl X.K ι H (G.fn f [] S) (VW X.K Q) := h
  refine ⟨_, g_call0 ok.gd F (ok.room.mono (Nat.le_succ k)) (glob_gl ok.hsc hg) hm kp hb (fun _ => pat0) (plain3 hp).1, ?_⟩
  exact ⟨ι, S, [], R, .nil, h.toX⟩
theorem s_call {f : Nat} {es : Es} {x : Str} {q p : Pos} {v : Expr} {vs : List Expr} (ok : Ok cl G T k N top sc X) (hf : T.fn[f]? = some (some x)) (hg : glob sc x = true) (hp : plainName x = true) (hn : (v :: vs).all nst = true) (ha : SA cl G X es (v :: vs)) : SE cl G X (.call f es) (.Call (.Name x q) (v :: vs) [] p) := by
  intro ι S H env σ Q R E h
  obtain ⟨fa, fd, ps, hm, kp, hb, F⟩ := ok.lib.fn f x hf
  have h : Po cl X.K ι H ((evs G es env >>= fun xs => G.fn f xs) S) (VW X.K Q) := h
  rw [List.all_cons, Bool.and_eq_true] at hn
  refine ⟨_, g_call ok.gd F (ok.room.mono (Nat.le_succ k)) (glob_gl ok.hsc hg) hm kp hb (fun _ => pat0) pa_s (plain3 hp).1 (star_cons hn.1) (no_star hn.2), ?_⟩
  refine ha R E (Po.bind h fun ws S1 ι1 H1 e1 h => ?_)
  intro us rs
  exact ⟨ι1, S1, ws, e1.rel, rs, h.toX⟩
theorem s_prop {a : E} {c m : Nat} {f : Str} {x : Expr} {p : Pos} (ok : Ok cl G T k N top sc X) (ha : SE cl G X a x) (hs : noSup x = true) (hf : T.pr.contains (c, f, m) = true) : SE cl G X (.prop a c f m) (.Attribute x f p) := by
  intro ι S H env σ Q R E h
  obtain ⟨pa, g, fd, ps, C, hp, hb, F⟩ := ok.lib.pr _ _ _ hf
  refine ⟨_, g_prop ok.gd pe_s C hp F ok.room hb (no_sup hs), ?_⟩
  have h : Po cl X.K ι H ((ev G a env >>= fun x => match x with
    | .loc n => (getOb n >>= fun o => match o with
      | .ins d fs => if d = c ∧ fs.lookup f = none then G.fn m [x] else Fb.fail
      | _ => Fb.fail)
    | _ => Fb.fail) S) (VW X.K Q) := h
  refine ha R E (Po.bind h fun w1 S1 ι1 H1 e1 h => ?_)
  intro v1 r1
  cases w1 with
  | loc n =>
    obtain ⟨o, b, q1, q2, q3, h⟩ := getOb_cases e1.rel h
    cases o with
    | ins d fs =>
      obtain ⟨⟨ed, _⟩, h2⟩ := ite_po h
      subst ed
      obtain ⟨dx, vs, ho, hr⟩ := q3
      refine ⟨b, dx, vs, wr_loc r1 q2, ho, ?_⟩
      refine ⟨ι1, S1, [.loc n], e1.rel, .cons ?_ .nil, h2.toX⟩
      rw [← wr_loc r1 q2]
      exact r1
    | _ => exact h.elim
  | _ => exact h.elim
theorem meth_cases {a : E} {c f : Nat} {m : Str} {es : Es} {env : En} {ι : List Addr} {S : Sto} {H : Hp} {Q : VK} (h : Po cl X.K ι H (ev G (.meth a c m f es) env S) (VW X.K Q)) :
    Po cl X.K ι H ((ev G a env >>= fun x => match x with
    | .loc n => (getOb n >>= fun o => match o with
      | .ins d fs => if d = c ∧ fs.lookup m = none then (evs G es env >>= fun vs => G.fn f (x :: vs)) else Fb.fail
      | _ => Fb.fail)
    | _ => Fb.fail) S) (VW X.K Q) := h
theorem s_meth0 {a : E} {c f : Nat} {m : Str} {x : Expr} {ap p : Pos} (ok : Ok cl G T k N top sc X) (ha : SE cl G X a x) (hsup : noSup x = true) (hl : (ap.endLine == p.line) = true) (hf : T.me.contains (c, m, f) = true) : SE cl G X (.meth a c m f .nil) (.Call (.Attribute x m ap) [] [] p) := by
  intro ι S H env σ Q R E h
  obtain ⟨fa, fd, ps, C, hm, hb, F⟩ := ok.lib.me _ _ _ hf
  refine ⟨_, g_meth0 ok.gd pe_s C hm F (ok.room.mono (Nat.le_succ k)) hb (fun _ => pat0) (eval_meth hsup rfl (by decide) hl), ?_⟩
  have h := meth_cases h
  refine ha R E (Po.bind h fun w1 S1 ι1 H1 e1 h => ?_)
  intro v1 r1
  cases w1 with
  | loc n =>
    obtain ⟨o, b, q1, q2, q3, h⟩ := getOb_cases e1.rel h
    cases o with
    | ins d fs =>
      obtain ⟨⟨ed, l⟩, h2⟩ := ite_po h
      subst ed
      obtain ⟨dx, vs, ho, hr⟩ := q3
      refine ⟨b, dx, vs, wr_loc r1 q2, ho, hr.lookup_none l, ?_⟩
      exact ⟨ι1, S1, [.loc n], e1.rel, .cons (wr_loc r1 q2 ▸ r1) .nil, h2.toX⟩
    | _ => exact h.elim
  | _ => exact h.elim
theorem s_meth {a : E} {c f : Nat} {m : Str} {es : Es} {x : Expr} {ap p : Pos} {v : Expr} {vs : List Expr} (ok : Ok cl G T k N top sc X) (ha : SE cl G X a x) (hsup : noSup x = true) (hl : (ap.endLine == p.line) = true) (hlen : (v :: vs).length < 20) (hf : T.me.contains (c, m, f) = true) (hn : (v :: vs).all nst = true) (hs : SA cl G X es (v :: vs)) :
    SE cl G X (.meth a c m f es) (.Call (.Attribute x m ap) (v :: vs) [] p) := by
  intro ι S H env σ Q R E h
  obtain ⟨fa, fd, ps, C, hm, hb, F⟩ := ok.lib.me _ _ _ hf
  have hm' := eval_meth (env := X.env) (m := m) hsup hn hlen hl
  rw [List.all_cons, Bool.and_eq_true] at hn
  refine ⟨_, g_meth ok.gd pe_s C hm F (ok.room.mono (Nat.le_succ k)) hb (fun _ => pat0) pa_s (star_cons hn.1) (no_star hn.2) hm', ?_⟩
  have h := meth_cases h
  refine ha R E (Po.bind h fun w1 S1 ι1 H1 e1 h => ?_)
  intro v1 r1
  cases w1 with
  | loc n =>
    obtain ⟨o, b, q1, q2, q3, h⟩ := getOb_cases e1.rel h
    cases o with
    | ins d fs =>
      obtain ⟨⟨ed, l⟩, h2⟩ := ite_po h
      subst ed
      obtain ⟨dx, vs, ho, hr⟩ := q3
      refine ⟨b, dx, vs, wr_loc r1 q2, ho, hr.lookup_none l, ?_⟩
      refine hs e1.rel (E.ext e1) (Po.bind h2 fun ws S2 ι2 H2 e2 h => ?_)
      intro us rs
      exact ⟨ι2, S2, .loc n :: ws, e2.rel, .cons (WR.ext e2 (wr_loc r1 q2 ▸ r1)) rs, h.toX⟩
    | _ => exact h.elim
  | _ => exact h.elim
/-- a new instance -/
theorem Rel.newI {ι : List Addr} {S : Sto} {H : Hp} (r : Rel cl X.K ι S H) {x dx : Addr} {c : Nat} (hx : H x = none) (hd : H dx = none) (ne : dx ≠ x) : Ext cl X.K ι H (ι ++ [x]) (S ++ [.ins c []]) (upd (upd H dx (.own x)) x (.ins (cl c) dx [])) := by
  have hx' : upd H dx (.own x) x = none := by rw [upd_ne (Ne.symm ne)]; exact hx
  refine r.new hx ((Mono.new hd).trans (.new hx')) (fun b u e => up_new hx' _ _ (up_new hd _ _ e)) (fun _ q => nomatch q) ⟨dx, [], upd_same, rfl⟩
theorem mk_cases {c f : Nat} {es : Es} {env : En} {ι : List Addr} {S : Sto} {H : Hp} {Q : VK} (h : Po cl X.K ι H (ev G (.mk c f es) env S) (VW X.K Q)) :
    Po cl X.K ι H ((evs G es env >>= fun vs => new (.ins c []) >>= fun x => G.fn f (x :: vs) >>= fun r => match r with
      | .non => pure x
      | _ => Fb.fail) S) (VW X.K Q) := h
theorem mk_read {c f : Nat} {ws : List W} {us : List V} {ι : List Addr} {S : Sto} {H : Hp} {Q : VK} (R : Rel cl X.K ι S H) (rs : WRs X.K ι H ws us) (h : Po cl X.K ι H ((new (.ins c []) >>= fun x => G.fn f (x :: ws) >>= fun r => match r with
      | .non => pure x
      | _ => Fb.fail) S) (VW X.K Q)) : ∀ x dx, H x = none → H dx = none → dx ≠ x → spOf cl X.K (G.fn f) (.ref x :: us) (upd (upd H dx (.own x)) x (.ins (cl c) dx [])) (fun v H2 => v = .non ∧ Q (.ref x) H2) E0 := by
  intro x dx hx hd ne
  have X1 := R.newI (c := c) hx hd ne
  have h2 : Po cl X.K (ι ++ [x]) (upd (upd H dx (.own x)) x (.ins (cl c) dx [])) ((G.fn f (.loc S.length :: ws) >>= fun r => match r with
      | .non => pure (.loc S.length)
      | _ => Fb.fail) (S ++ [.ins c []])) (VW X.K Q) := Po.mono X1 h
  refine ⟨ι ++ [x], _, .loc S.length :: ws, X1.rel, .cons (wr_new R) (rs.ext X1), Po.toX (Po.bind h2 fun r S3 ι3 H3 e3 h3 => ?_)⟩
  intro v hv
  cases r with
  | non =>
    refine ⟨wr_non hv, Po.pure e3.rel h3 _ ?_⟩
    exact (wr_new R : WR X.K (ι ++ [x]) (upd (upd H dx (.own x)) x (.ins (cl c) dx [])) (.loc S.length) (.ref x)).ext e3
  | _ => exact h3.elim
theorem s_mk0 {c f : Nat} {x : Str} {q p : Pos} (ok : Ok cl G T k N top sc X) (hc : T.cls[c]? = some x) (hf : T.mks.contains (c, f) = true) (hg : glob sc x = true) (hp : plainName x = true) : SE cl G X (.mk c f .nil) (.Call (.Name x q) [] [] p) := by
  intro ι S H env σ Q R E h
  obtain ⟨fa, fd, ps, M, hb, F⟩ := ok.lib.mks _ _ hf
  refine ⟨_, g_mk0 ok.gd M F ok.room (glob_gl ok.hsc hg) (ok.lib.cls _ _ hc) hb (fun _ => pat0) (plain3 hp).1, ?_⟩
  exact mk_read R .nil (mk_cases h)
theorem s_mk {c f : Nat} {es : Es} {x : Str} {q p : Pos} {v : Expr} {vs : List Expr} (ok : Ok cl G T k N top sc X) (hc : T.cls[c]? = some x) (hf : T.mks.contains (c, f) = true) (hg : glob sc x = true) (hp : plainName x = true) (hn : (v :: vs).all nst = true) (ha : SA cl G X es (v :: vs)) :
    SE cl G X (.mk c f es) (.Call (.Name x q) (v :: vs) [] p) := by
  intro ι S H env σ Q R E h
  obtain ⟨fa, fd, ps, M, hb, F⟩ := ok.lib.mks _ _ hf
  rw [List.all_cons, Bool.and_eq_true] at hn
  refine ⟨_, g_mk ok.gd M F ok.room (glob_gl ok.hsc hg) (ok.lib.cls _ _ hc) hb (fun _ => pat0) pa_s (plain3 hp).1 (star_cons hn.1) (no_star hn.2), ?_⟩
  refine ha R E (Po.bind (mk_cases h) fun ws S1 ι1 H1 e1 h => ?_)
  intro us rs
  exact mk_read e1.rel rs h
theorem bt_mem (b : Bt) : btName b ∈ blNames := by cases b <;> decide
theorem bt_boot (b : Bt) : bootBuiltins (btName b) = some (btVal b) := by cases b <;> decide +kernel
theorem bt_dbg (b : Bt) : (btName b == ("__debug__" : Str)) = false ∧ btName b ≠ "__name__" := by cases b <;> decide
theorem s_blt {b : Bt} {es : Es} {q p : Pos} {v : Expr} {vs : List Expr} (ok : Ok cl G T k N top sc X) (hg : glob sc (btName b) = true) (hn : (v :: vs).all nst = true) (ha : SA cl G X es (v :: vs)) : SE cl G X (.blt b es) (.Call (.Name (btName b) q) (v :: vs) [] p) := by
  intro ι S H env σ Q R E h
  have h : Po cl X.K ι H ((evs G es env >>= fun xs => bltW b xs) S) (VW X.K Q) := h
  rw [List.all_cons, Bool.and_eq_true] at hn
  have cb := call_blt (cl := cl) ok.lib.sys ok.gd ok.h7 ok.calm b
  have bb := bt_boot b
  have hq : tCB (rC cl X.K (bltW b)) (tA X (v :: vs)) σ H Q := by
    refine ha R E (Po.bind h fun ws S1 ι1 H1 e1 h => ?_)
    intro us rs
    exact ⟨ι1, S1, ws, e1.rel, rs, h⟩
  unfold btVal at cb bb
  by_cases t : btTy b = true
  · rw [if_pos t] at cb bb
    exact ⟨_, pe_callTy cb (glob_gl ok.hsc hg) (ok.lib.bl _ (bt_mem b)) bb pa_s (bt_dbg b).2 (bt_dbg b).1 (star_cons hn.1) (no_star hn.2), hq⟩
  · rw [if_neg t] at cb bb
    exact ⟨_, pe_callB cb (glob_gl ok.hsc hg) (ok.lib.bl _ (bt_mem b)) bb pa_s (bt_dbg b).2 (bt_dbg b).1 (star_cons hn.1) (no_star hn.2), hq⟩
end
end Fb
set_option Elab.async false
set_option linter.all false
set_option maxRecDepth 100000
set_option maxHeartbeats 2000000
/-! Lite: ranges of any numbers, walked. -/
namespace Fb
open PySem PySem.Spec PyProof.Rows L2
theorem turn_long {P : Program} {w : World} {K : PySem.W.Frag} {tg : Expr} (it : Addr) (lo : Int) (n : Nat) : Turn P w K tg (Itr lo n) [it] it (fun i h => IsLongIter h it (lo + (i : Nat) * 1) ((n : Int) - (i : Nat)) 1) where
  mem := by simp
  obj := fun i h st b hb => by
    have e : b = it := by simpa using hb
    subst e
    exact ⟨_, st, fun v z => by
      have z' : Data.fields _ = Data.cell v := z
      cases z'⟩
  keep := fun i h h' st k => k it (by simp) _ st
  item := by
    intro X hP hw hK hc i pins s σ H E I hf st hg
    subst hP hw hK
    obtain ⟨f0, f1, f2, f3, f4, f5⟩ := hf it (by simp)
    have W := Walks.longrange (prog := X.prog) (w := X.w) (I.ok.hd hc) it lo 1 n
    refine W.item i s _ _ hg st fun v h' tk hv st' kk => ?_
    obtain ⟨t, rfl⟩ := hv
    have I1 : Inv X pins σ H { s with heap := h', toks := tk } := I.turned (fun b o hb e => kk b o (by simpa using hb) e) f0 f1 f3 f4 f5
    refine ⟨_, rfl, go_of (s := { s with heap := h', toks := tk }) (n := "longrange_iterator") st' rfl rfl (by decide) ⟨.int (lo + i), H, I1, ⟨t, ?_⟩, ⟨rfl, rfl⟩, st', fun b hb => (hf b hb).1⟩⟩
    rw [Int.mul_one]
  done := by
    intro X hP hw hK hc i pins s σ H E I hf st hg
    subst hP hw hK
    obtain ⟨f0, f1, f2, f3, f4, f5⟩ := hf it (by simp)
    exact wpAny_pyNext_long_end (I.ok.hd hc) st (by have : n ≤ i := hg; omega) fun h' eb => ⟨rfl, I.turned (t' := s.toks) (fun b o hb e => eb b o hb e) f0 f1 f3 f4 f5⟩
  self := fun _ _ _ _ _ st h => wpAny_pyIter_longiter st h
section
variable {X : Cx} {tg : Expr}
theorem range_itA {pins : List (Addr × Obj)} {σ : L2.St} {H : Hp} {s : Shared} {R : L2.It → Hp → Prop} {E : Value → Shared → Prop} {lo hi : Int} {t u v : Tok} {tk : Nat} (I : Inv X pins σ H s)
    (q : R (Itr lo (hi - lo).toNat) H) : wpAny (model X.prog X.w) X.A (pyIter (.ref s.heap.objs.size)) (PIE X pins σ tg R) E { s with heap := s.heap.push { cls := .type "range", data := .fields #[.int lo t, .int hi u, .int 1 v] }, toks := tk } := by
  have I1 : Inv X pins σ H { s with heap := s.heap.push { cls := .type "range", data := .fields #[.int lo t, .int hi u, .int 1 v] }, toks := tk } := I.kept fun b o e => Heap.get?_push_of_some _ e
  have e1 : lo + ((0 : Nat) : Int) * 1 = lo := by simp
  have e2 : (((hi - lo).toNat : Nat) : Int) - ((0 : Nat) : Int) = Builtin.Range.rangeSize lo hi 1 := by rw [rangeSize_one]; split <;> omega
  cases hs : Builtin.Range.small lo hi 1 with
  | true =>
    refine wpAny_pyIter_range (IsRange.new ..) hs ?_
    refine ⟨(s.heap.push { cls := .type "range", data := .fields #[.int lo t, .int hi u, .int 1 v] }).objs.size, [(s.heap.push { cls := .type "range", data := .fields #[.int lo t, .int hi u, .int 1 v] }).objs.size], _, _, H, rfl,
      I1.kept (t' := tk) fun b o e => Heap.get?_push_of_some _ e, turn_range _ lo (hi - lo).toNat, ?_, fun b hb => ?_, q⟩
    · show IsRangeIter _ _ (lo + ((0 : Nat) : Int) * 1) ((((hi - lo).toNat : Nat) : Int) - ((0 : Nat) : Int)) 1
      rw [e1, e2]
      exact Heap.get?_push_size _ rfl
    · have e : b = (s.heap.push { cls := .type "range", data := .fields #[.int lo t, .int hi u, .int 1 v] }).objs.size := by simpa using hb
      subst e
      exact I1.fpOk (Nat.le_refl _) (I1.hok.fresh (Nat.le_refl _))
  | false =>
    refine wpAny_pyIter_longrange (IsRange.new ..) hs ?_
    refine ⟨(s.heap.push { cls := .type "range", data := .fields #[.int lo t, .int hi u, .int 1 v] }).objs.size, [(s.heap.push { cls := .type "range", data := .fields #[.int lo t, .int hi u, .int 1 v] }).objs.size], _, _, H, rfl,
      I1.kept (t' := tk) fun b o e => Heap.get?_push_of_some _ e, turn_long _ lo (hi - lo).toNat, ?_, fun b hb => ?_, q⟩
    · show IsLongIter _ _ (lo + ((0 : Nat) : Int) * 1) ((((hi - lo).toNat : Nat) : Int) - ((0 : Nat) : Int)) 1
      rw [e1, e2]
      exact Heap.get?_push_size _ rfl
    · have e : b = (s.heap.push { cls := .type "range", data := .fields #[.int lo t, .int hi u, .int 1 v] }).objs.size := by simpa using hb
      subst e
      exact I1.fpOk (Nat.le_refl _) (I1.hok.fresh (Nat.le_refl _))
def iRngA1 (ta : TA) : TI := fun σ H R => ta σ H fun vs H1 => ∃ j : Int, vs = [.int j] ∧ R (Itr 0 j.toNat) H1
def iRngA2 (ta : TA) : TI := fun σ H R => ta σ H fun vs H1 => ∃ i j : Int, vs = [.int i, .int j] ∧ R (Itr i (j - i).toNat) H1
theorem pi_rangeA1 {a : Expr} {ta : TA} {p pos : Pos} (hg : Gl X "range") (hm : X.mg "range" = none) (ha : PA X [a] ta) (hs : starEach [a] X.env = [(false, eval a X.env)] := by rfl) : PI X tg (.Call (.Name "range" p) [a] [] pos) (iRngA1 ta) := by
  refine ⟨fun pins s σ H R I h => ?_⟩
  refine Call_ (ld_blt I hg hm boot_range (PyProof.Rows.callWith_type1 (thn (ha.run pos pins s σ H _ I h) fun us s1 ⟨vs, H1, I1, r1, q1⟩ => ?_) hs rfl))
  obtain ⟨j, e, q⟩ := q1
  subst e
  cases r1 with
  | cons r rr =>
    cases rr
    obtain ⟨t, rfl⟩ := r
    exact call_range_1 (range_itA I1 (by simpa using q))
theorem pi_rangeA2 {a b : Expr} {ta : TA} {p pos : Pos} (hg : Gl X "range") (hm : X.mg "range" = none) (ha : PA X [a, b] ta) (hs : starEach [a, b] X.env = [(false, eval a X.env), (false, eval b X.env)] := by rfl) (hs2 : starEach [b] X.env = [(false, eval b X.env)] := by rfl) :
    PI X tg (.Call (.Name "range" p) [a, b] [] pos) (iRngA2 ta) := by
  refine ⟨fun pins s σ H R I h => ?_⟩
  refine Call_ (ld_blt I hg hm boot_range (PyProof.Rows.callWith_type1 (thn (ha.run pos pins s σ H _ I h) fun us s1 ⟨vs, H1, I1, r1, q1⟩ => ?_) (by rw [hs, hs2]) (by rw [hs2]; rfl)))
  obtain ⟨i, j, e, q⟩ := q1
  subst e
  cases r1 with
  | cons r rr =>
    cases rr with
    | cons r' rr =>
      cases rr
      obtain ⟨t, rfl⟩ := r
      obtain ⟨t', rfl⟩ := r'
      exact call_range_2 (range_itA I1 q)
end
end Fb
set_option Elab.async false
set_option linter.all false
set_option maxRecDepth 100000
set_option maxHeartbeats 4000000
/-! Lite: enumerate of a tuple. -/
namespace PySem
open Sem (wp)
open AutoSeq1 (wpAny_loadPart')
theorem fb_meets_enum {v : Value} {o : Obj} {H : Heap → Prop} (B : Begins v o H) :
    Meets (Builtin.«enumerate.__new__» ⟨[.type "enumerate", v], []⟩) (fun _ R s => H s.heap ∧
      R (.ok (.ret (.ref (s.heap.push o).objs.size))) { s with heap := (s.heap.push o).push { cls := .type "enumerate", data := .fields #[.none, .bool false, .ref s.heap.objs.size, rawInt 0, .none, .none] } }) :=
  .of_wp fun prog w A R s h => by
    obtain ⟨hp, g, d, tk, os⟩ := s
    obtain ⟨h1, h⟩ := h
    have hsub := sub_enumerate
    have q1 : ∀ {A' : Around} {E : Value → Shared → Prop} {Q : Value → Shared → Prop}, Q (.ref hp.objs.size) ⟨hp.push o, g, d, tk, os⟩ → wpAny (model prog w) A' (pyIter v) Q E ⟨hp, g, d, tk, os⟩ :=
      fun q => B.iter prog w _ _ ⟨hp, g, d, tk, os⟩ _ h1 q
    wp_walk using q1
    refine wpAny_stack_any fun st => wpAny_pure ?_
    split
    · rename_i c _ _ _ _ _
      cases (c == Value.type "enumerate")
      · wp_walk using q1
        exact ⟨_, rfl, h⟩
      · wp_walk using q1
        exact ⟨_, rfl, h⟩
    · wp_walk using q1
      exact ⟨_, rfl, h⟩
section
variable {prog : Program} {w : World} {A : Around} {E : Value → Shared → Prop} {s : Shared}
theorem fb_enum_begins {v : Value} {o : Obj} {H : Heap → Prop} {Q : Value → Shared → Prop} (B : Begins v o H) (h1 : H s.heap)
    (h : ∀ h', IsEnum h' (s.heap.objs.size + 1) s.heap.objs.size 0 .none → h'.get? s.heap.objs.size = some o → h'.objs.size = s.heap.objs.size + 2 →
      (∀ b o, s.heap.get? b = some o → h'.get? b = some o) → Q (.ref (s.heap.objs.size + 1)) { s with heap := h' }) :
    wpAny (model prog w) A (call (.type "enumerate") [v]) Q E s := by
  refine callType_new F.called_enumerate (by decide) (F.typeCall_enumerate_1 _) (F.newCall_enumerate_1 _) (fun obj => F.args_object_init_2 obj _) F.entry_enumerate_new
    (fb_meets_enum B) ⟨h1, ?_⟩
  have hz : (s.heap.push o).objs.size = s.heap.objs.size + 1 := Heap.size_push ..
  show _ ∧ _
  rw [hz]
  have he : IsEnum ((s.heap.push o).push { cls := .type "enumerate", data := .fields #[.none, .bool false, .ref s.heap.objs.size, rawInt 0, .none, .none] }) (s.heap.objs.size + 1) s.heap.objs.size 0 .none := by
    have := Heap.get?_push_size (s.heap.push o) (o := { cls := .type "enumerate", data := .fields #[.none, .bool false, .ref s.heap.objs.size, rawInt 0, .none, .none] }) rfl
    rw [hz] at this; exact this
  refine ⟨⟨_, he, rfl⟩, h _ he (Heap.get?_push_of_some _ (Heap.get?_push_size _ B.free)) (by rw [Heap.size_push, hz]) fun b o x => Heap.get?_push_of_some _ (Heap.get?_push_of_some _ x)⟩
theorem fb_enum_endT {e it a : Addr} {i : Nat} {items : Array Value} {old : Value} {Q : Option Value → Shared → Prop} (hh : A.handled = none) (nea : a ≠ it)
    (he : IsEnum s.heap e it ((i : Nat) : Int) old) (hit : s.heap.IsTupleIter it a i) (hp : s.heap.IsTuple a items) (hx : items[i]? = none)
    (hQ : ∀ h', Heap.ExtBut it s.heap h' → Q none { s with heap := h' }) : wpAny (model prog w) A (pyNext (.ref e)) Q E s :=
  wpAny_pyNext_enum_endD (fp := [it, a]) (n := i) (P := fun _ _ => True) (St := fun j h => j = i ∧ h.IsTupleIter it a i ∧ h.IsTuple a items)
    { live := fun _ _ st => let ⟨o, ho, _⟩ := st.2.1; ⟨o, ho⟩
      frame := fun _ _ _ st hk => ⟨st.1, st.2.1.at fun o e => hk it (by simp) o e, st.2.2.at fun o e => hk a (by simp) o e⟩
      item := fun j s Q E hj st _ => absurd st.1 (Nat.ne_of_lt hj)
      done := fun s Q E st hE => wpAny_nextOf_tuple_end (show A.in1.handled = none from hh) st.2.1 st.2.2 hx hE } he ⟨rfl, hit, hp⟩ hQ
end
end PySem
namespace Fb
open PySem PySem.Spec PyProof.Rows L2
/-- the tuple at a, each item in a new pair -/
def IteT (K : PySem.W.Frag) (a : Addr) : L2.It :=
  ⟨fun i H => ∃ (xs : List V) (x : V), SqT K H a xs ∧ xs[i]? = some x, fun i H v H' => ∃ T x, v = .ref T ∧ H T = none ∧ H' = upd H T (.tup [.int (i : Nat), x]) ∧ ∀ xs, SqT K H a xs → xs[i]? = some x, fun i H => ∃ xs : List V, SqT K H a xs ∧ xs.length ≤ i⟩
theorem turn_enumT {P : Program} {w : World} {K : PySem.W.Frag} {elts : List Expr} {kk : Nat} {tpos : Pos} (a e it : Addr) (nea : a ≠ it) :
    Turn P w K (.Tuple elts kk tpos) (IteT K a) [e, it] e (fun i h => (∃ old, IsEnum h e it ((i : Nat) : Int) old) ∧ h.IsTupleIter it a i ∧ e ≠ it ∧ e ≠ a) where
  mem := by simp
  obj := fun i h st b hb => by
    obtain ⟨⟨old, he⟩, ⟨o, ho, hc, hd⟩, _⟩ := st
    have e' : b = e ∨ b = it := by simpa using hb
    rcases e' with z | z
    · rw [z]; exact ⟨_, he, fun v q => nomatch q⟩
    · rw [z]; exact ⟨o, ho, fun v q => by rw [hd] at q; cases q⟩
  keep := fun i h h' st k => let ⟨⟨old, he⟩, hi, hne⟩ := st; ⟨⟨old, k e (by simp) _ he⟩, hi.at fun o q => k it (by simp) o q, hne⟩
  item := by
    intro X hP hw hK hc i pins s σ H E I hf st hg
    subst hP hw hK
    obtain ⟨⟨old, he⟩, hit, hne, hna⟩ := st
    obtain ⟨xs, x, hq, hx⟩ := hg
    obtain ⟨its, rv, p, hz⟩ := I.tuple hq
    obtain ⟨u, hu, ru⟩ := rv.get hx
    have hel : e < s.heap.objs.size := Heap.lt_size he
    have hil : it < s.heap.objs.size := by obtain ⟨_, q, _⟩ := hit; exact Heap.lt_size q
    refine wpAny_pyNext_enum_itemD (Draws.tuple (A := X.A.in1) (I.ok.hd hc) it a nea its.toArray) he ⟨hit, p⟩ (by have := (List.getElem?_eq_some_iff.mp hu).1; simpa using this) hne (by
      intro z
      rcases List.mem_cons.mp z with z | z
      · exact hne z
      · exact hna (List.mem_singleton.mp z)) fun x' h' tk hx' ho hst' hT hsz hk => ?_
    have hxu : x' = u := by
      have : its.toArray[i]? = some u := by simpa using hu
      exact Option.some.inj (hx'.symm.trans this)
    subst hxu
    obtain ⟨hit', _⟩ := hst'
    refine ⟨_, rfl, wpAny_letOwnedTupleGo_enum (s := { s with heap := h', toks := tk + 1 }) ho fun h'' he' sb => ?_⟩
    have hT2 : h''.get? s.heap.objs.size = some { cls := .type "tuple", data := .seq #[.int i tk, x'] } := (sb.2 _ (Nat.ne_of_gt hel)).trans hT
    have new : ObjOk X.prog X.w (upd H s.heap.objs.size (.tup [.int (i : Nat), x])) h'' s.heap.objs.size (.tup [.int (i : Nat), x]) :=
      ⟨by show 2 ≤ sizeLine; decide, [.int i tk, x'], .cons ⟨_, rfl⟩ (.cons ru .nil), ⟨_, hT2, rfl, _, rfl⟩⟩
    have I1 : Inv X pins σ (upd H s.heap.objs.size (.tup [.int (i : Nat), x])) { s with heap := h'', toks := tk + 1 } :=
      I.turnedNew (ch := [e, it]) (fun b ob hb q => (sb.2 b (fun z => hb (by simp [z]))).trans (hk b ob (fun z => hb (by simp [z])) (fun z => hb (by simp [z])) q)) hf (Nat.le_refl _) new
    refine ⟨.ref s.heap.objs.size, _, I1, rfl, ⟨_, x, rfl, I.hok.fresh (Nat.le_refl _), rfl, fun ys hy => by rw [I.tuple_inj hy hq]; exact hx⟩, ⟨⟨x', ?_⟩, hit'.at fun o q => (sb.2 it (Ne.symm hne)).trans q, hne, hna⟩, fun b hb => ?_⟩
    · have e1 : ((i + 1 : Nat) : Int) = (i : Int) + 1 := by omega
      rw [e1]; exact he'
    · have hb' : b < s.heap.objs.size := by
        have e' : b = e ∨ b = it := by simpa using hb
        rcases e' with z | z
        · rw [z]; exact hel
        · rw [z]; exact hil
      rw [upd_ne (Nat.ne_of_lt hb')]
      exact (hf b hb).1
  done := by
    intro X hP hw hK hc i pins s σ H E I hf st hg
    subst hP hw hK
    obtain ⟨⟨old, he⟩, hit, hne, hna⟩ := st
    obtain ⟨xs, hq, hx⟩ := hg
    obtain ⟨its, rv, p, hz⟩ := I.tuple hq
    obtain ⟨f0, f1, f2, f3, f4, f5⟩ := hf it (by simp)
    have hl := rv.length
    have hend : its.toArray[i]? = none := by
      rw [List.getElem?_toArray]
      exact List.getElem?_eq_none_iff.mpr (by omega)
    refine fb_enum_endT (I.ok.hd hc) nea he hit p hend fun h' eb => ⟨rfl, I.turned (t' := s.toks) (fun b o hb q => eb b o hb q) f0 f1 f3 f4 f5⟩
  self := fun A i s Q E st h => let ⟨⟨_, he⟩, _⟩ := st; wpAny_pyIter_enum he h
/-- enumerate of a list or a tuple -/
def iEnumB (K : PySem.W.Frag) (ta : TA) : TI := fun σ H R => ta σ H fun vs H1 => ∃ a xs, vs = [.ref a] ∧ ((SqL K H1 a xs ∧ R (Ite K a) H1) ∨ (SqT K H1 a xs ∧ R (IteT K a) H1))
theorem pi_enumB {X : Cx} {e : Expr} {ta : TA} {p pos tpos : Pos} {elts : List Expr} {kk : Nat} (hg : Gl X "enumerate") (hm : X.mg "enumerate" = none) (ha : PA X [e] ta) (hs : starEach [e] X.env = [(false, eval e X.env)] := by rfl) :
    PI X (.Tuple elts kk tpos) (.Call (.Name "enumerate" p) [e] [] pos) (iEnumB X.K ta) := by
  refine ⟨fun pins s σ H R I h => ?_⟩
  refine Call_ (ld_blt I hg hm boot_enumerate (PyProof.Rows.callWith_type1 (thn (ha.run pos pins s σ H _ I h) fun us s1 ⟨vs, H1, I1, r1, q1⟩ => ?_) hs rfl))
  obtain ⟨a, xs, ex, q1⟩ := q1
  subst ex
  cases r1 with
  | cons r rr =>
    cases rr
    cases r
    have fp : ∀ b ∈ [s1.heap.objs.size + 1, s1.heap.objs.size], s1.heap.objs.size ≤ b := fun b hb => by
      have e' : b = s1.heap.objs.size + 1 ∨ b = s1.heap.objs.size := by simpa using hb
      rcases e' with z | z
      · rw [z]; exact Nat.le_add_right _ _
      · rw [z]; exact Nat.le_refl _
    rcases q1 with ⟨hq, q⟩ | ⟨hq, q⟩
    · obtain ⟨its, rv, p', hz⟩ := I1.list hq
      refine call_enumerate_list p'.isList fun h' he hit hsz hk => wpAny_pyIter_enum he ?_
      have I2 : Inv X pins σ H1 { s1 with heap := h' } := I1.kept (t' := s1.toks) hk
      exact ⟨s1.heap.objs.size + 1, [s1.heap.objs.size + 1, s1.heap.objs.size], _, _, H1, rfl, I2, turn_enum a (s1.heap.objs.size + 1) s1.heap.objs.size, ⟨⟨.none, he⟩, hit, Nat.succ_ne_self _⟩, fun b hb => I1.fpOk (fp b hb) (I1.hok.fresh (fp b hb)), q⟩
    · obtain ⟨its, rv, p', hz⟩ := I1.tuple hq
      have hlt : a < s1.heap.objs.size := by obtain ⟨_, e, _⟩ := id p'; exact Heap.lt_size e
      refine fb_enum_begins (begins_tuple a its.toArray) p' fun h' he hit hsz hk => wpAny_pyIter_enum he ?_
      have I2 : Inv X pins σ H1 { s1 with heap := h' } := I1.kept (t' := s1.toks) hk
      exact ⟨s1.heap.objs.size + 1, [s1.heap.objs.size + 1, s1.heap.objs.size], _, _, H1, rfl, I2, turn_enumT a (s1.heap.objs.size + 1) s1.heap.objs.size (Nat.ne_of_lt hlt), ⟨⟨.none, he⟩, ⟨_, hit, rfl, rfl⟩, Nat.succ_ne_self _, Nat.ne_of_gt (Nat.lt_succ_of_lt hlt)⟩, fun b hb => I1.fpOk (fp b hb) (I1.hok.fresh (fp b hb)), q⟩
end Fb
set_option Elab.async false
set_option linter.all false
set_option maxRecDepth 100000
set_option maxHeartbeats 4000000
namespace Fb
open PySem PySem.Spec PyProof.Rows L2
section
variable {cl : Cl} {G : Ct} {T : Tab} {k : Nat} {N : List Str} {top : Str → Bool} {sc : Scope} {X : Cx}
theorem s_bm {b : Bm} {a : E} {es : Es} {x : Expr} {ap p : Pos} {vs : List Expr} (hb : b ≠ .rev) (ok : Ok cl G T k N top sc X) (ha : SE cl G X a x) (hsup : noSup x = true) (hl : (ap.endLine == p.line) = true) (hlen : vs.length < 20) (hn : vs.all nst = true) (he : vs = [] → es = .nil) (hs : SA cl G X es vs) :
    SE cl G X (.bm b a es) (.Call (.Attribute x (bmName b) ap) vs [] p) := by
  intro ι S H env σ Q R E h
  have h : Po cl X.K ι H ((ev G a env >>= fun x => isLst x >>= fun _ => evs G es env >>= fun vs => bmW b x vs) S) (VW X.K Q) := h
  have base : PlainAttrs "list" := PySem.F.plainAttrs_list
  have hsl : Slot "list" (bmName b) (bmId b) := by cases b; exact PySem.F.slot_list_append; exact PySem.F.slot_list_extend; exact PySem.F.slot_list_pop; exact PySem.F.slot_list_index; exact absurd rfl hb
  have hty : typeOf (.builtin (bmId b)) = pure (.type "method_descriptor") := by cases b; exact PySem.F.type_list_append; exact PySem.F.type_list_extend; exact PySem.F.type_list_pop; exact PySem.F.type_list_index; exact absurd rfl hb
  have lst : ∀ {w : W} {v : V} {S : Sto} {ι : List Addr} {H : Hp} {f : Unit → M W}, Rel cl X.K ι S H → WR X.K ι H w v → Po cl X.K ι H ((isLst w >>= f) S) (VW X.K Q) → tyV X.K "list" v H ∧ Po cl X.K ι H (f () S) (VW X.K Q) := by
    intro w v S ι H f R r h
    cases w with
    | loc n =>
      have h : Po cl X.K ι H (((getM n >>= fun _ => pure ()) >>= f) S) (VW X.K Q) := h
      rw [bind_assoc'] at h
      obtain ⟨xs, q, us, e1, e2, e3, e4, h⟩ := getM_cases R h
      rw [wr_loc r e2]
      exact ⟨.inl ⟨rfl, us, .of e3⟩, h⟩
    | _ => exact h.elim
  cases vs with
  | nil =>
    have e := he rfl
    subst e
    refine ⟨_, pe_bm0 base hsl hty (mt_bm (cl := cl) b hb) pe_s (no_sup hsup) hl, ?_⟩
    refine ha R E (Po.bind h fun w1 S1 ι1 H1 e1 h => ?_)
    intro v1 r1
    obtain ⟨t, h⟩ := lst e1.rel r1 h
    exact ⟨t, ι1, S1, w1, [], e1.rel, r1, .nil, h⟩
  | cons v vs =>
    have hn' := hn
    rw [List.all_cons, Bool.and_eq_true] at hn'
    have few : ((backTo p (starEach (v :: vs) X.env)).all (fun x => !x.1) && (backToKw p (keywordEach [] X.env)).all (fun x => x.1.isSome)
      && decide ((v :: vs).length + ([] : List Keyword).length + (if ([] : List Keyword).isEmpty then 0 else 1) < 30)) = true := by
      rw [all_star hn]
      show (true && true && decide ((v :: vs).length + 0 + 0 < 30)) = true
      rw [decide_eq_true (by omega)]
      rfl
    refine ⟨_, pe_bm base hsl hty (mt_bm (cl := cl) b hb) pe_s pa_s (no_sup hsup) few hl (star_cons hn'.1) (no_star hn'.2), ?_⟩
    refine ha R E (Po.bind h fun w1 S1 ι1 H1 e1 h => ?_)
    intro v1 r1
    obtain ⟨t, h⟩ := lst e1.rel r1 h
    refine ⟨t, ?_⟩
    refine hs e1.rel (E.ext e1) (Po.bind h fun ws S2 ι2 H2 e2 h => ?_)
    intro us rs
    exact ⟨ι2, S2, w1, ws, e2.rel, r1.ext e2, rs, h⟩

/-! ### what is walked -/
/-- the source of ours and the layer's -/
def SI (cl : Cl) (K : PySem.W.Frag) (ι0 : List Addr) (H0 : Hp) (src : Src) (J : L2.It) : Prop := ∀ (ι : List Addr) (S : Sto) (H : Hp) (i : Nat), ι0 <+: ι → Mono K H0 H → Rel cl K ι S H →
  (∀ x, src.at S i = some (some x) → J.go i H ∧ ∀ v H', J.yld i H v H' → Ext cl K ι H ι S H' ∧ WR K ι H' x v) ∧ (src.at S i = some none → J.stop i H)
abbrev SIt (cl : Cl) (G : Ct) (X : Cx) (it : Fb.It) (tg e' : Expr) : Prop := ∀ {ι : List Addr} {S : Sto} {H : Hp} {env : En} {σ : L2.St} {R : L2.It → Hp → Prop}, Rel cl X.K ι S H → ER X.K ι H env σ →
  Po cl X.K ι H (evI G it env S) (fun src _ ι' H' => ∀ J, SI cl X.K ι' H' src J → R J H') → tI X tg e' σ H R
theorem WRs.reverse {K : PySem.W.Frag} {ι : List Addr} {H : Hp} : ∀ {xs : List W} {vs : List V}, WRs K ι H xs vs → WRs K ι H xs.reverse vs.reverse
  | [], vs, h => by
    have e : vs = [] := by unfold WRs at h; exact h
    rw [e] at h ⊢
    exact h
  | x :: xs, vs, h => by
    unfold WRs at h
    obtain ⟨v, r, rfl, h1, h2⟩ := h
    rw [List.reverse_cons, List.reverse_cons]
    exact (WRs.reverse h2).append (.cons h1 .nil)
theorem s_rev {a : E} {x : Expr} {k0 : Nat} {p1 p2 p3 p : Pos} (ok : Ok cl G T k N top sc X) (ha : SE cl G X a x) :
    SE cl G X (.bm .rev a .nil) (.Subscript x (.Slice none none (some (.UnaryOp .USub (.Constant (.int 1) k0 p1) p2)) p3) p) := by
  intro ι S H env σ Q R E h
  have h : Po cl X.K ι H ((ev G a env >>= fun x => isLst x >>= fun _ => bmW .rev x []) S) (VW X.K Q) := h
  refine ⟨_, pe_revL pe_s, ?_⟩
  refine ha R E (Po.bind h fun w1 S1 ι1 H1 e1 h => ?_)
  intro v1 r1
  cases w1 with
  | loc n =>
    have h : Po cl X.K ι1 H1 (((getM n >>= fun _ => pure ()) >>= fun _ => bmW .rev (.loc n) []) S1) (VW X.K Q) := h
    rw [bind_assoc'] at h
    obtain ⟨xs, q, us, e1', e2, e3, e4, h⟩ := getM_cases e1.rel h
    have h : Po cl X.K ι1 H1 ((getM n >>= fun xs => new (.lst xs.reverse)) S1) (VW X.K Q) := h
    obtain ⟨xs', q', us', e1'', e2', e3', e4', h⟩ := getM_cases e1.rel h
    refine ⟨q', us', wr_loc r1 e2', .of e3', fun l hl => ?_⟩
    exact h _ _ (e1.rel.newL hl e4'.reverse) _ (wr_new e1.rel)
  | _ => exact h.elim
theorem pre_get {ι ι' : List Addr} {n : Nat} {a : Addr} (h : ι <+: ι') (e : ι[n]? = some a) : ι'[n]? = some a := by
  obtain ⟨t, rfl⟩ := h
  rw [List.getElem?_append_left (List.getElem?_eq_some_iff.mp e).1]
  exact e
theorem si_lst {K : PySem.W.Frag} {ι : List Addr} {H : Hp} {n : Nat} {a : Addr} (e : ι[n]? = some a) : SI cl K ι H (.lst n) (Itl K a) := by
  intro ι' S H' i hp hm R
  have e' := pre_get hp e
  refine ⟨fun x h => ?_, fun h => ?_⟩
  · have h : (getL S n).map (·[i]?) = some (some x) := h
    cases q : getL S n with
    | none => rw [q] at h; cases h
    | some xs =>
      rw [q] at h
      have hx : xs[i]? = some x := Option.some.inj h
      obtain ⟨b, vs, e1, e2, e3⟩ := getL_at R q
      rw [e'] at e1
      cases e1
      obtain ⟨v, hv, wv⟩ := e3.get hx
      refine ⟨⟨vs, v, e2, hv⟩, fun u H2 hy => ?_⟩
      obtain ⟨rfl, hy⟩ := hy
      have := hy vs e2
      rw [hv] at this
      cases this
      exact ⟨.refl R, wv⟩
  · have h : (getL S n).map (·[i]?) = some none := h
    cases q : getL S n with
    | none => rw [q] at h; cases h
    | some xs =>
      rw [q] at h
      have hx : xs[i]? = none := Option.some.inj h
      obtain ⟨b, vs, e1, e2, e3⟩ := getL_at R q
      rw [e'] at e1
      cases e1
      exact ⟨vs, e2, e3.get_none hx⟩
theorem si_tup {K : PySem.W.Frag} {ι : List Addr} {H : Hp} {a : Addr} {xs : List W} {vs : List V} (s : SqT K H a vs) (w : WRs K ι H xs vs) : SI cl K ι H (.its xs) (Itt K a) := by
  intro ι' S H' i hp hm R
  have w' := w.mono hp hm
  refine ⟨fun x h => ?_, fun h => ?_⟩
  · have hx : xs[i]? = some x := Option.some.inj h
    obtain ⟨v, hv, wv⟩ := w'.get hx
    refine ⟨⟨vs, v, hm.tup _ _ s, hv⟩, fun u H2 hy => ?_⟩
    obtain ⟨rfl, hy⟩ := hy
    have := hy vs (hm.tup _ _ s)
    rw [hv] at this
    cases this
    exact ⟨.refl R, wv⟩
  · have hx : xs[i]? = none := Option.some.inj h
    exact ⟨vs, hm.tup _ _ s, w'.get_none hx⟩
theorem rngW_get : ∀ (n : Nat) (lo : Int) (i : Nat), (rngW lo n)[i]? = if i < n then some (.int (lo + i)) else none
  | 0, lo, i => by rw [if_neg (Nat.not_lt_zero i)]; rfl
  | n + 1, lo, 0 => by
    rw [if_pos (Nat.succ_pos n)]
    show some (W.int lo) = some (W.int (lo + ((0 : Nat) : Int)))
    rw [Int.natCast_zero, Int.add_zero]
  | n + 1, lo, i + 1 => by
    show (rngW (lo + 1) n)[i]? = _
    rw [rngW_get n (lo + 1) i]
    by_cases h : i < n
    · rw [if_pos h, if_pos (Nat.succ_lt_succ h)]
      have : lo + 1 + (i : Int) = lo + ((i + 1 : Nat) : Int) := by omega
      rw [this]
    · rw [if_neg h, if_neg (fun q => h (Nat.lt_of_succ_lt_succ q))]
theorem si_rng {K : PySem.W.Frag} {ι : List Addr} {H : Hp} {lo : Int} {n : Nat} : SI cl K ι H (.its (rngW lo n)) (Itr lo n) := by
  intro ι' S H' i hp hm R
  refine ⟨fun x h => ?_, fun h => ?_⟩
  · have hx : (rngW lo n)[i]? = some x := Option.some.inj h
    rw [rngW_get] at hx
    by_cases q : i < n
    · rw [if_pos q] at hx
      cases hx
      refine ⟨q, fun u H2 hy => ?_⟩
      obtain ⟨rfl, rfl⟩ := hy
      exact ⟨.refl R, rfl⟩
    · rw [if_neg q] at hx; cases hx
  · have hx : (rngW lo n)[i]? = none := Option.some.inj h
    rw [rngW_get] at hx
    by_cases q : i < n
    · rw [if_pos q] at hx; cases hx
    · exact Nat.le_of_not_lt q
theorem si_enm {K : PySem.W.Frag} {ι : List Addr} {H : Hp} {n : Nat} {a : Addr} (e : ι[n]? = some a) : SI cl K ι H (.enm (.lst n)) (Ite K a) := by
  intro ι' S H' i hp hm R
  obtain ⟨s1, s2⟩ := si_lst (cl := cl) e ι' S H' i hp hm R
  refine ⟨fun x h => ?_, fun h => ?_⟩
  · have h : ((Src.lst n).at S i).map (·.map fun x => W.tup [.int i, x]) = some (some x) := h
    cases q : (Src.lst n).at S i with
    | none => rw [q] at h; cases h
    | some o =>
      cases o with
      | none => rw [q] at h; cases h
      | some y =>
        rw [q] at h
        have hx : W.tup [.int i, y] = x := Option.some.inj (Option.some.inj h)
        subst hx
        obtain ⟨g, yl⟩ := s1 y q
        refine ⟨g, fun u H2 hy => ?_⟩
        obtain ⟨T, z, rfl, hT, rfl, hz⟩ := hy
        obtain ⟨_, wz⟩ := yl z H' ⟨rfl, hz⟩
        exact ⟨R.newT hT, new_tup hT (.cons rfl (.cons wz .nil))⟩
  · have h : ((Src.lst n).at S i).map (·.map fun x => W.tup [.int i, x]) = some none := h
    cases q : (Src.lst n).at S i with
    | none => rw [q] at h; cases h
    | some o =>
      cases o with
      | none => exact s2 q
      | some y => rw [q] at h; cases h
theorem si_enmT {K : PySem.W.Frag} {ι : List Addr} {H : Hp} {a : Addr} {xs : List W} {vs : List V} (s : SqT K H a vs) (w : WRs K ι H xs vs) : SI cl K ι H (.enm (.its xs)) (IteT K a) := by
  intro ι' S H' i hp hm R
  obtain ⟨s1, s2⟩ := si_tup (cl := cl) s w ι' S H' i hp hm R
  refine ⟨fun x h => ?_, fun h => ?_⟩
  · have h : ((Src.its xs).at S i).map (·.map fun x => W.tup [.int i, x]) = some (some x) := h
    cases q : (Src.its xs).at S i with
    | none => rw [q] at h; cases h
    | some o =>
      cases o with
      | none => rw [q] at h; cases h
      | some y =>
        rw [q] at h
        have hx : W.tup [.int i, y] = x := Option.some.inj (Option.some.inj h)
        subst hx
        obtain ⟨g, yl⟩ := s1 y q
        refine ⟨g, fun u H2 hy => ?_⟩
        obtain ⟨T, z, rfl, hT, rfl, hz⟩ := hy
        obtain ⟨_, wz⟩ := yl z H' ⟨rfl, hz⟩
        exact ⟨R.newT hT, new_tup hT (.cons rfl (.cons wz .nil))⟩
  · have h : ((Src.its xs).at S i).map (·.map fun x => W.tup [.int i, x]) = some none := h
    cases q : (Src.its xs).at S i with
    | none => rw [q] at h; cases h
    | some o =>
      cases o with
      | none => exact s2 q
      | some y => rw [q] at h; cases h
theorem si_zip {K : PySem.W.Frag} {ι : List Addr} {H : Hp} {n m : Nat} {a b : Addr} (e : ι[n]? = some a) (e2 : ι[m]? = some b) : SI cl K ι H (.zip (.lst n) (.lst m)) (Itz K a b) := by
  intro ι' S H' i hp hm R
  obtain ⟨s1, s2⟩ := si_lst (cl := cl) e ι' S H' i hp hm R
  obtain ⟨t1, t2⟩ := si_lst (cl := cl) e2 ι' S H' i hp hm R
  have goL : ∀ {n a}, ι[n]? = some a → ∀ {o}, (Src.lst n).at S i = some o → ∃ xs, SqL K H' a xs := fun {n a} e {o} q => by
    have q : (getL S n).map (·[i]?) = some o := q
    cases z : getL S n with
    | none => rw [z] at q; cases q
    | some xs =>
      obtain ⟨c, vs, f1, f2, f3⟩ := getL_at R z
      rw [pre_get hp e] at f1
      cases f1
      exact ⟨vs, f2⟩
  refine ⟨fun x h => ?_, fun h => ?_⟩
  · unfold Src.at at h
    cases q : (Src.lst n).at S i with
    | none => rw [q] at h; cases h
    | some o =>
      cases o with
      | none =>
        cases q2 : (Src.lst m).at S i with
        | none => rw [q, q2] at h; cases h
        | some o2 => rw [q, q2] at h; cases o2 <;> cases h
      | some y =>
        cases q2 : (Src.lst m).at S i with
        | none => rw [q, q2] at h; cases h
        | some o2 =>
          cases o2 with
          | none => rw [q, q2] at h; cases h
          | some z =>
            rw [q, q2] at h
            have hx : W.tup [y, z] = x := Option.some.inj (Option.some.inj h)
            subst hx
            obtain ⟨⟨xs, x1, g1, g2⟩, yl⟩ := s1 y q
            obtain ⟨⟨ys, y1, k1, k2⟩, zl⟩ := t1 z q2
            refine ⟨⟨xs, ys, x1, y1, g1, k1, g2, k2⟩, fun u H2 hy => ?_⟩
            obtain ⟨T, c, d, rfl, hT, rfl, hc, hd⟩ := hy
            obtain ⟨_, wc⟩ := yl c H' ⟨rfl, hc⟩
            obtain ⟨_, wd⟩ := zl d H' ⟨rfl, hd⟩
            exact ⟨R.newT hT, new_tup hT (.cons wc (.cons wd .nil))⟩
  · unfold Src.at at h
    cases q : (Src.lst n).at S i with
    | none => rw [q] at h; cases h
    | some o =>
      cases q2 : (Src.lst m).at S i with
      | none => rw [q, q2] at h; cases o <;> cases h
      | some o2 =>
        obtain ⟨xs, hx⟩ := goL e q
        obtain ⟨ys, hy⟩ := goL e2 q2
        cases o with
        | none =>
          obtain ⟨xs, hx, hl⟩ := s2 q
          exact ⟨xs, ys, hx, hy, .inl hl⟩
        | some y =>
          cases o2 with
          | none =>
            obtain ⟨ys, hy, hl⟩ := t2 q2
            exact ⟨xs, ys, hx, hy, .inr hl⟩
          | some z => rw [q, q2] at h; cases h
/-- a list or a tuple -/
def iSeq (K : PySem.W.Frag) (tl : TE) : TI := fun σ H R => tl σ H fun x H1 => ∃ a, x = .ref a ∧ (((∃ xs, SqL K H1 a xs) ∧ R (Itl K a) H1) ∨ ((∃ xs, SqT K H1 a xs) ∧ R (Itt K a) H1))
theorem pi_seq {tg l : Expr} {tl : TE} (hl : PE X l tl) : PI X tg l (iSeq X.K tl) := by
  refine ⟨fun pins s σ H R I h => ?_⟩
  refine thn (hl.run pins s σ H _ I h) fun v s1 ⟨x, H1, I1, r1, q1⟩ => ?_
  obtain ⟨a, e, q⟩ := q1
  subst e
  cases r1
  rcases q with ⟨⟨xs, hq⟩, q⟩ | ⟨⟨xs, hq⟩, q⟩
  · obtain ⟨its, rv, p, hz⟩ := I1.list hq
    refine wpAny_pyIter_list p.isList ?_
    refine ⟨s1.heap.objs.size, [s1.heap.objs.size], _, _, H1, rfl, I1.kept (t' := s1.toks) fun b o e => Heap.get?_push_of_some _ e, turn_list a _, ⟨_, Heap.get?_push_size _ rfl, rfl, rfl⟩, fun b hb => ?_, q⟩
    have e : b = s1.heap.objs.size := by simpa using hb
    subst e
    exact I1.fpOk (Nat.le_refl _) (I1.hok.fresh (Nat.le_refl _))
  · obtain ⟨its, rv, p, hz⟩ := I1.tuple hq
    refine wpAny_pyIter_tuple (show s1.heap.IsTuple a its.toArray from p) ?_
    refine ⟨s1.heap.objs.size, [s1.heap.objs.size], _, _, H1, rfl, I1.kept (t' := s1.toks) fun b o e => Heap.get?_push_of_some _ e, turn_tuple a _, ⟨_, Heap.get?_push_size _ rfl, rfl, rfl⟩, fun b hb => ?_, q⟩
    have e : b = s1.heap.objs.size := by simpa using hb
    subst e
    exact I1.fpOk (Nat.le_refl _) (I1.hok.fresh (Nat.le_refl _))
theorem i_seq {e : E} {tg x : Expr} (ha : SE cl G X e x) : SIt cl G X (.seq e) tg x := by
  intro ι S H env σ R Rl E h
  refine ⟨_, pi_seq pe_s, ?_⟩
  have h : Po cl X.K ι H ((ev G e env >>= fun x => srcOf x) S) (fun src _ ι' H' => ∀ J, SI cl X.K ι' H' src J → R J H') := h
  refine ha Rl E (Po.bind h fun w1 S1 ι1 H1 e1 h => ?_)
  intro v1 r1
  cases w1 with
  | tup xs =>
    obtain ⟨a, vs, rfl, s1, w⟩ := wr_tup r1
    exact ⟨a, rfl, .inr ⟨⟨vs, s1⟩, Po.pure e1.rel h _ (si_tup s1 w)⟩⟩
  | loc n =>
    have h : Po cl X.K ι1 H1 ((getLM n >>= fun _ => pure (.lst n)) S1) (fun src _ ι' H' => ∀ J, SI cl X.K ι' H' src J → R J H') := h
    obtain ⟨xs, a, vs, q0, q1, q2, q3, h⟩ := getLM_cases e1.rel h
    exact ⟨a, wr_loc r1 q1, .inl ⟨⟨vs, q2⟩, Po.pure e1.rel h _ (si_lst q1)⟩⟩
  | _ => exact h.elim
theorem rngM_po {x y : W} {ι : List Addr} {S : Sto} {H : Hp} {Φ : Src → Sto → List Addr → Hp → Prop} (R : Rel cl X.K ι S H) (h : Po cl X.K ι H (rngM x y S) Φ) : ∃ i j, x = .int i ∧ y = .int j ∧ (-(2 ^ 200) ≤ i ∧ i < 2 ^ 200 ∧ -(2 ^ 200) ≤ j ∧ j < 2 ^ 200) ∧ Φ (.its (rngW i (j - i).toNat)) S ι H := by
  cases x with
  | int i =>
    cases y with
    | int j =>
      obtain ⟨c, h⟩ := ite_po h
      exact ⟨i, j, rfl, rfl, c, Po.pure R h⟩
    | _ => exact h.elim
  | _ => exact h.elim
theorem rng_mem : ("range" : Str) ∈ blNames := by decide
theorem i_rng1 {b : E} {tg y : Expr} {q p : Pos} (ok : Ok cl G T k N top sc X) (hg : glob sc "range" = true) (hn : nst y = true) (hb : SE cl G X b y) : SIt cl G X (.rng1 b) tg (.Call (.Name "range" q) [y] [] p) := by
  intro ι S H env σ R Rl E h
  refine ⟨_, pi_rangeA1 (glob_gl ok.hsc hg) (ok.lib.bl _ rng_mem) (pa_cons pe_s pa_nil (star_cons hn)) (star_cons hn), ?_⟩
  have h : Po cl X.K ι H ((ev G b env >>= fun x => rngM (.int 0) x) S) (fun src _ ι' H' => ∀ J, SI cl X.K ι' H' src J → R J H') := h
  refine hb Rl E (Po.bind h fun w1 S1 ι1 H1 e1 h => ?_)
  intro v1 r1
  obtain ⟨i, j, ei, rfl, c, h⟩ := rngM_po e1.rel h
  cases ei
  cases wr_int r1
  rw [Int.sub_zero] at h
  exact ⟨j, rfl, h _ si_rng⟩
theorem i_rng2 {a b : E} {tg x y : Expr} {q p : Pos} (ok : Ok cl G T k N top sc X) (hg : glob sc "range" = true) (hm : nst x = true) (hn : nst y = true) (ha : SE cl G X a x) (hb : SE cl G X b y) : SIt cl G X (.rng2 a b) tg (.Call (.Name "range" q) [x, y] [] p) := by
  intro ι S H env σ R Rl E h
  refine ⟨_, pi_rangeA2 (glob_gl ok.hsc hg) (ok.lib.bl _ rng_mem) (pa_cons pe_s (pa_cons pe_s pa_nil (star_cons hn)) (star_cons hm)) (by rw [star_cons hm, star_cons hn]; rfl) (star_cons hn), ?_⟩
  have h : Po cl X.K ι H ((ev G a env >>= fun x => ev G b env >>= fun y => rngM x y) S) (fun src _ ι' H' => ∀ J, SI cl X.K ι' H' src J → R J H') := h
  refine ha Rl E (Po.bind h fun w1 S1 ι1 H1 e1 h => ?_)
  intro v1 r1
  refine hb e1.rel (E.ext e1) (Po.bind h fun w2 S2 ι2 H2 e2 h => ?_)
  intro v2 r2
  obtain ⟨i, j, rfl, rfl, c, h⟩ := rngM_po e2.rel h
  cases wr_int r1; cases wr_int r2
  exact ⟨i, j, rfl, h _ si_rng⟩
theorem stpW_get : ∀ (n i : Nat) (lo c : Int), (stpW lo c n)[i]? = if i < n then some (.int (lo + (i : Nat) * c)) else none
  | 0, i, lo, c => by rw [if_neg (Nat.not_lt_zero _)]; rfl
  | n + 1, 0, lo, c => by
    rw [if_pos (Nat.succ_pos _)]
    show some (W.int lo) = _
    congr 2
    simp
  | n + 1, i + 1, lo, c => by
    show (stpW (lo + c) c n)[i]? = _
    rw [stpW_get n i]
    by_cases h : i < n
    · rw [if_pos h, if_pos (by omega)]
      congr 2
      rw [show ((i + 1 : Nat) : Int) = (i : Int) + 1 by omega, Int.add_mul, Int.one_mul]
      omega
    · rw [if_neg h, if_neg (by omega)]
theorem si_stp {K : PySem.W.Frag} {ι : List Addr} {H : Hp} {lo c : Int} {n : Nat} : SI cl K ι H (.its (stpW lo c n)) (Itc lo c n) := by
  intro ι' S H' i hp hm R
  refine ⟨fun x h => ?_, fun h => ?_⟩
  · have hx : (stpW lo c n)[i]? = some x := Option.some.inj h
    rw [stpW_get] at hx
    by_cases q : i < n
    · rw [if_pos q] at hx
      cases hx
      refine ⟨q, fun u H2 hy => ?_⟩
      obtain ⟨rfl, rfl⟩ := hy
      exact ⟨.refl R, rfl⟩
    · rw [if_neg q] at hx; cases hx
  · have hx : (stpW lo c n)[i]? = none := Option.some.inj h
    rw [stpW_get] at hx
    by_cases q : i < n
    · rw [if_pos q] at hx; cases hx
    · exact Nat.le_of_not_lt q
theorem rng3_nn {i j c : Int} : 0 ≤ Builtin.Range.rangeSize i j c := by
  unfold Builtin.Range.rangeSize
  repeat' split
  all_goals first | omega | (refine Int.add_nonneg (Int.ediv_nonneg ?_ ?_) ?_ <;> omega) | (refine Int.ediv_nonneg ?_ ?_ <;> omega) | skip
theorem i_rng3 {a b c : E} {tg x y z : Expr} {q p : Pos} (ok : Ok cl G T k N top sc X) (hg : glob sc "range" = true) (hm : nst x = true) (hn : nst y = true) (ho : nst z = true) (ha : SE cl G X a x) (hb : SE cl G X b y) (hc : SE cl G X c z) : SIt cl G X (.rng3 a b c) tg (.Call (.Name "range" q) [x, y, z] [] p) := by
  intro ι S H env σ R Rl E h
  refine ⟨_, pi_range3 (glob_gl ok.hsc hg) (ok.lib.bl _ rng_mem) (pa_cons pe_s (pa_cons pe_s (pa_cons pe_s pa_nil (star_cons ho)) (star_cons hn)) (star_cons hm)) (star_cons hm) (no_star (es := [y, z]) (by simp [hn, ho])), ?_⟩
  have h : Po cl X.K ι H ((ev G a env >>= fun x => ev G b env >>= fun y => ev G c env >>= fun z => rng3M x y z) S) (fun src _ ι' H' => ∀ J, SI cl X.K ι' H' src J → R J H') := h
  refine ha Rl E (Po.bind h fun w1 S1 ι1 H1 e1 h => ?_)
  intro v1 r1
  refine hb e1.rel (E.ext e1) (Po.bind h fun w2 S2 ι2 H2 e2 h => ?_)
  intro v2 r2
  refine hc e2.rel ((E.ext e1).ext e2) (Po.bind h fun w3 S3 ι3 H3 e3 h => ?_)
  intro v3 r3
  cases w1 with
  | int i =>
    cases w2 with
    | int j =>
      cases w3 with
      | int k =>
        obtain ⟨⟨c1, c2, c3⟩, h⟩ := ite_po h
        cases wr_int r1; cases wr_int r2; cases wr_int r3
        exact ⟨i, j, k, _, rfl, ⟨by omega, by omega, c3, (Int.toNat_of_nonneg rng3_nn).symm⟩, Po.pure e3.rel h _ si_stp⟩
      | _ => exact h.elim
    | _ => exact h.elim
  | _ => exact h.elim
theorem i_enum {e : E} {ts : List Expr} {j : Nat} {tp : Pos} {y : Expr} {q p : Pos} (ok : Ok cl G T k N top sc X) (hg : glob sc "enumerate" = true) (hn : nst y = true) (hb : SE cl G X e y) : SIt cl G X (.enum e) (.Tuple ts j tp) (.Call (.Name "enumerate" q) [y] [] p) := by
  intro ι S H env σ R Rl E h
  refine ⟨_, pi_enumB (glob_gl ok.hsc hg) (ok.lib.bl _ (by decide)) (pa_cons pe_s pa_nil (star_cons hn)) (star_cons hn), ?_⟩
  have h : Po cl X.K ι H ((ev G e env >>= fun x => enmM x) S) (fun src _ ι' H' => ∀ J, SI cl X.K ι' H' src J → R J H') := h
  refine hb Rl E (Po.bind h fun w1 S1 ι1 H1 e1 h => ?_)
  intro v1 r1
  cases w1 with
  | loc n =>
    have h : Po cl X.K ι1 H1 ((getLM n >>= fun _ => pure (.enm (.lst n))) S1) (fun src _ ι' H' => ∀ J, SI cl X.K ι' H' src J → R J H') := h
    obtain ⟨xs, a, vs, q0, q1, q2, q3, h⟩ := getLM_cases e1.rel h
    exact ⟨a, vs, by rw [wr_loc r1 q1], .inl ⟨q2, Po.pure e1.rel h _ (si_enm q1)⟩⟩
  | tup xs =>
    have h : Po cl X.K ι1 H1 ((pure (.enm (.its xs)) : M Src) S1) (fun src _ ι' H' => ∀ J, SI cl X.K ι' H' src J → R J H') := h
    obtain ⟨a, vs, rfl, s1, w⟩ := wr_tup r1
    exact ⟨a, vs, rfl, .inr ⟨s1, Po.pure e1.rel h _ (si_enmT s1 w)⟩⟩
  | _ => exact h.elim
theorem i_zip {a b : E} {ts : List Expr} {j : Nat} {tp : Pos} {x y : Expr} {q p : Pos} (ok : Ok cl G T k N top sc X) (hg : glob sc "zip" = true) (hm : nst x = true) (hn : nst y = true) (ha : SE cl G X a x) (hb : SE cl G X b y) : SIt cl G X (.zip a b) (.Tuple ts j tp) (.Call (.Name "zip" q) [x, y] [] p) := by
  intro ι S H env σ R Rl E h
  refine ⟨_, pi_zip (glob_gl ok.hsc hg) (ok.lib.bl _ (by decide)) (pa_cons pe_s (pa_cons pe_s pa_nil (star_cons hn)) (star_cons hm)) (star_cons hm) (no_star (by rw [List.all_cons, hn]; rfl)), ?_⟩
  have h : Po cl X.K ι H ((ev G a env >>= fun x => ev G b env >>= fun y => zipM x y) S) (fun src _ ι' H' => ∀ J, SI cl X.K ι' H' src J → R J H') := h
  refine ha Rl E (Po.bind h fun w1 S1 ι1 H1 e1 h => ?_)
  intro v1 r1
  refine hb e1.rel (E.ext e1) (Po.bind h fun w2 S2 ι2 H2 e2 h => ?_)
  intro v2 r2
  cases w1 with
  | loc n =>
    cases w2 with
    | loc m =>
      have h : Po cl X.K ι2 H2 ((getLM n >>= fun _ => getLM m >>= fun _ => pure (.zip (.lst n) (.lst m))) S2) (fun src _ ι' H' => ∀ J, SI cl X.K ι' H' src J → R J H') := h
      obtain ⟨xs, c, vs, q0, q1, q2, q3, h⟩ := getLM_cases e2.rel h
      obtain ⟨ys, d, us, p0, p1, p2, p3, h⟩ := getLM_cases e2.rel h
      exact ⟨c, d, vs, us, by rw [wr_loc (r1.ext e2) q1, wr_loc r2 p1], q2, p2, Po.pure e2.rel h _ (si_zip q1 p1)⟩
    | _ => exact h.elim
  | _ => exact h.elim
end
end Fb
set_option Elab.async false
set_option linter.all false
set_option maxRecDepth 100000
set_option maxHeartbeats 4000000
namespace Fb
open PySem PySem.Spec PyProof.Rows L2
/-- outside some slots nothing changes -/
def Out (vs : List Nat) (σ σ' : L2.St) : Prop := σ'.length = σ.length ∧ ∀ i : Nat, i ∉ vs → σ'[i]? = σ[i]?
theorem Out.refl (vs : List Nat) (σ : L2.St) : Out vs σ σ := ⟨rfl, fun _ _ => rfl⟩
theorem wipe_get (σ : L2.St) : ∀ (vs : List Nat) (i : Nat), (L2.wipe σ vs)[i]? = if i ∈ vs then (if i < σ.length then some none else none) else σ[i]?
  | [], i => by rw [if_neg (by simp)]; rfl
  | v :: vs, i => by
    unfold L2.wipe
    by_cases e : v = i
    · subst e
      rw [if_pos (by simp)]
      by_cases h : v < σ.length
      · rw [if_pos h, List.getElem?_set_self (by rw [wipe_length]; exact h)]
      · rw [if_neg h, List.getElem?_eq_none (by rw [List.length_set, wipe_length]; omega)]
    · rw [List.getElem?_set_ne e, wipe_get σ vs i]
      have : (i ∈ v :: vs) ↔ i ∈ vs := by
        rw [List.mem_cons]
        exact ⟨fun q => q.elim (fun z => absurd z.symm e) id, .inr⟩
      simp only [this]
theorem Out.wipe {vs ws : List Nat} {σ σ' : L2.St} (h : Out vs (L2.wipe σ ws) σ') (sub : ∀ i ∈ vs, i ∈ ws) : L2.wipe σ' ws = L2.wipe σ ws := by
  have hl : σ'.length = σ.length := by rw [h.1, wipe_length]
  refine List.ext_getElem? fun i => ?_
  rw [wipe_get, wipe_get, hl]
  by_cases q : i ∈ ws
  · rw [if_pos q, if_pos q]
  · rw [if_neg q, if_neg q, h.2 i (fun z => q (sub i z)), wipe_get, if_neg q]
def tgl : Tgs → Nat
  | .nil => 0 | .cons _ r => tgl r + 1
section
variable {cl : Cl} {G : Ct} {T : Tab} {k : Nat} {N : List Str} {top : Str → Bool} {sc : Scope} {X : Cx}
theorem bind_ok {α β : Type} {m : M α} {f : α → M β} {S S2 : Sto} {b : β} (h : (m >>= f) S = .ok b S2) : ∃ a S1, m S = .ok a S1 ∧ f a S1 = .ok b S2 := by
  have h : M.bind m f S = .ok b S2 := h
  unfold M.bind at h
  cases q : m S with
  | ok a S1 => rw [q] at h; exact ⟨a, S1, rfl, h⟩
  | ex _ _ _ => rw [q] at h; cases h
  | no => rw [q] at h; cases h
theorem asgs_len : ∀ {ts : Tgs} {xs : List W} {env env2 : En} {S S1 : Sto}, asgs G ts xs env S = .ok env2 S1 → xs.length = tgl ts
  | .nil, [], _, _, _, _, _ => rfl
  | .nil, _ :: _, _, _, _, _, h => by cases h
  | .cons _ _, [], _, _, _, _, h => by cases h
  | .cons t r, x :: xs, env, env2, S, S1, h => by
    have h : (asg G t x env >>= fun env2 => asgs G r xs env2) S = .ok env2 S1 := h
    obtain ⟨e, S2, _, h2⟩ := bind_ok h
    show xs.length + 1 = tgl r + 1
    rw [asgs_len h2]
abbrev SG (cl : Cl) (G : Ct) (X : Cx) (t : Tg) (tg : Expr) : Prop := ∀ {ι : List Addr} {S : Sto} {H : Hp} {env : En} {σ : L2.St} {w : W} {v : V} {Q : L2.St → Hp → Prop}, Rel cl X.K ι S H → ER X.K ι H env σ → WR X.K ι H w v →
  Po cl X.K ι H (asg G t w env S) (fun env2 _ ι' H' => ∀ σ', ER X.K ι' H' env2 σ' → Out (tgv t) σ σ' → Q σ' H') → tG X tg v σ H Q
abbrev SGs (cl : Cl) (G : Ct) (X : Cx) (ts : Tgs) (tgs : List Expr) : Prop := ∀ {ι : List Addr} {S : Sto} {H : Hp} {env : En} {σ : L2.St} {ws : List W} {vs : List V} {Q : L2.St → Hp → Prop}, Rel cl X.K ι S H → ER X.K ι H env σ → WRs X.K ι H ws vs →
  Po cl X.K ι H (asgs G ts ws env S) (fun env2 _ ι' H' => ∀ σ', ER X.K ι' H' env2 σ' → Out (tgvs ts) σ σ' → Q σ' H') → tGs X tgs vs σ H Q
theorem g_var {i : Nat} {x : Str} {p : Pos} (ok : Ok cl G T k N top sc X) (hi : N[i]? = some x) (hx : Loc X.env.scope x) (hf : X.fn x = true ∨ X.env.scope.names.lookup x = some .local) : SG cl G X (.var i) (.Name x p) := by
  intro ι S H env σ w v Q R E r h
  refine ⟨_, pg_name (by rw [ok.hN]; exact ok.nd) (by rw [ok.hN]; exact hi) hx hf, ?_⟩
  have h : Po cl X.K ι H ((if i < env.length then (pure (env.set i (some w)) : M En) else Fb.fail) S) _ := h
  obtain ⟨c, h⟩ := ite_po h
  refine Po.pure R h _ (E.set r) ⟨List.length_set, fun j hj => ?_⟩
  have : i ≠ j := fun e => hj (by rw [e]; exact List.mem_cons_self)
  exact List.getElem?_set_ne this
theorem gs_nil : SGs cl G X .nil [] := by
  intro ι S H env σ ws vs Q R E r h
  refine ⟨_, pgs_nil, ?_⟩
  cases ws with
  | nil =>
    unfold WRs at r
    exact ⟨r, Po.pure R h _ E (.refl _ _)⟩
  | cons _ _ => exact h.elim
theorem each_cons {e : Expr} {es : List Expr} {env : Env} (h : nst e = true) : assignEach (e :: es) env = (false, assign e env) :: assignEach es env := by
  cases e <;> first | rfl | cases h
theorem each_len {env : Env} : ∀ {es : List Expr}, es.all nst = true → (assignEach es env).length = es.length
  | [], _ => rfl
  | e :: es, h => by
    rw [List.all_cons, Bool.and_eq_true] at h
    rw [each_cons h.1, List.length_cons, List.length_cons, each_len h.2]
theorem each_find {env : Env} : ∀ {es : List Expr}, es.all nst = true → (assignEach es env).findIdx? (·.1) = none
  | [], _ => rfl
  | e :: es, h => by
    rw [List.all_cons, Bool.and_eq_true] at h
    rw [each_cons h.1, List.findIdx?_cons]
    simp only [Bool.false_eq_true, if_false, each_find h.2, Option.map_none]
theorem gs_cons {t : Tg} {r : Tgs} {x : Expr} {xs : List Expr} (hn : nst x = true) (h1 : SG cl G X t x) (h2 : SGs cl G X r xs) : SGs cl G X (.cons t r) (x :: xs) := by
  intro ι S H env σ ws vs Q R E rw' h
  refine ⟨_, pgs_cons pg_s pgs_s (by rw [each_cons hn]; rfl), ?_⟩
  cases ws with
  | nil => exact h.elim
  | cons w ws =>
    unfold WRs at rw'
    obtain ⟨v, us, rfl, r1, r2⟩ := rw'
    have h : Po cl X.K ι H ((asg G t w env >>= fun env2 => asgs G r ws env2) S) _ := h
    refine ⟨v, us, rfl, h1 R E r1 (Po.bind h fun env2 S1 ι1 H1 e1 h => ?_)⟩
    intro σ1 E1 O1
    refine h2 e1.rel E1 (r2.ext e1) (h.imp fun env3 S2 ι2 H2 e2 h => ?_)
    intro σ2 E2 O2
    refine h σ2 E2 ⟨O2.1.trans O1.1, fun i hi => ?_⟩
    have hi : i ∉ tgv t ++ tgvs r := hi
    rw [List.mem_append, not_or] at hi
    rw [O2.2 i hi.2, O1.2 i hi.1]
theorem g_tup {ts : Tgs} {xs : List Expr} {j : Nat} {p : Pos} (ok : Ok cl G T k N top sc X) (hn : xs.all nst = true) (hl : tgl ts = xs.length) (h : SGs cl G X ts xs) : SG cl G X (.tup ts) (.Tuple xs j p) := by
  intro ι S H env σ w v Q R E r q
  refine ⟨_, pg_tup (n := xs.length) ok.calm pgs_s (each_len hn) (each_find hn), ?_⟩
  cases w with
  | tup ws =>
    obtain ⟨a, vs, rfl, s1, w1⟩ := wr_tup r
    have q : Po cl X.K ι H (asgs G ts ws env S) _ := q
    refine ⟨a, vs, rfl, s1, ?_, h R E w1 q⟩
    cases z : asgs G ts ws env S with
    | ok e S1 => rw [w1.length, asgs_len z, hl]
    | ex _ _ _ => rw [z] at q; exact q.elim
    | no => rw [z] at q; exact q.elim
  | _ => exact q.elim
theorem g_sub {o i : E} {x y : Expr} {p : Pos} (ok : Ok cl G T k N top sc X) (ha : SE cl G X o x) (hb : SE cl G X i y) (hs : noSli y = true) : SG cl G X (.sub o i) (.Subscript x y p) := by
  intro ι S H env σ w v Q R E r h
  refine ⟨_, pg_sub pe_s pe_s (setI_ok (cl := cl) ok.hw ok.hu) (fun _ => by cases y <;> first | rfl | cases hs), ?_⟩
  have h : Po cl X.K ι H ((ev G o env >>= fun ov => ev G i env >>= fun iv => setItemW ov iv w >>= fun _ => pure env) S) _ := h
  refine ha R E (Po.bind h fun w1 S1 ι1 H1 e1 h => ?_)
  intro v1 r1
  refine hb e1.rel (E.ext e1) (Po.bind h fun w2 S2 ι2 H2 e2 h => ?_)
  intro v2 r2
  refine ⟨ι2, S2, w1, w2, w, e2.rel, r1.ext e2, r2, r.ext (e1.trans e2), Po.bind h fun u S3 ι3 H3 e3 h => ?_⟩
  exact Po.pure e3.rel h _ (E.ext (e1.trans (e2.trans e3))) (.refl _ _)
theorem setF_read {c : Nat} {f : Str} {w1 w2 : W} {v1 v2 : V} {ι : List Addr} {S : Sto} {H : Hp} {Q : Hp → Prop} (hf : Cls X.K (cl c) ∧ NoAttr X.K (cl c) f) (R : Rel cl X.K ι S H) (r1 : WR X.K ι H w1 v1) (r2 : WR X.K ι H w2 v2) (h : Po cl X.K ι H (setFldW w1 c f w2 S) (fun _ _ _ H' => Q H')) :
    ∃ a C dx fs, v1 = .ref a ∧ H a = some (.ins C dx fs) ∧ Cls X.K C ∧ NoAttr X.K C f ∧ fs.length < 1000 ∧ Q (upd H a (.ins C dx (putF f v2 fs))) := by
  cases w1 with
  | loc n =>
    have h : Po cl X.K ι H ((getOb n >>= fun o => match o with
      | .ins d fs => if d = c ∧ fs.length < 1000 then setOb n (.ins d (putFW f w2 fs)) else Fb.fail
      | _ => Fb.fail) S) (fun _ _ _ H' => Q H') := h
    obtain ⟨o, a, q1, q2, q3, h⟩ := getOb_cases R h
    cases o with
    | ins d fs =>
      obtain ⟨⟨ed, hl⟩, h2⟩ := ite_po h
      subst ed
      obtain ⟨dx, vs, ho, hr⟩ := q3
      refine ⟨a, cl d, dx, vs, wr_loc r1 q2, ho, hf.1, hf.2, by rw [hr.length]; exact hl, ?_⟩
      refine h2 ι _ (R.write q2 (List.getElem?_eq_some_iff.mp q1).1 ho trivial (fun xs e => by rw [q1] at e; cases e) (by intro _ e; cases e) ⟨dx, _, upd_same, ?_⟩)
      exact (hr.put r2).mono (List.prefix_refl _) (.mut ho trivial)
    | _ => exact h.elim
  | _ => exact h.elim
theorem g_fld {o : E} {c : Nat} {f : Str} {x : Expr} {p : Pos} (ok : Ok cl G T k N top sc X) (ha : SE cl G X o x) (hf : T.fl.contains (c, f) = true) : SG cl G X (.fld o c f) (.Attribute x f p) := by
  intro ι S H env σ w v Q R E r h
  refine ⟨_, pg_fld pe_s, ?_⟩
  have h : Po cl X.K ι H ((ev G o env >>= fun ov => setFldW ov c f w >>= fun _ => pure env) S) _ := h
  refine ha R E (Po.bind h fun w1 S1 ι1 H1 e1 h => ?_)
  intro v1 r1
  refine setF_read (ok.lib.fl _ _ hf) e1.rel r1 (r.ext e1) (Po.bind h fun u S3 ι3 H3 e3 h => ?_)
  exact Po.pure e3.rel h _ (E.ext (e1.trans e3)) (.refl _ _)

/-! ### comprehensions -/
abbrev blkX (X : Cx) (s : Shared) (H : Hp) (sc2 : Scope) (cl2 : List (Str × Addr)) (C : Addr) (fp : List Addr) : Cx := X.blk s H sc2 (compEnvC sc2 cl2 C X.env) fp
theorem Ok.blk (ok : Ok cl G T k N top sc X) (s : Shared) (H : Hp) (sc2 : Scope) (cl2 : List (Str × Addr)) (C : Addr) (fp : List Addr) : Ok cl G T k N (cellT sc2) (relS sc2 sc) (blkX X s H sc2 cl2 C fp) := by
  refine ⟨ok.hN, ok.nd, ok.calm, ok.gd, ok.room, ok.kpos, ?_, ok.lib, fun x h => h⟩
  show relabel sc2 X.env = relS sc2 sc
  rw [← ok.hsc]
  rfl
abbrev SF (cl : Cl) (G : Ct) (X : Cx) (f : Fi) (es : List Expr) : Prop := ∀ {ι : List Addr} {S : Sto} {H : Hp} {env : En} {σ : L2.St} {Q : Bool → Hp → Prop}, Rel cl X.K ι S H → ER X.K ι H env σ → Po cl X.K ι H (evTs G f env S) (fun b _ _ H' => Q b H') → tF X es σ H Q
theorem f_none : SF cl G X .none [] := by
  intro ι S H env σ Q R E h
  exact ⟨_, pts_nil, Po.pure R h⟩
theorem f_of {c : C} {x : Expr} (hc : SC cl G X c x) : SF cl G X (.of c) [x] := by
  intro ι S H env σ Q R E h
  exact ⟨_, pts_one pt_s, hc R E h⟩
theorem Po.noEx {α : Type} {m : M α} {ι : List Addr} {S : Sto} {H : Hp} {Φ : α → Sto → List Addr → Hp → Prop} (h : Po cl X.K ι H (Fb.noEx m S) Φ) : Po cl X.K ι H (m S) Φ := by
  unfold Fb.noEx at h
  cases q : m S with
  | ok a S' => rw [q] at h; exact h
  | ex _ _ _ => rw [q] at h; exact h
  | no => rw [q] at h; exact h
theorem compL_none {src : Src} {f : W → M (Option W)} {D m i : Nat} {S : Sto} (q : src.at S i = none) : compL src f D (m + 1) i S = .no := by
  rw [compL]
  dsimp only
  rw [q]
theorem compL_stop {src : Src} {f : W → M (Option W)} {D m i : Nat} {S : Sto} (q : src.at S i = some none) : compL src f D (m + 1) i S = .ok () S := by
  rw [compL]
  dsimp only
  rw [q]
theorem compL_item {src : Src} {f : W → M (Option W)} {D m i : Nat} {S : Sto} {x : W} (q : src.at S i = some (some x)) : compL src f D (m + 1) i S = (f x >>= fun r => match r with
      | none => compL src f D m (i + 1)
      | some y => (getM D >>= fun xs => if xs.length < sizeLine then (setOb D (.lst (xs ++ [y])) >>= fun _ => compL src f D m (i + 1)) else Fb.fail)) S := by
  rw [compL]
  dsimp only
  rw [q]
  rfl
theorem comp_read {tg it : Expr} {x : Expr} {fs : List Expr} {sc2 : Scope} {elt : E} {tgt : Tg} {itr : Fb.It} {ifs : Fi} {own : List (Str × Nat)} {ow : List Nat} (how : own.map (·.2) = ow)
    (hI : SIt cl G X itr tg it) (sub : ∀ i ∈ tgv tgt, i ∈ ow)
    (hg : ∀ s H cl2 C fp, SG cl G (blkX X s H sc2 cl2 C fp) tgt tg) (hf : ∀ s H cl2 C fp, SF cl G (blkX X s H sc2 cl2 C fp) ifs fs) (he : ∀ s H cl2 C fp, SE cl G (blkX X s H sc2 cl2 C fp) elt x)
    {ι : List Addr} {S : Sto} {H : Hp} {env : En} {σ : L2.St} {Q : VK} (R : Rel cl X.K ι S H) (E : ER X.K ι H env σ) (h : Po cl X.K ι H (ev G (.comp elt tgt itr ifs ow) env S) (VW X.K Q)) :
    tLc (tI X tg it) (fun v σ H Q => ∀ s H0 cl2 C fp, tG (blkX X s H0 sc2 cl2 C fp) tg v σ H Q) (fun σ H Q => ∀ s H0 cl2 C fp, tF (blkX X s H0 sc2 cl2 C fp) fs σ H Q) (fun σ H Q => ∀ s H0 cl2 C fp, tE (blkX X s H0 sc2 cl2 C fp) x σ H Q) (own.map (·.2)) σ H Q := by
  rw [how]
  have h : Po cl X.K ι H ((evI G itr env >>= fun src => srcLen src >>= fun n => new (.lst []) >>= fun D => match D with
    | .loc d => (compL src (fun x => Fb.noEx (asg G tgt x (wipeE env ow) >>= fun env2 => evTs G ifs env2 >>= fun t => if t = true then (ev G elt env2 >>= fun y => pure (some y)) else pure none)) d (n + 1) 0 >>= fun _ => pure D)
    | _ => Fb.fail) S) (VW X.K Q) := h
  refine hI R E (Po.bind h fun src S1 ι1 H1 e1 h => ?_)
  intro J hJ p hp
  have w0 : WRs X.K ι1 H1 [] [] := .nil
  have e2 := e1.rel.newL hp w0
  have h := Po.mono e2 h
  refine ⟨fun i m H => ∃ S ι, Ext cl X.K (ι1 ++ [p]) (upd H1 p (.lst [])) ι S H ∧ Po cl X.K ι H ((compL src (fun x => Fb.noEx (asg G tgt x (wipeE env ow) >>= fun env2 => evTs G ifs env2 >>= fun t => if t = true then (ev G elt env2 >>= fun y => pure (some y)) else pure none)) S1.length m i >>= fun _ => pure (.loc S1.length)) S) (VW X.K Q),
    ⟨src.len S1 + 1, _, _, .refl e2.rel, h⟩, fun i m H3 hW => ?_⟩
  obtain ⟨S3, ι3, e3, h⟩ := hW
  cases m with
  | zero => exact h.elim
  | succ m =>
    obtain ⟨hj1, hj2⟩ := hJ ι3 S3 H3 i ((List.prefix_append _ _).trans e3.pre) ((Mono.new hp).trans e3.mono) e3.rel
    cases q : src.at S3 i with
    | none =>
      have h : Po cl X.K ι3 H3 (M.bind (compL src _ S1.length (m + 1) i) _ S3) _ := h
      unfold M.bind at h
      rw [compL_none q] at h
      exact h.elim
    | some o =>
      cases o with
      | none =>
        have h : Po cl X.K ι3 H3 (M.bind (compL src _ S1.length (m + 1) i) _ S3) _ := h
        unfold M.bind at h
        rw [compL_stop q] at h
        refine .inl ⟨hj2 q, ?_⟩
        have h : Po cl X.K ι3 H3 ((pure (.loc S1.length) : M W) S3) (VW X.K Q) := h
        refine Po.pure e3.rel h _ ?_
        exact (wr_new e1.rel : WR X.K (ι1 ++ [p]) (upd H1 p (.lst [])) (.loc S1.length) (.ref p)).ext e3
      | some x0 =>
        obtain ⟨g, yl⟩ := hj1 x0 q
        refine .inr ⟨g, fun H' => ∃ S ι, Ext cl X.K (ι1 ++ [p]) (upd H1 p (.lst [])) ι S H' ∧ Po cl X.K ι H' ((compL src (fun x => Fb.noEx (asg G tgt x (wipeE env ow) >>= fun env2 => evTs G ifs env2 >>= fun t => if t = true then (ev G elt env2 >>= fun y => pure (some y)) else pure none)) S1.length m (i + 1) >>= fun _ => pure (.loc S1.length)) S) (VW X.K Q),
          fun H' hN => ⟨m, Nat.lt_succ_self m, hN⟩, fun xv H4 hy => ?_⟩
        obtain ⟨e4, wx⟩ := yl xv H4 hy
        have e34 := e3.trans e4
        have h : Po cl X.K ι3 H4 (((Fb.noEx (asg G tgt x0 (wipeE env ow) >>= fun env2 => evTs G ifs env2 >>= fun t => if t = true then (ev G elt env2 >>= fun y => pure (some y)) else pure none) >>= fun r => match r with
          | none => compL src (fun x => Fb.noEx (asg G tgt x (wipeE env ow) >>= fun env2 => evTs G ifs env2 >>= fun t => if t = true then (ev G elt env2 >>= fun y => pure (some y)) else pure none)) S1.length m (i + 1)
          | some y => (getM S1.length >>= fun xs => if xs.length < sizeLine then (setOb S1.length (.lst (xs ++ [y])) >>= fun _ => compL src (fun x => Fb.noEx (asg G tgt x (wipeE env ow) >>= fun env2 => evTs G ifs env2 >>= fun t => if t = true then (ev G elt env2 >>= fun y => pure (some y)) else pure none)) S1.length m (i + 1)) else Fb.fail)) >>= fun _ => pure (.loc S1.length)) S3) (VW X.K Q) := by
          refine Po.mono e4 ?_
          have h : Po cl X.K ι3 H3 (M.bind (compL src _ S1.length (m + 1) i) _ S3) _ := h
          unfold M.bind at h
          rw [compL_item q] at h
          exact h
        rw [bind_assoc'] at h
        have E4 : ER X.K ι3 H4 (wipeE env ow) (L2.wipe σ ow) := (E.ext (e1.trans (e2.trans e34))).wipe
        intro s H0 cl2 C fp
        obtain ⟨r0, S5, hr0, h⟩ := bind_po h
        have h1 : Po cl X.K ι3 H4 ((asg G tgt x0 (wipeE env ow) >>= fun env2 => evTs G ifs env2 >>= fun t => if t = true then (ev G elt env2 >>= fun y => pure (some y)) else (pure none : M (Option W))) S3)
            (fun r S' ι' H' => Ext cl X.K ι3 H4 ι' S' H' → Po cl X.K ι' H' (((match r with
          | none => compL src (fun x => Fb.noEx (asg G tgt x (wipeE env ow) >>= fun env2 => evTs G ifs env2 >>= fun t => if t = true then (ev G elt env2 >>= fun y => pure (some y)) else pure none)) S1.length m (i + 1)
          | some y => (getM S1.length >>= fun xs => if xs.length < sizeLine then (setOb S1.length (.lst (xs ++ [y])) >>= fun _ => compL src (fun x => Fb.noEx (asg G tgt x (wipeE env ow) >>= fun env2 => evTs G ifs env2 >>= fun t => if t = true then (ev G elt env2 >>= fun y => pure (some y)) else pure none)) S1.length m (i + 1)) else Fb.fail)) >>= fun _ => (pure (W.loc S1.length) : M W)) S') (VW X.K Q)) := by
          refine Po.noEx (X := X) ?_
          rw [hr0]
          intro ι' H' e' _
          exact Po.mono e' h
        refine hg s H0 cl2 C fp e34.rel E4 wx (Po.bind h1 fun env2 S6 ι6 H6 e6 h => ?_)
        intro σ6 E6 O6
        refine ⟨O6.wipe sub, fun s H0 cl2 C fp => ?_⟩
        refine hf s H0 cl2 C fp e6.rel E6 (Po.bind h fun t S7 ι7 H7 e7 h => ?_)
        cases t with
        | false =>
          rw [if_neg Bool.false_ne_true] at h ⊢
          have h := Po.pure e7.rel h (e6.trans e7)
          exact ⟨S7, ι7, e34.trans (e6.trans e7), h⟩
        | true =>
          rw [if_pos rfl] at h ⊢
          intro s H0 cl2 C fp
          refine he s H0 cl2 C fp e7.rel (E6.ext e7) (Po.bind h fun y S8 ι8 H8 e8 h => ?_)
          intro yv ry
          have h := Po.pure e8.rel h (e6.trans (e7.trans e8))
          rw [bind_assoc'] at h
          have e38 := e34.trans (e6.trans (e7.trans e8))
          obtain ⟨xs, a, vs, q1, q2, q3, q4, h⟩ := getM_cases e8.rel h
          have ea : a = p := by
            have : (ι1 ++ [p])[S1.length]? = some p := by
              rw [← e1.rel.len, List.getElem?_append_right (Nat.le_refl _), Nat.sub_self]
              rfl
            have := pre_get e38.pre this
            rw [q2] at this
            exact Option.some.inj this
          rw [ea] at q2 q3
          have h : Po cl X.K ι8 H8 ((if xs.length < sizeLine then (setOb S1.length (.lst (xs ++ [y])) >>= fun _ => compL src (fun x => Fb.noEx (asg G tgt x (wipeE env ow) >>= fun env2 => evTs G ifs env2 >>= fun t => if t = true then (ev G elt env2 >>= fun y => pure (some y)) else pure none)) S1.length m (i + 1) >>= fun _ => pure (.loc S1.length)) else Fb.fail) S8) (VW X.K Q) := by
            by_cases c : xs.length < sizeLine
            · rw [if_pos c] at h ⊢
              rw [bind_assoc'] at h
              exact h
            · rw [if_neg c] at h ⊢
              exact h
          obtain ⟨c, h⟩ := ite_po h
          refine ⟨vs, q3, by rw [q4.length]; exact c, ?_⟩
          have e9 := setOb_lst e8.rel q1 q2 q3 (q4.append (.cons ry .nil))
          exact ⟨_, ι8, e38.trans e9, Po.mono e9 h⟩
end
end Fb
set_option Elab.async false
set_option linter.all false
set_option maxRecDepth 100000
set_option maxHeartbeats 4000000
namespace Fb
open PySem PySem.Spec PyProof.Rows L2
theorem blk_fn {env : Env} (hk : env.scope.kind = .function) : env.blockKind = .function := by unfold Env.blockKind; rw [hk]; rfl
theorem swap_eq {ts vs : List Expr} {k k2 : Nat} {p p2 : Pos} {env : Env} (hk : env.scope.kind = .function) {r : Option (List Str)} (h : swN ts vs env.scope = some r) :
    swappedStores [.Tuple ts k p] (.Tuple vs k2 p2) env = pure r := by
  unfold swN at h
  unfold swappedStores
  simp only [blk_fn hk, bne_self_eq_false, Bool.or_false]
  by_cases c : (!(ts.length == 2 || ts.length == 3) || vs.length != ts.length) = true
  · rw [if_pos c] at h
    cases h
    exact if_pos c
  rw [if_neg c] at h
  refine (if_neg c).trans ?_
  by_cases c2 : (vs.any fun | .Starred .. => true | _ => false) = true
  · have h := (if_pos c2).symm.trans h
    cases h
    exact if_pos c2
  have h := (if_neg c2).symm.trans h
  refine (if_neg c2).trans ?_
  by_cases c3 : ((swNames ts env.scope).length != ts.length || (swNames ts env.scope).eraseDups.length != (swNames ts env.scope).length) = true
  · have h := (if_pos c3).symm.trans h
    cases h
    exact if_pos c3
  have h := (if_neg c3).symm.trans h
  refine (if_neg c3).trans ?_
  by_cases c4 : (vs.all (foldedForSure 8)) = true
  · have h := (if_pos c4).symm.trans h
    cases h
    exact if_pos c4
  have h := (if_neg c4).symm.trans h
  refine (if_neg c4).trans ?_
  by_cases c5 : (vs.all (constantsAlone 8)) = true
  · have h := (if_pos c5).symm.trans h
    cases h
  have h := (if_neg c5).symm.trans h
  cases h
  exact if_neg c5
/-- the shape of swapped stores -/
theorem swN_shape {ts vs : List Expr} {sc : Scope} {ns : List Str} (h : swN ts vs sc = some (some ns)) :
    (∃ x y px py a b, ts = [.Name x px, .Name y py] ∧ vs = [a, b] ∧ ns = [x, y] ∧ x ≠ y ∧ sc.names.lookup x = some .local ∧ sc.names.lookup y = some .local) ∨
    (∃ x y z px py pz a b c, ts = [.Name x px, .Name y py, .Name z pz] ∧ vs = [a, b, c] ∧ ns = [x, y, z] ∧ x ≠ y ∧ x ≠ z ∧ y ≠ z ∧ sc.names.lookup x = some .local ∧ sc.names.lookup y = some .local ∧ sc.names.lookup z = some .local) := by
  unfold swN at h
  by_cases c : (!(ts.length == 2 || ts.length == 3) || vs.length != ts.length) = true
  · rw [if_pos c] at h; cases h
  rw [if_neg c] at h
  by_cases c2 : (vs.any fun | .Starred .. => true | _ => false) = true
  · have h := (if_pos c2).symm.trans h; cases h
  have h := (if_neg c2).symm.trans h
  by_cases c3 : ((swNames ts sc).length != ts.length || (swNames ts sc).eraseDups.length != (swNames ts sc).length) = true
  · have h := (if_pos c3).symm.trans h; cases h
  have h := (if_neg c3).symm.trans h
  by_cases c4 : (vs.all (foldedForSure 8)) = true
  · have h := (if_pos c4).symm.trans h; cases h
  have h := (if_neg c4).symm.trans h
  by_cases c5 : (vs.all (constantsAlone 8)) = true
  · have h := (if_pos c5).symm.trans h; cases h
  have h := (if_neg c5).symm.trans h
  cases h
  simp only [Bool.or_eq_true, Bool.not_eq_true', not_or, Bool.not_eq_false, Bool.not_eq_true, bne_eq_false_iff_eq, beq_iff_eq] at c c3
  obtain ⟨c0, c1⟩ := c
  obtain ⟨n1, n2⟩ := c3
  have one : ∀ (e : Expr) (l : Nat), nm1 sc l e = none ∨ ∃ x p, e = .Name x p ∧ sc.names.lookup x = some .local ∧ nm1 sc l e = some x := by
    intro e l
    cases e with
    | Name id pos =>
      by_cases q : (sc.names.lookup id == some .local && pos.line == l) = true
      · refine .inr ⟨id, pos, rfl, ?_, if_pos q⟩
        rw [Bool.and_eq_true] at q
        exact beq_iff_eq.mp q.1
      · exact .inl (if_neg q)
    | _ => exact .inl rfl
  have ne2 : ∀ {x y : Str}, [x, y].eraseDups.length = 2 → x ≠ y := by
    intro x y q e
    subst e
    simp [List.eraseDups_cons] at q
  rcases ts with _ | ⟨t1, _ | ⟨t2, _ | ⟨t3, _ | ⟨t4, r⟩⟩⟩⟩
  · simp at c0
  · simp at c0
  · rcases vs with _ | ⟨a, _ | ⟨b, _ | ⟨_, _⟩⟩⟩ <;> simp at c1
    unfold swNames at n1 n2 ⊢
    simp only [List.filterMap_cons, List.filterMap_nil] at n1 n2 ⊢
    generalize ((([t1, t2] : List Expr).head?.map (·.pos.line)).getD 0) = l at n1 n2 ⊢
    rcases one t1 l with e1 | ⟨x, px, rfl, hx, e1⟩ <;> rcases one t2 l with e2 | ⟨y, py, rfl, hy, e2⟩ <;> simp only [e1, e2, List.length_cons, List.length_nil] at n1 n2 ⊢ <;> first | omega | skip
    exact .inl ⟨x, y, px, py, a, b, rfl, rfl, rfl, ne2 n2, hx, hy⟩
  · rcases vs with _ | ⟨a, _ | ⟨b, _ | ⟨c, _ | ⟨_, _⟩⟩⟩⟩ <;> simp at c1
    unfold swNames at n1 n2 ⊢
    simp only [List.filterMap_cons, List.filterMap_nil] at n1 n2 ⊢
    generalize ((([t1, t2, t3] : List Expr).head?.map (·.pos.line)).getD 0) = l at n1 n2 ⊢
    rcases one t1 l with e1 | ⟨x, px, rfl, hx, e1⟩ <;> rcases one t2 l with e2 | ⟨y, py, rfl, hy, e2⟩ <;> rcases one t3 l with e3 | ⟨z, pz, rfl, hz, e3⟩ <;> simp only [e1, e2, e3, List.length_cons, List.length_nil] at n1 n2 ⊢ <;> first | omega | skip
    refine .inr ⟨x, y, z, px, py, pz, a, b, c, rfl, rfl, rfl, ?_, ?_, ?_, hx, hy, hz⟩
    · rintro rfl
      by_cases q : z = x
      · subst q; simp [List.eraseDups_cons] at n2
      · simp [List.eraseDups_cons, q] at n2
    · rintro rfl
      by_cases q : y = x
      · subst q; simp [List.eraseDups_cons] at n2
      · simp [List.eraseDups_cons, q] at n2
    · rintro rfl
      by_cases q : y = x
      · subst q; simp [List.eraseDups_cons] at n2
      · simp [List.eraseDups_cons, q] at n2
  · simp at c0
end Fb
set_option Elab.async false
set_option linter.all false
set_option maxRecDepth 100000
set_option maxHeartbeats 8000000
namespace Fb
open PySem PySem.Spec PyProof.Rows L2
section
variable {cl : Cl} {G : Ct} {T : Tab} {k : Nat} {N : List Str} {top : Str → Bool} {sc : Scope} {X : Cx}
/-- the wish behind a statement -/
abbrev SW (K : PySem.W.Frag) (D : Ends) : (Option W × En) → Sto → List Addr → Hp → Prop := fun r _ ι' H' => match r.1 with
  | none => ∀ σ', ER K ι' H' r.2 σ' → D.nx σ' H'
  | some w => ∀ v, WR K ι' H' w v → D.rt v H'
/-- the wish on an error, at the slots σ -/
abbrev XW (cl : Cl) (X : Cx) (wx : WX) (σ : L2.St) : Nat → Option W → Sto → List Addr → Hp → Prop := fun c p _ ι' H' => ∀ cls d, XR cl X.K ι' H' c p cls d → wx cls d σ H'
/-- the wish says nothing of the slots -/
def Flat (wx : WX) : Prop := ∀ cls d σ σ' H, wx cls d σ H → wx cls d σ' H
theorem PoX.flat {wx : WX} (fw : Flat wx) {σ σ' : L2.St} {α : Type} {r : Res α} {ι : List Addr} {H : Hp} {Φ : α → Sto → List Addr → Hp → Prop} (h : PoX cl X.K ι H r Φ (XW cl X wx σ)) : PoX cl X.K ι H r Φ (XW cl X wx σ') :=
  h.imp (fun _ _ _ _ _ q => q) fun _ _ _ _ _ _ q cls d x => fw cls d σ σ' _ (q cls d x)
theorem PoX.noEx {α : Type} {m : M α} {ι : List Addr} {S : Sto} {H : Hp} {Φ : α → Sto → List Addr → Hp → Prop} {Ψ : Nat → Option W → Sto → List Addr → Hp → Prop} (h : PoX cl X.K ι H (Fb.noEx m S) Φ Ψ) : Po cl X.K ι H (m S) Φ := by
  unfold Fb.noEx at h
  cases q : m S with
  | ok a S' => rw [q] at h; exact h
  | ex _ _ _ => rw [q] at h; exact h
  | no => rw [q] at h; exact h
theorem bind_poN {α β : Type} {m : M α} {f : α → M β} {ι : List Addr} {S : Sto} {H : Hp} {Φ : β → Sto → List Addr → Hp → Prop} {Ψ : Nat → Option W → Sto → List Addr → Hp → Prop} (h : PoX cl X.K ι H ((Fb.noEx m >>= f) S) Φ Ψ) : ∃ a S1, m S = .ok a S1 ∧ PoX cl X.K ι H (f a S1) Φ Ψ := by
  have e : (Fb.noEx m >>= f) S = M.bind (Fb.noEx m) f S := rfl
  rw [e] at h
  unfold M.bind Fb.noEx at h
  cases q : m S with
  | ok a S1 => rw [q] at h; exact ⟨a, S1, rfl, h⟩
  | ex _ _ _ => rw [q] at h; exact h.elim
  | no => rw [q] at h; exact h.elim
theorem poN_pure {α β : Type} {m : M α} {f : α → β} {ι : List Addr} {S : Sto} {H : Hp} {Φ : β → Sto → List Addr → Hp → Prop} {Ψ : Nat → Option W → Sto → List Addr → Hp → Prop} (h : PoX cl X.K ι H ((Fb.noEx m >>= fun x => (pure (f x) : M β)) S) Φ Ψ) : Po cl X.K ι H ((m >>= fun x => (pure (f x) : M β)) S) Φ := by
  obtain ⟨a, S1, e, h⟩ := bind_poN h
  show Po cl X.K ι H (M.bind m _ S) Φ
  unfold M.bind
  rw [e]
  exact h
theorem ite_poX {c : Prop} [Decidable c] {α : Type} {m : M α} {ι : List Addr} {S : Sto} {H : Hp} {Φ : α → Sto → List Addr → Hp → Prop} {Ψ : Nat → Option W → Sto → List Addr → Hp → Prop} (h : PoX cl X.K ι H ((if c then m else Fb.fail) S) Φ Ψ) : c ∧ PoX cl X.K ι H (m S) Φ Ψ := by
  by_cases q : c
  · rw [if_pos q] at h; exact ⟨q, h⟩
  · rw [if_neg q] at h; exact h.elim
/-- an expression that may raise -/
abbrev SX (cl : Cl) (G : Ct) (X : Cx) (wx : WX) (e : E) (e' : Expr) : Prop := ∀ {ι : List Addr} {S : Sto} {H : Hp} {env : En} {σ : L2.St} {Q : VK}, Rel cl X.K ι S H → ER X.K ι H env σ → PoX cl X.K ι H (evX G e env S) (VW X.K Q) (XW cl X wx σ) → tE X e' σ H Q
abbrev SSt (cl : Cl) (G : Ct) (X : Cx) (wx : WX) (s : S) (s' : Stmt) : Prop := ∀ {ι : List Addr} {S : Sto} {H : Hp} {env : En} {σ : L2.St} {D : Ends}, Rel cl X.K ι S H → ER X.K ι H env σ → PoX cl X.K ι H (ex G s env S) (SW X.K D) (XW cl X wx σ) → tS X s' D σ H
abbrev SSs (cl : Cl) (G : Ct) (X : Cx) (wx : WX) (s : Ss) (s' : List Stmt) : Prop := ∀ {ι : List Addr} {S : Sto} {H : Hp} {env : En} {σ : L2.St} {D : Ends}, Rel cl X.K ι S H → ER X.K ι H env σ → PoX cl X.K ι H (exs G s env S) (SW X.K D) (XW cl X wx σ) → tSs X s' D σ H
variable {wx : WX}
theorem x_of {e : E} {x : Expr} (he : ∀ env, evX G e env = Fb.noEx (ev G e env)) (ha : SE cl G X e x) : SX cl G X wx e x := by
  intro ι S H env σ Q R E h
  rw [he] at h
  exact ha R E h.noEx
theorem t_expr {e : E} {x : Expr} {p : Pos} (ha : SX cl G X wx e x) (hc : noCmp x = true) : SSt cl G X wx (.expr e) (.Expr x p) := by
  intro ι S H env σ D R E h
  refine ⟨_, ps_expr pe_s (no_swap hc), ?_⟩
  have h : PoX cl X.K ι H ((evX G e env >>= fun _ => pure (none, env)) S) (SW X.K D) (XW cl X wx σ) := h
  refine ha R E (PoX.bind h fun w1 S1 ι1 H1 e1 h => ?_)
  intro v1 r1
  exact PoX.pure e1.rel h _ (E.ext e1)
theorem asg_cases {t : Tg} {e : E} {env : En} {ι : List Addr} {S : Sto} {H : Hp} {D : Ends} {Ψ : Nat → Option W → Sto → List Addr → Hp → Prop} (h : PoX cl X.K ι H (ex G (.asg t e) env S) (SW X.K D) Ψ) :
    PoX cl X.K ι H ((evX G e env >>= fun x => Fb.noEx (asg G t x env) >>= fun env2 => pure (none, env2)) S) (SW X.K D) Ψ := h
theorem t_asg {t : Tg} {e : E} {tg x : Expr} {p : Pos} (ha : SX cl G X wx e x) (hg : SG cl G X t tg) (hs : swapsWith x (some tg) p.line X.env = pure false) (hw : swappedStores [tg] x X.env = pure none) (hn : nst tg = true) : SSt cl G X wx (.asg t e) (.Assign [tg] x p) := by
  intro ι S H env σ D R E h
  refine ⟨_, ps_asg pe_s pg_s hs hw (by rw [each_cons hn]; rfl), ?_⟩
  refine ha R E (PoX.bind (asg_cases h) fun w1 S1 ι1 H1 e1 h => ?_)
  intro v1 r1
  refine hg e1.rel (E.ext e1) r1 (PoX.bindN h fun env2 S2 ι2 H2 e2 h => ?_)
  intro σ2 E2 _
  exact PoX.pure e2.rel h _ E2
/-- a, b = x, y by swapped stores -/
theorem evs_len : ∀ {es : Es} {vs : List Expr} {sc : Scope} {env : En} {S S1 : Sto} {ws : List W}, chkEs N T es sc vs = true → vs.all nst = true → evs G es env S = .ok ws S1 → ws.length = vs.length
  | .nil, [], _, _, _, _, _, _, _, h => by cases h; rfl
  | .nil, _ :: _, _, _, _, _, _, c, _, _ => by cases c
  | .cons e r, [], _, _, _, _, _, c, _, _ => by cases c
  | .cons e r, v :: vs, sc, env, S, S1, ws, c, n, h => by
    have c : (nst v && chkE N T e sc v && chkEs N T r sc vs) = true := c
    rw [Bool.and_eq_true] at c
    rw [List.all_cons, Bool.and_eq_true] at n
    have h : (ev G e env >>= fun x => evs G r env >>= fun xs => pure (x :: xs)) S = .ok ws S1 := h
    obtain ⟨a, S2, _, h⟩ := bind_ok h
    obtain ⟨xs, S3, h2, h⟩ := bind_ok h
    cases h
    rw [List.length_cons, List.length_cons, evs_len c.2 n.2 h2]
  | .star e r, [], _, _, _, _, _, c, _, _ => by cases c
  | .star e r, v :: vs, sc, env, S, S1, ws, c, n, h => by
    rw [List.all_cons, Bool.and_eq_true] at n
    cases v <;> first | cases c | cases n.1
theorem par2 {i1 i2 : Nat} {w1 w2 : W} {env : En} {ι : List Addr} {S : Sto} {H : Hp} {Φ : (Option W × En) → Sto → List Addr → Hp → Prop} {Ψ : Nat → Option W → Sto → List Addr → Hp → Prop} (R : Rel cl X.K ι S H)
    (h : PoX cl X.K ι H ((Fb.noEx (asg G (.tup (.cons (.var i1) (.cons (.var i2) .nil))) (.tup [w1, w2]) env) >>= fun e => pure (none, e)) S) Φ Ψ) : Φ (none, (env.set i1 (some w1)).set i2 (some w2)) S ι H := by
  have h := poN_pure h
  have h : Po cl X.K ι H ((((if i1 < env.length then (pure (env.set i1 (some w1)) : M En) else Fb.fail) >>= fun e2 => (if i2 < e2.length then (pure (e2.set i2 (some w2)) : M En) else Fb.fail) >>= fun e3 => (pure e3 : M En)) >>= fun e => pure (none, e)) S) Φ := h
  by_cases c1 : i1 < env.length
  · rw [if_pos c1] at h
    have h : Po cl X.K ι H ((((if i2 < (env.set i1 (some w1)).length then (pure ((env.set i1 (some w1)).set i2 (some w2)) : M En) else Fb.fail) >>= fun e3 => (pure e3 : M En)) >>= fun e => pure (none, e)) S) Φ := h
    by_cases c2 : i2 < (env.set i1 (some w1)).length
    · rw [if_pos c2] at h
      exact h ι H (.refl R)
    · rw [if_neg c2] at h
      exact h.elim
  · rw [if_neg c1] at h
    exact h.elim
theorem par3 {i1 i2 i3 : Nat} {w1 w2 w3 : W} {env : En} {ι : List Addr} {S : Sto} {H : Hp} {Φ : (Option W × En) → Sto → List Addr → Hp → Prop} {Ψ : Nat → Option W → Sto → List Addr → Hp → Prop} (R : Rel cl X.K ι S H)
    (h : PoX cl X.K ι H ((Fb.noEx (asg G (.tup (.cons (.var i1) (.cons (.var i2) (.cons (.var i3) .nil)))) (.tup [w1, w2, w3]) env) >>= fun e => pure (none, e)) S) Φ Ψ) : Φ (none, ((env.set i1 (some w1)).set i2 (some w2)).set i3 (some w3)) S ι H := by
  have h := poN_pure h
  have h : Po cl X.K ι H ((((if i1 < env.length then (pure (env.set i1 (some w1)) : M En) else Fb.fail) >>= fun e2 => (if i2 < e2.length then (pure (e2.set i2 (some w2)) : M En) else Fb.fail) >>= fun e3 => (if i3 < e3.length then (pure (e3.set i3 (some w3)) : M En) else Fb.fail) >>= fun e4 => (pure e4 : M En)) >>= fun e => pure (none, e)) S) Φ := h
  by_cases c1 : i1 < env.length
  · rw [if_pos c1] at h
    have h : Po cl X.K ι H ((((if i2 < (env.set i1 (some w1)).length then (pure ((env.set i1 (some w1)).set i2 (some w2)) : M En) else Fb.fail) >>= fun e3 => (if i3 < e3.length then (pure (e3.set i3 (some w3)) : M En) else Fb.fail) >>= fun e4 => (pure e4 : M En)) >>= fun e => pure (none, e)) S) Φ := h
    by_cases c2 : i2 < (env.set i1 (some w1)).length
    · rw [if_pos c2] at h
      have h : Po cl X.K ι H ((((if i3 < ((env.set i1 (some w1)).set i2 (some w2)).length then (pure (((env.set i1 (some w1)).set i2 (some w2)).set i3 (some w3)) : M En) else Fb.fail) >>= fun e4 => (pure e4 : M En)) >>= fun e => pure (none, e)) S) Φ := h
      by_cases c3 : i3 < ((env.set i1 (some w1)).set i2 (some w2)).length
      · rw [if_pos c3] at h
        exact h ι H (.refl R)
      · rw [if_neg c3] at h
        exact h.elim
    · rw [if_neg c2] at h
      exact h.elim
  · rw [if_neg c1] at h
    exact h.elim
theorem chkG_var {t : Tg} {x : Str} {p : Pos} (h : chkG N T top t sc (.Name x p) = true) : ∃ i, t = .var i ∧ N[i]? = some x := by
  cases t with
  | var i =>
    have g : (N[i]? == some x && (owned sc x || (top x && seen sc x && !(sc.names.lookup x == some .free)))) = true := h
    rw [Bool.and_eq_true, beq_iff_eq] at g
    exact ⟨i, rfl, g.1⟩
  | _ => cases h
theorem chkGs_cons {ts : Tgs} {x : Expr} {xs : List Expr} (h : chkGs N T top ts sc (x :: xs) = true) : ∃ t r, ts = .cons t r ∧ nst x = true ∧ chkG N T top t sc x = true ∧ chkGs N T top r sc xs = true := by
  cases ts with
  | nil => cases h
  | cons t r =>
    have h : (nst x && chkG N T top t sc x && chkGs N T top r sc xs) = true := h
    rw [Bool.and_eq_true, Bool.and_eq_true] at h
    exact ⟨t, r, rfl, h.1.1, h.1.2, h.2⟩
theorem chkGs_nil {ts : Tgs} (h : chkGs N T top ts sc [] = true) : ts = .nil := by
  cases ts with
  | nil => rfl
  | cons _ _ => cases h
theorem wrs3 {K : PySem.W.Frag} {ι : List Addr} {H : Hp} {a b c : W} {vs : List V} (w : WRs K ι H [a, b, c] vs) : ∃ x y z, vs = [x, y, z] ∧ WR K ι H a x ∧ WR K ι H b y ∧ WR K ι H c z := by
  unfold WRs at w
  obtain ⟨x, r, rfl, h1, h2⟩ := w
  obtain ⟨y, z, rfl, h3, h4⟩ := wrs2 h2
  exact ⟨x, y, z, rfl, h1, h3, h4⟩
theorem t_par {ts : Tgs} {es : Es} {tgs vs : List Expr} {j j2 : Nat} {p1 p2 p : Pos} {ns : List Str} (ok : Ok cl G T k N top sc X) (hk : X.env.scope.kind = .function) (hsw : swN tgs vs sc = some (some ns)) (hvs : vs.all nst = true) (hes : chkEs N T es sc vs = true)
    (ha : SA cl G X es vs) (hg : chkGs N T top ts sc tgs = true) : SSt cl G X wx (.asg (.tup ts) (.tup es)) (.Assign [.Tuple tgs j p1] (.Tuple vs j2 p2) p) := by
  intro ι S H env σ D R E h
  have hw := swap_eq (k := j) (k2 := j2) (p := p1) (p2 := p2) hk (by rw [ok.hsc]; exact hsw)
  have h : PoX cl X.K ι H ((Fb.noEx (evs G es env >>= fun xs => if xs.length ≤ sizeLine then (pure (W.tup xs) : M W) else Fb.fail) >>= fun x => Fb.noEx (asg G (.tup ts) x env) >>= fun env2 => pure (none, env2)) S) (SW X.K D) (XW cl X wx σ) := h
  obtain ⟨w0, S1, qa, h1⟩ := bind_poN h
  obtain ⟨ws, S2, q0, qb⟩ := bind_ok qa
  have l0 := evs_len hes hvs q0
  obtain ⟨rfl, rfl⟩ : w0 = .tup ws ∧ S1 = S2 := by
    by_cases c : ws.length ≤ sizeLine
    · rw [if_pos c] at qb; cases qb; exact ⟨rfl, rfl⟩
    · rw [if_neg c] at qb; cases qb
  have hN : X.N.Nodup := by rw [ok.hN]; exact ok.nd
  have sl : ∀ {i j : Nat} {x y : Str}, N[i]? = some x → N[j]? = some y → x ≠ y → i ≠ j := fun a b ne e => ne (by rw [e, b] at a; exact (Option.some.inj a).symm)
  rcases swN_shape hsw with ⟨x, y, px, py, a, b, rfl, rfl, rfl, nxy, hx, hy⟩ | ⟨x, y, z, px, py, pz, a, b, c, rfl, rfl, rfl, nxy, nxz, nyz, hx, hy, hz⟩
  · obtain ⟨t1, r1, rfl, _, g1, hg⟩ := chkGs_cons hg
    obtain ⟨t2, r2, rfl, _, g2, hg⟩ := chkGs_cons hg
    cases chkGs_nil hg
    obtain ⟨i1, rfl, n1⟩ := chkG_var g1
    obtain ⟨i2, rfl, n2⟩ := chkG_var g2
    refine ⟨_, ps_par ok.calm hN (by rw [ok.hN]; exact n1) (by rw [ok.hN]; exact n2) (sl n1 n2 nxy) (by rw [ok.hsc]; exact hx) (by rw [ok.hsc]; exact hy) pa_s hw, ?_⟩
    refine ha R E ?_
    rw [q0]
    intro ι1 H1 e1 us rs
    rcases ws with _ | ⟨w1, _ | ⟨w2, _ | ⟨_, _⟩⟩⟩ <;> first | (cases l0; done) | skip
    obtain ⟨v1, v2, rfl, r1, r2⟩ := wrs2 rs
    exact ⟨v1, v2, rfl, par2 e1.rel (PoX.mono e1 h1) _ (((E.ext e1).set r1).set r2)⟩
  · obtain ⟨t1, r1, rfl, _, g1, hg⟩ := chkGs_cons hg
    obtain ⟨t2, r2, rfl, _, g2, hg⟩ := chkGs_cons hg
    obtain ⟨t3, r3, rfl, _, g3, hg⟩ := chkGs_cons hg
    cases chkGs_nil hg
    obtain ⟨i1, rfl, n1⟩ := chkG_var g1
    obtain ⟨i2, rfl, n2⟩ := chkG_var g2
    obtain ⟨i3, rfl, n3⟩ := chkG_var g3
    refine ⟨_, ps_par3 ok.calm hN (by rw [ok.hN]; exact n1) (by rw [ok.hN]; exact n2) (by rw [ok.hN]; exact n3) (sl n1 n2 nxy) (sl n1 n3 nxz) (sl n2 n3 nyz) (by rw [ok.hsc]; exact hx) (by rw [ok.hsc]; exact hy) (by rw [ok.hsc]; exact hz) pa_s hw, ?_⟩
    refine ha R E ?_
    rw [q0]
    intro ι1 H1 e1 us rs
    rcases ws with _ | ⟨w1, _ | ⟨w2, _ | ⟨w3, _ | ⟨_, _⟩⟩⟩⟩ <;> first | (cases l0; done) | skip
    obtain ⟨v1, v2, v3, rfl, r1, r2, r3⟩ := wrs3 rs
    exact ⟨v1, v2, v3, rfl, par3 e1.rel (PoX.mono e1 h1) _ ((((E.ext e1).set r1).set r2).set r3)⟩
theorem swap_comp {elt : Expr} {gs : List Comprehension} {sc2 : Scope} {p py : Pos} {y : Str} {l : Nat} {env : Env} : swapsWith (.ListComp elt gs sc2 p) (some (.Name y py)) l env =
    pure (env.blockKind == .function && env.kindOf y == some .local && py.line == p.line && !(sc2.names.any fun (n, k) => n == y && (k == .local || k == .cell))) := rfl
theorem swap_noname {x tg : Expr} {l : Nat} {env : Env} (h : ∀ y p, tg ≠ .Name y p) : swapsWith x (some tg) l env = pure false := by
  cases x <;> first | rfl | (cases tg <;> first | rfl | exact absurd rfl (h _ _))
/-- y = [..] -/
theorem t_comp {i : Nat} {y : Str} {py : Pos} {tg it x : Expr} {fs : List Expr} {sc2 : Scope} {elt : E} {tgt : Tg} {itr : Fb.It} {ifs : Fi} {own : List (Str × Nat)} {ow : List Nat} {pos p : Pos} (ok : Ok cl G T k N top sc X) (hi : N[i]? = some y) (hg' : SG cl G X (.var i) (.Name y py))
    (how : own.map (·.2) = ow) (bok : BlkOk X.N X.env.scope sc2 own) (hset : noSet it = true) (hI : SIt cl G X itr tg it) (sub : ∀ i ∈ tgv tgt, i ∈ ow)
    (hg : ∀ s H cl2 C fp, SG cl G (blkX X s H sc2 cl2 C fp) tgt tg) (hf : ∀ s H cl2 C fp, SF cl G (blkX X s H sc2 cl2 C fp) ifs fs) (he : ∀ s H cl2 C fp, SE cl G (blkX X s H sc2 cl2 C fp) elt x)
    (hse : SE cl G X (.comp elt tgt itr ifs ow) (.ListComp x [⟨tg, it, fs, 0⟩] sc2 pos)) :
    SSt cl G X wx (.asg (.var i) (.comp elt tgt itr ifs ow)) (.Assign [.Name y py] (.ListComp x [⟨tg, it, fs, 0⟩] sc2 pos) p) := by
  have hN : X.N.Nodup := by rw [ok.hN]; exact ok.nd
  cases b : (X.env.blockKind == .function && X.env.kindOf y == some .local && py.line == pos.line && !(sc2.names.any fun (n, k) => n == y && (k == .local || k == .cell))) with
  | false =>
    intro ι S H env σ D R E h
    exact t_asg (p := p) (x_of (fun _ => rfl) hse) hg' (by rw [swap_comp, b]) rfl rfl R E h
  | true =>
    intro ι S H env σ D R E h
    have hy : X.env.scope.names.lookup y = some .local := by
      rw [Bool.and_eq_true, Bool.and_eq_true, Bool.and_eq_true] at b
      exact beq_iff_eq.mp b.1.1.2
    refine ⟨_, ps_setLc (own := own) ok.calm hN (by rw [ok.hN]; exact hi) hy (by rw [swap_comp, b]) pi_s bok
      (g := fun v σ H Q => ∀ s H0 cl2 C fp, tG (blkX X s H0 sc2 cl2 C fp) tg v σ H Q) (tt := fun σ H Q => ∀ s H0 cl2 C fp, tF (blkX X s H0 sc2 cl2 C fp) fs σ H Q) (te := fun σ H Q => ∀ s H0 cl2 C fp, tE (blkX X s H0 sc2 cl2 C fp) x σ H Q)
      (fun s H C cl fp => ⟨fun pins s' σ H' v u Q I r q => pg_s.run pins s' σ H' v u Q I r (q s H cl C fp)⟩) (fun s H C cl fp => ⟨fun pins s' σ H' Q I q => pf_s.run pins s' σ H' Q I (q s H cl C fp)⟩) (fun s H C cl fp => ⟨fun pins s' σ H' Q I q => pe_s.run pins s' σ H' Q I (q s H cl C fp)⟩) (no_fold hset), ?_⟩
    refine comp_read how hI sub hg hf he R E (PoX.bindN (asg_cases h) fun w1 S1 ι1 H1 e1 h => ?_)
    intro v1 r1
    have h := poN_pure h
    have h : Po cl X.K ι1 H1 (((if i < env.length then (pure (env.set i (some w1)) : M En) else Fb.fail) >>= fun env2 => pure (none, env2)) S1) (SW X.K D) := h
    by_cases c : i < env.length
    · rw [if_pos c] at h
      exact h ι1 H1 (.refl e1.rel) _ ((E.ext e1).set r1)
    · rw [if_neg c] at h
      exact h.elim
theorem s_comp {tg it x : Expr} {fs : List Expr} {sc2 : Scope} {elt : E} {tgt : Tg} {itr : Fb.It} {ifs : Fi} {own : List (Str × Nat)} {ow : List Nat} {pos : Pos} (ok : Ok cl G T k N top sc X)
    (how : own.map (·.2) = ow) (bok : BlkOk X.N X.env.scope sc2 own) (hset : noSet it = true) (hI : SIt cl G X itr tg it) (sub : ∀ i ∈ tgv tgt, i ∈ ow)
    (hg : ∀ s H cl2 C fp, SG cl G (blkX X s H sc2 cl2 C fp) tgt tg) (hf : ∀ s H cl2 C fp, SF cl G (blkX X s H sc2 cl2 C fp) ifs fs) (he : ∀ s H cl2 C fp, SE cl G (blkX X s H sc2 cl2 C fp) elt x) :
    SE cl G X (.comp elt tgt itr ifs ow) (.ListComp x [⟨tg, it, fs, 0⟩] sc2 pos) := by
  intro ι S H env σ Q R E h
  have hN : X.N.Nodup := by rw [ok.hN]; exact ok.nd
  refine ⟨_, pe_lc (own := own) ok.calm hN pi_s bok
      (g := fun v σ H Q => ∀ s H0 cl2 C fp, tG (blkX X s H0 sc2 cl2 C fp) tg v σ H Q) (tt := fun σ H Q => ∀ s H0 cl2 C fp, tF (blkX X s H0 sc2 cl2 C fp) fs σ H Q) (te := fun σ H Q => ∀ s H0 cl2 C fp, tE (blkX X s H0 sc2 cl2 C fp) x σ H Q)
      (fun s H C cl fp => ⟨fun pins s' σ H' v u Q I r q => pg_s.run pins s' σ H' v u Q I r (q s H cl C fp)⟩) (fun s H C cl fp => ⟨fun pins s' σ H' Q I q => pf_s.run pins s' σ H' Q I (q s H cl C fp)⟩) (fun s H C cl fp => ⟨fun pins s' σ H' Q I q => pe_s.run pins s' σ H' Q I (q s H cl C fp)⟩) (no_fold hset), ?_⟩
  exact comp_read how hI sub hg hf he R E h

/-! ### blocks -/
theorem t_nil : SSs cl G X wx .nil [] := by
  intro ι S H env σ D R E h
  exact ⟨_, pss_nil, PoX.pure R h _ E⟩
theorem t_cons {s : S} {r : Ss} {x : Stmt} {xs : List Stmt} (fw : Flat wx) (h1 : SSt cl G X wx s x) (h2 : SSs cl G X wx r xs) : SSs cl G X wx (.cons s r) (x :: xs) := by
  intro ι S H env σ D R E h
  refine ⟨_, pss_cons ps_s pss_s, ?_⟩
  have h : PoX cl X.K ι H ((ex G s env >>= fun r1 => match r1.1 with
    | some w => pure (some w, r1.2)
    | none => exs G r r1.2) S) (SW X.K D) (XW cl X wx σ) := h
  refine h1 (D := { D with nx := tSs X xs D }) R E (PoX.bind h fun r1 S1 ι1 H1 e1 h => ?_)
  obtain ⟨o, env1⟩ := r1
  cases o with
  | none =>
    intro σ1 E1
    exact h2 e1.rel E1 (h.flat fw)
  | some w =>
    intro v hv
    exact PoX.pure e1.rel h v hv
/-- one alone: its slots may change -/
theorem t_one {s : S} {x : Stmt} (h1 : SSt cl G X wx s x) : SSs cl G X wx (.cons s .nil) [x] := by
  intro ι S H env σ D R E h
  refine ⟨_, pss_cons ps_s pss_nil, ?_⟩
  have h : PoX cl X.K ι H ((ex G s env >>= fun r1 => match r1.1 with
    | some w => pure (some w, r1.2)
    | none => (pure (none, r1.2) : M (Option W × En))) S) (SW X.K D) (XW cl X wx σ) := h
  refine h1 (D := { D with nx := tNext D }) R E (PoX.bind h fun r1 S1 ι1 H1 e1 h => ?_)
  obtain ⟨o, env1⟩ := r1
  cases o with
  | none =>
    intro σ1 E1
    exact PoX.pure e1.rel h σ1 E1
  | some w =>
    intro v hv
    exact PoX.pure e1.rel h v hv
theorem t_ifs {c : C} {a b : Ss} {z : Expr} {x y : List Stmt} {p : Pos} (hc : SC cl G X c z) (ha : SSs cl G X wx a x) (hb : SSs cl G X wx b y) : SSt cl G X wx (.ifs c a b) (.If z x y p) := by
  intro ι S H env σ D R E h
  refine ⟨_, ps_if pt_s pss_s pss_s, ?_⟩
  have h : PoX cl X.K ι H ((Fb.noEx (evT G c env) >>= fun t => if t = true then exs G a env else exs G b env) S) (SW X.K D) (XW cl X wx σ) := h
  refine hc R E (PoX.bindN h fun t S1 ι1 H1 e1 h => ?_)
  cases t with
  | true => rw [if_pos rfl] at h ⊢; exact ha e1.rel (E.ext e1) h
  | false => rw [if_neg Bool.false_ne_true] at h ⊢; exact hb e1.rel (E.ext e1) h
theorem t_ret {e : E} {x : Expr} {p : Pos} (ha : SX cl G X wx e x) : SSt cl G X wx (.ret e) (.Return (some x) p) := by
  intro ι S H env σ D R E h
  refine ⟨_, ps_ret pe_s, ?_⟩
  have h : PoX cl X.K ι H ((evX G e env >>= fun x => pure (some x, env)) S) (SW X.K D) (XW cl X wx σ) := h
  refine ha R E (PoX.bind h fun w1 S1 ι1 H1 e1 h => ?_)
  intro v1 r1
  exact PoX.pure e1.rel h v1 r1
theorem t_retN {p : Pos} : SSt cl G X wx .retN (.Return none p) := by
  intro ι S H env σ D R E h
  exact ⟨_, ps_retN, PoX.pure R h .non rfl⟩
theorem t_pass {p : Pos} : SSt cl G X wx .pass (.Pass p) := by
  intro ι S H env σ D R E h
  exact ⟨_, ps_pass, PoX.pure R h _ E⟩
theorem t_doc {x : Str} {j : Nat} {p q : Pos} : SSt cl G X wx .pass (.Expr (.Constant (.str x) j q) p) := by
  intro ι S H env σ D R E h
  exact ⟨_, ps_doc, PoX.pure R h _ E⟩
/-! ### loops -/
theorem whN_succ {c : En → M Bool} {b : En → M (Option W × En)} {n : Nat} {env : En} : whN c b (n + 1) env = (c env >>= fun t => if t = true then (b env >>= fun r => match r.1 with
      | some w => pure (some w, r.2)
      | none => whN c b n r.2) else pure (none, env)) := rfl
theorem t_whl {c : C} {b : Ss} {z : Expr} {y : List Stmt} {p : Pos} (fw : Flat wx) (hp : PassesOwn (model X.prog X.w) X.A X.env X.xe) (hc : SC cl G X c z) (hb : SSs cl G X wx b y) : SSt cl G X wx (.whl c b) (.While z y [] p) := by
  intro ι S H env σ D R E h
  refine ⟨_, ps_while hp pt_s pss_s, ?_⟩
  have h : PoX cl X.K ι H (whl (fun env => Fb.noEx (evT G c env)) (fun env => exs G b env) env S) (SW X.K D) (XW cl X wx []) := PoX.flat fw h
  unfold whl at h
  split at h
  · rename_i hn
    refine ⟨fun m σ H => ∃ env S ι, Rel cl X.K ι S H ∧ ER X.K ι H env σ ∧ PoX cl X.K ι H (whN (fun env => Fb.noEx (evT G c env)) (fun env => exs G b env) m env S) (SW X.K D) (XW cl X wx []), ⟨_, env, S, ι, R, E, h⟩, ?_⟩
    rintro m σ1 H1 ⟨env1, S1, ι1, R1, E1, h1⟩
    cases m with
    | zero => exact h1.elim
    | succ m =>
      rw [whN_succ] at h1
      refine hc R1 E1 (PoX.bindN h1 fun t S2 ι2 H2 e2 h => ?_)
      cases t with
      | true =>
        rw [if_pos rfl] at h ⊢
        refine ⟨fun σ' H' => ∃ env S ι, Rel cl X.K ι S H' ∧ ER X.K ι H' env σ' ∧ PoX cl X.K ι H' (whN (fun env => Fb.noEx (evT G c env)) (fun env => exs G b env) m env S) (SW X.K D) (XW cl X wx []), fun σ' H' hq => ⟨m, Nat.lt_succ_self m, hq⟩, ?_⟩
        refine hb (D := { nx := _, rt := D.rt, bk := D.nx, ct := _ }) e2.rel (E1.ext e2) (PoX.bind (h.flat fw) fun r S3 ι3 H3 e3 h => ?_)
        obtain ⟨o, env3⟩ := r
        cases o with
        | none => exact fun σ3 E3 => ⟨env3, S3, ι3, e3.rel, E3, h.flat fw⟩
        | some w => exact fun v hv => PoX.pure e3.rel h v hv
      | false =>
        rw [if_neg Bool.false_ne_true] at h ⊢
        exact PoX.pure e2.rel h _ (E1.ext e2)
  · exact h.elim
theorem forL_none {src : Src} {f : W → En → M (Option W × En)} {m i : Nat} {env : En} {S : Sto} (q : src.at S i = none) : forL src f (m + 1) i env S = .no := by
  rw [forL]
  dsimp only
  rw [q]
theorem forL_stop {src : Src} {f : W → En → M (Option W × En)} {m i : Nat} {env : En} {S : Sto} (q : src.at S i = some none) : forL src f (m + 1) i env S = .ok (none, env) S := by
  rw [forL]
  dsimp only
  rw [q]
theorem forL_item {src : Src} {f : W → En → M (Option W × En)} {m i : Nat} {env : En} {S : Sto} {x : W} (q : src.at S i = some (some x)) : forL src f (m + 1) i env S = (f x env >>= fun r => match r.1 with
      | some w => pure (some w, r.2)
      | none => forL src f m (i + 1) r.2) S := by
  rw [forL]
  dsimp only
  rw [q]
  rfl
theorem t_for {t : Tg} {it : Fb.It} {b : Ss} {tg x : Expr} {y : List Stmt} {p : Pos} (ok : Ok cl G T k N top sc X) (fw : Flat wx) (hp : PassesOwn (model X.prog X.w) X.A X.env X.xe) (hset : noSet x = true) (hI : SIt cl G X it tg x) (hg : SG cl G X t tg) (hb : SSs cl G X wx b y) : SSt cl G X wx (.fr t it b) (.For tg x y [] p) := by
  intro ι S H env σ D R E h
  refine ⟨_, ps_for hp ok.calm pi_s pg_s pss_s (no_fold hset), ?_⟩
  have h : PoX cl X.K ι H ((Fb.noEx (evI G it env) >>= fun src => srcLen src >>= fun n => forL src (fun x env => Fb.noEx (asg G t x env) >>= fun env2 => exs G b env2) (n + 1) 0 env) S) (SW X.K D) (XW cl X wx []) := PoX.flat fw h
  refine hI R E (PoX.bindN h fun src S1 ι1 H1 e1 h => ?_)
  intro J hJ
  have h : PoX cl X.K ι1 H1 (forL src (fun x env => Fb.noEx (asg G t x env) >>= fun env2 => exs G b env2) (src.len S1 + 1) 0 env S1) (SW X.K D) (XW cl X wx []) := h
  refine ⟨fun i m σ H => ∃ env S ι, Ext cl X.K ι1 H1 ι S H ∧ ER X.K ι H env σ ∧ PoX cl X.K ι H (forL src (fun x env => Fb.noEx (asg G t x env) >>= fun env2 => exs G b env2) m i env S) (SW X.K D) (XW cl X wx []), ⟨_, env, S1, ι1, .refl e1.rel, E.ext e1, h⟩, ?_⟩
  rintro i m σ2 H2 ⟨env2, S2, ι2, e2, E2, h⟩
  cases m with
  | zero => exact h.elim
  | succ m =>
    obtain ⟨hj1, hj2⟩ := hJ ι2 S2 H2 i e2.pre e2.mono e2.rel
    cases q : src.at S2 i with
    | none => rw [forL_none q] at h; exact h.elim
    | some o =>
      cases o with
      | none =>
        rw [forL_stop q] at h
        exact .inl ⟨hj2 q, h ι2 H2 (.refl e2.rel) σ2 E2⟩
      | some x0 =>
        obtain ⟨g, yl⟩ := hj1 x0 q
        refine .inr ⟨g, fun σ' H' => ∃ env S ι, Ext cl X.K ι1 H1 ι S H' ∧ ER X.K ι H' env σ' ∧ PoX cl X.K ι H' (forL src (fun x env => Fb.noEx (asg G t x env) >>= fun env2 => exs G b env2) m (i + 1) env S) (SW X.K D) (XW cl X wx []), fun σ' H' hq => ⟨m, Nat.lt_succ_self m, hq⟩, fun xv H3 hy => ?_⟩
        obtain ⟨e3, wxv⟩ := yl xv H3 hy
        rw [forL_item q] at h
        have h := PoX.mono e3 h
        rw [bind_assoc'] at h
        refine hg e3.rel (E2.ext e3) wxv (PoX.bindN h fun env4 S4 ι4 H4 e4 h => ?_)
        intro σ4 E4 _
        refine hb (D := { nx := _, rt := D.rt, bk := D.nx, ct := _ }) e4.rel E4 (PoX.bind (h.flat fw) fun r S5 ι5 H5 e5 h => ?_)
        obtain ⟨o, env5⟩ := r
        cases o with
        | none => exact fun σ5 E5 => ⟨env5, S5, ι5, e2.trans (e3.trans (e4.trans e5)), E5, h.flat fw⟩
        | some w => exact fun v hv => PoX.pure e5.rel h v hv
/-- x op= e -/
theorem aug_PIp {op : BOp} : PIp X (bopP op) (fun x y H Q => rB cl X.K (augW op) x y H Q) := fun pins s σ H x y v u Q I rx ry h => op_aug (cl := cl) op pins s σ H x y v u Q I rx ry h
theorem t_augV {i : Nat} {op : BOp} {e : E} {x : Str} {z : Expr} {q p : Pos} (ok : Ok cl G T k N top sc X) (hi : N[i]? = some x) (hx : Loc X.env.scope x) (hf : X.fn x = true ∨ X.env.scope.names.lookup x = some .local) (ha : SE cl G X e z) :
    SSt cl G X wx (.aug (.var i) op e) (.AugAssign (.Name x q) (bopP op) z p) := by
  intro ι S H env σ D R E h
  refine ⟨_, ps_aug (by rw [ok.hN]; exact ok.nd) (by rw [ok.hN]; exact hi) hx pe_s (aug_PIp (cl := cl)) hf, ?_⟩
  have h : PoX cl X.K ι H ((ofO ((env[i]?).join) >>= fun x => Fb.noEx (ev G e env) >>= fun y => Fb.noEx (augW op x y) >>= fun z => if i < env.length then pure (none, env.set i (some z)) else Fb.fail) S) (SW X.K D) (XW cl X wx σ) := h
  cases q : env[i]? with
  | none => rw [q] at h; exact h.elim
  | some o =>
    cases o with
    | none => rw [q] at h; exact h.elim
    | some w =>
      rw [q] at h
      obtain ⟨v, hv, rv⟩ := E.2 i w q
      refine ⟨v, hv, ?_⟩
      have h : PoX cl X.K ι H ((Fb.noEx (ev G e env) >>= fun y => Fb.noEx (augW op w y) >>= fun z => if i < env.length then pure (none, env.set i (some z)) else Fb.fail) S) (SW X.K D) (XW cl X wx σ) := h
      refine ha R E (PoX.bindN h fun w1 S1 ι1 H1 e1 h => ?_)
      intro v1 r1
      refine ⟨ι1, S1, w, w1, e1.rel, rv.ext e1, r1, PoX.bindN h fun w2 S2 ι2 H2 e2 h => ?_⟩
      intro v2 r2
      obtain ⟨c, h⟩ := ite_poX h
      exact PoX.pure e2.rel h _ ((E.ext (e1.trans e2)).set r2)
/-- o[i], by values, ahead of a store -/
theorem ixGet : PGet X (fun x y H Q => rB cl X.K ixLW x y H Q) := by
  intro pins s σ H x y v u Q I rx ry h
  obtain ⟨ι, S, a, b, R, ha, hb, h⟩ := h
  cases a with
  | loc n =>
    cases b with
    | int k =>
      cases wr_int hb
      have h : Po cl X.K ι H ((getLM n >>= fun xs => ofO (atI xs k)) S) (VW X.K Q) := h
      obtain ⟨ws, p, xs, e0, e1, e2, e3, h⟩ := getLM_cases R h
      obtain ⟨w, e, q⟩ := ofO_po R h
      obtain ⟨z, he, wz⟩ := e3.atI e
      cases wr_loc ha e1
      cases rx
      obtain ⟨t, rfl⟩ := ry
      obtain ⟨its, r, pl, hz⟩ := I.list e2
      obtain ⟨j, h1, h2, h3, h4, h5⟩ := atI_get he
      obtain ⟨w', ew, rw'⟩ := r.get h2
      have hl := r.length
      have hn := line63
      have fin : EP X pins σ Q w' s := ⟨z, H, I, rw', q z wz⟩
      by_cases h0 : 0 ≤ k
      · have hj : k.toNat = j := by
          rw [seqIndex_of h0 h5] at h1
          exact Option.some.inj h1
        exact wpAny_getItem_list pl.isList h0 (by omega) (by rw [hj]; simpa using ew) fin
      · have hj : (k + (its.toArray.size : Int)).toNat = j := by
          rw [seqIndex_neg (by omega) h4] at h1
          rw [List.size_toArray, ← hl]
          exact Option.some.inj h1
        exact wpAny_getItem_list_neg pl.isList (by omega) (by rw [List.size_toArray] <;> omega) (by omega) (by rw [hj]; simpa using ew) fin
    | _ => exact h.elim
  | _ => exact h.elim
theorem t_augS {o j : E} {op : BOp} {e : E} {x y z : Expr} {q p : Pos} (ok : Ok cl G T k N top sc X) (ha : SE cl G X o x) (hb : SE cl G X j y) (he : SE cl G X e z) (hs : noSli y = true) : SSt cl G X wx (.aug (.sub o j) op e) (.AugAssign (.Subscript x y q) (bopP op) z p) := by
  intro ι S H env σ D R E h
  refine ⟨_, ps_augS pe_s pe_s (ixGet (cl := cl)) pe_s (aug_PIp (cl := cl)) (setI_ok (cl := cl) ok.hw ok.hu) (fun _ _ _ => by cases y <;> first | rfl | cases hs), ?_⟩
  have h : PoX cl X.K ι H ((Fb.noEx (ev G o env) >>= fun ov => Fb.noEx (ev G j env) >>= fun iv => Fb.noEx (ixLW ov iv) >>= fun x => Fb.noEx (ev G e env) >>= fun y => Fb.noEx (augW op x y) >>= fun z => Fb.noEx (setItemW ov iv z) >>= fun _ => pure (none, env)) S) (SW X.K D) (XW cl X wx σ) := h
  refine ha R E (PoX.bindN h fun w1 S1 ι1 H1 e1 h => ?_)
  intro v1 r1
  refine hb e1.rel (E.ext e1) (PoX.bindN h fun w2 S2 ι2 H2 e2 h => ?_)
  intro v2 r2
  refine ⟨ι2, S2, w1, w2, e2.rel, r1.ext e2, r2, PoX.bindN h fun w3 S3 ι3 H3 e3 h => ?_⟩
  intro v3 r3
  refine he e3.rel (E.ext (e1.trans (e2.trans e3))) (PoX.bindN h fun w4 S4 ι4 H4 e4 h => ?_)
  intro v4 r4
  refine ⟨ι4, S4, w3, w4, e4.rel, r3.ext e4, r4, PoX.bindN h fun w5 S5 ι5 H5 e5 h => ?_⟩
  intro v5 r5
  refine ⟨ι5, S5, w1, w2, w5, e5.rel, r1.ext (e2.trans (e3.trans (e4.trans e5))), r2.ext (e3.trans (e4.trans e5)), r5, PoX.bindN h fun u S6 ι6 H6 e6 h => ?_⟩
  exact PoX.pure e6.rel h _ (E.ext (e1.trans (e2.trans (e3.trans (e4.trans (e5.trans e6))))))
end
end Fb
set_option Elab.async false
set_option linter.all false
set_option maxRecDepth 100000
set_option maxHeartbeats 2000000
/-! Lite: isinstance, empty dicts, list(range(..)). -/
namespace Fb
open PySem PySem.Spec PyProof.Rows L2
variable {cl : Cl} {G : Ct} {T : Tab} {k : Nat} {N : List Str} {top : Str → Bool} {sc : Scope} {X : Cx}
theorem s_dnew {b : Bool} {p : Pos} (ok : Ok cl G T k N top sc X) : SE cl G X (.dnew b) (.Dict [] [] p) := by
  intro ι S H env σ Q R E h
  refine ⟨_, pe_dic (b := b), fun a ha => ?_⟩
  cases b with
  | false => exact h _ _ (R.newD (xs := []) (vs := []) ha rfl) _ (wr_new R)
  | true =>
    rw [if_pos rfl, ← ok.hw]
    exact h _ _ (R.newN ha) _ (wr_new R)
theorem s_dsp {a b : E} {x y : Expr} {p : Pos} (ok : Ok cl G T k N top sc X) (ha : SE cl G X a x) (hb : SE cl G X b y) : SE cl G X (.dsp a b) (.Dict [some x] [y] p) := by
  intro ι S H env σ Q R E h
  refine ⟨_, pe_disp (pps_cons pe_s pe_s pps_nil) rfl rfl (by simp) (show 1 ≤ 15 by decide), ?_⟩
  intro p hp
  have e0 := R.newD (xs := []) (vs := []) hp rfl
  have h : Po cl X.K ι H ((ev G a env >>= fun x => ev G b env >>= fun y => dspN S.length x y) (S ++ [.dic false []])) (VW X.K Q) := h
  refine ha e0.rel (E.ext e0) (Po.bind (Po.mono e0 h) fun w1 S1 ι1 H1 e1 h => ?_)
  intro v1 r1
  refine hb e1.rel ((E.ext e0).ext e1) (Po.bind h fun w2 S2 ι2 H2 e2 h => ?_)
  intro v2 r2
  have wl : WR X.K ι2 H2 (.loc S.length) (.ref p) := WR.ext (e1.trans e2) (wr_new R (H' := upd H p (.dK [])))
  unfold dspN at h
  cases z : dicAt S2 S.length with
  | none => rw [z] at h; exact h.elim
  | some q =>
    obtain ⟨bb, kvs⟩ := q
    rw [z] at h
    cases bb with
    | true => exact h.elim
    | false =>
      cases kvs with
      | cons _ _ => exact h.elim
      | nil =>
        dsimp only at h
        have c : isKey false w1 = true := by
          by_cases c : isKey false w1 = true
          · exact c
          · rw [if_neg c] at h; exact h.elim
        rw [if_pos c] at h
        obtain ⟨q1, a', q2, ob⟩ := dicAt_cases e2.rel z
        have ea : a' = p := by
          obtain ⟨b', e3, e4⟩ := wl
          cases e3
          rw [q2] at e4
          exact Option.some.inj e4
        subst ea
        obtain ⟨vs, hH, rs⟩ := ob
        have hv : vs = [] := rs
        subst hv
        obtain ⟨kk, k1, k2⟩ := isKey_key (K := X.K) (ι := ι2) (H := H2) c
        have k3 := k2 (WR.ext e2 r1)
        subst k3
        refine ⟨hH, [(kk, v2)], rfl, show 1 ≤ 15 by decide, ?_⟩
        have hm : Mono X.K H2 (upd H2 a' (.dK (putK [] kk v2))) := .mut hH trivial
        have hl : S.length < S2.length := (List.getElem?_eq_some_iff.mp q1).1
        have nf : ∀ xs, S2[S.length]? ≠ some (.frz xs) := fun xs e => by rw [q1] at e; cases e
        have e3 := e2.rel.write (o := .dic false [(w1, w2)]) q2 hl hH trivial nf (fun xs e => by cases e) ⟨_, upd_same, (drs_put (kvs := []) (vs := []) k1 r2 rs).mono (List.prefix_refl _) hm⟩
        exact h _ _ e3 _ (WR.ext e3 wl)
theorem rg_wrs {K : PySem.W.Frag} {ι : List Addr} {H : Hp} : ∀ (n : Nat) (lo : Int), WRs K ι H (rngW lo n) ((List.range n).map fun i => V.int (lo + (i : Nat)))
  | 0, lo => .nil
  | n + 1, lo => by
    rw [List.range_succ_eq_map, List.map_cons, List.map_map]
    refine .cons ?_ ?_
    · show V.int (lo + ((0 : Nat) : Int)) = V.int lo
      rw [show lo + ((0 : Nat) : Int) = lo by omega]
    · have := rg_wrs (K := K) (ι := ι) (H := H) n (lo + 1)
      have e : (List.range n).map ((fun i : Nat => V.int (lo + (i : Int))) ∘ Nat.succ) = (List.range n).map fun i => V.int (lo + 1 + (i : Nat)) := by
        refine List.map_congr_left fun i _ => ?_
        show V.int (lo + ((i + 1 : Nat) : Int)) = V.int (lo + 1 + (i : Int))
        rw [show lo + ((i + 1 : Nat) : Int) = lo + 1 + (i : Int) by omega]
      rw [e]
      exact this
theorem s_lrg {a b : E} {x y : Expr} {p q p2 p3 : Pos} (ok : Ok cl G T k N top sc X) (hf : glob sc ("list" : Str) = true) (hg : glob sc ("range" : Str) = true) (ha : SE cl G X a x) (hb : SE cl G X b y) (hx : nst x = true) (hy : nst y = true) :
    SE cl G X (.lrg a b) (.Call (.Name "list" p) [.Call (.Name "range" q) [x, y] [] p2] [] p3) := by
  intro ι S H env σ Q R E h
  refine ⟨_, pe_listRg ok.calm (glob_gl ok.hsc hf) (ok.lib.bl _ (by decide)) (prg_2 (glob_gl ok.hsc hg) (ok.lib.bl _ (by decide)) pe_s pe_s (star_cons hx) (star_cons hy) (no_star (es := [y]) (by rw [List.all_cons, hy]; rfl))) rfl, ?_⟩
  have h : Po cl X.K ι H ((ev G a env >>= fun x => ev G b env >>= fun y => lrgW x y) S) (VW X.K Q) := h
  refine ha R E (Po.bind h fun w1 S1 ι1 H1 e1 h => ?_)
  intro v1 r1
  refine hb e1.rel (E.ext e1) (Po.bind h fun w2 S2 ι2 H2 e2 h => ?_)
  intro v2 r2
  cases w1 with
  | int i =>
    cases w2 with
    | int j =>
      cases wr_int r1
      cases wr_int r2
      obtain ⟨c, h⟩ := ite_po h
      refine ⟨i, j, rfl, rfl, ⟨c.1, c.2.1, c.2.2.1, c.2.2.2.1, Nat.le_trans c.2.2.2.2 (by rw [sizeLine_eq]; decide)⟩, fun l hl => ?_⟩
      exact h _ _ (e2.rel.newL hl (rg_wrs _ _)) _ (wr_new e2.rel)
    | _ => exact h.elim
  | _ => exact h.elim
theorem s_lrg1 {b : E} {y : Expr} {p q p2 p3 : Pos} (ok : Ok cl G T k N top sc X) (hf : glob sc ("list" : Str) = true) (hg : glob sc ("range" : Str) = true) (hb : SE cl G X b y) (hy : nst y = true) :
    SE cl G X (.lrg (.int 0) b) (.Call (.Name "list" p) [.Call (.Name "range" q) [y] [] p2] [] p3) := by
  intro ι S H env σ Q R E h
  refine ⟨_, pe_listRg ok.calm (glob_gl ok.hsc hf) (ok.lib.bl _ (by decide)) (prg_1 (glob_gl ok.hsc hg) (ok.lib.bl _ (by decide)) pe_s (star_cons hy)) rfl, ?_⟩
  have h : Po cl X.K ι H ((ev G b env >>= fun y => lrgW (.int 0) y) S) (VW X.K Q) := h
  refine hb R E (Po.bind h fun w2 S2 ι2 H2 e2 h => ?_)
  intro v2 r2
  cases w2 with
  | int j =>
    cases wr_int r2
    obtain ⟨c, h⟩ := ite_po h
    refine ⟨j, rfl, ⟨c.1, c.2.1, c.2.2.1, c.2.2.2.1, Nat.le_trans c.2.2.2.2 (by rw [sizeLine_eq]; decide)⟩, fun l hl => ?_⟩
    exact h _ _ (e2.rel.newL hl (rg_wrs _ _)) _ (wr_new e2.rel)
  | _ => exact h.elim
/-- the type of a value of ours -/
theorem tyN_ok {ι : List Addr} {S S1 : Sto} {H : Hp} {w : W} {v : V} {n : String} (R : Rel cl X.K ι S H) (h : tyName w S = .ok (some n) S1) (r : WR X.K ι H w v) : S1 = S ∧ n ∈ tyKinds ∧ TyX X.K H v (.type n) := by
  have lk : ∀ {a : Addr} {vs : List V}, SqL X.K H a vs → TyX X.K H (.ref a) (.type "list") := fun h => by
    rcases h with (e | ⟨o, e⟩) | ⟨o, its, m, e, c, _⟩
    · exact .base (.lst e)
    · exact .base (.frz e)
    · exact .kList e c
  cases w with
  | non => cases h; cases wr_non r; exact ⟨rfl, by decide, .base .non⟩
  | bl b => cases h; cases wr_bl r; exact ⟨rfl, by decide, .base (.bl b)⟩
  | int b => cases h; cases wr_int r; exact ⟨rfl, by decide, .base (.int b)⟩
  | str b => cases h; cases wr_str r; exact ⟨rfl, by decide, .base (.str b)⟩
  | tup xs =>
    cases h
    obtain ⟨a, vs, rfl, s1, _⟩ := wr_tup r
    refine ⟨rfl, by decide, ?_⟩
    rcases s1 with (e | ⟨o, e⟩) | ⟨o, its, m, e, c, _⟩
    · exact .base (.tup e)
    · exact .fTuple e
    · exact .kTuple e c
  | loc l =>
    have h : (getOb l >>= fun o => match o with
      | .lst _ => pure (some "list")
      | .frz _ => pure (some "list")
      | .dic false _ => pure (some "dict")
      | .dic true _ => Fb.fail
      | .ins _ _ => pure none
      | .exn _ _ => Fb.fail) S = .ok (some n) S1 := h
    obtain ⟨o, S2, e, h⟩ := bnd_ok h
    unfold getOb at e
    cases q : S[l]? with
    | none => rw [q] at e; cases e
    | some o' =>
      rw [q] at e
      cases e
      obtain ⟨a, e1, ob⟩ := R.at q
      cases wr_loc r e1
      cases o with
      | lst xs => cases h; obtain ⟨vs, e2, _⟩ := ob; exact ⟨rfl, by decide, lk (.of e2)⟩
      | frz xs =>
        cases h
        refine ⟨rfl, by decide, ?_⟩
        rcases ob with ⟨o, vs, e2, _⟩ | ⟨vs, e2, _⟩
        · exact lk (.inl (.inr ⟨o, e2⟩))
        · exact lk e2.sq
      | dic b kvs =>
        cases b with
        | false => cases h; obtain ⟨vs, e2, _⟩ := ob; exact ⟨rfl, by decide, .base (.dK e2)⟩
        | true => cases h
      | ins _ _ => cases h
      | exn _ _ => cases h
theorem ty_kinds {y : Str} {n : String} (h : tyNames.contains (y, n) = true) : n ∈ tyKinds ∧ y ∈ blNames ∧ bootBuiltins y = some (.type n) := by
  have m := List.contains_iff_mem.mp h
  simp only [tyNames, List.mem_cons, Prod.mk.injEq, List.not_mem_nil, or_false] at m
  rcases m with ⟨rfl, rfl⟩ | ⟨rfl, rfl⟩ | ⟨rfl, rfl⟩ | ⟨rfl, rfl⟩ | ⟨rfl, rfl⟩ | ⟨rfl, rfl⟩ <;> exact ⟨by decide, by decide, by decide +kernel⟩
/-- what is asked: a class of ours, a built-in type -/
theorem isi_read {cs : List Nat} {t : Ty} {w : W} {v c : V} {u : Value} {ι : List Addr} {S : Sto} {H : Hp} {Q : VK} (ok : Ok cl G T k N top sc X) (R : Rel cl X.K ι S H) (r : WR X.K ι H w v) (hcs : cs.all (T.isi.contains ·) = true) (cv : ClsV c u)
    (ht : (∃ d, t = .own d ∧ u = .ref (cl d) ∧ T.isi.contains d = true) ∨ ∃ n, t = .blt n ∧ u = .type n ∧ n ∈ tyKinds) (h : Po cl X.K ι H (isiW cs w t S) (VW X.K Q)) : rIsi X.K [v, c] H Q := by
  have h : Po cl X.K ι H ((tyName w >>= fun n => match n with
    | some m => (match t with
      | .blt k => ofO ((kitB m k).map .bl)
      | .own _ => pure (.bl false))
    | none => (match w with
      | .loc n => (getOb n >>= fun o => match o with
        | .ins c _ => if c ∈ cs then pure (.bl (decide (t = .own c))) else Fb.fail
        | _ => Fb.fail)
      | _ => Fb.fail)) S) (VW X.K Q) := h
  obtain ⟨n, S1, e, hz⟩ := bind_po h
  cases n with
  | some m =>
    obtain ⟨rfl, mk, ty⟩ := tyN_ok (X := X) R e r
    rcases ht with ⟨d, rfl, rfl, hd⟩ | ⟨n, rfl, rfl, hn⟩
    · exact ⟨v, c, _, _, false, rfl, cv, ty, (ok.lib.isi d hd).1.no m mk, Po.pure R hz _ rfl⟩
    · obtain ⟨z, hy, q⟩ := ofO_po R hz
      obtain ⟨b, hb, rfl⟩ := Option.map_eq_some_iff.mp hy
      exact ⟨v, c, _, _, b, rfl, cv, ty, kit_ty hb, q _ rfl⟩
  | none =>
    have eS : S1 = S := by
      cases w with
      | loc l =>
        have e : (getOb l >>= fun o => match o with
          | .lst _ => pure (some "list")
          | .frz _ => pure (some "list")
          | .dic false _ => pure (some "dict")
          | .dic true _ => Fb.fail
          | .ins _ _ => pure none
          | .exn _ _ => Fb.fail) S = .ok none S1 := e
        obtain ⟨o, S2, e1, e⟩ := bnd_ok e
        unfold getOb at e1
        cases q : S[l]? with
        | none => rw [q] at e1; cases e1
        | some o' =>
          rw [q] at e1
          cases e1
          cases o with
          | ins _ _ => cases e; rfl
          | dic b _ => cases b <;> cases e
          | _ => cases e
      | _ => cases e
    subst eS
    cases w with
    | loc l =>
      obtain ⟨o, a, q1, q2, q3, hx⟩ := getOb_cases R hz
      cases o with
      | ins d fs =>
        obtain ⟨hm, hx⟩ := ite_po hx
        have hd : T.isi.contains d = true := List.all_eq_true.mp hcs d hm
        obtain ⟨dx, vs, ho, _⟩ := q3
        obtain ⟨I, two⟩ := ok.lib.isi d hd
        cases wr_loc r q2
        have ty : TyX X.K H (.ref a) (.ref (cl d)) := .base (.ins ho I.cls I.at_ I.get I.tak I.mro)
        rcases ht with ⟨d', rfl, rfl, hd'⟩ | ⟨n, rfl, rfl, hn⟩
        · refine ⟨_, c, _, _, _, rfl, cv, ty, two d' hd', ?_⟩
          have := Po.pure R hx _ rfl
          rw [show decide (d = d') = decide (Ty.own d' = Ty.own d) by
            by_cases e : d = d'
            · rw [e, decide_eq_true rfl, decide_eq_true rfl]
            · rw [decide_eq_false e, decide_eq_false (fun z => e (Ty.own.inj z).symm)]]
          exact this
        · refine ⟨_, c, _, _, _, rfl, cv, ty, I.isno n hn, ?_⟩
          have := Po.pure R hx _ rfl
          rw [decide_eq_false (fun z => nomatch z)] at this
          exact this
      | _ => exact hx.elim
    | _ => exact hz.elim
theorem s_isi {a : E} {t : Ty} {cs : List Nat} {x : Expr} {y : Str} {p q p2 : Pos} (ok : Ok cl G T k N top sc X) (hf : glob sc ("isinstance" : Str) = true) (ha : SE cl G X a x) (hx : nst x = true) (hy : glob sc y = true) (hp : plainName y = true) (hcs : cs.all (T.isi.contains ·) = true)
    (ht : chkTy T t y = true) : SE cl G X (.isi a t cs) (.Call (.Name "isinstance" p) [x, .Name y q] [] p2) := by
  intro ι S H env σ Q R E h
  have h : Po cl X.K ι H ((ev G a env >>= fun x => isiW cs x t) S) (VW X.K Q) := h
  obtain ⟨c, u, cv, pc, hu⟩ : ∃ (c : V) (u : Value), ClsV c u ∧ PE X (.Name y q) (tC c) ∧ ((∃ d, t = .own d ∧ u = .ref (cl d) ∧ T.isi.contains d = true) ∨ ∃ n, t = .blt n ∧ u = .type n ∧ n ∈ tyKinds) := by
    cases t with
    | own d =>
      obtain ⟨h1, h2⟩ := Bool.and_eq_true_iff.mp (show (T.cls[d]? == some y && T.isi.contains d) = true from ht)
      exact ⟨.ref (cl d), _, .own _, pe_glob (glob_gl ok.hsc hy) (ok.lib.cls _ _ (beq_iff_eq.mp h1)) rfl (plain3 hp).1, .inl ⟨d, rfl, rfl, h2⟩⟩
    | blt n =>
      obtain ⟨h1, h2, h3⟩ := ty_kinds (show tyNames.contains (y, n) = true from ht)
      exact ⟨.ty n, _, .ty n, pe_bltn (glob_gl ok.hsc hy) (ok.lib.bl _ h2) h3 rfl (plain3 hp).2.2 (plain3 hp).1, .inr ⟨n, rfl, rfl, h1⟩⟩
  refine ⟨_, pe_callB call_isi (glob_gl ok.hsc hf) (ok.lib.bl _ (by decide)) (by decide +kernel) (pa_cons pe_s (pa_cons pc pa_nil rfl) (star_cons hx)) (by decide) (by decide) (star_cons hx) (no_star (es := [.Name y q]) rfl), ?_⟩
  refine ha R E (Po.bind h fun w1 S1 ι1 H1 e1 h => ?_)
  intro v1 r1
  exact isi_read ok e1.rel r1 hcs cv hu h
theorem chk_isi {a : E} {t : Ty} {cs : List Nat} {sc : Scope} {e : Expr} (h : chkE N T (.isi a t cs) sc e = true) : ∃ p q p2 x y, e = .Call (.Name "isinstance" p) [x, .Name y q] [] p2 ∧ glob sc ("isinstance" : Str) = true ∧ chkE N T a sc x = true ∧ nst x = true ∧ glob sc y = true ∧ plainName y = true ∧ cs.all (T.isi.contains ·) = true ∧ chkTy T t y = true := by
  unfold chkE at h
  split at h
  · simp only [Bool.and_eq_true] at h
    obtain ⟨⟨⟨⟨⟨⟨⟨h1, h2⟩, h3⟩, h4⟩, h5⟩, h6⟩, h7⟩, h8⟩ := h
    cases beq_iff_eq.mp h1
    exact ⟨_, _, _, _, _, rfl, h2, h3, h4, h5, h6, h7, h8⟩
  · cases h
theorem chk_lrg {a b : E} {sc : Scope} {e : Expr} (h : chkE N T (.lrg a b) sc e = true) : (∃ p q p2 p3 x y, e = .Call (.Name "list" p) [.Call (.Name "range" q) [x, y] [] p2] [] p3 ∧ glob sc ("list" : Str) = true ∧ glob sc ("range" : Str) = true ∧ chkE N T a sc x = true ∧ chkE N T b sc y = true ∧ nst x = true ∧ nst y = true) ∨
    ∃ p q p2 p3 y, e = .Call (.Name "list" p) [.Call (.Name "range" q) [y] [] p2] [] p3 ∧ glob sc ("list" : Str) = true ∧ glob sc ("range" : Str) = true ∧ a = .int 0 ∧ chkE N T b sc y = true ∧ nst y = true := by
  unfold chkE at h
  split at h
  · simp only [Bool.and_eq_true] at h
    obtain ⟨⟨⟨⟨⟨⟨⟨h1, h2⟩, h3⟩, h4⟩, h5⟩, h6⟩, h7⟩, h8⟩ := h
    cases beq_iff_eq.mp h1
    cases beq_iff_eq.mp h2
    exact .inl ⟨_, _, _, _, _, _, rfl, h3, h4, h5, h6, h7, h8⟩
  · simp only [Bool.and_eq_true] at h
    obtain ⟨⟨⟨⟨⟨⟨h1, h2⟩, h3⟩, h4⟩, h5⟩, h6⟩, h7⟩ := h
    cases beq_iff_eq.mp h1
    cases beq_iff_eq.mp h2
    refine .inr ⟨_, _, _, _, _, rfl, h3, h4, ?_, h6, h7⟩
    split at h5
    · rw [of_decide_eq_true h5]
    · cases h5
  · cases h
theorem chk_bm {b : Bm} {a : E} {es : Es} {sc : Scope} {e : Expr} (h : chkE N T (.bm b a es) sc e = true) : (∃ x g ap vs p, e = .Call (.Attribute x g ap) vs [] p ∧ b ≠ .rev ∧ (g == bmName b && chkE N T a sc x && noSup x && chkEs N T es sc vs && vs.all nst && ap.endLine == p.line && decide (vs.length < 20)) = true) ∨
    ∃ x k0 p1 p2 p3 p, e = .Subscript x (.Slice none none (some (.UnaryOp .USub (.Constant (.int 1) k0 p1) p2)) p3) p ∧ b = .rev ∧ es = .nil ∧ chkE N T a sc x = true := by
  unfold chkE at h
  split at h
  · simp only [Bool.and_eq_true] at h
    obtain ⟨⟨h1, h2⟩, h3⟩ := h
    refine .inr ⟨_, _, _, _, _, _, rfl, of_decide_eq_true h1, ?_, h3⟩
    split at h2
    · rfl
    · cases h2
  · simp only [Bool.and_eq_true] at h
    obtain ⟨⟨⟨⟨⟨⟨⟨h1, h2⟩, h3⟩, h4⟩, h5⟩, h6⟩, h7⟩, h8⟩ := h
    refine .inl ⟨_, _, _, _, _, rfl, of_decide_eq_true h1, ?_⟩
    simp only [Bool.and_eq_true]
    exact ⟨⟨⟨⟨⟨⟨h2, h3⟩, h4⟩, h5⟩, h6⟩, h7⟩, h8⟩
  · cases h
theorem chk_dnew {b : Bool} {sc : Scope} {e : Expr} (h : chkE N T (.dnew b) sc e = true) : ∃ p, e = .Dict [] [] p := by
  unfold chkE at h
  split at h
  · exact ⟨_, rfl⟩
  · cases h
theorem chk_dsp {a b : E} {sc : Scope} {e : Expr} (h : chkE N T (.dsp a b) sc e = true) : ∃ x y p, e = .Dict [some x] [y] p ∧ chkE N T a sc x = true ∧ chkE N T b sc y = true := by
  unfold chkE at h
  split at h
  · rw [Bool.and_eq_true] at h
    exact ⟨_, _, _, rfl, h.1, h.2⟩
  · cases h
end Fb
set_option Elab.async false
set_option linter.all false
set_option maxRecDepth 100000
set_option maxHeartbeats 4000000
/-! Lite: errors: what is asked of a caught one; raise; try. -/
namespace Fb
open PySem PySem.Spec PyProof.Rows L2
variable {cl : Cl} {G : Ct} {T : Tab} {k : Nat} {N : List Str} {top : Str → Bool} {sc : Scope} {X : Cx} {wx : WX}
/-- a new thing of the layer is nothing of the store -/
theorem Rel.newX {K : PySem.W.Frag} {ι : List Addr} {S : Sto} {H : Hp} (r : Rel cl K ι S H) {p : Addr} {o : HO} (hp : H p = none) : Ext cl K ι H ι S (upd H p o) := by
  have hm : Mono K H (upd H p o) := .new hp
  refine ⟨List.prefix_refl _, hm, r.len, fun n a u e1 e2 => ?_, r.inj, fun n xs e => ?_⟩
  · rcases OR.some r e1 e2 with f | ⟨z, hz⟩
    · exact f.or e1 e2 _ _
    · exact OR.stay (xs := []) (List.prefix_refl _) hm (by rw [hz, up_new hp _ _ hz]) (r.ob n a u e1 e2)
  · rcases r.frz n xs e with f | ⟨a, u, vs, e1, e2, e3⟩
    · exact .inl f
    · exact .inr ⟨a, u, vs, e1, up_new hp _ _ e2, e3.mono (List.prefix_refl _) hm⟩
theorem XR.cls {K : PySem.W.Frag} {ι : List Addr} {H : Hp} {c : Nat} {p : Option W} {cls : Value} {d : Option Addr} (h : XR cl K ι H c p cls d) : cl.xok c = true ∧ cls = .ref (cl.xad c) := h.1
/-- the error's object, its dict -/
theorem exc_inst {pins : List (Addr × Obj)} {σ : L2.St} {H : Hp} {s : Shared} {a D : Addr} {d : Option Addr} (I : Inv X pins σ H s) (ha : H a = some (exc a (.ref D) d)) (hd : d = none ∨ ∃ dd fs, d = some dd ∧ H dd = some (.xd fs)) :
    ∃ (oe : Obj) (od : Option Obj), PySem.W.InstAt s.heap a oe D od ∧ ∀ dd fs, d = some dd → H dd = some (.xd fs) → ∃ (oo : Obj) (mA : Str → Option Value), od = some oo ∧ (∀ f, PySem.W.lookIn f oo = some (mA f)) ∧ ∀ f, RelO (fs.lookup f) (mA f) := by
  have hx : ObjOk X.prog X.w H s.heap a (.ext fun h => ∃ (oe : Obj) (vs : Array Value), h.get? a = some oe ∧ Zc (.ref D) d oe ∧ oe.data = .fields vs) := I.hok a _ ha
  obtain ⟨⟨oe, vs, e, z, hf⟩, _⟩ := hx
  have nc : PySem.W.notCls oe := by unfold PySem.W.notCls; rw [hf]
  rcases hd with rfl | ⟨dd, fs, rfl, hdd⟩
  · exact ⟨oe, none, ⟨e, z.1, nc, by rw [z.2]; trivial⟩, fun dd fs q => nomatch q⟩
  · have hy : ObjOk X.prog X.w H s.heap dd (.xd fs) := I.hok dd _ hdd
    obtain ⟨mA, hns, hr⟩ := hy
    obtain ⟨oo, ho, hl⟩ := lookIn_ns hns
    refine ⟨oe, some oo, ⟨e, z.1, nc, by rw [z.2]; exact ho⟩, fun dd' fs' q1 q2 => ?_⟩
    cases q1
    rw [hdd] at q2
    cases q2
    exact ⟨oo, mA, rfl, hl, hr⟩
theorem XR.dict {K : PySem.W.Frag} {ι : List Addr} {H : Hp} {c : Nat} {p : Option W} {cls : Value} {d : Option Addr} (h : XR cl K ι H c p cls d) : d = none ∨ ∃ dd fs, d = some dd ∧ H dd = some (.xd fs) := by
  obtain ⟨_, h⟩ := h
  cases p with
  | none => exact .inl h
  | some w =>
    obtain ⟨_, dd, v, e1, e2, _⟩ := h
    exact .inr ⟨dd, _, e1, e2⟩
/-- isinstance of a caught error -/
def rIsx (X : Cx) : List V → Hp → VK → Prop := fun xs H Q => ∃ (a : Addr) (D : Addr) (d : Option Addr) (c : V) (cv : Value) (b : Bool), xs = [.ref a, c] ∧ H a = some (exc a (.ref D) d) ∧ (d = none ∨ ∃ dd fs, d = some dd ∧ H dd = some (.xd fs)) ∧ (∀ u, RelV c u → u = cv) ∧
  ((PySem.W.hasDictIn X.K D = true ∧ PySem.W.findIn X.K (.ref D) "__getattribute__" = some (some (.builtin "BaseException.__getattribute__"))) ∧ (PySem.W.findIn X.K (.ref D) "__getattr__" = some none ∧ PySem.W.subIn X.K (.ref D) (.type "BaseException") = some true) ∧
    (PySem.W.findIn X.K (.ref D) "__class__" = some (some (.builtin "object.__class__")) ∧ PySem.W.specialIn X.K (.builtin "object.__class__") "__get__" = some (some (.builtin "getset_descriptor.__get__"))) ∧ (PySem.W.takesIn X.K (.builtin "object.__class__") = some true ∧ PySem.W.mroIn X.K D (.type "object") = some true)) ∧
  PySem.W.kitOne X.K (.ref D) cv = some b ∧ Q (.bl b) H
theorem call_isx : CallR X (.builtin "isinstance") (rIsx X) := by
  intro pins s σ H xs us Q I r h
  obtain ⟨a, D, d, c, cv, b, rfl, ha, hd, hcv, ⟨⟨h1, h2⟩, ⟨h3, h4⟩, ⟨h5, h6⟩, h7, h8⟩, e, q⟩ := h
  cases r with
  | cons rx rr =>
    cases rr with
    | cons rt rr =>
      cases rr
      cases rx
      have ec := hcv _ rt
      subst ec
      obtain ⟨oe, od, J, _⟩ := exc_inst I ha hd
      have hc : (PySem.W.clsIn X.K D).isSome = true := by
        obtain ⟨cd, z, _⟩ := PySem.W.any_some h1
        rw [z]
        rfl
      exact PySem.W.kia_one (PySem.W.kitx_exc hc h2 h3 h4 h5 h6 h7 h8) I.kIn J e (by intro z; cases z) fun tk => ⟨.bl b, H, I.kept (t' := tk) fun _ _ y => y, rfl, q⟩
theorem s_isx {a : E} {t : Option Nat} {x : Expr} {y : Str} {p q p2 : Pos} (ok : Ok cl G T k N top sc X) (hf : glob sc ("isinstance" : Str) = true) (ha : SE cl G X a x) (hx : nst x = true) (hy : glob sc y = true) (hp : plainName y = true)
    (ht : tokB T y t = true) : SE cl G X (.isx a t) (.Call (.Name "isinstance" p) [x, .Name y q] [] p2) := by
  intro ι S H env σ Q R E h
  have h : Po cl X.K ι H ((ev G a env >>= fun x => isxW x t) S) (VW X.K Q) := h
  obtain ⟨c, u, cv, pc, hu⟩ : ∃ (c : V) (u : Value), (∀ z, RelV c z → z = u) ∧ PE X (.Name y q) (tC c) ∧ ∀ d, cl.xok d = true → PySem.W.kitOne X.K (.ref (cl.xad d)) u = some (isxB d t) := by
    cases t with
    | some e =>
      obtain ⟨h1, h2⟩ := Bool.and_eq_true_iff.mp (show (T.xs.contains e && y == xn e) = true from ht)
      have h2 : y = xn e := beq_iff_eq.mp h2
      subst h2
      exact ⟨.ref (cl.xad e), _, fun z hz => hz, pe_glob (glob_gl ok.hsc hy) (ok.lib.xc e h1).gl rfl (plain3 hp).1, fun d hd => ((ok.lib.xc d (by rw [← ok.lib.xo]; exact hd)).sub e h1).2⟩
    | none =>
      have h2 : y = "ValueError" := beq_iff_eq.mp ht
      subst h2
      exact ⟨.ty "ValueError", _, fun z hz => hz, pe_bltn (glob_gl ok.hsc hy) (ok.lib.bl _ (by decide)) (by decide +kernel) rfl (plain3 hp).2.2 (plain3 hp).1, fun d hd => (ok.lib.xc d (by rw [← ok.lib.xo]; exact hd)).ve⟩
  refine ⟨_, pe_callB call_isx (glob_gl ok.hsc hf) (ok.lib.bl _ (by decide)) (by decide +kernel) (pa_cons pe_s (pa_cons pc pa_nil rfl) (star_cons hx)) (by decide) (by decide) (star_cons hx) (no_star (es := [.Name y q]) rfl), ?_⟩
  refine ha R E (Po.bind h fun w1 S1 ι1 H1 e1 h => ?_)
  intro v1 r1
  cases w1 with
  | loc n =>
    have h : Po cl X.K ι1 H1 ((getOb n >>= fun o => match o with
      | .exn d _ => pure (.bl (isxB d t))
      | _ => Fb.fail) S1) (VW X.K Q) := h
    obtain ⟨o, b, q1, q2, q3, h⟩ := getOb_cases e1.rel h
    cases o with
    | exn d pp =>
      obtain ⟨cls, dd, ho, xr⟩ := q3
      obtain ⟨xo, rfl⟩ := xr.cls
      have C := ok.lib.xc d (by rw [← ok.lib.xo]; exact xo)
      cases wr_loc r1 q2
      exact ⟨b, _, dd, c, u, _, rfl, ho, xr.dict, cv, ⟨⟨C.hd, C.ga⟩, ⟨C.gg, C.bx⟩, ⟨C.ca, C.cn⟩, C.ct, C.mo⟩, hu d xo, Po.pure e1.rel h _ rfl⟩
    | _ => exact h.elim
  | _ => exact h.elim
theorem chk_isx {a : E} {t : Option Nat} {sc : Scope} {e : Expr} (h : chkE N T (.isx a t) sc e = true) : ∃ p q p2 x y, e = .Call (.Name "isinstance" p) [x, .Name y q] [] p2 ∧ glob sc ("isinstance" : Str) = true ∧ chkE N T a sc x = true ∧ nst x = true ∧ glob sc y = true ∧ plainName y = true ∧ tokB T y t = true := by
  unfold chkE at h
  split at h
  · simp only [Bool.and_eq_true] at h
    obtain ⟨⟨⟨⟨⟨⟨h1, h2⟩, h3⟩, h4⟩, h5⟩, h6⟩, h7⟩ := h
    cases beq_iff_eq.mp h1
    exact ⟨_, _, _, _, _, rfl, h2, h3, h4, h5, h6, h7⟩
  · cases h
/-- e.f, e a caught error -/
def tXfl (X : Cx) (f : Str) (te : TE) : TE := fun σ H Q => te σ H fun x H1 => ∃ (a D dd : Addr) (fs : List (Str × V)) (v : V), x = .ref a ∧ H1 a = some (exc a (.ref D) (some dd)) ∧ H1 dd = some (.xd fs) ∧ fs.lookup f = some v ∧
  (XfC X.K D ∧ PySem.W.findIn X.K (.ref D) f = some none) ∧ Q v H1
theorem pe_xfl {e : Expr} {te : TE} {pos : Pos} {f : Str} (he : PE X e te) (hb : attributeBase e f X.env (eval e X.env) = eval e X.env) : PE X (.Attribute e f pos) (tXfl X f te) := by
  refine ⟨fun pins s σ H Q I h => ?_⟩
  refine attr_of hb (thn (he.run pins s σ H _ I h) fun u s1 g => ?_)
  obtain ⟨x, H1, I1, rx, a, D, dd, fs, v, rfl, ea, ed, l, ⟨C, hno⟩, q⟩ := g
  obtain rfl : u = Value.ref a := rx
  obtain ⟨oe, od, J, hJ⟩ := exc_inst I1 ea (.inr ⟨dd, fs, rfl, ed⟩)
  obtain ⟨oo, mA, rfl, hl, hr⟩ := hJ dd fs rfl ed
  obtain ⟨w, hw, rw'⟩ := RelO.some_of (v := v) (o := mA f) (by rw [← l]; exact hr f)
  exact PySem.HandSPX.exc_get I1.kIn J C.ga C.gg C.exC (PySem.W.findObj_own C.hdC hno rfl (by rw [hl, hw])) (handed_of rw') ⟨v, H1, I1.tok _, rw', q⟩
theorem s_xfl {a : E} {f : Str} {x : Expr} {p : Pos} (ok : Ok cl G T k N top sc X) (ha : SE cl G X a x) (hs : noSup x = true) : SE cl G X (.xfl a f) (.Attribute x f p) := by
  intro ι S H env σ Q R E h
  have h : Po cl X.K ι H ((ev G a env >>= fun x => xflW x f) S) (VW X.K Q) := h
  refine ⟨_, pe_xfl pe_s (no_sup hs), ?_⟩
  refine ha R E (Po.bind h fun w1 S1 ι1 H1 e1 h => ?_)
  intro v1 r1
  cases w1 with
  | loc n =>
    have h : Po cl X.K ι1 H1 ((getOb n >>= fun o => match o with
      | .exn d (some w) => if xfN d = f then pure w else Fb.fail
      | _ => Fb.fail) S1) (VW X.K Q) := h
    obtain ⟨o, b, q1, q2, q3, h⟩ := getOb_cases e1.rel h
    cases o with
    | exn d pp =>
      cases pp with
      | none => exact h.elim
      | some w =>
        obtain ⟨cls, dx, ho, xr⟩ := q3
        obtain ⟨⟨xo, rfl⟩, nf0, dd, v, rfl, hdd, rv⟩ := xr
        obtain ⟨ef, h9⟩ := ite_po (show Po cl X.K ι1 H1 ((if xfN d = f then (pure w : M W) else Fb.fail) S1) (VW X.K Q) from h)
        subst ef
        have C := ok.lib.xc d (by rw [← ok.lib.xo]; exact xo)
        have nf : PySem.W.findIn X.K (.ref (cl.xad d)) (xfN d) = some none := (C.hi nf0).2.2.2
        refine ⟨b, _, dd, _, v, wr_loc r1 q2, ho, hdd, ?_, ⟨⟨C.ga, C.gg, C.bx, C.hd⟩, nf⟩, Po.pure e1.rel h9 _ rv⟩
        simp [List.lookup]
    | _ => exact h.elim
  | _ => exact h.elim

/-! ### calls that may raise -/
theorem x_call0 {f : Nat} {x : Str} {q p : Pos} (tk : Takes X wx) (ok : Ok cl G T k N top sc X) (hf : T.fn[f]? = some (some x)) (hg : glob sc x = true) (hp : plainName x = true) : SX cl G X wx (.call f .nil) (.Call (.Name x q) [] [] p) := by
  intro ι S H env σ Q R E h
  obtain ⟨fa, fd, ps, hm, kp, hb, F⟩ := ok.lib.fn f x hf
  have h : PoX cl X.K ι H (G.fn f [] S) (VW X.K Q) (XW cl X wx σ) := h
  refine ⟨_, g_call0 ok.gd F (ok.room.mono (Nat.le_succ k)) (glob_gl ok.hsc hg) hm kp hb (fun σ => passAt tk σ) (plain3 hp).1, ?_⟩
  exact ⟨ι, S, [], R, .nil, h⟩
theorem x_call {f : Nat} {es : Es} {x : Str} {q p : Pos} {v : Expr} {vs : List Expr} (tk : Takes X wx) (ok : Ok cl G T k N top sc X) (hf : T.fn[f]? = some (some x)) (hg : glob sc x = true) (hp : plainName x = true) (hn : (v :: vs).all nst = true) (ha : SA cl G X es (v :: vs)) : SX cl G X wx (.call f es) (.Call (.Name x q) (v :: vs) [] p) := by
  intro ι S H env σ Q R E h
  obtain ⟨fa, fd, ps, hm, kp, hb, F⟩ := ok.lib.fn f x hf
  have h : PoX cl X.K ι H ((Fb.noEx (evs G es env) >>= fun xs => G.fn f xs) S) (VW X.K Q) (XW cl X wx σ) := h
  rw [List.all_cons, Bool.and_eq_true] at hn
  refine ⟨_, g_call ok.gd F (ok.room.mono (Nat.le_succ k)) (glob_gl ok.hsc hg) hm kp hb (fun σ => passAt tk σ) pa_s (plain3 hp).1 (star_cons hn.1) (no_star hn.2), ?_⟩
  refine ha R E (PoX.bindN h fun ws S1 ι1 H1 e1 h => ?_)
  intro us rs
  exact ⟨ι1, S1, ws, e1.rel, rs, h⟩
theorem xmeth_cases {a : E} {c f : Nat} {m : Str} {es : Es} {env : En} {ι : List Addr} {S : Sto} {H : Hp} {Q : VK} {Ψ : Nat → Option W → Sto → List Addr → Hp → Prop} (h : PoX cl X.K ι H (evX G (.meth a c m f es) env S) (VW X.K Q) Ψ) :
    PoX cl X.K ι H ((Fb.noEx (ev G a env) >>= fun x => match x with
    | .loc n => (getOb n >>= fun o => match o with
      | .ins d fs => if d = c ∧ fs.lookup m = none then (Fb.noEx (evs G es env) >>= fun vs => G.fn f (x :: vs)) else Fb.fail
      | _ => Fb.fail)
    | _ => Fb.fail) S) (VW X.K Q) Ψ := h
theorem getOb_X {α : Type} {f : Ob → M α} {n : Nat} {ι : List Addr} {S : Sto} {H : Hp} {K : PySem.W.Frag} {Φ : α → Sto → List Addr → Hp → Prop} {Ψ : Nat → Option W → Sto → List Addr → Hp → Prop} (r : Rel cl K ι S H) (h : PoX cl K ι H ((getOb n >>= f) S) Φ Ψ) :
    ∃ o a, S[n]? = some o ∧ ι[n]? = some a ∧ OR cl K ι H a o ∧ PoX cl K ι H (f o S) Φ Ψ := by
  have e : (getOb n >>= f) S = M.bind (getOb n) f S := rfl
  rw [e] at h
  unfold M.bind getOb at h
  cases q : S[n]? with
  | none => rw [q] at h; exact h.elim
  | some o =>
    rw [q] at h
    obtain ⟨a, e1, e2⟩ := r.at q
    exact ⟨o, a, rfl, e1, e2, h⟩
theorem x_meth0 {a : E} {c f : Nat} {m : Str} {x : Expr} {ap p : Pos} (tk : Takes X wx) (ok : Ok cl G T k N top sc X) (ha : SE cl G X a x) (hsup : noSup x = true) (hl : (ap.endLine == p.line) = true) (hf : T.me.contains (c, m, f) = true) : SX cl G X wx (.meth a c m f .nil) (.Call (.Attribute x m ap) [] [] p) := by
  intro ι S H env σ Q R E h
  obtain ⟨fa, fd, ps, C, hm, hb, F⟩ := ok.lib.me _ _ _ hf
  refine ⟨_, g_meth0 ok.gd pe_s C hm F (ok.room.mono (Nat.le_succ k)) hb (fun σ => passAt tk σ) (eval_meth hsup rfl (by decide) hl), ?_⟩
  have h := xmeth_cases h
  refine ha R E (PoX.bindN h fun w1 S1 ι1 H1 e1 h => ?_)
  intro v1 r1
  cases w1 with
  | loc n =>
    obtain ⟨o, b, q1, q2, q3, h⟩ := getOb_X e1.rel h
    cases o with
    | ins d fs =>
      obtain ⟨⟨ed, l⟩, h2⟩ := ite_poX h
      subst ed
      obtain ⟨dx, vs, ho, hr⟩ := q3
      exact ⟨b, dx, vs, wr_loc r1 q2, ho, hr.lookup_none l, ι1, S1, [.loc n], e1.rel, .cons (wr_loc r1 q2 ▸ r1) .nil, h2⟩
    | _ => exact h.elim
  | _ => exact h.elim
theorem x_meth {a : E} {c f : Nat} {m : Str} {es : Es} {x : Expr} {ap p : Pos} {v : Expr} {vs : List Expr} (tk : Takes X wx) (ok : Ok cl G T k N top sc X) (ha : SE cl G X a x) (hsup : noSup x = true) (hl : (ap.endLine == p.line) = true) (hlen : (v :: vs).length < 20) (hf : T.me.contains (c, m, f) = true) (hn : (v :: vs).all nst = true) (hs : SA cl G X es (v :: vs)) :
    SX cl G X wx (.meth a c m f es) (.Call (.Attribute x m ap) (v :: vs) [] p) := by
  intro ι S H env σ Q R E h
  obtain ⟨fa, fd, ps, C, hm, hb, F⟩ := ok.lib.me _ _ _ hf
  have hm' := eval_meth (env := X.env) (m := m) hsup hn hlen hl
  rw [List.all_cons, Bool.and_eq_true] at hn
  refine ⟨_, g_meth ok.gd pe_s C hm F (ok.room.mono (Nat.le_succ k)) hb (fun σ => passAt tk σ) pa_s (star_cons hn.1) (no_star hn.2) hm', ?_⟩
  have h := xmeth_cases h
  refine ha R E (PoX.bindN h fun w1 S1 ι1 H1 e1 h => ?_)
  intro v1 r1
  cases w1 with
  | loc n =>
    obtain ⟨o, b, q1, q2, q3, h⟩ := getOb_X e1.rel h
    cases o with
    | ins d fs =>
      obtain ⟨⟨ed, l⟩, h2⟩ := ite_poX h
      subst ed
      obtain ⟨dx, vs, ho, hr⟩ := q3
      refine ⟨b, dx, vs, wr_loc r1 q2, ho, hr.lookup_none l, ?_⟩
      refine hs e1.rel (E.ext e1) (PoX.bindN h2 fun ws S2 ι2 H2 e2 h => ?_)
      intro us rs
      exact ⟨ι2, S2, .loc n :: ws, e2.rel, .cons (WR.ext e2 (wr_loc r1 q2 ▸ r1)) rs, h⟩
    | _ => exact h.elim
  | _ => exact h.elim
theorem xmk_cases {c f : Nat} {es : Es} {env : En} {ι : List Addr} {S : Sto} {H : Hp} {Q : VK} {Ψ : Nat → Option W → Sto → List Addr → Hp → Prop} (h : PoX cl X.K ι H (evX G (.mk c f es) env S) (VW X.K Q) Ψ) :
    PoX cl X.K ι H ((Fb.noEx (evs G es env) >>= fun vs => new (.ins c []) >>= fun x => G.fn f (x :: vs) >>= fun r => match r with
      | .non => pure x
      | _ => Fb.fail) S) (VW X.K Q) Ψ := h
theorem xmk_read {c f : Nat} {ws : List W} {us : List V} {ι : List Addr} {S : Sto} {H : Hp} {Q : VK} {E : XK} (R : Rel cl X.K ι S H) (rs : WRs X.K ι H ws us) (h : PoX cl X.K ι H ((new (.ins c []) >>= fun x => G.fn f (x :: ws) >>= fun r => match r with
      | .non => pure x
      | _ => Fb.fail) S) (VW X.K Q) (XWish cl X.K E)) : ∀ x dx, H x = none → H dx = none → dx ≠ x → spOf cl X.K (G.fn f) (.ref x :: us) (upd (upd H dx (.own x)) x (.ins (cl c) dx [])) (fun v H2 => v = .non ∧ Q (.ref x) H2) E := by
  intro x dx hx hd ne
  have X1 := R.newI (c := c) hx hd ne
  have h2 : PoX cl X.K (ι ++ [x]) (upd (upd H dx (.own x)) x (.ins (cl c) dx [])) ((G.fn f (.loc S.length :: ws) >>= fun r => match r with
      | .non => pure (.loc S.length)
      | _ => Fb.fail) (S ++ [.ins c []])) (VW X.K Q) (XWish cl X.K E) := PoX.mono X1 h
  refine ⟨ι ++ [x], _, .loc S.length :: ws, X1.rel, .cons (wr_new R) (rs.ext X1), PoX.bind h2 fun r S3 ι3 H3 e3 h3 => ?_⟩
  intro v hv
  cases r with
  | non =>
    refine ⟨wr_non hv, PoX.pure e3.rel h3 _ ?_⟩
    exact (wr_new R : WR X.K (ι ++ [x]) (upd (upd H dx (.own x)) x (.ins (cl c) dx [])) (.loc S.length) (.ref x)).ext e3
  | _ => exact h3.elim
theorem x_mk0 {c f : Nat} {x : Str} {q p : Pos} (tk : Takes X wx) (ok : Ok cl G T k N top sc X) (hc : T.cls[c]? = some x) (hf : T.mks.contains (c, f) = true) (hg : glob sc x = true) (hp : plainName x = true) : SX cl G X wx (.mk c f .nil) (.Call (.Name x q) [] [] p) := by
  intro ι S H env σ Q R E h
  obtain ⟨fa, fd, ps, M, hb, F⟩ := ok.lib.mks _ _ hf
  refine ⟨_, g_mk0 ok.gd M F ok.room (glob_gl ok.hsc hg) (ok.lib.cls _ _ hc) hb (fun σ => passAt tk σ) (plain3 hp).1, ?_⟩
  exact xmk_read R .nil (xmk_cases h)
theorem x_mk {c f : Nat} {es : Es} {x : Str} {q p : Pos} {v : Expr} {vs : List Expr} (tk : Takes X wx) (ok : Ok cl G T k N top sc X) (hc : T.cls[c]? = some x) (hf : T.mks.contains (c, f) = true) (hg : glob sc x = true) (hp : plainName x = true) (hn : (v :: vs).all nst = true) (ha : SA cl G X es (v :: vs)) :
    SX cl G X wx (.mk c f es) (.Call (.Name x q) (v :: vs) [] p) := by
  intro ι S H env σ Q R E h
  obtain ⟨fa, fd, ps, M, hb, F⟩ := ok.lib.mks _ _ hf
  rw [List.all_cons, Bool.and_eq_true] at hn
  refine ⟨_, g_mk ok.gd M F ok.room (glob_gl ok.hsc hg) (ok.lib.cls _ _ hc) hb (fun σ => passAt tk σ) pa_s (plain3 hp).1 (star_cons hn.1) (no_star hn.2), ?_⟩
  refine ha R E (PoX.bindN (xmk_cases h) fun ws S1 ι1 H1 e1 h => ?_)
  intro us rs
  exact xmk_read e1.rel rs h

/-! ### raise -/
theorem t_raise0 {c : Nat} {m : Str} {j : Nat} {p1 p2 p3 p : Pos} (tk : Takes X wx) (ok : Ok cl G T k N top sc X) (hc : T.xs.contains c = true) (hf : xfN c = "") (hg : glob sc (xn c) = true) (hp : plainName (xn c) = true) :
    SSt cl G X wx (.raise c none) (.Raise (some (.Call (.Name (xn c) p1) [.Constant (.str m) j p2] [] p3)) none p) := by
  intro ι S H env σ D R E h
  have C := ok.lib.xc c hc
  refine ⟨_, ps_raise ok.calm tk (pmk_own PySem.F.excBase_ValueError (C.lo hf) C.gl C.kp (raises_own C.bx C.ty) (glob_gl ok.hsc hg) (plain3 hp).1), ?_⟩
  have h : ∀ ι' H', Ext cl X.K ι H ι' S H' → ∀ cls d, XR cl X.K ι' H' c none cls d → wx cls d σ H' := h
  exact h ι H (.refl R) _ _ ⟨⟨(ok.lib.xo c).trans hc, rfl⟩, rfl⟩
theorem upd_del {H : Hp} {a dx : Addr} {o1 o2 o3 o4 : HO} (ha : H a = none) (ne : dx ≠ a) : upd (del (upd (upd (upd H a o1) dx o2) a o3) a) dx o4 = upd H dx o4 := by
  funext b
  by_cases h : b = dx
  · rw [h, upd_same, upd_same]
  · rw [upd_ne h, upd_ne h]
    by_cases h2 : b = a
    · rw [h2, del_same, ha]
    · rw [del_ne h2, upd_ne h2, upd_ne h, upd_ne h2]
theorem t_raise1 {c : Nat} {e : E} {v : Expr} {p1 p3 p : Pos} (tk : Takes X wx) (ok : Ok cl G T k N top sc X) (hc : T.xs.contains c = true) (hi : (T.xi.map (·.1)).contains c = true) (hg : glob sc (xn c) = true) (hp : plainName (xn c) = true) (ha : SE cl G X e v) (hn : nst v = true) :
    SSt cl G X wx (.raise c (some e)) (.Raise (some (.Call (.Name (xn c) p1) [v] [] p3)) none p) := by
  intro ι S H env σ D R E h
  have C := ok.lib.xc c hc
  obtain ⟨hf, fd, ps, hb, F⟩ := ok.lib.xi c hi
  obtain ⟨O, iC, tI, _⟩ := C.hi hf
  have hx : Passes (L2.CX X.prog X.w) X (fun _ _ _ => False) := fun _ _ _ _ _ _ _ z => by
    obtain ⟨_, _, _, _, _, _, _, _, _, _, _, _, z⟩ := z
    exact z.elim
  refine ⟨_, ps_raise ok.calm tk (pmk_oex O iC tI F (ok.room.mono (by have := ok.kpos; omega)) hb .nil hx (glob_gl ok.hsc hg) C.gl (pa_cons pe_s pa_nil (star_cons hn)) (plain3 hp).1 (star_cons hn) (by rfl)), ?_⟩
  have h : PoX cl X.K ι H ((Fb.noEx (ev G e env) >>= fun x => fun S => (.ex c (some x) S : Res (Option W × En))) S) (SW X.K D) (XW cl X wx σ) := h
  refine ha R E (PoX.bindN h fun w1 S1 ι1 H1 e1 h => ?_)
  intro v1 r1
  have h : ∀ ι' H', Ext cl X.K ι1 H1 ι' S1 H' → ∀ cls d, XR cl X.K ι' H' c (some w1) cls d → wx cls d σ H' := h
  refine ⟨show 1 ≤ 1000 by decide, fun a hna => ⟨a, v1, rfl, upd_same, fun dx hdx hne => ⟨rfl, dx, [(xfN c, v1)], upd_same, ?_, ?_, ?_⟩⟩⟩
  · rw [upd_ne hne, upd_same]
  · rw [upd_ne hne] at hdx; exact hdx
  · rw [upd_ne hne] at hdx
    rw [upd_del hna hne]
    exact h ι1 _ (e1.rel.newX hdx) _ _ ⟨⟨(ok.lib.xo c).trans hc, rfl⟩, hf, dx, v1, rfl, upd_same, r1.mono (List.prefix_refl _) (.new hdx)⟩
end Fb
set_option Elab.async false
set_option linter.all false
set_option maxRecDepth 100000
set_option maxHeartbeats 4000000
/-! Lite: try .. except C as n: y = n; the error is kept. -/
namespace Fb
open PySem PySem.Spec PyProof.Rows L2
section
variable {X : Cx} {pins : List (Addr × Obj)} {σ : L2.St} {H : Hp}
/-- back on the ground, the error's object tracked -/
theorem landX {sI t : Shared} {B : Heap} {a : Addr} {cls : Value} {d : Option Addr} {oe : Obj} {vs : Array Value} (I : Inv X pins σ H sI) (nb : ∀ b u, sI.heap.get? b = some u → b ∉ frs X.stack → B.get? b = some u) (st : B.StaysIn t.heap) (up : sI.heap.UpToSlots t.heap)
    (os : t.os = sI.os) (ag : AllBare t.gens) (na : H a = none) (hB : B.get? a = none) (he : t.heap.get? a = some oe) (hz : Zc cls d oe) (hd : oe.data = .fields vs) : Inv X pins σ (upd H a (exc a cls d)) t := by
  have fr : ∀ b ∈ frs X.stack, ∀ u, sI.heap.get? b = some u → (∃ sl, t.heap.get? b = some { u with slots := sl }) ∧ ∀ w, u.data ≠ .fields w := fun b hb u e => by
    obtain ⟨_, u', e', hnf⟩ := I.stack.mem hb
    rw [e] at e'
    cases e'
    exact ⟨up b u e hnf, hnf⟩
  have ne : ∀ b u, sI.heap.get? b = some u → b ≠ a := fun b u e z => by
    subst z
    by_cases hb : b ∈ frs X.stack
    · obtain ⟨⟨sl, q⟩, hnf⟩ := fr b hb u e
      rw [he] at q
      cases q
      exact hnf vs hd
    · have q := nb b u e hb
      rw [hB] at q
      cases q
  have new : ObjOk X.prog X.w (upd H a (exc a cls d)) t.heap a (exc a cls d) := ⟨⟨oe, vs, he, hz, hd⟩, ⟨oe, he⟩, fun _ _ ⟨o, v, q, r⟩ kk => ⟨o, v, kk o q, r⟩⟩
  have hok : HOk X.prog X.w (upd H a (exc a cls d)) t.heap := HOk.laidN ((I.inGround nb).kept st) (fun b u q => q) na new
  refine I.call' (ch := []) os ⟨fun b u e _ hb _ => st b u (nb b u e hb), fun b u e _ hb _ => (fr b hb u e).1, fun b u e n _ => ?_, fun b u e _ => ?_, fun b xs e => ?_, fun b o xs e => ?_, fun b ps e => ⟨#[], ?_⟩⟩ hok ag (fun _ z => nomatch z)
  · rw [upd_ne (ne b u e)]
    exact n
  · by_cases hb : b ∈ frs X.stack
    · obtain ⟨⟨sl, q⟩, _⟩ := fr b hb u e
      exact ⟨_, q⟩
    · exact ⟨u, st b u (nb b u e hb)⟩
  · rw [upd_ne (ne_of_none e na)]
    exact e
  · rw [upd_ne (ne_of_none e na)]
    exact e
  · rw [upd_ne (ne_of_none e na), e]
    simp
/-- the context of the clause's only statement -/
abbrev cxK (X : Cx) (a : Addr) : Cx := { X with A := X.A.mark (some (.ref a)), calm := false, xe := fun _ _ => False }
theorem okK (ok : X.Ok) (a : Addr) : (cxK X a).Ok := ⟨ok.mod, ok.kind, ok.glob, ok.blt, ok.above, ok.inj, ok.has, ok.cab, fun z => (by cases (show false = true from z)), ok.frames, ok.stk, ok.exf, ok.bs, ok.bsz, ok.noex, ok.exfs, ok.funs, ok.frf⟩
theorem toK {s : Shared} (I : Inv X pins σ H s) (a : Addr) : Inv (cxK X a) pins σ H s := ⟨okK I.ok a, I.os, I.bare, I.base, I.loc, I.cell, I.free, I.freeC, I.pin, I.hok, I.len⟩
theorem ofK {s : Shared} {a : Addr} (I : Inv (cxK X a) pins σ H s) (ok : X.Ok) : Inv X pins σ H s := ⟨ok, I.os, I.bare, I.base, I.loc, I.cell, I.free, I.freeC, I.pin, I.hok, I.len⟩
end
/-- what the clause wishes of an error of the body -/
def wKeep (K : PySem.W.Frag) (c : Value) (i j : Nat) (D : Ends) : WX := fun cls d σ H =>
  PySem.W.exmOne K cls c = some true ∧ i < σ.length ∧ i ≠ j ∧ ∀ a, H a = none → D.nx (((σ.set i (some (.ref a))).set j (some (.ref a))).set i none) (upd H a (exc a cls d))
theorem ps_keep {X : Cx} {x n y : Str} {c : Value} {i j : Nat} {body : List Stmt} {np yp mp ap pos pos' : Pos} {tb : WX → TS} (hs : X.stack = X.env :: X.outer) (hf : X.env.frame = some X.env.locals) (hN : X.N.Nodup) (hi : X.N[i]? = some n) (hln : X.env.kindOf n = some .local)
    (hj : X.N[j]? = some y) (hly : X.env.scope.names.lookup y = some .local) (d1 : (n == ("__debug__" : Str)) = false) (d2 : (n == ("__classdict__" : Str)) = false) (hc : Names X x c)
    (hb : ∀ (W : WX) (pn : List (Addr × Obj)) (xe : Value → Shared → Prop), Takes (X.tr pn xe) W → PassesOwn (model X.prog X.w) X.A X.env xe → PSs (X.tr pn xe) body (tb W)) :
    PS X (.Try body [.ExceptHandler (some (.Name x np)) (some n) [.Assign [.Name y yp] (.Name n mp) ap] pos'] [] [] pos) (fun D σ H => tb (wKeep X.K c i j D) D σ H) := by
  refine ⟨fun pins s σ H D I h => ?_⟩
  have ok := I.ok
  have fr : X.A.frames = some (X.env :: X.outer) := by rw [ok.frames, hs]
  refine wpAny_Try_except ?_
  refine wpAny_mono ((hb (wKeep X.K c i j D) (X.pn ++ pins) (fun e t1 => wpAny (model X.prog X.w) X.A (noteFrame e X.env) (fun _ t2 => wpAny (model X.prog X.w) X.A (setFlight e none) (fun _ t3 =>
    wpAny (model X.prog X.w) X.A (handleBy e X.env [.ExceptHandler (some (.Name x np)) (some n) [.Assign [.Name y yp] (.Name n mp) ap] pos']) (SP X pins D) X.xe t3) X.xe t2) X.xe t1) (fun u s' air => ?_) PassesOwn.looking).run [] s σ H D (I.toTry _) h) (fun f t1 q => ?_) (fun e t1 q => q)
  · obtain ⟨a, B, sI, pins2, σ1, H1, cls, d, rfl, J1, nb, up, sky, na, os, ag, hx, hl, hij, nx⟩ := air
    have J : Inv X pins σ1 H1 sI := J1.ofTry ok
    rw [show (X.tr (X.pn ++ pins) _).stack = X.env :: X.outer from hs] at sky
    show wpAny (model X.prog X.w) X.A (noteFrame (.ref a) X.env) _ _ _
    refine Sky.land Zc.steady fr hf sky fun h3 f3 up3 => ?_
    obtain ⟨o3, v3, e3, z3, w3⟩ := f3.there
    have J3 : Inv X pins σ1 (upd H1 a (exc a cls d)) { s' with heap := h3 } := landX J nb f3.1 (up.trans up3) os ag na f3.2.1 e3 z3 w3
    refine wpAny_handleBy_cons (codeAny_handlers_test ?_) (by intro q; cases q)
    have LT : PySem.W.Looks (model X.prog X.w) h3 (typeOf (.ref a)) cls := fun A Q E s kk q => wpAny_typeOf_ref (kk _ _ e3) (by rw [z3.1]; exact q)
    have LM := PySem.W.exm_one (M := model X.prog X.w) J3.kIn LT hx
    have tst : ∀ {Q : Value → Shared → Prop} {E : Value → Shared → Prop}, Q c { s' with heap := h3 } → wpAny (model X.prog X.w) (X.A.mark (some (.ref a))) (eval (.Name x np) X.env) Q E { s' with heap := h3 } := fun {Q E} q => by
      obtain ⟨hg, hdbg, hm | ⟨hm, hv, hnn⟩⟩ := hc
      · exact ld_glob (X := cxK X a) (toK J3 a) hg hm q hdbg
      · exact ld_blt (X := cxK X a) (toK J3 a) hg hm hv q hnn hdbg
    refine tst (LM.here ?_)
    refine codeAny_handlers_suite_as ?_
    refine HandSPX.lands_againZ f3 fun h4 f4 up4 => ?_
    obtain ⟨o4, v4, e4, z4, w4⟩ := f4.there
    have J4 : Inv X pins σ1 (upd H1 a (exc a cls d)) { s' with heap := h4 } := landX J nb f4.1 ((up.trans up3).trans up4) os ag na f4.2.1 e4 z4 w4
    refine store_ok (X := cxK X a) (v := .ref a) (toK J4 a) hN hi (.inl hln) rfl (fun t5 J5 => ?_) (.inr hln)
    have one : PSs (cxK X a) [.Assign [.Name y yp] (.Name n mp) ap] _ := pss_one (ps_set (X := cxK X a) (i := j) hN hj (.inl hly) (pe_var (X := cxK X a) (i := i) hi (.inl hln) d1 d2) rfl (.inr hly))
    refine wpAny_mono (one.run pins t5 _ _ { nx := fun σ6 H6 => σ6 = (σ1.set i (some (.ref a))).set j (some (.ref a)) ∧ H6 = upd H1 a (exc a cls d), rt := fun _ _ => False } J5 ?_) (fun f t6 q => ?_) (fun _ _ z => False.elim z)
    · exact ⟨.ref a, List.getElem?_set_self hl, rfl, rfl⟩
    · cases f with
      | next =>
        obtain ⟨σ6, H6, J6, rfl, rfl⟩ := q
        exact gone_ok (ofK J6 ok) hN hi hln fun t7 J7 => ⟨_, _, J7, nx a na⟩
      | brk =>
        obtain ⟨_, _, _, z⟩ := q
        exact z.elim
      | cont =>
        obtain ⟨_, _, _, z⟩ := q
        exact z.elim
      | ret u =>
        obtain ⟨_, _, _, _, _, z⟩ := q
        exact z.elim
  · cases f with
    | next =>
      obtain ⟨σ1, H1, J1, q⟩ := q
      exact wpAny_execs_nil ⟨σ1, H1, J1.ofTry ok, q⟩
    | brk =>
      obtain ⟨σ1, H1, J1, q⟩ := q
      exact ⟨σ1, H1, J1.ofTry ok, q⟩
    | cont =>
      obtain ⟨σ1, H1, J1, q⟩ := q
      exact ⟨σ1, H1, J1.ofTry ok, q⟩
    | ret u =>
      obtain ⟨v, σ1, H1, J1, r, q⟩ := q
      exact ⟨v, σ1, H1, J1.ofTry ok, r, q⟩
end Fb
set_option Elab.async false
set_option linter.all false
set_option maxRecDepth 100000
set_option maxHeartbeats 4000000
/-! Lite: methods with one argument. -/
namespace Fb
open PySem PySem.Spec PyProof.Rows L2
variable {cl : Cl} {G : Ct} {T : Tab} {k : Nat} {N : List Str} {top : Str → Bool} {sc : Scope} {X : Cx}
theorem wrs_strs {K : PySem.W.Frag} {ι : List Addr} {H : Hp} : ∀ {xs : List W} {vs : List V} {ys : List Str}, WRs K ι H xs vs → isStrs xs = some ys → vs = ys.map V.str
  | [], vs, ys, h, e => by
    unfold WRs at h
    cases e
    exact h
  | x :: xs, vs, ys, h, e => by
    unfold WRs at h
    obtain ⟨v, r, rfl, h1, h2⟩ := h
    cases x with
    | str z =>
      unfold isStrs at e
      cases q : isStrs xs with
      | none => rw [q] at e; cases e
      | some is =>
        rw [q] at e
        cases e
        cases wr_str h1
        rw [wrs_strs h2 q]
        rfl
    | _ => cases e
theorem wrs_intsV {K : PySem.W.Frag} {ι : List Addr} {H : Hp} : ∀ {xs : List W} {vs : List V} {ys : List Int}, WRs K ι H xs vs → isInts xs = some ys → vs = ys.map V.int
  | [], vs, ys, h, e => by
    unfold WRs at h
    cases e
    exact h
  | x :: xs, vs, ys, h, e => by
    unfold WRs at h
    obtain ⟨v, r, rfl, h1, h2⟩ := h
    cases x with
    | int z =>
      unfold isInts at e
      cases q : isInts xs with
      | none => rw [q] at e; cases e
      | some is =>
        rw [q] at e
        cases e
        cases wr_int h1
        rw [wrs_intsV h2 q]
        rfl
    | _ => cases e
theorem wrs_ofStrs {K : PySem.W.Frag} {ι : List Addr} {H : Hp} : ∀ ys : List Str, WRs K ι H (ys.map W.str) (ys.map V.str)
  | [] => .nil
  | y :: ys => .cons rfl (wrs_ofStrs ys)
theorem wrs_ofInts {K : PySem.W.Frag} {ι : List Addr} {H : Hp} : ∀ ys : List Int, WRs K ι H (ys.map W.int) (ys.map V.int)
  | [] => .nil
  | y :: ys => .cons rfl (wrs_ofInts ys)
theorem s_mt {m : Mt} {a b : E} {x y : Expr} {ap p : Pos} (ok : Ok cl G T k N top sc X) (ha : SE cl G X a x) (hsup : noSup x = true) (hb : SE cl G X b y) (hn : nst y = true) (hl : (ap.endLine == p.line) = true) :
    SE cl G X (.mt m a b) (.Call (.Attribute x (mtName m) ap) [y] [] p) := by
  intro ι S H env σ Q R E h
  have h : Po cl X.K ι H ((ev G a env >>= fun x => preM m x >>= fun _ => ev G b env >>= fun y => mtW m x y) S) (VW X.K Q) := h
  cases m with
  | join =>
    refine ⟨_, pe_join pe_s pe_s (star_cons hn) (no_sup hsup) hl, ?_⟩
    refine ha R E (Po.bind h fun w1 S1 ι1 H1 e1 h => ?_)
    intro v1 r1
    cases w1 with
    | str z =>
      cases wr_str r1
      refine ⟨⟨z, rfl⟩, hb e1.rel (E.ext e1) (Po.bind h fun w2 S2 ι2 H2 e2 h => ?_)⟩
      intro v2 r2
      cases w2 with
      | loc n =>
        obtain ⟨xs, q, vs, q0, q1, q2, q3, h⟩ := getLM_cases e2.rel h
        cases wr_loc r2 q1
        cases z1 : isStrs xs with
        | none => rw [z1] at h; exact h.elim
        | some ys =>
          rw [z1] at h
          obtain ⟨c, h⟩ := ite_po h
          have ev := wrs_strs q3 z1
          subst ev
          exact ⟨z, q, ys, rfl, rfl, .inl q2, c, Po.pure e2.rel h _ rfl⟩
      | _ => exact h.elim
    | _ => exact h.elim
  | split =>
    refine ⟨_, pe_split pe_s pe_s (star_cons hn) (no_sup hsup) hl, ?_⟩
    refine ha R E (Po.bind h fun w1 S1 ι1 H1 e1 h => ?_)
    intro v1 r1
    cases w1 with
    | str z =>
      cases wr_str r1
      refine ⟨⟨z, rfl⟩, hb e1.rel (E.ext e1) (Po.bind h fun w2 S2 ι2 H2 e2 h => ?_)⟩
      intro v2 r2
      cases w2 with
      | str z2 =>
        cases wr_str r2
        obtain ⟨⟨c1, c2⟩, h⟩ := ite_po h
        refine ⟨z, z2, rfl, rfl, c1, c2, fun q hq => ?_⟩
        exact h _ _ (e2.rel.newL hq (wrs_ofStrs _)) _ (wr_new e2.rel)
      | _ => exact h.elim
    | _ => exact h.elim
  | remove =>
    refine ⟨_, pe_remX (W := fun _ _ _ _ => False) ok.calm (fun _ _ ⟨_, _, _, _, _, _, _, _, _, _, _, _, _, _, _, _, w⟩ => w.elim) pe_s pe_s (no_sup hsup) (by rw [star_cons hn]; rfl) hl (star_cons hn), ?_⟩
    refine ha R E (Po.bind h fun w1 S1 ι1 H1 e1 h => ?_)
    intro v1 r1
    cases w1 with
    | loc n =>
      have h : Po cl X.K ι1 H1 ((((getM n >>= fun _ => pure ()) >>= fun _ => ev G b env >>= fun y => mtW .remove (.loc n) y)) S1) (VW X.K Q) := h
      rw [bind_assoc'] at h
      obtain ⟨xs, q, us, f1, f2, f3, f4, h⟩ := getM_cases e1.rel h
      cases wr_loc r1 f2
      refine ⟨.inl ⟨rfl, us, .of f3⟩, hb e1.rel (E.ext e1) (Po.bind h fun w2 S2 ι2 H2 e2 h => ?_)⟩
      intro v2 r2
      cases w2 with
      | int j =>
        cases wr_int r2
        obtain ⟨ys, q', ts, g1, g2, g3, g4, h⟩ := getM_cases e2.rel h
        have eq : q' = q := by
          obtain ⟨t, ht⟩ := e2.pre
          have l := (List.getElem?_eq_some_iff.mp f2).1
          rw [← ht, List.getElem?_append_left l, f2] at g2
          exact (Option.some.inj g2).symm
        subst eq
        cases z1 : isInts ys with
        | none => rw [z1] at h; exact h.elim
        | some is =>
          rw [z1] at h
          obtain ⟨c, h⟩ := ite_po h
          have ev := wrs_intsV g4 z1
          subst ev
          refine ⟨q', is, j, rfl, rfl, g3, fun _ => ?_, fun z => absurd c z⟩
          exact h _ _ (setOb_lst e2.rel g1 g2 g3 (wrs_ofInts _)) _ rfl
      | _ => exact h.elim
    | _ => exact h.elim
end Fb
set_option Elab.async false
set_option linter.all false
set_option maxRecDepth 100000
set_option maxHeartbeats 4000000
/-! Lite: an error made, as a value. -/
namespace Fb
open PySem PySem.Spec PyProof.Rows L2
variable {cl : Cl} {G : Ct} {T : Tab} {k : Nat} {N : List Str} {top : Str → Bool} {sc : Scope} {X : Cx}
/-- what makes an error gives a value -/
theorem pe_mk {e : Expr} {t : L2.St → Hp → XK → Prop} (he : PMk X e t) : PE X e (fun σ H Q => t σ H fun cls d H' => ∀ a, H' a = none → Q (.ref a) (upd H' a (exc a cls d))) := by
  refine ⟨fun pins s σ H Q I h => ?_⟩
  refine wpAny_mono (he pins s σ H _ I h) (fun u s1 hu => ?_) fun _ _ x => x
  obtain ⟨a, oe, vs, sI, H', cls, d, rfl, J, kk, hne, ha, hz, hd, h1, na, os, ag, r, q⟩ := hu
  exact ⟨.ref a, _, landX J (B := sI.heap) (fun b u e _ => e) kk (fun b u e _ => ⟨u.slots, kk b u e⟩) os ag na hne ha hz hd, rfl, q a na⟩
theorem s_mkx0 {c : Nat} {m : Str} {j : Nat} {p1 p2 p3 : Pos} (ok : Ok cl G T k N top sc X) (hc : T.xs.contains c = true) (hf : xfN c = "") (hg : glob sc (xn c) = true) (hp : plainName (xn c) = true) :
    SE cl G X (.mkx0 c) (.Call (.Name (xn c) p1) [.Constant (.str m) j p2] [] p3) := by
  intro ι S H env σ Q R E h
  have C := ok.lib.xc c hc
  refine ⟨_, pe_mk (pmk_own PySem.F.excBase_ValueError (C.lo hf) C.gl C.kp (raises_own C.bx C.ty) (glob_gl ok.hsc hg) (plain3 hp).1), ?_⟩
  have h : Po cl X.K ι H (new (.exn c none) S) (VW X.K Q) := h
  intro a ha
  have xr : XR cl X.K ι H c none (.ref (cl.xad c)) none := ⟨⟨(ok.lib.xo c).trans hc, rfl⟩, rfl⟩
  have e2 : Ext cl X.K ι H (ι ++ [a]) (S ++ [.exn c none]) (upd H a (exc a (.ref (cl.xad c)) none)) := R.new ha (.new ha) (up_new ha) (fun _ z => nomatch z) ⟨_, none, upd_same, xr.mono (List.prefix_append _ _) (.new ha)⟩
  exact h _ _ e2 _ (wr_new R)
theorem chk_mkx0 {c : Nat} {sc : Scope} {e : Expr} (h : chkE N T (.mkx0 c) sc e = true) : ∃ x p1 m j p2 p3, e = .Call (.Name x p1) [.Constant (.str m) j p2] [] p3 ∧ (x == xn c && T.xs.contains c && xfN c == Str.empty && glob sc x && plainName x) = true := by
  unfold chkE at h
  split at h
  · exact ⟨_, _, _, _, _, _, rfl, h⟩
  · cases h
theorem s_mkx1 {c : Nat} {e : E} {v : Expr} {p1 p3 : Pos} (ok : Ok cl G T k N top sc X) (hc : T.xs.contains c = true) (hi : (T.xi.map (·.1)).contains c = true) (hg : glob sc (xn c) = true) (hp : plainName (xn c) = true) (ha : SE cl G X e v) (hn : nst v = true) :
    SE cl G X (.mkx1 c e) (.Call (.Name (xn c) p1) [v] [] p3) := by
  intro ι S H env σ Q R E h
  have C := ok.lib.xc c hc
  obtain ⟨hf, fd, ps, hb, F⟩ := ok.lib.xi c hi
  obtain ⟨O, iC, tI, _⟩ := C.hi hf
  have hx : Passes (L2.CX X.prog X.w) X (fun _ _ _ => False) := fun _ _ _ _ _ _ _ z => by
    obtain ⟨_, _, _, _, _, _, _, _, _, _, _, _, z⟩ := z
    exact z.elim
  refine ⟨_, pe_mk (pmk_oex O iC tI F (ok.room.mono (by have := ok.kpos; omega)) hb .nil hx (glob_gl ok.hsc hg) C.gl (pa_cons pe_s pa_nil (star_cons hn)) (plain3 hp).1 (star_cons hn) (by rfl)), ?_⟩
  have h : Po cl X.K ι H ((ev G e env >>= fun x => new (.exn c (some x))) S) (VW X.K Q) := h
  refine ha R E (Po.bind h fun w1 S1 ι1 H1 e1 h => ?_)
  intro v1 r1
  refine ⟨show 1 ≤ 1000 by decide, fun a hna => ⟨a, v1, rfl, upd_same, fun dx hdx hne => ⟨rfl, dx, [(xfN c, v1)], upd_same, ?_, ?_, ?_⟩⟩⟩
  · rw [upd_ne hne, upd_same]
  · rw [upd_ne hne] at hdx; exact hdx
  · rw [upd_ne hne] at hdx
    rw [upd_del hna hne]
    intro b hb2
    have x1 := e1.rel.newX (o := .xd [(xfN c, v1)]) hdx
    have xr : XR cl X.K ι1 (upd H1 dx (.xd [(xfN c, v1)])) c (some w1) (.ref (cl.xad c)) (some dx) := ⟨⟨(ok.lib.xo c).trans hc, rfl⟩, hf, dx, v1, rfl, upd_same, r1.mono (List.prefix_refl _) (.new hdx)⟩
    have e2 : Ext cl X.K ι1 (upd H1 dx (.xd [(xfN c, v1)])) (ι1 ++ [b]) (S1 ++ [.exn c (some w1)]) (upd (upd H1 dx (.xd [(xfN c, v1)])) b (exc b (.ref (cl.xad c)) (some dx))) := x1.rel.new hb2 (.new hb2) (up_new hb2) (fun _ z => nomatch z) ⟨_, _, upd_same, xr.mono (List.prefix_append _ _) (.new hb2)⟩
    exact h _ _ (x1.trans e2) _ (wr_new x1.rel)
end Fb
set_option Elab.async false
set_option linter.all false
set_option maxRecDepth 100000
set_option maxHeartbeats 4000000
/-! Lite: == by a class's own def. -/
namespace Fb
open PySem PySem.Spec PyProof.Rows L2
section
variable {cl : Cl} {G : Ct} {T : Tab} {k : Nat} {N : List Str} {top : Str → Bool} {sc : Scope} {X : Cx}
theorem chk_eqO {neg : Bool} {c f : Nat} {a b : E} {e : Expr} (h : chkE N T (.eqO neg c f a b) sc e = true) : ∃ x y p, e = .Compare x [.Eq] [y] p ∧ neg = false ∧ T.me.contains (c, "__eq__", f) = true ∧ chkE N T a sc x = true ∧ chkE N T b sc y = true ∧ noSet y = true := by
  cases e with
  | Compare x os ys p =>
    rcases os with _ | ⟨o, _ | ⟨_, _⟩⟩ <;> rcases ys with _ | ⟨y, _ | ⟨_, _⟩⟩ <;> first | (cases h; done) | (cases o <;> cases h; done) | skip
    cases o with
    | Eq =>
      have h : (!neg && T.me.contains (c, "__eq__", f) && chkE N T a sc x && chkE N T b sc y && noSet y) = true := h
      rw [Bool.and_eq_true, Bool.and_eq_true, Bool.and_eq_true, Bool.and_eq_true] at h
      obtain ⟨⟨⟨⟨h1, h2⟩, h3⟩, h4⟩, h5⟩ := h
      refine ⟨x, y, p, rfl, ?_, h2, h3, h4, h5⟩
      cases neg with
      | false => rfl
      | true => cases h1
    | _ => cases h
  | _ => cases h
theorem op_own {C fa : Addr} {fd : FuncData} {ps : List Str} {sp : Sp} (gd : X.A.guards = some []) (hm : Meth X.K C "__eq__" fa) (F : FnG X.prog X.w X.K X.mg X.base k fa fd ps sp) (hr : Room k X.A) (hb : Binds X.K fd ps []) :
    OpR X (compareOp .Eq) (fun x y H Q => ∃ a b dx dy fs gs, x = .ref a ∧ y = .ref b ∧ H a = some (.ins C dx fs) ∧ H b = some (.ins C dy gs) ∧ sp [.ref a, .ref b] H (fun v H' => ∃ t, v = .bl t ∧ Q (.bl t) H') E0) := by
  intro pins s σ H x y u v Q I rx ry d
  obtain ⟨a, b, dx, dy, fs, gs, rfl, rfl, ha, hb', h⟩ := d
  cases rx
  cases ry
  obtain ⟨mA, J, _⟩ := ins_get I.hok ha
  obtain ⟨mB, J', _⟩ := ins_get I.hok hb'
  obtain ⟨od, J, _⟩ := J.look
  obtain ⟨od', J', _⟩ := J'.look
  obtain ⟨m, hF⟩ := I.fr
  refine PySem.W.cmp_K (op := .Eq) (tb := .ref C) hr.units0 hF I.ok.mod.kin J J'.type (by simp [PySem.W.notFirst]) hm.at_ hm.fn ?_
  have rv : Vals [V.ref a, V.ref b] [Value.ref a, Value.ref b] := .cons rfl (.cons rfl .nil)
  refine wpAny_mono (g_run (E := E0) gd F hr hb pat0 I rv h) (fun v s' z => ?_) fun _ _ e => e
  obtain ⟨w, H', I', rw', t, rfl, q⟩ := z
  cases rw'
  exact ⟨.bl t, H', I', rfl, q⟩
theorem eqO_po {c f : Nat} {w1 w2 : W} {v1 v2 : V} {ι : List Addr} {S : Sto} {H : Hp} {Q : VK} (R : Rel cl X.K ι S H) (r1 : WR X.K ι H w1 v1) (r2 : WR X.K ι H w2 v2) (h : Po cl X.K ι H (eqOW G.fn false c f w1 w2 S) (VW X.K Q)) :
    ∃ a b dx dy fs gs, v1 = .ref a ∧ v2 = .ref b ∧ H a = some (.ins (cl c) dx fs) ∧ H b = some (.ins (cl c) dy gs) ∧ spOf cl X.K (G.fn f) [.ref a, .ref b] H (fun v H' => ∃ t, v = .bl t ∧ Q (.bl t) H') E0 := by
  cases w1 with
  | loc n =>
    cases w2 with
    | loc m =>
      have h : Po cl X.K ι H ((getOb n >>= fun o => match o with
        | .ins d _ => if d = c then (getOb m >>= fun o2 => match o2 with
          | .ins d2 _ => if d2 = c ∧ false = false then (G.fn f [.loc n, .loc m] >>= fun r => match r with
            | .bl k => pure (.bl k)
            | _ => Fb.fail) else Fb.fail
          | _ => Fb.fail) else Fb.fail
        | _ => Fb.fail) S) (VW X.K Q) := h
      obtain ⟨o, a, q1, q2, q3, h⟩ := getOb_cases R h
      cases o with
      | ins d fs =>
        obtain ⟨ed, h⟩ := ite_po h
        subst ed
        obtain ⟨dx, vs, ho, hr⟩ := q3
        obtain ⟨o2, b, p1, p2, p3, h⟩ := getOb_cases R h
        cases o2 with
        | ins d2 gs =>
          obtain ⟨⟨ed, _⟩, h2⟩ := ite_po h
          subst ed
          obtain ⟨dy, us, ho2, hr2⟩ := p3
          refine ⟨a, b, dx, dy, vs, us, wr_loc r1 q2, wr_loc r2 p2, ho, ho2, ι, S, [.loc n, .loc m], R, .cons (wr_loc r1 q2 ▸ r1) (.cons (wr_loc r2 p2 ▸ r2) .nil), Po.toX (Po.bind h2 fun r S3 ι3 H3 e3 h3 => ?_)⟩
          intro v hv
          cases r with
          | bl t =>
            refine ⟨t, wr_bl hv, ?_⟩
            exact Po.pure e3.rel h3 _ rfl
          | _ => exact h3.elim
        | _ => exact h.elim
      | _ => exact h.elim
    | _ => exact h.elim
  | _ => exact h.elim
theorem bind_okO {α β : Type} {m : M α} {g : α → M β} {S S1 : Sto} {w : β} (h : (m >>= g) S = .ok w S1) : ∃ a S2, m S = .ok a S2 ∧ g a S2 = .ok w S1 := by
  have h : M.bind m g S = .ok w S1 := h
  unfold M.bind at h
  cases q : m S with
  | ok a S2 => rw [q] at h; exact ⟨a, S2, rfl, h⟩
  | ex _ _ _ => rw [q] at h; cases h
  | no => rw [q] at h; cases h
theorem ite_ok {c : Prop} [Decidable c] {α : Type} {m : M α} {S S1 : Sto} {w : α} (h : (if c then m else Fb.fail) S = .ok w S1) : m S = .ok w S1 := by
  by_cases q : c
  · rw [if_pos q] at h
    exact h
  · rw [if_neg q] at h
    cases h
theorem eqOW_bl {fn : Nat → List W → M W} {neg : Bool} {c f : Nat} {x y w : W} {S S1 : Sto} (h : eqOW fn neg c f x y S = .ok w S1) : ∃ t, w = .bl t := by
  cases x with
  | loc n =>
    cases y with
    | loc m =>
      obtain ⟨o, S2, _, h⟩ := bind_okO (m := getOb n) h
      cases o with
      | ins d fs =>
        obtain ⟨o2, S3, _, h⟩ := bind_okO (m := getOb m) (ite_ok h)
        cases o2 with
        | ins d2 gs =>
          obtain ⟨r, S4, _, h⟩ := bind_okO (m := fn f [.loc n, .loc m]) (ite_ok h)
          cases r with
          | bl t => cases h; exact ⟨t, rfl⟩
          | _ => cases h
        | _ => cases h
      | _ => cases h
    | _ => cases h
  | _ => cases h
theorem s_eqO {c f : Nat} {a b : E} {x y : Expr} {p : Pos} (ok : Ok cl G T k N top sc X) (hf : T.me.contains (c, "__eq__", f) = true) (ha : SE cl G X a x) (hb : SE cl G X b y) (hs : noSet y = true) : SE cl G X (.eqO false c f a b) (.Compare x [.Eq] [y] p) := by
  intro ι S H env σ Q R E h
  obtain ⟨fa, fd, ps, C, hm, hb', F⟩ := ok.lib.me _ _ _ hf
  refine ⟨_, pe_cmpR (op_own ok.gd hm F (ok.room.mono (Nat.le_succ k)) hb') pe_s pe_s (no_mark hs), ?_⟩
  have h : Po cl X.K ι H ((ev G a env >>= fun x => ev G b env >>= fun y => eqOW G.fn false c f x y) S) (VW X.K Q) := h
  refine ha R E (Po.bind h fun w1 S1 ι1 H1 e1 h => ?_)
  intro v1 r1
  refine hb e1.rel (E.ext e1) (Po.bind h fun w2 S2 ι2 H2 e2 h => ?_)
  intro v2 r2
  exact eqO_po e2.rel (r1.ext e2) r2 h
theorem c_eqO {c f : Nat} {a b : E} {x y : Expr} {p : Pos} (ok : Ok cl G T k N top sc X) (hf : T.me.contains (c, "__eq__", f) = true) (ha : SE cl G X a x) (hb : SE cl G X b y) (hs : noSet y = true) : SC cl G X (.of (.eqO false c f a b)) (.Compare x [.Eq] [y] p) := by
  intro ι S H env σ Q R E h
  obtain ⟨fa, fd, ps, C, hm, hb', F⟩ := ok.lib.me _ _ _ hf
  refine ⟨_, pt_cmpR (op_own ok.gd hm F (ok.room.mono (Nat.le_succ k)) hb') pe_s pe_s (no_mark hs), ?_⟩
  have h : Po cl X.K ι H (((ev G a env >>= fun x => ev G b env >>= fun y => eqOW G.fn false c f x y) >>= truW) S) (fun b _ _ H' => Q b H') := h
  have h : Po cl X.K ι H ((ev G a env >>= fun x => ev G b env >>= fun y => eqOW G.fn false c f x y >>= truW) S) (fun b _ _ H' => Q b H') := by
    have e : ((ev G a env >>= fun x => ev G b env >>= fun y => eqOW G.fn false c f x y) >>= truW) S = (ev G a env >>= fun x => ev G b env >>= fun y => eqOW G.fn false c f x y >>= truW) S := by
      show M.bind (M.bind _ _) _ S = M.bind _ _ S
      unfold M.bind
      cases ev G a env S with
      | ok w S1 =>
        show M.bind (M.bind _ _) _ S1 = M.bind _ _ S1
        unfold M.bind
        cases ev G b env S1 <;> rfl
      | ex _ _ _ => rfl
      | no => rfl
    rw [← e]
    exact h
  refine ha R E (Po.bind h fun w1 S1 ι1 H1 e1 h => ?_)
  intro v1 r1
  refine hb e1.rel (E.ext e1) (Po.bind h fun w2 S2 ι2 H2 e2 h => ?_)
  intro v2 r2
  refine eqO_po (Q := fun x H' => ∃ k, x = .bl k ∧ Q k H') e2.rel (r1.ext e2) r2 ?_
  obtain ⟨w, S3, e3, h3⟩ := bind_po h
  obtain ⟨c, rfl⟩ := eqOW_bl e3
  rw [e3]
  intro ι3 H3 e3 v hv
  exact ⟨c, wr_bl hv, (Po.mono e3 h3) ι3 H3 (.refl e3.rel)⟩
end
end Fb
set_option Elab.async false
set_option linter.all false
set_option maxRecDepth 100000
set_option maxHeartbeats 16000000
namespace Fb
open PySem PySem.Spec PyProof.Rows L2
section
variable {cl : Cl} {G : Ct} {T : Tab} {k : Nat} {N : List Str}
theorem bt {a b : Bool} (h : (a && b) = true) : a = true ∧ b = true := Bool.and_eq_true_iff.mp h
theorem tgs_len {top : Str → Bool} {sc : Scope} : ∀ {ts : Tgs} {xs : List Expr}, chkGs N T top ts sc xs = true → tgl ts = xs.length ∧ xs.all nst = true
  | .nil, [], _ => ⟨rfl, rfl⟩
  | .nil, _ :: _, h => by cases h
  | .cons _ _, [], h => by cases h
  | .cons t r, x :: xs, h => by
    have h : (nst x && chkG N T top t sc x && chkGs N T top r sc xs) = true := h
    obtain ⟨h, h3⟩ := bt h
    obtain ⟨h1, h2⟩ := bt h
    obtain ⟨e1, e2⟩ := tgs_len h3
    exact ⟨by show tgl r + 1 = xs.length + 1; rw [e1], by rw [List.all_cons, h1, e2]; rfl⟩
theorem own_map {own : List Nat} : (ownN N own).map (·.2) = own := by
  unfold ownN
  rw [List.map_map]
  exact List.map_id' _
theorem glob_var {X : Cx} {top : Str → Bool} {sc : Scope} {g : Nat} {x : Str} {p : Pos} (ok : Ok cl G T k N top sc X) (hg : T.gl[g]? = some x) (hs : glob sc x = true) (hp : plainName x = true) : SE cl G X (.glob g) (.Name x p) := by
  intro ι S H env σ Q R E h
  obtain ⟨u, v, hm, r, w⟩ := ok.lib.gl g x hg
  exact ⟨_, pe_glob (glob_gl ok.hsc hs) hm r (plain3 hp).1, Po.pure R h v (w ι H)⟩
theorem var_slot {X : Cx} {top : Str → Bool} {sc : Scope} {i : Nat} {x : Str} {p : Pos} (ok : Ok cl G T k N top sc X) (hi : N[i]? = some x) (hs : seen sc x = true) (hp : plainName x = true) : SE cl G X (.var i) (.Name x p) := by
  intro ι S H env σ Q R E h
  refine ⟨_, pe_var (by rw [ok.hN]; exact hi) (by rw [ok.hsc]; exact seen_vis hs) (plain3 hp).1 (plain3 hp).2.1, ?_⟩
  have h : Po cl X.K ι H (ofO ((env[i]?).join) S) (VW X.K Q) := h
  cases q : env[i]? with
  | none => rw [q] at h; exact h.elim
  | some o =>
    cases o with
    | none => rw [q] at h; exact h.elim
    | some w =>
      rw [q] at h
      obtain ⟨v, hv, rv⟩ := E.2 i w q
      exact ⟨v, hv, Po.pure R h v rv⟩
theorem es_nil {es : Es} {sc : Scope} (h : chkEs N T es sc [] = true) : es = .nil := by
  cases es with
  | nil => rfl
  | cons _ _ => cases h
  | star _ _ => cases h
mutual
theorem snE : ∀ (e : E) {top : Str → Bool} {sc : Scope} {X : Cx} {e' : Expr}, Ok cl G T k N top sc X → chkE N T e sc e' = true → SE cl G X e e'
  | .var i, top, sc, X, e', ok, h => by
    cases e' with
    | Name x p =>
      have h : (N[i]? == some x && seen sc x && plainName x) = true := h
      obtain ⟨h, h3⟩ := bt h
      obtain ⟨h1, h2⟩ := bt h
      exact var_slot ok (beq_iff_eq.mp h1) h2 h3
    | _ => cases h
  | .int n, top, sc, X, e', ok, h => by
    cases e' with
    | Constant c j p =>
      cases c with
      | int m =>
        have e : n = m := beq_iff_eq.mp h
        subst e
        intro R E h
        exact ⟨_, pe_int, Po.pure R h _ rfl⟩
      | _ => cases h
    | _ => cases h
  | .bl b, top, sc, X, e', ok, h => by
    cases e' with
    | Constant c j p =>
      cases c with
      | bool m =>
        have e : b = m := beq_iff_eq.mp h
        subst e
        intro R E h
        exact ⟨_, pe_bl, Po.pure R h _ rfl⟩
      | _ => cases h
    | _ => cases h
  | .non, top, sc, X, e', ok, h => by
    cases e' with
    | Constant c j p =>
      cases c with
      | none =>
        intro R E h
        exact ⟨_, pe_non, Po.pure R h _ rfl⟩
      | _ => cases h
    | _ => cases h
  | .str x, top, sc, X, e', ok, h => by
    cases e' with
    | Constant c j p =>
      cases c with
      | str m =>
        have e : x = m := beq_iff_eq.mp h
        subst e
        intro R E h
        exact ⟨_, pe_str, Po.pure R h _ rfl⟩
      | _ => cases h
    | _ => cases h
  | .glob g, top, sc, X, e', ok, h => by
    cases e' with
    | Name x p =>
      have h : (T.gl[g]? == some x && glob sc x && plainName x) = true := h
      obtain ⟨h, h3⟩ := bt h
      obtain ⟨h1, h2⟩ := bt h
      exact glob_var ok (beq_iff_eq.mp h1) h2 h3
    | _ => cases h
  | .tup es, top, sc, X, e', ok, h => by
    cases e' with
    | Tuple vs j p => exact s_tup (snEs es ok h)
    | _ => cases h
  | .lst es, top, sc, X, e', ok, h => by
    cases e' with
    | List vs p => exact s_lst (snEs es ok h)
    | _ => cases h
  | .bin op a b, top, sc, X, e', ok, h => by
    cases e' with
    | BinOp x o y p =>
      have h : (o == bopP op && chkE N T a sc x && chkE N T b sc y) = true := h
      obtain ⟨h, h3⟩ := bt h
      obtain ⟨h1, h2⟩ := bt h
      cases beq_iff_eq.mp h1
      exact s_bin ok (snE a ok h2) (snE b ok h3)
    | _ => cases h
  | .un op a, top, sc, X, e', ok, h => by
    cases e' with
    | UnaryOp o x p =>
      have h : (o == uopP op && chkE N T a sc x) = true := h
      obtain ⟨h1, h2⟩ := bt h
      cases beq_iff_eq.mp h1
      exact s_un (snE a ok h2)
    | _ => cases h
  | .not a, top, sc, X, e', ok, h => by
    cases e' with
    | UnaryOp o x p =>
      cases o with
      | Not => exact s_not (snE a ok h)
      | _ => cases h
    | _ => cases h
  | .cmp op a b, top, sc, X, e', ok, h => by
    cases e' with
    | Compare x os ys p =>
      rcases os with _ | ⟨o, _ | ⟨_, _⟩⟩ <;> rcases ys with _ | ⟨y, _ | ⟨_, _⟩⟩ <;> first | (cases h; done) | skip
      have h : (o == copP op && chkE N T a sc x && chkE N T b sc y && noSet y) = true := h
      obtain ⟨h, h4⟩ := bt h
      obtain ⟨h, h3⟩ := bt h
      obtain ⟨h1, h2⟩ := bt h
      cases beq_iff_eq.mp h1
      exact s_cmp ok (snE a ok h2) (snE b ok h3) h4
    | _ => cases h
  | .cmp2 o1 o2 a b c, top, sc, X, e', ok, h => by
    cases e' with
    | Compare x os ys p =>
      rcases os with _ | ⟨p1, _ | ⟨p2, _ | ⟨_, _⟩⟩⟩ <;> rcases ys with _ | ⟨y, _ | ⟨z, _ | ⟨_, _⟩⟩⟩ <;> first | (cases h; done) | skip
      have h : (p1 == copP o1 && p2 == copP o2 && chkE N T a sc x && chkE N T b sc y && chkE N T c sc z && noSet y && noSet z) = true := h
      obtain ⟨h, h7⟩ := bt h
      obtain ⟨h, h6⟩ := bt h
      obtain ⟨h, h5⟩ := bt h
      obtain ⟨h, h4⟩ := bt h
      obtain ⟨h, h3⟩ := bt h
      obtain ⟨h1, h2⟩ := bt h
      cases beq_iff_eq.mp h1
      cases beq_iff_eq.mp h2
      exact s_cmp2 ok (snE a ok h3) (snE b ok h4) (snE c ok h5) h7
    | _ => cases h
  | .and a b, top, sc, X, e', ok, h => by
    cases e' with
    | BoolOp o vs p =>
      cases o with
      | And =>
        rcases vs with _ | ⟨x, _ | ⟨y, r⟩⟩ <;> first | (cases h; done) | skip
        obtain ⟨h1, h2⟩ := bt h
        exact s_and (snE a ok h1) (snE b ok h2) rfl
      | _ => cases h
    | _ => cases h
  | .or a b, top, sc, X, e', ok, h => by
    cases e' with
    | BoolOp o vs p =>
      cases o with
      | Or =>
        rcases vs with _ | ⟨x, _ | ⟨y, r⟩⟩ <;> first | (cases h; done) | skip
        obtain ⟨h1, h2⟩ := bt h
        exact s_or (snE a ok h1) (snE b ok h2) rfl
      | _ => cases h
    | _ => cases h
  | .ife c a b, top, sc, X, e', ok, h => by
    cases e' with
    | IfExp z x y p =>
      have h : (chkC N T c sc z && chkE N T a sc x && chkE N T b sc y) = true := h
      obtain ⟨h, h3⟩ := bt h
      obtain ⟨h1, h2⟩ := bt h
      exact s_ife (snC c ok h1) (snE a ok h2) (snE b ok h3)
    | _ => cases h
  | .ix a i, top, sc, X, e', ok, h => by
    cases e' with
    | Subscript x y p =>
      have h : (chkE N T a sc x && chkE N T i sc y && noSli y) = true := h
      obtain ⟨h, h3⟩ := bt h
      obtain ⟨h1, h2⟩ := bt h
      exact s_ix ok (snE a ok h1) (snE i ok h2) h3
    | _ => cases h
  | .sl a lo hi, top, sc, X, e', ok, h => by
    cases e' with
    | Subscript x y p =>
      cases y with
      | Slice l u st p2 =>
        cases st with
        | none =>
          have h : (chkE N T a sc x && chkB N T lo sc l && chkB N T hi sc u) = true := h
          obtain ⟨h, h3⟩ := bt h
          obtain ⟨h1, h2⟩ := bt h
          exact s_sl (snE a ok h1) (snB lo ok h2) (snB hi ok h3)
        | some _ => cases h
      | _ => cases h
    | _ => cases h
  | .fld a c f, top, sc, X, e', ok, h => by
    cases e' with
    | Attribute x g p =>
      have h : (f == g && chkE N T a sc x && noSup x && T.fl.contains (c, f)) = true := h
      obtain ⟨h, h4⟩ := bt h
      obtain ⟨h, h3⟩ := bt h
      obtain ⟨h1, h2⟩ := bt h
      cases beq_iff_eq.mp h1
      exact s_fld ok (snE a ok h2) h3 h4
    | _ => cases h
  | .prop a c f m, top, sc, X, e', ok, h => by
    cases e' with
    | Attribute x g p =>
      have h : (f == g && chkE N T a sc x && noSup x && T.pr.contains (c, f, m)) = true := h
      obtain ⟨h, h4⟩ := bt h
      obtain ⟨h, h3⟩ := bt h
      obtain ⟨h1, h2⟩ := bt h
      cases beq_iff_eq.mp h1
      exact s_prop ok (snE a ok h2) h3 h4
    | _ => cases h
  | .call f es, top, sc, X, e', ok, h => by
    cases e' with
    | Call fe vs ks p =>
      cases fe with
      | Name x q =>
        cases ks with
        | nil =>
          have h : (T.fn[f]? == some (some x) && glob sc x && plainName x && chkEs N T es sc vs && vs.all nst) = true := h
          obtain ⟨h, h5⟩ := bt h
          obtain ⟨h, h4⟩ := bt h
          obtain ⟨h, h3⟩ := bt h
          obtain ⟨h1, h2⟩ := bt h
          cases vs with
          | nil => cases es_nil h4; exact s_call0 ok (beq_iff_eq.mp h1) h2 h3
          | cons v vs => exact s_call ok (beq_iff_eq.mp h1) h2 h3 h5 (snEs es ok h4)
        | cons _ _ => cases h
      | _ => cases h
    | _ => cases h
  | .meth a c m f es, top, sc, X, e', ok, h => by
    cases e' with
    | Call fe vs ks p =>
      cases fe with
      | Attribute x g ap =>
        cases ks with
        | nil =>
          have h : (m == g && chkE N T a sc x && noSup x && T.me.contains (c, m, f) && chkEs N T es sc vs && vs.all nst && ap.endLine == p.line && decide (vs.length < 20)) = true := h
          obtain ⟨h, h8⟩ := bt h
          obtain ⟨h, h7⟩ := bt h
          obtain ⟨h, h6⟩ := bt h
          obtain ⟨h, h5⟩ := bt h
          obtain ⟨h, h4⟩ := bt h
          obtain ⟨h, h3⟩ := bt h
          obtain ⟨h1, h2⟩ := bt h
          cases beq_iff_eq.mp h1
          cases vs with
          | nil => cases es_nil h5; exact s_meth0 ok (snE a ok h2) h3 h7 h4
          | cons v vs => exact s_meth ok (snE a ok h2) h3 h7 (of_decide_eq_true h8) h4 h6 (snEs es ok h5)
        | cons _ _ => cases h
      | _ => cases h
    | _ => cases h
  | .mk c f es, top, sc, X, e', ok, h => by
    cases e' with
    | Call fe vs ks p =>
      cases fe with
      | Name x q =>
        cases ks with
        | nil =>
          have h : (T.cls[c]? == some x && T.mks.contains (c, f) && glob sc x && plainName x && chkEs N T es sc vs && vs.all nst) = true := h
          obtain ⟨h, h6⟩ := bt h
          obtain ⟨h, h5⟩ := bt h
          obtain ⟨h, h4⟩ := bt h
          obtain ⟨h, h3⟩ := bt h
          obtain ⟨h1, h2⟩ := bt h
          cases vs with
          | nil => cases es_nil h5; exact s_mk0 ok (beq_iff_eq.mp h1) h2 h3 h4
          | cons v vs => exact s_mk ok (beq_iff_eq.mp h1) h2 h3 h4 h6 (snEs es ok h5)
        | cons _ _ => cases h
      | _ => cases h
    | _ => cases h
  | .blt b es, top, sc, X, e', ok, h => by
    cases e' with
    | Call fe vs ks p =>
      cases fe with
      | Name x q =>
        cases ks with
        | nil =>
          have h : (x == btName b && glob sc x && chkEs N T es sc vs && vs.all nst && !vs.isEmpty) = true := h
          obtain ⟨h, h5⟩ := bt h
          obtain ⟨h, h4⟩ := bt h
          obtain ⟨h, h3⟩ := bt h
          obtain ⟨h1, h2⟩ := bt h
          cases beq_iff_eq.mp h1
          cases vs with
          | nil => cases h5
          | cons v vs => exact s_blt ok h2 h4 (snEs es ok h3)
        | cons _ _ => cases h
      | _ => cases h
    | _ => cases h
  | .bm b a es, top, sc, X, e', ok, h => by
    rcases chk_bm h with ⟨x, g, ap, vs, p, rfl, hb, h⟩ | ⟨x, k0, p1, p2, p3, p, rfl, rfl, rfl, h⟩
    · obtain ⟨h, h7⟩ := bt h
      obtain ⟨h, h6⟩ := bt h
      obtain ⟨h, h5⟩ := bt h
      obtain ⟨h, h4⟩ := bt h
      obtain ⟨h, h3⟩ := bt h
      obtain ⟨h1, h2⟩ := bt h
      cases beq_iff_eq.mp h1
      exact s_bm hb ok (snE a ok h2) h3 h6 (of_decide_eq_true h7) h5 (fun e => by subst e; exact es_nil h4) (snEs es ok h4)
    · exact s_rev ok (snE a ok h)
  | .isi a t cs, top, sc, X, e', ok, h => by
    obtain ⟨p, q, p2, x, y, rfl, h2, h3, h4, h5, h6, h7, h8⟩ := chk_isi h
    exact s_isi ok h2 (snE a ok h3) h4 h5 h6 h7 h8
  | .lrg a b, top, sc, X, e', ok, h => by
    rcases chk_lrg h with ⟨p, q, p2, p3, x, y, rfl, h3, h4, h5, h6, h7, h8⟩ | ⟨p, q, p2, p3, y, rfl, h3, h4, rfl, h6, h8⟩
    · exact s_lrg ok h3 h4 (snE a ok h5) (snE b ok h6) h7 h8
    · exact s_lrg1 ok h3 h4 (snE b ok h6) h8
  | .eqO neg c f a b, top, sc, X, e', ok, h => by
    obtain ⟨x, y, p, rfl, rfl, h2, h3, h4, h5⟩ := chk_eqO h
    exact s_eqO ok h2 (snE a ok h3) (snE b ok h4) h5
  | .comp elt tg it ifs own, top, sc, X, e', ok, h => by
    cases e' with
    | ListComp x gs sc2 p =>
      rcases gs with _ | ⟨⟨t, i, fs, a⟩, _ | ⟨_, _⟩⟩ <;> first | (cases h; done) | skip
      have h : (a == 0 && chkI N T it sc t i && (tgv tg).all (own.contains ·) && blkC N sc sc2 (ownN N own) && chkG N T (cellT sc2) tg (relS sc2 sc) t && chkF N T ifs (relS sc2 sc) fs && chkE N T elt (relS sc2 sc) x && noSet i) = true := h
      obtain ⟨h, h8⟩ := bt h
      obtain ⟨h, h7⟩ := bt h
      obtain ⟨h, h6⟩ := bt h
      obtain ⟨h, h5⟩ := bt h
      obtain ⟨h, h4⟩ := bt h
      obtain ⟨h, h3⟩ := bt h
      obtain ⟨h1, h2⟩ := bt h
      cases beq_iff_eq.mp h1
      exact s_comp ok own_map (by rw [ok.hN, ok.hsc]; exact blkOk_by h4) h8 (snI it ok h2) (fun j hj => by simpa using List.all_eq_true.mp h3 j hj) (fun s H c C f => snG tg (ok.blk s H sc2 c C f) h5) (fun s H c C f => snF ifs (ok.blk s H sc2 c C f) h6) (fun s H c C f => snE elt (ok.blk s H sc2 c C f) h7)
    | _ => cases h
  | .comp2 .., _, _, _, _, _, h => by cases h
  | .dnew b, top, sc, X, e', ok, h => by
    obtain ⟨p, rfl⟩ := chk_dnew h
    exact s_dnew ok
  | .dsp a b, top, sc, X, e', ok, h => by
    obtain ⟨x, y, p, rfl, h1, h2⟩ := chk_dsp h
    exact s_dsp ok (snE a ok h1) (snE b ok h2)
  | .isx a t, top, sc, X, e', ok, h => by
    obtain ⟨p, q, p2, x, y, rfl, h2, h3, h4, h5, h6, h7⟩ := chk_isx h
    exact s_isx ok h2 (snE a ok h3) h4 h5 h6 h7
  | .xfl a f, top, sc, X, e', ok, h => by
    cases e' with
    | Attribute x g p =>
      have h : (f == g && chkE N T a sc x && noSup x) = true := h
      obtain ⟨h, h3⟩ := bt h
      obtain ⟨h1, h2⟩ := bt h
      cases beq_iff_eq.mp h1
      exact s_xfl ok (snE a ok h2) h3
    | _ => cases h
  | .mt m a b, top, sc, X, e', ok, h => by
    cases e' with
    | Call fe vs ks p =>
      cases fe with
      | Attribute x g ap =>
        rcases ks with _ | ⟨_, _⟩ <;> rcases vs with _ | ⟨y, _ | ⟨_, _⟩⟩ <;> first | (cases h; done) | skip
        have h : (g == mtName m && chkE N T a sc x && noSup x && chkE N T b sc y && nst y && ap.endLine == p.line) = true := h
        obtain ⟨h, h6⟩ := bt h
        obtain ⟨h, h5⟩ := bt h
        obtain ⟨h, h4⟩ := bt h
        obtain ⟨h, h3⟩ := bt h
        obtain ⟨h1, h2⟩ := bt h
        cases beq_iff_eq.mp h1
        exact s_mt ok (snE a ok h2) h3 (snE b ok h4) h5 h6
      | _ => cases h
    | _ => cases h
  | .mkx0 c, top, sc, X, e', ok, h => by
    obtain ⟨x, p1, m, j, p2, p3, rfl, h⟩ := chk_mkx0 h
    obtain ⟨h, h5⟩ := bt h
    obtain ⟨h, h4⟩ := bt h
    obtain ⟨h, h3⟩ := bt h
    obtain ⟨h1, h2⟩ := bt h
    cases beq_iff_eq.mp h1
    exact s_mkx0 ok h2 (beq_iff_eq.mp h3) h4 h5
  | .mkx1 c a, top, sc, X, e', ok, h => by
    cases e' with
    | Call fe vs ks p =>
      cases fe with
      | Name x p1 =>
        rcases ks with _ | ⟨_, _⟩ <;> rcases vs with _ | ⟨v, _ | ⟨_, _⟩⟩ <;> first | (cases h; done) | skip
        have h : (x == xn c && T.xs.contains c && (T.xi.map (·.1)).contains c && glob sc x && plainName x && chkE N T a sc v && nst v) = true := h
        obtain ⟨h, h7⟩ := bt h
        obtain ⟨h, h6⟩ := bt h
        obtain ⟨h, h5⟩ := bt h
        obtain ⟨h, h4⟩ := bt h
        obtain ⟨h, h3⟩ := bt h
        obtain ⟨h1, h2⟩ := bt h
        cases beq_iff_eq.mp h1
        exact s_mkx1 ok h2 h3 h4 h5 (snE a ok h6) h7
      | _ => cases h
    | _ => cases h
theorem snEs : ∀ (es : Es) {top : Str → Bool} {sc : Scope} {X : Cx} {vs : List Expr}, Ok cl G T k N top sc X → chkEs N T es sc vs = true → SA cl G X es vs
  | .nil, top, sc, X, vs, ok, h => by
    cases vs with
    | nil => exact a_nil
    | cons _ _ => cases h
  | .cons e r, top, sc, X, vs, ok, h => by
    cases vs with
    | nil => cases h
    | cons v vs =>
      have h : (nst v && chkE N T e sc v && chkEs N T r sc vs) = true := h
      obtain ⟨h, h3⟩ := bt h
      obtain ⟨h1, h2⟩ := bt h
      exact a_cons h1 (snE e ok h2) (snEs r ok h3)
  | .star e r, top, sc, X, vs, ok, h => by
    cases vs with
    | nil => cases h
    | cons v vs =>
      cases v with
      | Starred x p =>
        have h : (chkE N T e sc x && chkEs N T r sc vs) = true := h
        obtain ⟨h1, h2⟩ := bt h
        exact a_star (snE e ok h1) (snEs r ok h2)
      | _ => cases h
theorem snB : ∀ (b : Bd) {top : Str → Bool} {sc : Scope} {X : Cx} {v : Option Expr}, Ok cl G T k N top sc X → chkB N T b sc v = true → SB cl G X b v
  | .none, top, sc, X, v, ok, h => by
    cases v with
    | none => exact b_none
    | some _ => cases h
  | .of e, top, sc, X, v, ok, h => by
    cases v with
    | none => cases h
    | some x => exact b_of (snE e ok h)
theorem snC : ∀ (c : C) {top : Str → Bool} {sc : Scope} {X : Cx} {e' : Expr}, Ok cl G T k N top sc X → chkC N T c sc e' = true → SC cl G X c e'
  | .not a, top, sc, X, e', ok, h => by
    cases e' with
    | UnaryOp o x p =>
      cases o with
      | Not => exact c_not (snC a ok h)
      | _ => cases h
    | _ => cases h
  | .and a b, top, sc, X, e', ok, h => by
    cases e' with
    | BoolOp o vs p =>
      cases o with
      | And =>
        rcases vs with _ | ⟨x, _ | ⟨y, r⟩⟩ <;> first | (cases h; done) | skip
        obtain ⟨h1, h2⟩ := bt h
        exact c_and (snC a ok h1) (snC b ok h2) rfl
      | _ => cases h
    | _ => cases h
  | .or a b, top, sc, X, e', ok, h => by
    cases e' with
    | BoolOp o vs p =>
      cases o with
      | Or =>
        rcases vs with _ | ⟨x, _ | ⟨y, r⟩⟩ <;> first | (cases h; done) | skip
        obtain ⟨h1, h2⟩ := bt h
        exact c_or (snC a ok h1) (snC b ok h2) rfl
      | _ => cases h
    | _ => cases h
  | .of e, top, sc, X, e', ok, h => by
    obtain ⟨h1, h2⟩ := bt h
    rw [Bool.or_eq_true] at h2
    rcases h2 with h2 | h2
    · exact c_of (snE e ok h1) h2
    · cases e' with
      | Compare x os ys p =>
        cases e with
        | cmp op a b =>
          rcases os with _ | ⟨o, _ | ⟨_, _⟩⟩ <;> rcases ys with _ | ⟨y, _ | ⟨_, _⟩⟩ <;> first | (cases h1; done) | skip
          have h : (o == copP op && chkE N T a sc x && chkE N T b sc y && noSet y) = true := h1
          obtain ⟨h, h4⟩ := bt h
          obtain ⟨h, h3⟩ := bt h
          obtain ⟨k1, k2⟩ := bt h
          cases beq_iff_eq.mp k1
          exact c_cmp ok (snE a ok k2) (snE b ok h3) h4
        | cmp2 o1 o2 a b c =>
          rcases os with _ | ⟨p1, _ | ⟨p2, _ | ⟨_, _⟩⟩⟩ <;> rcases ys with _ | ⟨y, _ | ⟨z, _ | ⟨_, _⟩⟩⟩ <;> first | (cases h1; done) | skip
          have h : (p1 == copP o1 && p2 == copP o2 && chkE N T a sc x && chkE N T b sc y && chkE N T c sc z && noSet y && noSet z) = true := h1
          obtain ⟨h, h7⟩ := bt h
          obtain ⟨h, h6⟩ := bt h
          obtain ⟨h, h5⟩ := bt h
          obtain ⟨h, h4⟩ := bt h
          obtain ⟨h, h3⟩ := bt h
          obtain ⟨k1, k2⟩ := bt h
          cases beq_iff_eq.mp k1
          cases beq_iff_eq.mp k2
          exact c_cmp2 ok (snE a ok h3) (snE b ok h4) (snE c ok h5) h7
        | eqO neg c f a b =>
          obtain ⟨x', y', p', e', rfl, k2, k3, k4, k5⟩ := chk_eqO h1
          rw [e']
          exact c_eqO ok k2 (snE a ok k3) (snE b ok k4) k5
        | _ => cases h1
      | _ => cases h2
theorem snF : ∀ (f : Fi) {top : Str → Bool} {sc : Scope} {X : Cx} {vs : List Expr}, Ok cl G T k N top sc X → chkF N T f sc vs = true → SF cl G X f vs
  | .none, top, sc, X, vs, ok, h => by
    cases vs with
    | nil => exact f_none
    | cons _ _ => cases h
  | .of c, top, sc, X, vs, ok, h => by
    rcases vs with _ | ⟨v, _ | ⟨_, _⟩⟩ <;> first | (cases h; done) | skip
    exact f_of (snC c ok h)
theorem snI : ∀ (it : Fb.It) {top : Str → Bool} {sc : Scope} {X : Cx} {t v : Expr}, Ok cl G T k N top sc X → chkI N T it sc t v = true → SIt cl G X it t v
  | .seq e, top, sc, X, t, v, ok, h => i_seq (snE e ok h)
  | .rng1 b, top, sc, X, t, v, ok, h => by
    cases v with
    | Call fe vs ks p =>
      cases fe with
      | Name x q =>
        rcases ks with _ | ⟨_, _⟩ <;> rcases vs with _ | ⟨y, _ | ⟨_, _⟩⟩ <;> first | (cases h; done) | skip
        have h : (x == ("range" : Str) && glob sc x && chkE N T b sc y && nst y) = true := h
        obtain ⟨h, h4⟩ := bt h
        obtain ⟨h, h3⟩ := bt h
        obtain ⟨h1, h2⟩ := bt h
        cases beq_iff_eq.mp h1
        exact i_rng1 ok h2 h4 (snE b ok h3)
      | _ => cases h
    | _ => cases h
  | .rng2 a b, top, sc, X, t, v, ok, h => by
    cases v with
    | Call fe vs ks p =>
      cases fe with
      | Name x q =>
        rcases ks with _ | ⟨_, _⟩ <;> rcases vs with _ | ⟨y, _ | ⟨z, _ | ⟨_, _⟩⟩⟩ <;> first | (cases h; done) | skip
        have h : (x == ("range" : Str) && glob sc x && chkE N T a sc y && chkE N T b sc z && nst y && nst z) = true := h
        obtain ⟨h, h6⟩ := bt h
        obtain ⟨h, h5⟩ := bt h
        obtain ⟨h, h4⟩ := bt h
        obtain ⟨h, h3⟩ := bt h
        obtain ⟨h1, h2⟩ := bt h
        cases beq_iff_eq.mp h1
        exact i_rng2 ok h2 h5 h6 (snE a ok h3) (snE b ok h4)
      | _ => cases h
    | _ => cases h
  | .rng3 a b c, top, sc, X, t, v, ok, h => by
    cases v with
    | Call fe vs ks p =>
      cases fe with
      | Name x q =>
        rcases ks with _ | ⟨_, _⟩ <;> rcases vs with _ | ⟨y, _ | ⟨z, _ | ⟨u, _ | ⟨_, _⟩⟩⟩⟩ <;> first | (cases h; done) | skip
        have h : (x == ("range" : Str) && glob sc x && chkE N T a sc y && chkE N T b sc z && chkE N T c sc u && nst y && nst z && nst u) = true := h
        obtain ⟨h, h8⟩ := bt h
        obtain ⟨h, h7⟩ := bt h
        obtain ⟨h, h6⟩ := bt h
        obtain ⟨h, h5⟩ := bt h
        obtain ⟨h, h4⟩ := bt h
        obtain ⟨h, h3⟩ := bt h
        obtain ⟨h1, h2⟩ := bt h
        cases beq_iff_eq.mp h1
        exact i_rng3 ok h2 h6 h7 h8 (snE a ok h3) (snE b ok h4) (snE c ok h5)
      | _ => cases h
    | _ => cases h
  | .enum e, top, sc, X, t, v, ok, h => by
    cases v with
    | Call fe vs ks p =>
      cases fe with
      | Name x q =>
        rcases ks with _ | ⟨_, _⟩ <;> rcases vs with _ | ⟨y, _ | ⟨_, _⟩⟩ <;> first | (cases h; done) | skip
        cases t with
        | Tuple ts j tp =>
          have h : (x == ("enumerate" : Str) && glob sc x && chkE N T e sc y && nst y) = true := h
          obtain ⟨h, h4⟩ := bt h
          obtain ⟨h, h3⟩ := bt h
          obtain ⟨h1, h2⟩ := bt h
          cases beq_iff_eq.mp h1
          exact i_enum ok h2 h4 (snE e ok h3)
        | _ => cases h
      | _ => cases h
    | _ => cases h
  | .zip a b, top, sc, X, t, v, ok, h => by
    cases v with
    | Call fe vs ks p =>
      cases fe with
      | Name x q =>
        rcases ks with _ | ⟨_, _⟩ <;> rcases vs with _ | ⟨y, _ | ⟨z, _ | ⟨_, _⟩⟩⟩ <;> first | (cases h; done) | skip
        cases t with
        | Tuple ts j tp =>
          have h : (x == ("zip" : Str) && glob sc x && chkE N T a sc y && chkE N T b sc z && nst y && nst z) = true := h
          obtain ⟨h, h6⟩ := bt h
          obtain ⟨h, h5⟩ := bt h
          obtain ⟨h, h4⟩ := bt h
          obtain ⟨h, h3⟩ := bt h
          obtain ⟨h1, h2⟩ := bt h
          cases beq_iff_eq.mp h1
          exact i_zip ok h2 h5 h6 (snE a ok h3) (snE b ok h4)
        | _ => cases h
      | _ => cases h
    | _ => cases h
theorem snG : ∀ (t : Tg) {top : Str → Bool} {sc : Scope} {X : Cx} {e' : Expr}, Ok cl G T k N top sc X → chkG N T top t sc e' = true → SG cl G X t e'
  | .var i, top, sc, X, e', ok, h => by
    cases e' with
    | Name x p =>
      have h : (N[i]? == some x && (owned sc x || (top x && seen sc x && !(sc.names.lookup x == some .free)))) = true := h
      obtain ⟨h1, h2⟩ := bt h
      rw [Bool.or_eq_true] at h2
      rcases h2 with h2 | h2
      · have l := owned_loc h2
        exact g_var ok (beq_iff_eq.mp h1) (by rw [ok.hsc]; exact .inl l) (by rw [ok.hsc]; exact .inr l)
      · obtain ⟨h2, h4⟩ := bt h2
        obtain ⟨h2, h3⟩ := bt h2
        refine g_var ok (beq_iff_eq.mp h1) ?_ (.inl (ok.top x h2))
        rw [ok.hsc]
        rcases seen_vis h3 with q | q | q
        · exact .inl q
        · exact .inr q
        · rw [q] at h4; cases h4
    | _ => cases h
  | .tup ts, top, sc, X, e', ok, h => by
    cases e' with
    | Tuple vs j p =>
      have l := tgs_len h
      exact g_tup ok l.2 l.1 (snGs ts ok h)
    | _ => cases h
  | .sub o i, top, sc, X, e', ok, h => by
    cases e' with
    | Subscript x y p =>
      have h : (chkE N T o sc x && chkE N T i sc y && noSli y) = true := h
      obtain ⟨h, h3⟩ := bt h
      obtain ⟨h1, h2⟩ := bt h
      exact g_sub ok (snE o ok h1) (snE i ok h2) h3
    | _ => cases h
  | .fld o c f, top, sc, X, e', ok, h => by
    cases e' with
    | Attribute x g p =>
      have h : (f == g && chkE N T o sc x && T.fl.contains (c, f)) = true := h
      obtain ⟨h, h3⟩ := bt h
      obtain ⟨h1, h2⟩ := bt h
      cases beq_iff_eq.mp h1
      exact g_fld ok (snE o ok h2) h3
    | _ => cases h
theorem snGs : ∀ (ts : Tgs) {top : Str → Bool} {sc : Scope} {X : Cx} {vs : List Expr}, Ok cl G T k N top sc X → chkGs N T top ts sc vs = true → SGs cl G X ts vs
  | .nil, top, sc, X, vs, ok, h => by
    cases vs with
    | nil => exact gs_nil
    | cons _ _ => cases h
  | .cons t r, top, sc, X, vs, ok, h => by
    cases vs with
    | nil => cases h
    | cons v vs =>
      have h : (nst v && chkG N T top t sc v && chkGs N T top r sc vs) = true := h
      obtain ⟨h, h3⟩ := bt h
      obtain ⟨h1, h2⟩ := bt h
      exact gs_cons h1 (snG t ok h2) (snGs r ok h3)
end
end
end Fb
set_option Elab.async false
set_option linter.all false
set_option maxRecDepth 100000
set_option maxHeartbeats 16000000
namespace Fb
open PySem PySem.Spec PyProof.Rows L2
section
variable {cl : Cl} {G : Ct} {T : Tab} {k : Nat} {N : List Str}
theorem es_of_tup {e : E} {sc : Scope} {vs : List Expr} {j : Nat} {p : Pos} (h : chkE N T e sc (.Tuple vs j p) = true) : ∃ es, e = .tup es ∧ chkEs N T es sc vs = true := by
  cases e <;> first | cases h | exact ⟨_, rfl, h⟩
theorem tg_of_tup {t : Tg} {top : Str → Bool} {sc : Scope} {vs : List Expr} {j : Nat} {p : Pos} (h : chkG N T top t sc (.Tuple vs j p) = true) : ∃ ts, t = .tup ts ∧ chkGs N T top ts sc vs = true := by
  cases t <;> first | cases h | exact ⟨_, rfl, h⟩
theorem tg_nst {t : Tg} {top : Str → Bool} {sc : Scope} {e : Expr} (h : chkG N T top t sc e = true) : nst e = true := by
  cases e <;> first | rfl | (cases t <;> cases h)
theorem swN_vs {ts vs : List Expr} {sc : Scope} {ns : List Str} (h : swN ts vs sc = some (some ns)) : vs.all nst = true := by
  unfold swN at h
  by_cases c : (!(ts.length == 2 || ts.length == 3) || vs.length != ts.length) = true
  · rw [if_pos c] at h; cases h
  rw [if_neg c] at h
  by_cases c2 : (vs.any fun | .Starred .. => true | _ => false) = true
  · have h := (if_pos c2).symm.trans h; cases h
  refine List.all_eq_true.mpr fun x hx => ?_
  cases q : nst x with
  | true => rfl
  | false =>
    refine absurd (List.any_eq_true.mpr ⟨x, hx, ?_⟩) c2
    cases x <;> first | rfl | cases q
theorem swap_none {tg v : Expr} {env : Env} (h : ∀ ts k p vs k2 p2, tg = .Tuple ts k p → v = .Tuple vs k2 p2 → False) (hl : ∀ es p, tg ≠ .List es p) : swappedStores [tg] v env = pure none := by
  cases tg <;> first | rfl | skip
  · exact absurd rfl (hl _ _)
  · cases v <;> first | rfl | exact (h _ _ _ _ _ _ rfl rfl).elim
/-- an expression of a statement, that may raise -/
theorem snX {wx : WX} : ∀ (e : E) {top : Str → Bool} {sc : Scope} {X : Cx} {e' : Expr}, Takes X wx → Ok cl G T k N top sc X → chkE N T e sc e' = true → SX cl G X wx e e'
  | .call f es, top, sc, X, e', tk, ok, h => by
    cases e' with
    | Call fe vs ks p =>
      cases fe with
      | Name x q =>
        cases ks with
        | nil =>
          have h : (T.fn[f]? == some (some x) && glob sc x && plainName x && chkEs N T es sc vs && vs.all nst) = true := h
          obtain ⟨h, h5⟩ := bt h
          obtain ⟨h, h4⟩ := bt h
          obtain ⟨h, h3⟩ := bt h
          obtain ⟨h1, h2⟩ := bt h
          cases vs with
          | nil => cases es_nil h4; exact x_call0 tk ok (beq_iff_eq.mp h1) h2 h3
          | cons v vs => exact x_call tk ok (beq_iff_eq.mp h1) h2 h3 h5 (snEs es ok h4)
        | cons _ _ => cases h
      | _ => cases h
    | _ => cases h
  | .meth a c m f es, top, sc, X, e', tk, ok, h => by
    cases e' with
    | Call fe vs ks p =>
      cases fe with
      | Attribute x g ap =>
        cases ks with
        | nil =>
          have h : (m == g && chkE N T a sc x && noSup x && T.me.contains (c, m, f) && chkEs N T es sc vs && vs.all nst && ap.endLine == p.line && decide (vs.length < 20)) = true := h
          obtain ⟨h, h8⟩ := bt h
          obtain ⟨h, h7⟩ := bt h
          obtain ⟨h, h6⟩ := bt h
          obtain ⟨h, h5⟩ := bt h
          obtain ⟨h, h4⟩ := bt h
          obtain ⟨h, h3⟩ := bt h
          obtain ⟨h1, h2⟩ := bt h
          cases beq_iff_eq.mp h1
          cases vs with
          | nil => cases es_nil h5; exact x_meth0 tk ok (snE a ok h2) h3 h7 h4
          | cons v vs => exact x_meth tk ok (snE a ok h2) h3 h7 (of_decide_eq_true h8) h4 h6 (snEs es ok h5)
        | cons _ _ => cases h
      | _ => cases h
    | _ => cases h
  | .mk c f es, top, sc, X, e', tk, ok, h => by
    cases e' with
    | Call fe vs ks p =>
      cases fe with
      | Name x q =>
        cases ks with
        | nil =>
          have h : (T.cls[c]? == some x && T.mks.contains (c, f) && glob sc x && plainName x && chkEs N T es sc vs && vs.all nst) = true := h
          obtain ⟨h, h6⟩ := bt h
          obtain ⟨h, h5⟩ := bt h
          obtain ⟨h, h4⟩ := bt h
          obtain ⟨h, h3⟩ := bt h
          obtain ⟨h1, h2⟩ := bt h
          cases vs with
          | nil => cases es_nil h5; exact x_mk0 tk ok (beq_iff_eq.mp h1) h2 h3 h4
          | cons v vs => exact x_mk tk ok (beq_iff_eq.mp h1) h2 h3 h4 h6 (snEs es ok h5)
        | cons _ _ => cases h
      | _ => cases h
    | _ => cases h
  | .var i, top, sc, X, e', tk, ok, h => x_of (fun _ => rfl) (snE _ ok h)
  | .int i, top, sc, X, e', tk, ok, h => x_of (fun _ => rfl) (snE _ ok h)
  | .bl i, top, sc, X, e', tk, ok, h => x_of (fun _ => rfl) (snE _ ok h)
  | .non, top, sc, X, e', tk, ok, h => x_of (fun _ => rfl) (snE _ ok h)
  | .str i, top, sc, X, e', tk, ok, h => x_of (fun _ => rfl) (snE _ ok h)
  | .glob i, top, sc, X, e', tk, ok, h => x_of (fun _ => rfl) (snE _ ok h)
  | .tup i, top, sc, X, e', tk, ok, h => x_of (fun _ => rfl) (snE _ ok h)
  | .lst i, top, sc, X, e', tk, ok, h => x_of (fun _ => rfl) (snE _ ok h)
  | .bin _ _ _, top, sc, X, e', tk, ok, h => x_of (fun _ => rfl) (snE _ ok h)
  | .un _ _, top, sc, X, e', tk, ok, h => x_of (fun _ => rfl) (snE _ ok h)
  | .not _, top, sc, X, e', tk, ok, h => x_of (fun _ => rfl) (snE _ ok h)
  | .cmp _ _ _, top, sc, X, e', tk, ok, h => x_of (fun _ => rfl) (snE _ ok h)
  | .cmp2 _ _ _ _ _, top, sc, X, e', tk, ok, h => x_of (fun _ => rfl) (snE _ ok h)
  | .and _ _, top, sc, X, e', tk, ok, h => x_of (fun _ => rfl) (snE _ ok h)
  | .or _ _, top, sc, X, e', tk, ok, h => x_of (fun _ => rfl) (snE _ ok h)
  | .ife _ _ _, top, sc, X, e', tk, ok, h => x_of (fun _ => rfl) (snE _ ok h)
  | .ix _ _, top, sc, X, e', tk, ok, h => x_of (fun _ => rfl) (snE _ ok h)
  | .sl _ _ _, top, sc, X, e', tk, ok, h => x_of (fun _ => rfl) (snE _ ok h)
  | .fld _ _ _, top, sc, X, e', tk, ok, h => x_of (fun _ => rfl) (snE _ ok h)
  | .prop _ _ _ _, top, sc, X, e', tk, ok, h => x_of (fun _ => rfl) (snE _ ok h)
  | .blt _ _, top, sc, X, e', tk, ok, h => x_of (fun _ => rfl) (snE _ ok h)
  | .bm _ _ _, top, sc, X, e', tk, ok, h => x_of (fun _ => rfl) (snE _ ok h)
  | .isi _ _ _, top, sc, X, e', tk, ok, h => x_of (fun _ => rfl) (snE _ ok h)
  | .lrg _ _, top, sc, X, e', tk, ok, h => x_of (fun _ => rfl) (snE _ ok h)
  | .eqO _ _ _ _ _, top, sc, X, e', tk, ok, h => x_of (fun _ => rfl) (snE _ ok h)
  | .comp _ _ _ _ _, top, sc, X, e', tk, ok, h => x_of (fun _ => rfl) (snE _ ok h)
  | .comp2 _ _ _ _ _ _ _ _ _, top, sc, X, e', tk, ok, h => x_of (fun _ => rfl) (snE _ ok h)
  | .dnew _, top, sc, X, e', tk, ok, h => x_of (fun _ => rfl) (snE _ ok h)
  | .dsp _ _, top, sc, X, e', tk, ok, h => x_of (fun _ => rfl) (snE _ ok h)
  | .isx _ _, top, sc, X, e', tk, ok, h => x_of (fun _ => rfl) (snE _ ok h)
  | .xfl _ _, top, sc, X, e', tk, ok, h => x_of (fun _ => rfl) (snE _ ok h)
  | .mt _ _ _, top, sc, X, e', tk, ok, h => x_of (fun _ => rfl) (snE _ ok h)
  | .mkx0 _, top, sc, X, e', tk, ok, h => x_of (fun _ => rfl) (snE _ ok h)
  | .mkx1 _ _, top, sc, X, e', tk, ok, h => x_of (fun _ => rfl) (snE _ ok h)
theorem snAsg {wx : WX} {t : Tg} {e : E} {sc : Scope} {X : Cx} {tg v : Expr} {p : Pos} (tk : Takes X wx) (ok : Ok cl G T k N anyT sc X) (hk : X.env.scope.kind = .function) (h1 : chkE N T e sc v = true) (h2 : chkG N T anyT t sc tg = true)
    (h3 : swOk tg v sc = true) : SSt cl G X wx (.asg t e) (.Assign [tg] v p) := by
  have hse : SE cl G X e v := snE e ok h1
  have ha : SX cl G X wx e v := snX e tk ok h1
  have hg : SG cl G X t tg := snG t ok h2
  have hn := tg_nst h2
  have hl : ∀ es p, tg ≠ .List es p := fun es p q => by
    subst q
    cases t <;> cases h2
  -- a tuple onto a tuple
  intro ι S H env σ D R E hh
  by_cases tt : ∃ ts k p vs k2 p2, tg = .Tuple ts k p ∧ v = .Tuple vs k2 p2
  · obtain ⟨ts, j, p1, vs, j2, p2, rfl, rfl⟩ := tt
    obtain ⟨es, rfl, he⟩ := es_of_tup h1
    obtain ⟨ts', rfl, ht⟩ := tg_of_tup h2
    have h3 : (swN ts vs sc).isSome = true := h3
    cases q : swN ts vs sc with
    | none => rw [q] at h3; cases h3
    | some o =>
      cases o with
      | none =>
        exact t_asg (p := p) ha hg rfl (swap_eq hk (by rw [ok.hsc]; exact q)) hn R E hh
      | some ns =>
        exact t_par (p := p) ok hk q (swN_vs q) he (snEs es ok he) ht R E hh
  · have hw : swappedStores [tg] v X.env = pure none := swap_none (fun ts k p vs k2 p2 e1 e2 => tt ⟨ts, k, p, vs, k2, p2, e1, e2⟩) hl
    by_cases hc : noCmp v = true
    · skip
      exact t_asg (p := p) ha hg (no_swap hc) hw hn R E hh
    by_cases nm : ∀ y q, tg ≠ .Name y q
    · skip
      exact t_asg (p := p) ha hg (swap_noname nm) hw hn R E hh
    -- a name, a comprehension
    obtain ⟨y, q, rfl⟩ : ∃ y q, tg = .Name y q := by
      cases tg <;> first | exact ⟨_, _, rfl⟩ | exact absurd (fun y q z => by cases z) nm
    obtain ⟨i, rfl, hi⟩ := chkG_var h2
    cases v with
    | ListComp x gs sc2 p2 =>
      cases e with
      | comp elt tgt it ifs own =>
        rcases gs with _ | ⟨⟨t, i', fs, a⟩, _ | ⟨_, _⟩⟩ <;> first | (cases h1; done) | skip
        have h : (a == 0 && chkI N T it sc t i' && (tgv tgt).all (own.contains ·) && blkC N sc sc2 (ownN N own) && chkG N T (cellT sc2) tgt (relS sc2 sc) t && chkF N T ifs (relS sc2 sc) fs && chkE N T elt (relS sc2 sc) x && noSet i') = true := h1
        obtain ⟨h, k8⟩ := bt h
        obtain ⟨h, k7⟩ := bt h
        obtain ⟨h, k6⟩ := bt h
        obtain ⟨h, k5⟩ := bt h
        obtain ⟨h, k4⟩ := bt h
        obtain ⟨h, k3⟩ := bt h
        obtain ⟨k1, k2⟩ := bt h
        cases beq_iff_eq.mp k1
        exact t_comp (p := p) ok hi hg own_map (by rw [ok.hN, ok.hsc]; exact blkOk_by k4) k8 (snI it ok k2) (fun j hj => by simpa using List.all_eq_true.mp k3 j hj) (fun s H c C f => snG tgt (ok.blk s H sc2 c C f) k5) (fun s H c C f => snF ifs (ok.blk s H sc2 c C f) k6) (fun s H c C f => snE elt (ok.blk s H sc2 c C f) k7) hse R E hh
      | _ => cases h1
    | SetComp _ _ _ _ => cases e <;> cases h1
    | DictComp _ _ _ _ _ => cases e <;> cases h1
    | _ => exact absurd rfl hc
/-- a def's own body: its frame is the first -/
def DefX (X : Cx) : Prop := X.stack = X.env :: X.outer ∧ X.env.frame = some X.env.locals
theorem snRaise {wx : WX} {c : Nat} {o : Option E} {sc : Scope} {X : Cx} {s' : Stmt} (tk : Takes X wx) (ok : Ok cl G T k N anyT sc X) (h : chkS N T (.raise c o) sc s' = true) : SSt cl G X wx (.raise c o) s' := by
  cases o with
  | none =>
    unfold chkS at h
    dsimp only at h
    split at h
    · obtain ⟨h, h5⟩ := bt h
      obtain ⟨h, h4⟩ := bt h
      obtain ⟨h, h3⟩ := bt h
      obtain ⟨h1, h2⟩ := bt h
      cases beq_iff_eq.mp h1
      exact t_raise0 tk ok h2 (beq_iff_eq.mp h3) h4 h5
    · cases h
  | some e =>
    unfold chkS at h
    dsimp only at h
    split at h
    · obtain ⟨h, h7⟩ := bt h
      obtain ⟨h, h6⟩ := bt h
      obtain ⟨h, h5⟩ := bt h
      obtain ⟨h, h4⟩ := bt h
      obtain ⟨h, h3⟩ := bt h
      obtain ⟨h1, h2⟩ := bt h
      cases beq_iff_eq.mp h1
      exact t_raise1 tk ok h2 h3 h4 h5 (snE e ok h6) h7
    · cases h
theorem chk_tryK {b : Ss} {c i j : Nat} {sc : Scope} {s : Stmt} (h : chkS N T (.tryK b c i j) sc s = true) : ∃ body x np n y yp m mp ap pos pos', s = .Try body [.ExceptHandler (some (.Name x np)) (some n) [.Assign [.Name y yp] (.Name m mp) ap] pos'] [] [] pos ∧
    (x == xn c && T.xs.contains c && glob sc x && plainName x && N[i]? == some n && owned sc n && m == n && N[j]? == some y && owned sc y && plainName n && i != j && tbs b && chkSs N T b sc body) = true := by
  unfold chkS at h
  split at h
  · exact ⟨_, _, _, _, _, _, _, _, _, _, _, rfl, h⟩
  · cases h
theorem chk_tryO {b : Ss} {c j : Nat} {e : E} {sc : Scope} {s : Stmt} (h : chkS N T (.tryO b c j e) sc s = true) : ∃ body x np y yp v ap pos pos', s = .Try body [.ExceptHandler (some (.Name x np)) none [.Assign [.Name y yp] v ap] pos'] [] [] pos ∧
    (x == xn c && T.xs.contains c && glob sc x && plainName x && N[j]? == some y && owned sc y && (litE e).isSome && chkE N T e sc v && tbs b && chkSs N T b sc body) = true := by
  unfold chkS at h
  split at h
  · exact ⟨_, _, _, _, _, _, _, _, _, rfl, h⟩
  · cases h
/-! the body of a try -/
mutual
theorem snT1 {wx : WX} : ∀ (s : S) {sc : Scope} {X : Cx} {s' : Stmt}, Takes X wx → Ok cl G T k N anyT sc X → X.env.scope.kind = .function → tb1 s = true → chkS N T s sc s' = true → SSt cl G X wx s s'
  | .expr e, sc, X, s', tk, ok, hk, ht, h => by
    cases s' with
    | Expr v p =>
      obtain ⟨h1, h2⟩ := bt h
      exact t_expr (snX e tk ok h1) h2
    | _ => cases h
  | .asg t e, sc, X, s', tk, ok, hk, ht, h => by
    cases s' with
    | Assign tgs v p =>
      rcases tgs with _ | ⟨tg, _ | ⟨_, _⟩⟩ <;> first | (cases h; done) | skip
      have h : (chkE N T e sc v && chkG N T anyT t sc tg && swOk tg v sc) = true := h
      obtain ⟨h, h3⟩ := bt h
      obtain ⟨h1, h2⟩ := bt h
      exact snAsg tk ok hk h1 h2 h3
    | _ => cases h
  | .ifs c a b, sc, X, s', tk, ok, hk, ht, h => by
    cases s' with
    | If z x y p =>
      have h : (chkC N T c sc z && chkSs N T a sc x && chkSs N T b sc y) = true := h
      obtain ⟨h, h3⟩ := bt h
      obtain ⟨h1, h2⟩ := bt h
      obtain ⟨k1, k2⟩ := bt ht
      exact t_ifs (snC c ok h1) (snTs a tk ok hk k1 h2) (snTs b tk ok hk k2 h3)
    | _ => cases h
  | .pass, sc, X, s', tk, ok, hk, ht, h => by
    cases s' with
    | Pass p => exact t_pass
    | Expr v p =>
      cases v with
      | Constant c j q =>
        cases c with
        | str x => exact t_doc
        | _ => cases h
      | _ => cases h
    | _ => cases h
  | .asg2 _ _ _, _, _, _, _, _, _, ht, _ => by cases ht
  | .aug _ _ _, _, _, _, _, _, _, ht, _ => by cases ht
  | .whl _ _, _, _, _, _, _, _, ht, _ => by cases ht
  | .fr _ _ _, _, _, _, _, _, _, ht, _ => by cases ht
  | .ret _, _, _, _, _, _, _, ht, _ => by cases ht
  | .retN, _, _, _, _, _, _, ht, _ => by cases ht
  | .raise _ _, _, _, _, _, _, _, ht, _ => by cases ht
  | .tryK _ _ _ _, _, _, _, _, _, _, ht, _ => by cases ht
  | .tryO _ _ _ _, _, _, _, _, _, _, ht, _ => by cases ht
theorem snTs {wx : WX} : ∀ (s : Ss) {sc : Scope} {X : Cx} {s' : List Stmt}, Takes X wx → Ok cl G T k N anyT sc X → X.env.scope.kind = .function → tbs s = true → chkSs N T s sc s' = true → SSs cl G X wx s s'
  | .nil, sc, X, s', tk, ok, hk, ht, h => by
    cases s' with
    | nil => exact t_nil
    | cons _ _ => cases h
  | .cons s r, sc, X, s', tk, ok, hk, ht, h => by
    cases s' with
    | nil => cases h
    | cons x xs =>
      obtain ⟨h1, h2⟩ := bt h
      obtain ⟨k1, k2⟩ := bt ht
      cases r with
      | nil =>
        cases xs with
        | nil => exact t_one (snT1 s tk ok hk k1 h1)
        | cons _ _ => cases h2
      | cons _ _ => cases k2
end
theorem Ok.tr {top : Str → Bool} {sc : Scope} {X : Cx} (ok : Ok cl G T k N top sc X) (pn : List (Addr × Obj)) (xe : Value → Shared → Prop) : Ok cl G T k N top sc (X.tr pn xe) := ⟨ok.hN, ok.nd, ok.calm, ok.gd, ok.room, ok.kpos, ok.hsc, ok.lib, ok.top⟩
/-- the reading of a try's body, whatever the wish -/
def tTb (X : Cx) (body : List Stmt) (W : WX) : TS := fun D σ H => ∀ (pn : List (Addr × Obj)) (xe : Value → Shared → Prop), Takes (X.tr pn xe) W → tSs (X.tr pn xe) body D σ H
theorem tb_run {X : Cx} {body : List Stmt} {W : WX} {pn : List (Addr × Obj)} {xe : Value → Shared → Prop} (tk : Takes (X.tr pn xe) W) : PSs (X.tr pn xe) body (tTb X body W) :=
  ⟨fun pins s σ H D I h => pss_s.run pins s σ H D I (h pn xe tk)⟩
theorem exm_of {sc : Scope} {top : Str → Bool} {X : Cx} {c d : Nat} (ok : Ok cl G T k N top sc X) (hc : T.xs.contains c = true) (hd : cl.xok d = true) (s : xsub d c = true) : PySem.W.exmOne X.K (.ref (cl.xad d)) (.ref (cl.xad c)) = some true := by
  have C := ok.lib.xc c hc
  have D := ok.lib.xc d (by rw [← ok.lib.xo]; exact hd)
  exact PySem.W.exm_ref C.bx C.hd C.ty (by rw [(D.sub c hc).1, s])
theorem snTryK {wx : WX} {b : Ss} {c i j : Nat} {sc : Scope} {X : Cx} {body : List Stmt} {x n y m : Str} {np yp mp ap pos pos' : Pos} (tk : Takes X wx) (dx : DefX X) (ok : Ok cl G T k N anyT sc X) (hk : X.env.scope.kind = .function)
    (h : (x == xn c && T.xs.contains c && glob sc x && plainName x && N[i]? == some n && owned sc n && m == n && N[j]? == some y && owned sc y && plainName n && i != j && tbs b && chkSs N T b sc body) = true) :
    SSt cl G X wx (.tryK b c i j) (.Try body [.ExceptHandler (some (.Name x np)) (some n) [.Assign [.Name y yp] (.Name m mp) ap] pos'] [] [] pos) := by
  obtain ⟨h, c13⟩ := bt h
  obtain ⟨h, c12⟩ := bt h
  obtain ⟨h, c11⟩ := bt h
  obtain ⟨h, c10⟩ := bt h
  obtain ⟨h, c9⟩ := bt h
  obtain ⟨h, c8⟩ := bt h
  obtain ⟨h, c7⟩ := bt h
  obtain ⟨h, c6⟩ := bt h
  obtain ⟨h, c5⟩ := bt h
  obtain ⟨h, c4⟩ := bt h
  obtain ⟨h, c3⟩ := bt h
  obtain ⟨c1, c2⟩ := bt h
  cases beq_iff_eq.mp c1
  cases beq_iff_eq.mp c7
  have hij : i ≠ j := bne_iff_ne.mp c11
  have C := ok.lib.xc c c2
  have on : X.env.scope.names.lookup n = some .local := by rw [ok.hsc]; exact owned_loc c6
  have oy : X.env.scope.names.lookup y = some .local := by rw [ok.hsc]; exact owned_loc c9
  intro ι S H env σ D R E h
  refine ⟨_, ps_keep (c := .ref (cl.xad c)) (i := i) (j := j) (tb := tTb X body) dx.1 dx.2 (by rw [ok.hN]; exact ok.nd) (by rw [ok.hN]; exact beq_iff_eq.mp c5) on (by rw [ok.hN]; exact beq_iff_eq.mp c8) oy (plain3 c10).1 (plain3 c10).2.1 ⟨glob_gl ok.hsc c3, (plain3 c4).1, .inl C.gl⟩ (fun W pn xe tk' _ => tb_run tk'), ?_⟩
  intro pn xe tk'
  refine snTs b (wx := wKeep X.K (.ref (cl.xad c)) i j D) tk' (ok.tr pn xe) hk c12 c13 (D := D) R E ?_
  have h : PoX cl X.K ι H (tryK c i j env (exs G b env S)) (SW X.K D) (XW cl X wx σ) := h
  show PoX cl X.K ι H (exs G b env S) (SW X.K D) _
  cases q : exs G b env S with
  | ok r S' => rw [q] at h; exact h
  | no => rw [q] at h; exact h
  | ex d p S' =>
    rw [q] at h
    unfold tryK at h
    dsimp only at h
    by_cases g : xsub d c = true ∧ i < env.length ∧ j < env.length ∧ i ≠ j
    · rw [if_pos g] at h
      intro ι' H' e cls dd xr
      obtain ⟨xo, rfl⟩ := xr.cls
      refine ⟨exm_of ok c2 xo g.1, by rw [← E.1]; exact g.2.1, hij, fun a ha => ?_⟩
      have e2 : Ext cl X.K ι' H' (ι' ++ [a]) (S' ++ [.exn d p]) (upd H' a (exc a (.ref (cl.xad d)) dd)) := e.rel.new ha (.new ha) (up_new ha) (fun _ z => nomatch z) ⟨_, dd, upd_same, xr.mono (List.prefix_append _ _) (.new ha)⟩
      have hn := h _ _ (e.trans e2)
      have hE := ((((E.ext e).ext e2).set (i := i) (wr_new e.rel)).set (i := j) (wr_new e.rel)).clear (i := i)
      have ee : (((env.set i (some (.loc S'.length))).set j (some (.loc S'.length))).set i none) = ((env.set j (some (.loc S'.length))).set i none) := by
        rw [List.set_comm _ _ hij, List.set_set]
      rw [ee] at hE
      exact hn _ hE
    · rw [if_neg g] at h
      exact h.elim
theorem snTryO {wx : WX} {b : Ss} {c j : Nat} {e : E} {sc : Scope} {X : Cx} {body : List Stmt} {x y : Str} {v : Expr} {np yp ap pos pos' : Pos} (tk : Takes X wx) (dx : DefX X) (ok : Ok cl G T k N anyT sc X) (hk : X.env.scope.kind = .function)
    (h : (x == xn c && T.xs.contains c && glob sc x && plainName x && N[j]? == some y && owned sc y && (litE e).isSome && chkE N T e sc v && tbs b && chkSs N T b sc body) = true) :
    SSt cl G X wx (.tryO b c j e) (.Try body [.ExceptHandler (some (.Name x np)) none [.Assign [.Name y yp] v ap] pos'] [] [] pos) := by
  obtain ⟨h, c10⟩ := bt h
  obtain ⟨h, c9⟩ := bt h
  obtain ⟨h, c8⟩ := bt h
  obtain ⟨h, c7⟩ := bt h
  obtain ⟨h, c6⟩ := bt h
  obtain ⟨h, c5⟩ := bt h
  obtain ⟨h, c4⟩ := bt h
  obtain ⟨h, c3⟩ := bt h
  obtain ⟨c1, c2⟩ := bt h
  cases beq_iff_eq.mp c1
  have C := ok.lib.xc c c2
  have oy : X.env.scope.names.lookup y = some .local := by rw [ok.hsc]; exact owned_loc c6
  -- a constant, in any context
  obtain ⟨w, u, hw, hwr, hpe, hnc⟩ : ∃ (w : W) (u : V), litE e = some w ∧ (∀ K ι H, WR K ι H w u) ∧ (∀ Y : Cx, PE Y v (tC u)) ∧ noCmp v = true := by
    cases e with
    | str z =>
      cases v with
      | Constant cc jj pp =>
        cases cc with
        | str z2 => cases beq_iff_eq.mp (show (z == z2) = true from c8); exact ⟨_, .str z, rfl, fun _ _ _ => rfl, fun _ => pe_str, rfl⟩
        | _ => cases c8
      | _ => cases c8
    | bl z =>
      cases v with
      | Constant cc jj pp =>
        cases cc with
        | bool z2 => cases beq_iff_eq.mp (show (z == z2) = true from c8); exact ⟨_, .bl z, rfl, fun _ _ _ => rfl, fun _ => pe_bl, rfl⟩
        | _ => cases c8
      | _ => cases c8
    | int z =>
      cases v with
      | Constant cc jj pp =>
        cases cc with
        | int z2 => cases beq_iff_eq.mp (show (z == z2) = true from c8); exact ⟨_, .int z, rfl, fun _ _ _ => rfl, fun _ => pe_int, rfl⟩
        | _ => cases c8
      | _ => cases c8
    | non =>
      cases v with
      | Constant cc jj pp =>
        cases cc with
        | none => exact ⟨_, .non, rfl, fun _ _ _ => rfl, fun _ => pe_non, rfl⟩
        | _ => cases c8
      | _ => cases c8
    | _ => cases c7
  intro ι S H env σ D R E h
  refine ⟨_, ps_try_only (c := .ref (cl.xad c)) (tb := tTb X body) (Wout := wx) dx.1 dx.2 ⟨glob_gl ok.hsc c3, (plain3 c4).1, .inl C.gl⟩ tk (fun W pn xe tk' _ => tb_run tk')
    (fun a oe cls d pn _ _ => pss_one (ps_set (X := X.suite a ((a, oe) :: pn)) (i := j) (by rw [show (X.suite a ((a, oe) :: pn)).N = N from ok.hN]; exact ok.nd) (by rw [show (X.suite a ((a, oe) :: pn)).N = N from ok.hN]; exact beq_iff_eq.mp c5) (.inl oy) (hpe _) (no_swap hnc) (.inr oy))), ?_⟩
  intro pn xe tk'
  refine snTs b (wx := wOnly X.K (.ref (cl.xad c)) _ wx D) tk' (ok.tr pn xe) hk c9 c10 (D := D) R E ?_
  have h : PoX cl X.K ι H ((match litE e with
    | some x => fun S => tryO c j x env (exs G b env S)
    | none => Fb.fail : M (Option W × En)) S) (SW X.K D) (XW cl X wx σ) := h
  rw [hw] at h
  have h : PoX cl X.K ι H (tryO c j w env (exs G b env S)) (SW X.K D) (XW cl X wx σ) := h
  show PoX cl X.K ι H (exs G b env S) (SW X.K D) _
  cases q : exs G b env S with
  | ok r S' => rw [q] at h; exact h
  | no => rw [q] at h; exact h
  | ex d p S' =>
    rw [q] at h
    unfold tryO at h
    dsimp only at h
    by_cases g : xsub d c = true ∧ j < env.length
    · rw [if_pos g] at h
      intro ι' H' e cls dd xr
      obtain ⟨xo, rfl⟩ := xr.cls
      refine ⟨true, exm_of ok c2 xo g.1, fun _ a ha => ?_, fun z => nomatch z⟩
      exact h ι' H' e _ ((E.ext e).set (hwr _ _ _))
    · rw [if_neg g] at h
      exact h.elim
mutual
theorem snS {wx : WX} : ∀ (s : S) {sc : Scope} {X : Cx} {s' : Stmt}, Flat wx → Takes X wx → DefX X → Ok cl G T k N anyT sc X → X.env.scope.kind = .function → PassesOwn (model X.prog X.w) X.A X.env X.xe → chkS N T s sc s' = true → SSt cl G X wx s s'
  | .expr e, sc, X, s', fw, tk, dx, ok, hk, hp, h => by
    cases s' with
    | Expr v p =>
      obtain ⟨h1, h2⟩ := bt h
      exact t_expr (snX e tk ok h1) h2
    | _ => cases h
  | .asg t e, sc, X, s', fw, tk, dx, ok, hk, hp, h => by
    cases s' with
    | Assign tgs v p =>
      rcases tgs with _ | ⟨tg, _ | ⟨_, _⟩⟩ <;> first | (cases h; done) | skip
      have h : (chkE N T e sc v && chkG N T anyT t sc tg && swOk tg v sc) = true := h
      obtain ⟨h, h3⟩ := bt h
      obtain ⟨h1, h2⟩ := bt h
      exact snAsg tk ok hk h1 h2 h3
    | _ => cases h
  | .asg2 _ _ _, _, _, _, _, _, _, _, _, _, h => by cases h
  | .aug t op e, sc, X, s', fw, tk, dx, ok, hk, hp, h => by
    cases s' with
    | AugAssign tg o v p =>
      cases t with
      | var i =>
        have h : (o == bopP op && chkE N T e sc v && chkG N T anyT (.var i) sc tg) = true := h
        obtain ⟨h, h3⟩ := bt h
        obtain ⟨h1, h2⟩ := bt h
        cases beq_iff_eq.mp h1
        cases tg with
        | Name x q =>
          have h3 : (N[i]? == some x && (owned sc x || (true && seen sc x && !(sc.names.lookup x == some .free)))) = true := h3
          obtain ⟨g1, g2⟩ := bt h3
          rw [Bool.or_eq_true] at g2
          rcases g2 with g2 | g2
          · have l := owned_loc g2
            exact t_augV ok (beq_iff_eq.mp g1) (by rw [ok.hsc]; exact .inl l) (by rw [ok.hsc]; exact .inr l) (snE e ok h2)
          · obtain ⟨g2, g4⟩ := bt g2
            obtain ⟨g2, g3⟩ := bt g2
            refine t_augV ok (beq_iff_eq.mp g1) ?_ (.inl (ok.top x rfl)) (snE e ok h2)
            rw [ok.hsc]
            rcases seen_vis g3 with q | q | q
            · exact .inl q
            · exact .inr q
            · rw [q] at g4; cases g4
        | _ => cases h3
      | sub a b =>
        have h : (o == bopP op && chkE N T e sc v && chkG N T anyT (.sub a b) sc tg) = true := h
        obtain ⟨h, h3⟩ := bt h
        obtain ⟨h1, h2⟩ := bt h
        cases beq_iff_eq.mp h1
        cases tg with
        | Subscript x y q =>
          have h3 : (chkE N T a sc x && chkE N T b sc y && noSli y) = true := h3
          obtain ⟨g, g3⟩ := bt h3
          obtain ⟨g1, g2⟩ := bt g
          exact t_augS ok (snE a ok g1) (snE b ok g2) (snE e ok h2) g3
        | _ => cases h3
      | _ => cases (bt h).2
    | _ => cases h
  | .ifs c a b, sc, X, s', fw, tk, dx, ok, hk, hp, h => by
    cases s' with
    | If z x y p =>
      have h : (chkC N T c sc z && chkSs N T a sc x && chkSs N T b sc y) = true := h
      obtain ⟨h, h3⟩ := bt h
      obtain ⟨h1, h2⟩ := bt h
      exact t_ifs (snC c ok h1) (snSs a fw tk dx ok hk hp h2) (snSs b fw tk dx ok hk hp h3)
    | _ => cases h
  | .whl c b, sc, X, s', fw, tk, dx, ok, hk, hp, h => by
    cases s' with
    | While z x y p =>
      cases y with
      | nil =>
        obtain ⟨h1, h2⟩ := bt h
        exact t_whl fw hp (snC c ok h1) (snSs b fw tk dx ok hk hp h2)
      | cons _ _ => cases h
    | _ => cases h
  | .fr t it b, sc, X, s', fw, tk, dx, ok, hk, hp, h => by
    cases s' with
    | For x y z w p =>
      cases w with
      | nil =>
        have h : (chkI N T it sc x y && chkG N T anyT t sc x && chkSs N T b sc z && noSet y) = true := h
        obtain ⟨h, h4⟩ := bt h
        obtain ⟨h, h3⟩ := bt h
        obtain ⟨h1, h2⟩ := bt h
        exact t_for ok fw hp h4 (snI it ok h1) (snG t ok h2) (snSs b fw tk dx ok hk hp h3)
      | cons _ _ => cases h
    | _ => cases h
  | .ret e, sc, X, s', fw, tk, dx, ok, hk, hp, h => by
    cases s' with
    | Return v p =>
      cases v with
      | none => cases h
      | some v => exact t_ret (snX e tk ok h)
    | _ => cases h
  | .retN, sc, X, s', fw, tk, dx, ok, hk, hp, h => by
    cases s' with
    | Return v p =>
      cases v with
      | none => exact t_retN
      | some v => cases h
    | _ => cases h
  | .pass, sc, X, s', fw, tk, dx, ok, hk, hp, h => by
    cases s' with
    | Pass p => exact t_pass
    | Expr v p =>
      cases v with
      | Constant c j q =>
        cases c with
        | str x => exact t_doc
        | _ => cases h
      | _ => cases h
    | _ => cases h
  | .raise c o, sc, X, s', fw, tk, dx, ok, hk, hp, h => snRaise tk ok h
  | .tryK b c i j, sc, X, s', fw, tk, dx, ok, hk, hp, h => by
    obtain ⟨body, x, np, n, y, yp, m, mp, ap, pos, pos', rfl, h⟩ := chk_tryK h
    exact snTryK tk dx ok hk h
  | .tryO b c j e, sc, X, s', fw, tk, dx, ok, hk, hp, h => by
    obtain ⟨body, x, np, y, yp, v, ap, pos, pos', rfl, h⟩ := chk_tryO h
    exact snTryO tk dx ok hk h
theorem snSs {wx : WX} : ∀ (s : Ss) {sc : Scope} {X : Cx} {s' : List Stmt}, Flat wx → Takes X wx → DefX X → Ok cl G T k N anyT sc X → X.env.scope.kind = .function → PassesOwn (model X.prog X.w) X.A X.env X.xe → chkSs N T s sc s' = true → SSs cl G X wx s s'
  | .nil, sc, X, s', fw, tk, dx, ok, hk, hp, h => by
    cases s' with
    | nil => exact t_nil
    | cons _ _ => cases h
  | .cons s r, sc, X, s', fw, tk, dx, ok, hk, hp, h => by
    cases s' with
    | nil => cases h
    | cons x xs =>
      obtain ⟨h1, h2⟩ := bt h
      exact t_cons fw (snS s fw tk dx ok hk hp h1) (snSs r fw tk dx ok hk hp h2)
end
/-- A DEF keeps its promise: what the evaluator says of its body -/
theorem fn_df {P : Program} {w : World} {K : PySem.W.Frag} {mg : Str → Option Value} {base : Heap} {x qual : Str} {st : Stmt} {f : Addr} {fd : FuncData} {ps : List Str} {d : Df} (F : FunD K x qual (defArgs st) (defBody st) (defScope st) [] [] f fd) (S : FnScope N ps (defScope st))
    (L : Lib cl G T k P w K mg base) (hk1 : 1 ≤ k) (hc : chkSs N T d.body (defScope st) (defBody st) = true) (hp : d.np = ps.length) (hn : d.ns = N.length) :
    FnG P w K mg base (k + 2) f fd ps (spOf cl K (runDf G d)) := by
  have hlen : ∀ {vs : List V} {H : Hp} {Q : VK} {E : XK}, spOf cl K (runDf G d) vs H Q E → vs.length = ps.length := by
    rintro vs H Q E ⟨ι, S, ws, R, w, h⟩
    unfold runDf at h
    by_cases c : ws.length = d.np
    · rw [w.length, c, hp]
    · rw [if_neg c] at h
      exact h.elim
  refine g_def (k := k + 1) F S (fun vs H Q E h => hlen h) fun cdv A outer s H vs Q E gd hr h => ?_
  have hl := hlen h
  obtain ⟨ι, S0, ws, R, w, h⟩ := h
  unfold runDf at h
  have lw := w.length
  rw [if_pos (by rw [← lw, hl, hp])] at h
  have ok : Ok cl G T k N anyT (defScope st) (cxOf (L2.CX P ‹World›) P ‹World› K mg base N qual (defScope st) f cdv A outer s H E) := ⟨rfl, S.nd, rfl, gd, hr, hk1, rfl, L, fun _ _ => rfl⟩
  have E0 : ER K ι H (ws.map some ++ List.replicate (d.ns - d.np) none) (L2.start N vs) := by
    unfold L2.start
    refine ⟨?_, fun i x q => ?_⟩
    · rw [List.length_append, List.length_append, List.length_map, List.length_map, List.length_replicate, List.length_replicate, hn, hp, hl, ← lw, hl]
    · by_cases c : i < (ws.map some).length
      · rw [List.getElem?_append_left c, List.getElem?_map] at q
        cases z : ws[i]? with
        | none => rw [z] at q; cases q
        | some y =>
          rw [z] at q
          have e : y = x := Option.some.inj (Option.some.inj q)
          subst e
          obtain ⟨v, hv, rv⟩ := w.get z
          refine ⟨v, ?_, rv⟩
          rw [List.getElem?_append_left (by rw [List.length_map, lw]; rw [List.length_map] at c; exact c), List.getElem?_map, hv]
          rfl
      · rw [List.getElem?_append_right (Nat.le_of_not_lt c), List.getElem?_replicate] at q
        split at q
        · cases q
        · cases q
  have hb := snSs (cl := cl) (G := G) (wx := fun cls d _ H' => E cls d H') d.body (fun _ _ _ _ _ z => z) (takes_of rfl rfl rfl rfl) ⟨rfl, rfl⟩ ok S.kind (passes_of rfl) hc (D := { nx := fun _ H' => Q .non H', rt := Q }) R E0
  refine ⟨_, pss_s, hb (PoX.bind h fun r S1 ι1 H1 e1 h => ?_)⟩
  obtain ⟨o, env1⟩ := r
  cases o with
  | none => exact fun σ' _ => PoX.pure e1.rel h .non rfl
  | some w1 => exact fun v hv => PoX.pure e1.rel h v hv
end
end Fb
set_option Elab.async false
set_option linter.all false
set_option maxRecDepth 100000
set_option maxHeartbeats 1000000
/-! Lite: from what the head tells to the context of the evaluator; the end of a law. -/
namespace Fb
open PySem PySem.Spec PyProof.Rows L2

/-! ### where a def stands -/
abbrev Dd.At (K : PySem.W.Frag) (d : Dd) (fd : FuncData) : Prop := FunD K d.name d.qual (defArgs d.st) (defBody d.st) (defScope d.st) [] [] (d.loc.adr K) fd
theorem Dd.told {K : PySem.W.Frag} {d : Dd} (e : fdAt K (d.loc.adr K) = d.want) (c : d.good K = true) : ∃ fd, d.At K fd := by
  unfold Dd.good at c
  obtain ⟨kp, c⟩ := bt c
  unfold fdAt at e
  cases q : K.lookup (d.loc.adr K) with
  | none => rw [q] at c; cases c
  | some o =>
    rw [q] at c e
    obtain ⟨oc, od, dt, osl⟩ := o
    cases dt with
    | func g =>
      obtain ⟨c1, c⟩ := bt (show (PySem.W.codeIn K g.code d.qual && (He.dflB K g.defaults [] && He.kwdB K g.kwdefaults [])) = true from c)
      obtain ⟨c2, c3⟩ := bt c
      have e : (some (g.name, g.qualname, g.params, g.body, g.scope, g.globals, g.closure, g.builtins) : He.FnW) = some (d.name, d.qual, defArgs d.st, .stmts (defBody d.st), defScope d.st, mainGlobals, [], builtinsNs) := e
      simp only [Option.some.injEq, Prod.mk.injEq] at e
      obtain ⟨n1, n2, n3, n4, n5, n6, n7, n8, n9, n10, n11, n12, n13, n14, n15⟩ := g
      obtain ⟨h1, h2, h3, h4, h5, h6, h7, h8⟩ := e
      dsimp only at h1 h2 h3 h4 h5 h6 h7 h8
      subst h1 h2 h3 h4 h5 h6 h7 h8
      exact ⟨_, ⟨oc, od, n8, n9, n10, n11, n12, n13, n14, osl, rfl, q, c1, He.dflB_ok c2, He.kwdB_ok c3⟩, kp⟩
    | _ => cases c

/-! ### a hook of ours -/
theorem hk_ex {ds : List Dd} {ex : PySem.W.Frag → Bool} {K : PySem.W.Frag} (c : hkO ds ex K = (true, ds.map Dd.want)) : ex K = true := (bt (congrArg Prod.fst c)).1
theorem hk_def {ds : List Dd} {ex : PySem.W.Frag → Bool} {K : PySem.W.Frag} (c : hkO ds ex K = (true, ds.map Dd.want)) {i : Nat} {d : Dd} (h : ds[i]? = some d) : ∃ fd, d.At K fd := by
  have c1 := (bt (congrArg Prod.fst c)).2
  have c2 : ds.map (fun d => fdAt K (d.loc.adr K)) = ds.map Dd.want := congrArg Prod.snd c
  have e : (ds.map fun d => fdAt K (d.loc.adr K))[i]? = (ds.map Dd.want)[i]? := by rw [c2]
  rw [List.getElem?_map, List.getElem?_map, h] at e
  exact Dd.told (Option.some.inj e) (List.all_eq_true.mp c1 d (List.mem_of_getElem? h))

/-! ### the facts of a table -/
def clT (T : Tab) (w : World) (K : PySem.W.Frag) : Cl := ⟨fun c => He.ga K (cn T c), w, fun c => He.ga K (xn c), fun c => T.xs.contains c⟩
theorem prB_ok {K : PySem.W.Frag} {C : Addr} {m : Str} (h : prB K C m = true) : PropOf K C m (He.ma K C m) (prFn K (He.ma K C m)) := by
  unfold prB at h
  obtain ⟨h1, h⟩ := bt h
  obtain ⟨h2, h⟩ := bt h
  obtain ⟨h3, h4⟩ := bt h
  refine ⟨He.eqO_ok h1, He.eqO_ok h2, of_decide_eq_true h3, ?_⟩
  cases q : PySem.W.recIn K (He.ma K C m) "property" with
  | none => rw [q] at h4; cases h4
  | some l =>
    rw [q] at h4
    cases l with
    | nil => cases h4
    | cons v r =>
      cases v with
      | ref g => exact ⟨r, by unfold prFn; rw [q]⟩
      | _ => cases h4
/-- what is checked of the table alone -/
def tabB (T : Tab) (gv : List Int) (ds : List Dd) : Bool :=
  T.gl.length == gv.length && (T.me.all fun p => (T.mks.map (·.1)).contains p.1) && (T.pr.all fun p => (T.mks.map (·.1)).contains p.1) && (T.fl.all fun p => (T.mks.map (·.1)).contains p.1) &&
  ((List.range T.fn.length).all fun i => match T.fn[i]?, ds[i]? with
    | some (some x), some d => (match d.loc with
      | .fn y => x == y
      | _ => false)
    | _, _ => true) &&
  (T.me.all fun p => match ds[p.2.2]? with
    | some d => (match d.loc with
      | .me c m => c == cn T p.1 && m == p.2.1
      | _ => false)
    | none => false) &&
  (T.pr.all fun p => match ds[p.2.2]? with
    | some d => (match d.loc with
      | .pr c m => c == cn T p.1 && m == p.2.1
      | _ => false)
    | none => false) &&
  (T.mks.all fun p => match ds[p.2]? with
    | some d => (match d.loc with
      | .me c m => c == cn T p.1 && m == ("__init__" : Str)
      | _ => false)
    | none => false) && T.fn.length == ds.length

/-! ### a def of ours -/
structure DI where
  dd : Dd
  N : List Str
  ps : List Str
  df : Df
structure DOk (T : Tab) (D : DI) : Prop where
  chk : chkSs D.N T D.df.body (defScope D.dd.st) (defBody D.dd.st) = true
  sc : FnScope D.N D.ps (defScope D.dd.st)
  np : D.df.np = D.ps.length
  ns : D.df.ns = D.N.length
  bd : ∀ (kV doc pm : Value) (an : Option Addr) (cdv ct : Value) (us : List Value), us.length = D.ps.length → bindArgs (PySem.W.fnOf D.dd.name D.dd.qual (defArgs D.dd.st) (defBody D.dd.st) (defScope D.dd.st) .none kV doc pm an cdv ct) ⟨us, []⟩ = pure (D.ps.zip us)
def AllOk (T : Tab) : List DI → Prop
  | [] => True
  | D :: r => DOk T D ∧ AllOk T r
theorem AllOk.get {T : Tab} : ∀ {l : List DI} {i : Nat} {D : DI}, AllOk T l → l[i]? = some D → DOk T D
  | [], i, D, _, h => by simp at h
  | E :: r, 0, D, h, e => by
    have : E = D := by simpa using e
    exact this ▸ h.1
  | E :: r, i + 1, D, h, e => h.2.get (i := i) (by simpa using e)
/-- an error's __init__: one field -/
structure XIok (c : Nat) (d : Dd) : Prop where
  nf : xfN c ≠ ""
  loc : d.loc = .me (xn c) "__init__"
  body : ∃ (a : Str) (p1 p2 p3 p4 : Pos), defBody d.st = [.Assign [.Attribute (.Name "self" p1) (xfN c) p2] (.Name a p3) p4] ∧ plainName a = true ∧ FnScope [("self" : Str), a] [("self" : Str), a] (defScope d.st) ∧
    ∀ (kV doc pm : Value) (an : Option Addr) (cdv ct : Value) (us : List Value), us.length = 2 → bindArgs (PySem.W.fnOf d.name d.qual (defArgs d.st) (defBody d.st) (defScope d.st) .none kV doc pm an cdv ct) ⟨us, []⟩ = pure ([("self" : Str), a].zip us)
def AllXi : List (Nat × Dd) → Prop
  | [] => True
  | p :: r => XIok p.1 p.2 ∧ AllXi r
theorem AllXi.get : ∀ {l : List (Nat × Dd)} {p : Nat × Dd}, AllXi l → p ∈ l → XIok p.1 p.2
  | q :: r, p, h, m => by
    rcases List.mem_cons.mp m with e | m
    · subst e
      exact h.1
    · exact AllXi.get h.2 m
theorem xi_fn {P : Program} {w : World} {K : PySem.W.Frag} {mg : Str → Option Value} {base : Heap} {c : Nat} {d : Dd} {fd : FuncData} {C : Addr} (F : d.At K fd) (x : XIok c d) (O : OexC K C) (no : PySem.W.findIn K (.ref C) (xfN c) = some none) :
    ∃ ps, Binds K fd ps [] ∧ FnOk P w K mg base (L2.CX P w) 1 (d.loc.adr K) fd ps (spXI C (xfN c)) := by
  obtain ⟨a, p1, p2, p3, p4, hbody, pl, S, bd⟩ := x.body
  refine ⟨[("self" : Str), a], FunD.bindsN F bd, ?_⟩
  obtain ⟨oc, od, dV, kV, doc, pm, an, cd, ct, osl, rfl, lk, hcd, _, _⟩ := F.ex
  refine fn_of lk hcd S (fun vs H Q E ⟨a, y, e, _⟩ => by rw [e]; rfl) fun A outer s H vs Q E hr h => ?_
  obtain ⟨e, y, rfl, he, q⟩ := h
  have vis : ∀ z, z ∈ [("self" : Str), a] → Vis (defScope d.st) z := fun z hz => (S.par z hz).imp id .inl
  have psx : ∃ t, PSs (cxOf (L2.CX P w) P w K mg base [("self" : Str), a] d.qual (defScope d.st) (d.loc.adr K) cd A outer s H E) (defBody d.st) t ∧ t { nx := fun _ H' => Q .non H', rt := Q } (L2.start [("self" : Str), a] [.ref e, y]) H := by
    rw [hbody]
    refine ⟨_, pss_one (ps_ost (pe_var (i := 0) rfl (vis _ List.mem_cons_self)) (pe_var (i := 1) rfl (vis _ (List.mem_cons_of_mem _ List.mem_cons_self)) (plain3 pl).1 (plain3 pl).2.1)), ?_⟩
    exact ⟨y, rfl, .ref e, rfl, e, C, rfl, O, no, .inl ⟨he, fun dx h1 h2 => q dx h1 h2⟩⟩
  exact psx
/-- the functions, n deep -/
noncomputable def Gn (gv : List Int) (ds : List DI) : Nat → Ct
  | 0 => ⟨fun _ _ => fail, fun i => .int (gv.getD i 0)⟩
  | n + 1 => ⟨fun i => match ds[i]? with
    | some D => runDf (Gn gv ds n) D.df
    | none => fun _ => fail, fun i => .int (gv.getD i 0)⟩
section
variable {T : Tab} {gv : List Int} {ds : List DI} {P : Program} {w : World} {K : PySem.W.Frag} {mg : Str → Option Value} {base : Heap}
theorem Gn_gl : ∀ {n i : Nat}, (Gn gv ds n).gl i = .int (gv.getD i 0)
  | 0, _ => rfl
  | _ + 1, _ => rfl
theorem contains_mem {α : Type} [BEq α] [LawfulBEq α] {l : List α} {a : α} (h : l.contains a = true) : a ∈ l := List.contains_iff_mem.mp h
theorem fact_of {f : He.Fa} (h : exT T gv K = true) (m : f ∈ facts T gv) : f.ok K = true := List.all_eq_true.mp (bt (bt h).2).1 f m
theorem fn_any {G : Ct} {k : Nat} {D : DI} {fd : FuncData} (F : D.dd.At K fd) (h : DOk T D) (hk1 : 1 ≤ k) (L : Lib (clT T w K) G T k P w K mg base) : FnG P w K mg base (k + 2) (D.dd.loc.adr K) fd D.ps (spOf (clT T w K) K (runDf G D.df)) :=
  fn_df F h.sc L hk1 h.chk h.np h.ns
theorem fn_none {cl : Cl} {k : Nat} {f : Addr} {fd : FuncData} {ps : List Str} : FnG P w K mg base k f fd ps (spOf cl K fun _ => fail) :=
  ⟨fun vs H Q E h => by
    obtain ⟨ι, S, ws, R, r, h⟩ := h
    exact h.elim, fun B out s H us vs Q E _ _ _ _ _ h => by
    obtain ⟨ι, S, ws, R, r, h⟩ := h
    exact h.elim⟩
theorem sys_of (ex : exT T gv K = true) : SysD K := by
  have h := (bt ex).1
  unfold sysB at h
  split at h
  · rename_i o q
    exact ⟨o, q, beq_iff_eq.mp h⟩
  · cases h
theorem xc_of (KX : K.In base) (NS : base.Ns mainGlobals mg) (ex : exT T gv K = true) {c : Nat} (h : T.xs.contains c = true) : XC (clT T w K) T K mg c := by
  have q := List.all_eq_true.mp (bt (bt (bt (bt ex).2).2).2).2 c (contains_mem h)
  unfold xB at q
  dsimp only at q
  obtain ⟨q1, q⟩ := bt q
  obtain ⟨q2, q⟩ := bt q
  obtain ⟨q3, q⟩ := bt q
  obtain ⟨q4, q⟩ := bt q
  obtain ⟨q5, q⟩ := bt q
  obtain ⟨q6, q⟩ := bt q
  obtain ⟨q7, q⟩ := bt q
  obtain ⟨q8, q⟩ := bt q
  obtain ⟨q9, q⟩ := bt q
  obtain ⟨q10, q⟩ := bt q
  obtain ⟨q11, q⟩ := bt q
  obtain ⟨q12, q⟩ := bt q
  obtain ⟨q13, q14⟩ := bt q
  refine ⟨He.glo_ok KX NS q1, He.eqO_ok q2, He.eqO_ok q3, of_decide_eq_true q4, q5, He.eqO_ok q6, He.eqO_ok q7, of_decide_eq_true q8, of_decide_eq_true q9, of_decide_eq_true q10, q11, of_decide_eq_true q12, fun d hd => ?_, fun z => ?_, fun z => ?_⟩
  · obtain ⟨a, b⟩ := bt (List.all_eq_true.mp q13 d (contains_mem hd))
    exact ⟨of_decide_eq_true a, of_decide_eq_true b⟩
  · rw [if_pos z] at q14
    exact q14
  · rw [if_neg z] at q14
    obtain ⟨r1, r⟩ := bt q14
    obtain ⟨r2, r⟩ := bt r
    obtain ⟨r3, r⟩ := bt r
    obtain ⟨r4, r5⟩ := bt r
    refine ⟨⟨?_, He.eqO_ok r2, of_decide_eq_true q4, of_decide_eq_true q10, q11⟩, He.eqO_ok r3, beq_iff_eq.mp r4, He.eqO_ok r5⟩
    unfold oexB at r1
    split at r1
    · rename_i dd D q lk
      split at r1
      · rename_i B bm k0 k1 k2 k3 n k5 hm hs
        obtain ⟨s1, r1⟩ := bt r1
        obtain ⟨s2, r1⟩ := bt r1
        obtain ⟨s3, r1⟩ := bt r1
        obtain ⟨s4, s5⟩ := bt r1
        obtain ⟨nm, bs, mro, ns, qn, hd, sn, sb, ab, col, del⟩ := D
        obtain ⟨ql⟩ := q
        dsimp only at hm hs s3 s4
        have s1 := beq_iff_eq.mp s1
        have s2 := beq_iff_eq.mp s2
        subst hm s1 s2 s4
        have s3 : del = false := by cases del <;> first | rfl | cases s3
        subst s3 hs
        exact ⟨_, _, _, _, _, _, _, _, _, _, _, _, _, _, _, lk, s5⟩
      · cases r1
    · cases r1
/-- THE CONTEXT, n deep -/
theorem lib_n (KX : K.In base) (NS : base.Ns mainGlobals mg) (ex : exT T gv K = true) (tb : tabB T gv (ds.map DI.dd) = true) (hd : ∀ (i : Nat) (D : DI), ds[i]? = some D → ∃ fd, D.dd.At K fd) (ok : AllOk T ds) (hi : ∀ p ∈ T.xi, ∃ fd, p.2.At K fd) (okx : AllXi T.xi) (xin : ∀ p ∈ T.xi, T.xs.contains p.1 = true) :
    ∀ n, Lib (clT T w K) (Gn gv ds n) T (2 * n + 1) P w K mg base := by
  obtain ⟨tb, t8⟩ := bt tb
  obtain ⟨tb, t7⟩ := bt tb
  obtain ⟨tb, t6⟩ := bt tb
  obtain ⟨tb, t5⟩ := bt tb
  obtain ⟨tb, t4⟩ := bt tb
  obtain ⟨tb, t3⟩ := bt tb
  obtain ⟨tb, t2⟩ := bt tb
  obtain ⟨t0, t1⟩ := bt tb
  have t0 : T.gl.length = gv.length := by simpa using t0
  have t8 : T.fn.length = ds.length := by simpa using t8
  have hcls : ∀ c, (T.mks.map (·.1)).contains c = true → Cls K (He.ga K (cn T c)) := fun c h => by
    obtain ⟨p, hp, e⟩ := List.mem_map.mp (contains_mem h)
    refine He.cls_ok (x := cn T c) (fact_of ex ?_)
    unfold facts
    simp only [List.mem_append]
    exact .inr (.inr (.inr (.inr (.inl (List.mem_map.mpr ⟨p, hp, by rw [e]⟩)))))
  have build : ∀ n, (∀ (i : Nat) (D : DI), ds[i]? = some D → ∃ fd, D.dd.At K fd ∧ FnG P w K mg base (2 * n + 1) (D.dd.loc.adr K) fd D.ps (spOf (clT T w K) K ((Gn gv ds n).fn i))) → Lib (clT T w K) (Gn gv ds n) T (2 * n + 1) P w K mg base := by
    intro n hF
    have bind : ∀ {i : Nat} {D : DI} {fd : FuncData}, ds[i]? = some D → D.dd.At K fd → Binds K fd D.ps [] := fun e F => FunD.bindsN F (ok.get e).bd
    have dsAt : ∀ {i : Nat} {d : Dd}, (ds.map DI.dd)[i]? = some d → ∃ D, ds[i]? = some D ∧ D.dd = d := fun {i d} e => by
      rw [List.getElem?_map] at e
      cases q : ds[i]? with
      | none => rw [q] at e; cases e
      | some D => rw [q] at e; exact ⟨D, rfl, Option.some.inj e⟩
    refine ⟨fun i x e => ?_, rfl, fun x hx => ?_, fun i x e => ?_, fun c x e => ?_, fun c m i h => ?_, fun c m i h => ?_, fun c i h => ?_, fun c f h => ?_, fun c => rfl, fun c h => xc_of KX NS ex h, fun c h => ?_, sys_of ex, fun c h => ?_⟩
    · have lt : i < T.fn.length := (List.getElem?_eq_some_iff.mp e).1
      have q := List.all_eq_true.mp t4 i (List.mem_range.mpr lt)
      rw [e] at q
      cases z : (ds.map DI.dd)[i]? with
      | none =>
        have := List.getElem?_eq_none_iff.mp z
        rw [List.length_map] at this
        omega
      | some d =>
        rw [z] at q
        obtain ⟨D, eD, rfl⟩ := dsAt z
        have q : (match D.dd.loc with | .fn y => x == y | _ => false) = true := q
        cases l : D.dd.loc with
        | fn y =>
          rw [l] at q
          have : x = y := by simpa using q
          subst this
          obtain ⟨fd, F, G⟩ := hF i D eD
          have ea : D.dd.loc.adr K = He.ga K x := by rw [l]; rfl
          rw [ea] at G
          refine ⟨_, fd, D.ps, He.glo_ok KX NS (fact_of ex ?_), ?_, bind eD F, G⟩
          · unfold facts
            simp only [List.mem_append]
            exact .inl (List.mem_map.mpr ⟨x, List.mem_filterMap.mpr ⟨some x, List.mem_of_getElem? e, rfl⟩, rfl⟩)
          · rw [← ea]
            exact F.kp
        | me _ _ => rw [l] at q; cases q
        | pr _ _ => rw [l] at q; cases q
    · refine He.free_ok KX NS (fact_of ex ?_)
      unfold facts
      simp only [List.mem_append]
      exact .inr (.inl (List.mem_map.mpr ⟨x, hx, rfl⟩))
    · have lt : i < T.gl.length := (List.getElem?_eq_some_iff.mp e).1
      obtain ⟨t, q⟩ := He.int_ok KX NS (x := x) (i := gv.getD i 0) (fact_of ex (by
        unfold facts
        simp only [List.mem_append]
        refine .inr (.inr (.inl (List.mem_map.mpr ⟨(x, gv.getD i 0), ?_, rfl⟩)))
        refine List.mem_of_getElem? (i := i) ?_
        rw [List.getElem?_zip_eq_some]
        exact ⟨e, by rw [List.getD_eq_getElem?_getD, List.getElem?_eq_getElem (by omega)]; rfl⟩))
      exact ⟨_, .int (gv.getD i 0), q, ⟨t, rfl⟩, fun ι H => by rw [Gn_gl]; rfl⟩
    · refine (He.glo_ok KX NS (x := x) (fact_of ex ?_)).trans ?_
      · unfold facts
        simp only [List.mem_append]
        exact .inr (.inr (.inr (.inl (List.mem_map.mpr ⟨x, List.mem_of_getElem? e, rfl⟩))))
      · show some (Value.ref (He.ga K x)) = some (Value.ref (He.ga K (T.cls.getD c Str.empty)))
        rw [List.getD_eq_getElem?_getD, e]
        rfl
    · have hm := contains_mem h
      have q := List.all_eq_true.mp t5 _ hm
      have hc := hcls c (List.all_eq_true.mp t1 _ hm)
      dsimp only at q
      cases z : (ds.map DI.dd)[i]? with
      | none => rw [z] at q; cases q
      | some d =>
        rw [z] at q
        obtain ⟨D, eD, rfl⟩ := dsAt z
        dsimp only at q
        cases l : D.dd.loc with
        | me c' m' =>
          rw [l] at q
          obtain ⟨q1, q2⟩ := bt q
          have q1 : c' = cn T c := by simpa using q1
          have q2 : m' = m := by simpa using q2
          subst q1 q2
          obtain ⟨fd, F, G⟩ := hF i D eD
          rw [l] at G
          refine ⟨_, fd, D.ps, hc, He.meth_ok (x := cn T c) (m := m') (fact_of ex ?_), bind eD F, G⟩
          unfold facts
          simp only [List.mem_append]
          exact .inr (.inr (.inr (.inr (.inr (.inr (.inl (List.mem_map.mpr ⟨_, hm, rfl⟩)))))))
        | fn _ => rw [l] at q; cases q
        | pr _ _ => rw [l] at q; cases q
    · have hm := contains_mem h
      have q := List.all_eq_true.mp t6 _ hm
      have hc := hcls c (List.all_eq_true.mp t2 _ hm)
      dsimp only at q
      cases z : (ds.map DI.dd)[i]? with
      | none => rw [z] at q; cases q
      | some d =>
        rw [z] at q
        obtain ⟨D, eD, rfl⟩ := dsAt z
        dsimp only at q
        cases l : D.dd.loc with
        | pr c' m' =>
          rw [l] at q
          obtain ⟨q1, q2⟩ := bt q
          have q1 : c' = cn T c := by simpa using q1
          have q2 : m' = m := by simpa using q2
          subst q1 q2
          obtain ⟨fd, F, G⟩ := hF i D eD
          rw [l] at G
          exact ⟨_, _, fd, D.ps, hc, prB_ok (List.all_eq_true.mp (bt (bt (bt ex).2).2).1 _ hm), bind eD F, G⟩
        | fn _ => rw [l] at q; cases q
        | me _ _ => rw [l] at q; cases q
    · have hm := contains_mem h
      have q := List.all_eq_true.mp t7 _ hm
      dsimp only at q
      cases z : (ds.map DI.dd)[i]? with
      | none => rw [z] at q; cases q
      | some d =>
        rw [z] at q
        obtain ⟨D, eD, rfl⟩ := dsAt z
        dsimp only at q
        cases l : D.dd.loc with
        | me c' m' =>
          rw [l] at q
          obtain ⟨q1, q2⟩ := bt q
          have q1 : c' = cn T c := by simpa using q1
          have q2 : m' = "__init__" := by simpa using q2
          subst q1 q2
          obtain ⟨fd, F, G⟩ := hF i D eD
          rw [l] at G
          refine ⟨_, fd, D.ps, He.mkr_ok (x := cn T c) (fact_of ex ?_), bind eD F, G⟩
          unfold facts
          simp only [List.mem_append]
          exact .inr (.inr (.inr (.inr (.inr (.inl (List.mem_map.mpr ⟨_, hm, rfl⟩))))))
        | fn _ => rw [l] at q; cases q
        | pr _ _ => rw [l] at q; cases q
    · have hm := contains_mem h
      refine ⟨hcls c (List.all_eq_true.mp t3 _ hm), He.noat_ok (x := cn T c) (f := f) (fact_of ex ?_)⟩
      unfold facts
      simp only [List.mem_append]
      exact .inr (.inr (.inr (.inr (.inr (.inr (.inr (.inl (List.mem_map.mpr ⟨_, hm, rfl⟩))))))))
    · obtain ⟨p, hp, rfl⟩ := List.mem_map.mp (contains_mem h)
      obtain ⟨fd, F⟩ := hi p hp
      have x := okx.get hp
      have C := xc_of (w := w) KX NS ex (xin p hp)
      obtain ⟨O, _, _, no⟩ := C.hi x.nf
      obtain ⟨ps, hb, Fn⟩ := xi_fn (P := P) (w := w) (mg := mg) (base := base) F x O no
      rw [x.loc] at Fn
      exact ⟨x.nf, fd, ps, hb, Fn⟩
    · have hm := contains_mem h
      have q := List.all_eq_true.mp (bt (bt (bt (bt ex).2).2).2).1 _ hm
      unfold isB at q
      obtain ⟨q1, q⟩ := bt q
      obtain ⟨q2, q⟩ := bt q
      obtain ⟨q3, q⟩ := bt q
      obtain ⟨q4, q⟩ := bt q
      obtain ⟨q5, q⟩ := bt q
      obtain ⟨q6, q7⟩ := bt q
      refine ⟨⟨He.cls_ok (x := cn T c) (fact_of ex ?_), He.eqO_ok q1, He.eqO_ok q2, of_decide_eq_true q3, of_decide_eq_true q4, fun n hn => of_decide_eq_true (List.all_eq_true.mp q5 n hn), fun n hn => of_decide_eq_true (List.all_eq_true.mp q6 n hn)⟩, fun d hd => of_decide_eq_true (List.all_eq_true.mp q7 d (contains_mem hd))⟩
      unfold facts
      simp only [List.mem_append]
      exact .inr (.inr (.inr (.inr (.inr (.inr (.inr (.inr (List.mem_map.mpr ⟨_, hm, rfl⟩))))))))
  intro n
  induction n with
  | zero =>
    refine build 0 fun i D e => ?_
    obtain ⟨fd, F⟩ := hd i D e
    exact ⟨fd, F, fn_none⟩
  | succ n ih =>
    refine build (n + 1) fun i D e => ?_
    obtain ⟨fd, F⟩ := hd i D e
    refine ⟨fd, F, ?_⟩
    have e2 : (Gn gv ds (n + 1)).fn i = runDf (Gn gv ds n) D.df := by
      show (match ds[i]? with | some D => runDf (Gn gv ds n) D.df | none => fun _ => fail) = _
      rw [e]
    rw [e2]
    exact fn_any F (ok.get e) (by omega) ih
/-- a def, so deep -/
theorem fn_n (KX : K.In base) (NS : base.Ns mainGlobals mg) (ex : exT T gv K = true) (tb : tabB T gv (ds.map DI.dd) = true) (hd : ∀ (i : Nat) (D : DI), ds[i]? = some D → ∃ fd, D.dd.At K fd) (ok : AllOk T ds) (hi : ∀ p ∈ T.xi, ∃ fd, p.2.At K fd) (okx : AllXi T.xi) (xin : ∀ p ∈ T.xi, T.xs.contains p.1 = true) (n : Nat) {i : Nat} {D : DI} (e : ds[i]? = some D) {fd : FuncData} (F : D.dd.At K fd) :
    FnG P w K mg base (2 * n + 1 + 2) (D.dd.loc.adr K) fd D.ps (spOf (clT T w K) K (runDf (Gn gv ds n) D.df)) := fn_any F (ok.get e) (by omega) (lib_n KX NS ex tb hd ok hi okx xin n)
end
/-- the script at the entry -/
theorem sp_law {cl : Cl} {K : PySem.W.Frag} {F : List W → M W} {H : Hp} {a : Addr} {ns : List Int} {S' : Sto} (hO : Only H) (hS : SqL K H a (ns.map V.int)) (h : F [.loc 0] [.frz (ns.map W.int)] = .ok (.bl true) S') :
    spOf cl K F [.ref a] H (fun v _ => v = .bl true) fun _ _ _ => False := by
  have wi : ∀ (ι : List Addr) (H : Hp), WRs K ι H (ns.map W.int) (ns.map V.int) := fun ι H => by
    clear hS h
    induction ns with
    | nil => exact .nil
    | cons n r ih => exact .cons rfl ih
  have ro : (∃ o vs, H a = some (.frz o (.lst vs)) ∧ WRs K [a] H (ns.map W.int) vs) ∨ FK K [a] [.frz (ns.map W.int)] 0 := by
    rcases hS with (q | ⟨o, q⟩) | ⟨o, its, n, e⟩
    · rcases hO a with z | ⟨o, xs, z⟩
      · rw [z] at q; cases q
      · rw [z] at q; cases q
    · exact .inl ⟨o, _, q, wi _ _⟩
    · exact .inr ⟨a, _, _, rfl, rfl, ⟨o, its, n, e⟩, wi⟩
  refine ⟨[a], [.frz (ns.map W.int)], [.loc 0], ⟨rfl, fun n b o e1 e2 => ?_, fun n m b e1 e2 ne => ?_, fun n xs e => ?_⟩, .cons ⟨a, rfl, rfl⟩ .nil, ?_⟩
  · match n, e1, e2 with
    | 0, e1, e2 =>
      cases e1
      cases e2
      rcases ro with q | ⟨b, vs, xs, e3, e4, kl, wr⟩
      · exact .inl q
      · cases e3
        cases e4
        exact .inr ⟨vs, kl, wr _ _⟩
  · match n, m, e1, e2 with
    | 0, 0, _, _ => exact absurd rfl ne
  · match n, e with
    | 0, e =>
      cases e
      rcases ro with ⟨o, vs, q1, q2⟩ | q
      · exact .inr ⟨a, o, vs, rfl, q1, q2⟩
      · exact .inl q
  · rw [h]
    exact fun ι' H' _ v hv => hv
/-- the law's def is called: the script is known, nothing else is -/
theorem enter_fb {P : Program} {w : World} {K : PySem.W.Frag} {mg mb : Str → Option Value} {k : Nat} {fa a : Addr} {fd : FuncData} {x : Str} {sp : Sp} {s : Shared} {vs : List Value} {ns : List Int}
    (KX : K.In s.heap) (g : s.heap.Ns mainGlobals mg) (b : s.heap.Ns builtinsNs mb) (bb : ∀ x : Str, x ≠ "__name__" → mb x = bootBuiltins x) (nl : s.heap.NoLimit) (ng : s.gens = #[]) (ha : s.heap.get? a = some { cls := .type "list", data := .seq vs.toArray }) (hi : IntsAre vs ns)
    (hz : ns.length ≤ sizeLine) (hr : Room k callerA) (F : ∀ base : Heap, K.In base → base.Ns mainGlobals mg → FnG P w K mg base k fa fd [x] sp) (bd : ∀ (s : Shared) (u : Value), BindsTo s fd ⟨[u], []⟩ [(x, u)])
    (hsp : ∀ H : Hp, Only H → SqL K H a (ns.map V.int) → sp [.ref a] H (fun v _ => v = .bl true) E0) :
    codeAny (model P w) callerA (.call (.ref fa) ⟨[.ref a], []⟩) (fun r s' => r = .ok (.ret (.bool true)) ∧ OldK s.heap s'.heap ∧ s'.os = s.os ∧ AllBare s'.gens) s := by
  have rv := vals_ints hi
  -- what stands there: nothing, or the script
  obtain ⟨H, only, sq, hok, at_a, kn⟩ : ∃ H : Hp, Only H ∧ SqL K H a (ns.map V.int) ∧ HOk P w H s.heap ∧ (∀ c, H c ≠ none → c = a) ∧ (H a ≠ none → K.lookup a = none) := by
    cases hk : K.lookup a with
    | some o =>
      have e := KX a o hk
      rw [ha] at e
      cases e
      refine ⟨fun _ => none, fun _ => .inl rfl, .inr ⟨_, vs.toArray, _, hk, rfl, rfl, rfl, ?_, by simpa using rv⟩, fun c u z => ?_, fun c z => absurd rfl z, fun z => absurd rfl z⟩
      · rw [List.size_toArray, hi.length]
        exact hz
      · cases (show (none : Option HO) = some u from z)
    | none =>
      let o : Obj := { cls := .type "list", data := .seq vs.toArray }
      refine ⟨upd (fun _ => none) a (.frz o (.lst (ns.map V.int))), fun c => ?_, .inl (.inr ⟨o, upd_same⟩), fun c u z => ?_, fun c z => ?_, fun _ => rfl⟩
      · by_cases e : c = a
        · subst e
          exact .inr ⟨_, _, upd_same⟩
        · exact .inl (upd_ne e)
      · by_cases e : c = a
        · subst e
          rw [upd_same] at z
          cases z
          exact ⟨ha, by rw [List.length_map]; exact hz, vs, _, rv, ha⟩
        · rw [upd_ne e] at z
          cases z
      · by_cases e : c = a
        · exact e
        · rw [upd_ne e] at z
          exact absurd rfl z
  -- the base: all but the script
  have low : ∀ {c : Addr} {o : Obj}, s.heap.get? c = some o → H c = none → (hidT s.heap H).get? c = some o := fun e n => hidT_get e n
  have dic : ∀ {c : Addr} {o : Obj} {es : Array DictEntry} {ep : Nat}, s.heap.get? c = some o → o.data = .dict es ep → H c = none := fun {c o es ep} e d => by
    by_cases z : H c = none
    · exact z
    · have ec := at_a c z
      subst ec
      rw [ha] at e
      cases e
      cases (show Data.seq vs.toArray _ = Data.dict es ep from d)
  have ns' : ∀ {c : Addr} {m : Str → Option Value}, s.heap.Ns c m → (hidT s.heap H).Ns c m := fun ⟨o, es, ep, e, d, r⟩ => ⟨o, es, ep, low e (dic e d), d, r⟩
  have KB : K.In (hidT s.heap H) := fun c o e => low (KX c o e) (by
    by_cases z : H c = none
    · exact z
    · have ec := at_a c z
      subst ec
      rw [kn z] at e
      cases e)
  obtain ⟨mc, l1, l2⟩ := nl
  have md : Mod K mg (hidT s.heap H) := ⟨KB, ns' g, ⟨mb, ns' b, bb⟩, ⟨mc, ns' l1, l2⟩⟩
  have e0 : Env0 P w K mg (hidT s.heap H) callerA [] s H := ⟨rfl, md, fun c o e => of_hidT e, Nat.le_of_eq (hidT_size _ _), trivial, (fun c z => absurd (show c ∈ ([] : List Addr) from z) List.not_mem_nil), hok, .of_eq ng⟩
  refine codeAny_mono ((F _ KB (ns' g)).go callerA [] s H [.ref a] [.ref a] _ E0 rfl hr e0 (bd s (.ref a)) (.cons rfl .nil) (hsp H only sq)) fun r s' h => ?_
  match r, h with
  | .error e, z =>
    obtain ⟨_, _, _, _, _, _, _, _, _, _, _, _, z⟩ := z
    exact False.elim z
  | .ok (.ret u), ⟨v, H', os, bare, un, hok', r', q⟩ =>
    cases (show v = .bl true from q)
    cases (show u = Value.bool true from r')
    refine ⟨rfl, OldK.of_keep fun c o e => ?_, os, bare⟩
    cases z : H c with
    | none => exact un.keep c o e z (fun y => absurd (show c ∈ ([] : List Addr) from y) List.not_mem_nil) (fun y => nomatch y)
    | some u =>
      rcases only c with y | ⟨oc, xs, y⟩
      · rw [z] at y
        cases y
      · obtain ⟨e1, _⟩ := hok c _ y
        obtain ⟨e2, _⟩ := hok' c _ (un.frzs c oc _ y)
        rw [e] at e1
        cases e1
        exact e2
/-- THE END of a law: what the evaluator says of its def -/
theorem walk_fb {l : PySem.W.OpenLaw} {m : Nat} {q : Program} {loose : List Str} {XP : (Str → Option Value) → Heap → Prop} {d : DefRec} {T : Tab} {gv : List Int} {ds : List DI} {dep n : Nat} {i : Nat} {D : DI} {x : Str}
    (hn : l.most = some m) (hn2 : m ≤ sizeLine) (hdf : d.params.defaults = []) (hname : d.name = x) (hr : Room (2 * n + 1 + 2) callerA)
    (tb : tabB T gv (ds.map DI.dd) = true) (ok : AllOk T ds) (okx : AllXi T.xi) (xin : ∀ p ∈ T.xi, T.xs.contains p.1 = true) (e : ds[i]? = some D) (hl : D.dd.loc = .fn x) (hps : D.ps.length = 1) (hfx : (T.fn.filterMap id).contains x = true)
    (hlaw : ∀ ns : List Int, ns.length ≤ m → (∀ z ∈ ns, Builtin.Int.intBits z ≤ 1048576) → ∃ S', runDf (Gn gv ds n) D.df [.loc 0] [.frz (ns.map W.int)] = .ok (.bl true) S') :
    PySem.W.WalkO q loose XP (hk dep (ds.map DI.dd ++ T.xi.map (·.2)) (exT T gv)).says l.row.toRowW d [] (fun f vs => PySem.call f vs) := by
  refine Att.attach_callB hn hdf fun w s₀ s₁ mg mb fa o pm cd doc a vs ns G Y ho hd hcd hmg hobj hints hlen hbits hg => ?_
  obtain ⟨K, KX, c⟩ := Y
  have ex := hk_ex c
  have hds : ∀ (i : Nat) (D : DI), ds[i]? = some D → ∃ fd, D.dd.At K fd := fun i D e => hk_def c (i := i) (by rw [List.getElem?_append_left (by rw [List.length_map]; exact (List.getElem?_eq_some_iff.mp e).1), List.getElem?_map, e]; rfl)
  have hxi : ∀ p ∈ T.xi, ∃ fd, p.2.At K fd := fun p hp => by
    obtain ⟨j, hj⟩ := List.getElem?_of_mem hp
    refine hk_def c (i := (ds.map DI.dd).length + j) ?_
    rw [List.getElem?_append_right (Nat.le_add_right _ _), Nat.add_sub_cancel_left, List.getElem?_map, hj]
    rfl
  obtain ⟨fd, F⟩ := hds i D e
  obtain ⟨y, hy⟩ : ∃ y, D.ps = [y] := by
    match D.ps, hps with
    | [y], _ => exact ⟨y, rfl⟩
  have hga := He.glo_ok KX G.T.g (x := x) (fact_of ex (by
    unfold facts
    simp only [List.mem_append]
    exact .inl (List.mem_map.mpr ⟨x, contains_mem hfx, rfl⟩)))
  rw [hname, hga] at hmg
  have hfa : D.dd.loc.adr K = fa := by
    rw [hl]
    show He.ga K x = fa
    cases hmg
    rfl
  have bA := FunD.bindsA (ps := D.ps) F (ok.get e).bd
  obtain ⟨S', hS'⟩ := hlaw ns hlen hbits
  refine enter_fb (x := y) (sp := spOf (clT T w K) K (runDf (Gn gv ds n) D.df)) KX G.T.g G.T.b G.T.builtins G.T.nolimit hg hobj hints (Nat.le_trans hlen hn2) hr (fd := fd) (fun base KB NB => ?_) (fun s u => ?_) fun H hO hS => sp_law hO hS hS'
  · have := fn_n (P := l.prog) (w := w) (mg := mg) KB NB ex tb hds ok hxi okx xin n e F
    rw [hfa, hy] at this
    exact this
  · have := bA s [u] (by rw [hy]; rfl)
    rw [hy] at this
    exact this
end Fb
set_option Elab.async false
set_option linter.all false
set_option maxRecDepth 100000
set_option maxHeartbeats 0
/-! The defs of this law as trees of ours. Written by gen.py. -/
namespace Fb
open PySem PySem.Spec PyProof.Rows L2
def b__law_bag : Df := ⟨1, 1, (.cons (.ret (.lst (.cons (.blt .max (.cons (.int 0) (.cons (.bin .sub (.var 0) (.bin .pow (.int 10) (.int 18))) .nil))) (.cons (.var 0) (.cons (.int 0) .nil)))))
    .nil)⟩
def D__law_bag : DI := ⟨dd__law_bag, ["_law_cell"], ["_law_cell"], b__law_bag⟩
def b__law_pick : Df := ⟨2, 8, (.cons (.asg (.sub (.var 0) (.int 2)) (.bin .add (.ix (.var 0) (.int 2)) (.int 1)))
    (.cons (.ifs (.of (.cmp .gt (.ix (.var 0) (.int 0)) (.int 0))) (.cons (.asg (.var 5) (.bin .mod (.blt .int (.cons (.ix (.var 0) (.int 0)) .nil)) (.var 1)))
    (.cons (.asg (.sub (.var 0) (.int 0)) (.bin .fdiv (.blt .int (.cons (.ix (.var 0) (.int 0)) .nil)) (.var 1)))
    (.cons (.ret (.var 5))
    .nil))) .nil)
    (.cons (.asg (.tup (.cons (.var 6) (.cons (.var 7) .nil))) (.tup (.cons (.blt .int (.cons (.ix (.var 0) (.int 1)) .nil)) (.cons (.blt .int (.cons (.ix (.var 0) (.int 2)) .nil)) .nil))))
    (.cons (.asg (.var 2) (.bin .mod (.blt .int (.cons (.bin .add (.bin .add (.bin .mul (.bin .mod (.var 6) (.int 2147483629)) (.int 48271)) (.bin .mul (.var 7) (.int 69621))) (.int 12345)) .nil)) (.int 2147483647)))
    (.cons (.asg (.var 3) (.bin .mod (.blt .int (.cons (.bin .add (.bin .mul (.var 2) (.var 2)) (.bin .mul (.var 7) (.int 40692))) .nil)) (.int 2147483587)))
    (.cons (.asg (.var 4) (.bin .fdiv (.blt .int (.cons (.bin .add (.bin .mul (.var 2) (.int 2147483587)) (.var 3)) .nil)) (.int 32)))
    (.cons (.ifs (.of (.cmp .gt (.var 1) (.bin .pow (.int 10) (.int 15)))) (.cons (.asg (.var 4) (.bin .add (.bin .pow (.var 4) (.int 8)) (.var 3)))
    .nil) .nil)
    (.cons (.ret (.bin .mod (.blt .int (.cons (.var 4) .nil)) (.var 1)))
    .nil))))))))⟩
def D__law_pick : DI := ⟨dd__law_pick, ["_law_bag_here", "_law_many", "_law_first", "_law_second", "_law_drawn", "_law_told", "_law_seed", "_law_turn"], ["_law_bag_here", "_law_many"], b__law_pick⟩
def b__law_made : Df := ⟨1, 2, (.cons (.asg (.var 1) (.lst (.cons (.mkx1 1 (.var 0)) (.cons (.mkx1 2 (.var 0)) (.cons (.mkx1 3 (.var 0)) (.cons (.mkx1 4 (.var 0)) (.cons (.mkx1 5 (.var 0)) .nil)))))))
    (.cons (.asg (.var 1) (.bin .add (.var 1) (.lst (.cons (.mkx0 6) (.cons (.mkx0 7) (.cons (.mkx0 8) (.cons (.mkx0 9) (.cons (.mkx0 10) .nil))))))))
    (.cons (.asg (.var 1) (.bin .add (.var 1) (.lst (.cons (.mkx0 11) (.cons (.mkx0 12) (.cons (.mkx0 13) (.cons (.mkx0 14) (.cons (.mkx0 15) .nil))))))))
    (.cons (.ret (.bin .add (.var 1) (.lst (.cons (.mkx0 16) (.cons (.mkx0 17) .nil)))))
    .nil))))⟩
def D__law_made : DI := ⟨dd__law_made, ["_law_number", "_law_found"], ["_law_number"], b__law_made⟩
def b__law_classes : Df := ⟨1, 2, (.cons (.asg (.var 1) (.lst (.cons (.isx (.var 0) (some 1)) (.cons (.isx (.var 0) (some 2)) (.cons (.isx (.var 0) (some 3)) .nil)))))
    (.cons (.asg (.var 1) (.bin .add (.var 1) (.lst (.cons (.isx (.var 0) (some 4)) (.cons (.isx (.var 0) (some 5)) (.cons (.isx (.var 0) (some 6)) .nil))))))
    (.cons (.asg (.var 1) (.bin .add (.var 1) (.lst (.cons (.isx (.var 0) (some 7)) (.cons (.isx (.var 0) (some 8)) (.cons (.isx (.var 0) (some 9)) .nil))))))
    (.cons (.asg (.var 1) (.bin .add (.var 1) (.lst (.cons (.isx (.var 0) (some 10)) (.cons (.isx (.var 0) (some 11)) (.cons (.isx (.var 0) (some 12)) .nil))))))
    (.cons (.asg (.var 1) (.bin .add (.var 1) (.lst (.cons (.isx (.var 0) (some 13)) (.cons (.isx (.var 0) (some 14)) (.cons (.isx (.var 0) (some 15)) .nil))))))
    (.cons (.ret (.bin .add (.var 1) (.lst (.cons (.isx (.var 0) (some 16)) (.cons (.isx (.var 0) (some 17)) .nil)))))
    .nil))))))⟩
def D__law_classes : DI := ⟨dd__law_classes, ["_law_one", "_law_found"], ["_law_one"], b__law_classes⟩
def b_law : Df := ⟨1, 10, (.cons (.asg (.var 1) (.call f__law_bag (.cons (.ix (.bin .add (.var 0) (.lst (.cons (.int 0) .nil))) (.int 0)) .nil)))
    (.cons (.fr (.var 2) (.rng1 (.int 4)) (.cons (.asg (.var 5) (.call f__law_pick (.cons (.var 1) (.cons (.ix (.lst (.cons (.int 9) (.cons (.bin .pow (.int 10) (.int 60)) .nil))) (.bin .mod (.var 2) (.int 2))) .nil))))
    (.cons (.asg (.var 6) (.call f__law_made (.cons (.var 5) .nil)))
    (.cons (.fr (.tup (.cons (.var 7) (.cons (.var 8) .nil))) (.enum (.var 6)) (.cons (.ifs (.or (.not (.of (.isx (.var 8) (some 0)))) (.not (.of (.isx (.var 8) none)))) (.cons (.ret (.bl false))
    .nil) .nil)
    (.cons (.ifs (.of (.cmp .ne (.call f__law_classes (.cons (.var 8) .nil)) (.comp (.cmp .eq (.var 9) (.var 7)) (.var 9) (.rng1 (.blt .len (.cons (.var 6) .nil))) .none [9]))) (.cons (.ret (.bl false))
    .nil) .nil)
    .nil)))
    (.cons (.ifs (.of (.cmp .ne (.lst (.cons (.xfl (.ix (.var 6) (.int 0)) "item") (.cons (.xfl (.ix (.var 6) (.int 1)) "item") (.cons (.xfl (.ix (.var 6) (.int 2)) "part") (.cons (.xfl (.ix (.var 6) (.int 3)) "limit") (.cons (.xfl (.ix (.var 6) (.int 4)) "count") .nil)))))) (.bin .mul (.lst (.cons (.var 5) .nil)) (.int 5)))) (.cons (.ret (.bl false))
    .nil) .nil)
    .nil)))))
    (.cons (.asg (.var 3) (.mkx0 0))
    (.cons (.asg (.var 4) (.lst (.cons (.xfl (.mkx1 1 .non) "item") (.cons (.xfl (.mkx1 2 .non) "item") (.cons (.xfl (.mkx1 3 .non) "part") .nil)))))
    (.cons (.ret (.and (.cmp .eq (.var 4) (.bin .mul (.lst (.cons .non .nil)) (.int 3))) (.and (.cmp .notin (.bl true) (.call f__law_classes (.cons (.var 3) .nil))) (.isx (.var 3) none))))
    .nil)))))⟩
def D_law : DI := ⟨dd_law, ["_law_script", "_law_bag_here", "_law_turn", "_law_base", "_law_some", "_law_number", "_law_made_here", "_law_k", "_law_one", "_law_j"], ["_law_script"], b_law⟩
def ds : List DI := [D__law_bag, D__law_pick, D__law_made, D__law_classes, D_law]
theorem ok__law_bag : DOk T D__law_bag := ⟨by decide +kernel, ⟨rfl, rfl, rfl, by decide +kernel, rfl, by decide +kernel, by decide +kernel⟩, rfl, rfl, fun _ _ _ _ _ _ us hl => match us, hl with | [_], _ => rfl⟩
theorem ok__law_pick : DOk T D__law_pick := ⟨by decide +kernel, ⟨rfl, rfl, rfl, by decide +kernel, rfl, by decide +kernel, by decide +kernel⟩, rfl, rfl, fun _ _ _ _ _ _ us hl => match us, hl with | [_, _], _ => rfl⟩
theorem ok__law_made : DOk T D__law_made := ⟨by decide +kernel, ⟨rfl, rfl, rfl, by decide +kernel, rfl, by decide +kernel, by decide +kernel⟩, rfl, rfl, fun _ _ _ _ _ _ us hl => match us, hl with | [_], _ => rfl⟩
theorem ok__law_classes : DOk T D__law_classes := ⟨by decide +kernel, ⟨rfl, rfl, rfl, by decide +kernel, rfl, by decide +kernel, by decide +kernel⟩, rfl, rfl, fun _ _ _ _ _ _ us hl => match us, hl with | [_], _ => rfl⟩
theorem ok_law : DOk T D_law := ⟨by decide +kernel, ⟨rfl, rfl, rfl, by decide +kernel, rfl, by decide +kernel, by decide +kernel⟩, rfl, rfl, fun _ _ _ _ _ _ us hl => match us, hl with | [_], _ => rfl⟩
theorem at__law_bag : ds[f__law_bag]? = some D__law_bag := rfl
theorem at__law_pick : ds[f__law_pick]? = some D__law_pick := rfl
theorem at__law_made : ds[f__law_made]? = some D__law_made := rfl
theorem at__law_classes : ds[f__law_classes]? = some D__law_classes := rfl
theorem at_law : ds[f_law]? = some D_law := rfl
theorem dds_eq : ds.map DI.dd = dds := rfl
theorem xi_1 : XIok 1 ddx_1 := ⟨by decide +kernel, rfl, ⟨"item", _, _, _, _, rfl, by decide +kernel, ⟨rfl, rfl, rfl, by decide +kernel, rfl, by decide +kernel, by decide +kernel⟩, fun _ _ _ _ _ _ us hl => match us, hl with | [_, _], _ => rfl⟩⟩
theorem xi_2 : XIok 2 ddx_2 := ⟨by decide +kernel, rfl, ⟨"item", _, _, _, _, rfl, by decide +kernel, ⟨rfl, rfl, rfl, by decide +kernel, rfl, by decide +kernel, by decide +kernel⟩, fun _ _ _ _ _ _ us hl => match us, hl with | [_, _], _ => rfl⟩⟩
theorem xi_3 : XIok 3 ddx_3 := ⟨by decide +kernel, rfl, ⟨"part", _, _, _, _, rfl, by decide +kernel, ⟨rfl, rfl, rfl, by decide +kernel, rfl, by decide +kernel, by decide +kernel⟩, fun _ _ _ _ _ _ us hl => match us, hl with | [_, _], _ => rfl⟩⟩
theorem xi_4 : XIok 4 ddx_4 := ⟨by decide +kernel, rfl, ⟨"limit", _, _, _, _, rfl, by decide +kernel, ⟨rfl, rfl, rfl, by decide +kernel, rfl, by decide +kernel, by decide +kernel⟩, fun _ _ _ _ _ _ us hl => match us, hl with | [_, _], _ => rfl⟩⟩
theorem xi_5 : XIok 5 ddx_5 := ⟨by decide +kernel, rfl, ⟨"count", _, _, _, _, rfl, by decide +kernel, ⟨rfl, rfl, rfl, by decide +kernel, rfl, by decide +kernel, by decide +kernel⟩, fun _ _ _ _ _ _ us hl => match us, hl with | [_, _], _ => rfl⟩⟩
theorem xi_all : AllXi T.xi := ⟨xi_1, xi_2, xi_3, xi_4, xi_5, trivial⟩
theorem xi_in : ∀ p ∈ T.xi, T.xs.contains p.1 = true := by decide +kernel
theorem ok_all : AllOk T ds := ⟨ok__law_bag, ok__law_pick, ok__law_made, ok__law_classes, ok_law, trivial⟩
theorem tab_ok : tabB T gv (ds.map DI.dd) = true := by decide +kernel
end Fb
set_option Elab.async false
set_option linter.all false
set_option maxRecDepth 100000
set_option maxHeartbeats 0
namespace Fb
open PySem PySem.Spec PyProof.Rows L2
theorem map3 {α β γ δ : Type} {o : Option α} {f : α → β} {g : α → γ} {h : α → δ} {a : β} {b : γ} {c : δ} (e1 : o.map f = some a) (e2 : o.map g = some b) (e3 : o.map h = some c) : o.map (fun s => (f s, g s, h s)) = some (a, b, c) := by
  cases o with
  | none => cases e1
  | some s =>
    injection e1 with e1
    injection e2 with e2
    injection e3 with e3
    show some (f s, g s, h s) = _
    rw [e1, e2, e3]
theorem run (w : World) : HandSHeadRun.RunEq Rw (PySem.W.view Rw.prog [iLaw]) hkL ob 12000 looseN w := fun os => map3 (run1 w os) (run2 w os) (run3 w os)
/-- what is left: the law by the evaluator -/
def LawEv : Prop := ∃ n, n ≤ 100 ∧ ∀ ns : List Int, ns.length ≤ 63 → (∀ z ∈ ns, Builtin.Int.intBits z ≤ 1048576) → ∃ S', runDf (Gn gv ds n) D_law.df [.loc 0] [.frz (ns.map W.int)] = .ok (.bl true) S'
end Fb
section
open PySem PySem.W PySem.Calls PyProof.Rows
theorem holds_of (ev : Fb.LawEv) : Fb.LawRow.Holds := by
  w_on; o_law
  refine HandSHeadRun.head_any (r := OpenLaw.row Fb.LawRow) (q := view (OpenLaw.row Fb.LawRow).prog [Fb.iLaw]) (H := Fb.hkL) (ob := Fb.ob) (M := 12000) (loose := Fb.looseN) (d := HandSHeadRun.topDef (OpenLaw.row Fb.LawRow).prog Fb.iLaw) (kwd := []) Fb.hk_eq
    (by kernel_rfl) (fun s => by kernel_rfl) Fb.run (by kernel_rfl) (by kernel_rfl) (by kernel_rfl) (by rfl) (by first | assumption | decide +kernel) (by decide +kernel) ⟨rfl, rfl, rfl, rfl, rfl, by decide +kernel⟩ ?hw ?hc
  case hw => w_witness2
  case hc =>
    obtain ⟨n, hn, ev⟩ := ev
    delta Fb.hkL
    rw [← Fb.dds_eq]
    exact Fb.walk_fb (l := Fb.LawRow) (m := 63) (n := n) (D := Fb.D_law) (i := Fb.f_law) (x := "law") rfl (by decide) (by kernel_rfl) (by kernel_rfl) (L2.Room.mono ⟨rfl, by decide, by decide⟩ (show 2 * n + 1 + 2 ≤ 203 by omega)) Fb.tab_ok Fb.ok_all Fb.xi_all Fb.xi_in rfl rfl rfl (by decide) ev
end
set_option Elab.async false
set_option linter.all false
set_option maxRecDepth 100000
set_option maxHeartbeats 2000000
/-! Lite: reasoning about what the evaluator gives. -/
namespace Fb
open PySem L2

/-- a result, and what is true of it -/
def Wpd {α : Type} (r : Res α) (Φ : α → Sto → Prop) : Prop := match r with
  | .ok a S => Φ a S
  | .ex _ _ _ => False
  | .no => False
/-- the same, closed: nothing unfolds it by itself -/
inductive Wp {α : Type} (r : Res α) (Φ : α → Sto → Prop) : Prop
  | mk (h : Wpd r Φ) : Wp r Φ
theorem Wp.h {α : Type} {r : Res α} {Φ : α → Sto → Prop} (w : Wp r Φ) : Wpd r Φ := by
  cases w with
  | mk h => exact h
theorem wp_d {α : Type} {r : Res α} {Φ : α → Sto → Prop} : Wp r Φ = Wpd r Φ := propext ⟨Wp.h, Wp.mk⟩
section
variable {α β : Type} {S : Sto} {Φ : α → Sto → Prop}
theorem Wp.mono {r : Res α} {Ψ : α → Sto → Prop} (h : Wp r Φ) (i : ∀ a S, Φ a S → Ψ a S) : Wp r Ψ := by
  cases r with
  | ok a S => exact ⟨i a S h.h⟩
  | ex _ _ _ => exact h.h.elim
  | no => exact h.h.elim
theorem Wp.get {r : Res α} (h : Wp r Φ) : ∃ a S, r = .ok a S ∧ Φ a S := by
  cases r with
  | ok a S => exact ⟨a, S, rfl, h.h⟩
  | ex _ _ _ => exact h.h.elim
  | no => exact h.h.elim
theorem Wp.of {r : Res α} {a : α} {S : Sto} (e : r = .ok a S) (h : Φ a S) : Wp r Φ := by rw [e]; exact ⟨h⟩
theorem wp_ok {a : α} : Wp (.ok a S) Φ = Φ a S := wp_d
theorem wp_no : Wp (.no : Res α) Φ = False := wp_d
theorem wp_exc {c : Nat} {p : Option W} : Wp (.ex c p S : Res α) Φ = False := wp_d
theorem wp_bind {m : M α} {f : α → M β} {Φ : β → Sto → Prop} : Wp ((m >>= f) S) Φ = Wp (m S) fun a S1 => Wp (f a S1) Φ := by
  show Wp (M.bind m f S) Φ = _
  unfold M.bind
  cases m S with
  | ok a S1 => rw [wp_ok]
  | ex _ _ _ => rw [wp_exc, wp_exc]
  | no => rw [wp_no, wp_no]
theorem wp_pure {a : α} : Wp ((pure a : M α) S) Φ = Φ a S := wp_d
theorem wp_fail : Wp ((Fb.fail : M α) S) Φ = False := wp_d
theorem wp_ofO {o : Option α} : Wp (ofO o S) Φ = ∃ a, o = some a ∧ Φ a S := by
  cases o with
  | none => exact propext ⟨fun h => h.h.elim, fun ⟨_, e, _⟩ => nomatch e⟩
  | some a => exact propext ⟨fun h => ⟨a, rfl, h.h⟩, fun ⟨b, e, h⟩ => by cases e; exact ⟨h⟩⟩
theorem wp_ite {c : Prop} [Decidable c] {m n : M α} : Wp ((if c then m else n) S) Φ = if c then Wp (m S) Φ else Wp (n S) Φ := by split <;> rfl
theorem wp_new {o : Ob} {Φ : W → Sto → Prop} : Wp (new o S) Φ = Φ (.loc S.length) (S ++ [o]) := wp_d
theorem wp_setOb {n : Nat} {o : Ob} {Φ : Unit → Sto → Prop} : Wp (setOb n o S) Φ = Φ () (S.set n o) := wp_d
theorem wp_getM {n : Nat} {xs : List W} {Φ : List W → Sto → Prop} (e : S[n]? = some (.lst xs)) : Wp (getM n S) Φ = Φ xs S := by
  unfold getM
  rw [e]
  exact wp_d
theorem wp_getLM {n : Nat} {xs : List W} {Φ : List W → Sto → Prop} (e : getL S n = some xs) : Wp (getLM n S) Φ = Φ xs S := by
  unfold getLM
  rw [e]
  exact wp_d
theorem wp_getOb {n : Nat} {o : Ob} {Φ : Ob → Sto → Prop} (e : S[n]? = some o) : Wp (getOb n S) Φ = Φ o S := by
  unfold getOb
  rw [e]
  exact wp_d
theorem wp_guard {c : Prop} [Decidable c] {m : M α} : Wp ((if c then m else Fb.fail) S) Φ = (c ∧ Wp (m S) Φ) := by
  by_cases h : c
  · rw [if_pos h]; exact propext ⟨fun q => ⟨h, q⟩, fun q => q.2⟩
  · rw [if_neg h, wp_fail]; exact propext ⟨fun q => q.elim, fun q => h q.1⟩
theorem wp_guard1 {c : Prop} [Decidable c] {a : α} : Wp ((if c then (pure a : M α) else Fb.fail) S) Φ = (c ∧ Φ a S) := by rw [wp_guard, wp_pure]
theorem wp_srcLen {s : Src} {Φ : Nat → Sto → Prop} : Wp (srcLen s S) Φ = Φ (s.len S) S := wp_d
section
variable {i j : Int} {Φ : W → Sto → Prop}
theorem wp_add : Wp (binW .add (.int i) (.int j) S) Φ = Φ (.int (i + j)) S := wp_d
theorem wp_sub : Wp (binW .sub (.int i) (.int j) S) Φ = Φ (.int (i - j)) S := wp_d
theorem wp_mul : Wp (binW .mul (.int i) (.int j) S) Φ = (mulOk i j = true ∧ Φ (.int (i * j)) S) := wp_guard1
theorem wp_fdiv : Wp (binW .fdiv (.int i) (.int j) S) Φ = ((0 < j ∧ j.natAbs < big) ∧ Φ (.int (i / j)) S) := wp_guard1
theorem wp_mod : Wp (binW .mod (.int i) (.int j) S) Φ = (0 < j ∧ Φ (.int (i % j)) S) := wp_guard1
theorem wp_pow : Wp (binW .pow (.int i) (.int j) S) Φ = ((0 ≤ j ∧ ((j ≤ 1000 ∧ i.natAbs < 2 ^ 64) ∨ (j ≤ 8 ∧ i.natAbs < big))) ∧ Φ (.int (i ^ j.toNat)) S) := wp_guard1
theorem wp_shl : Wp (binW .shl (.int i) (.int j) S) Φ = ((0 ≤ j ∧ j ≤ 1000 ∧ i.natAbs < 2 ^ 64) ∧ Φ (.int (i * 2 ^ j.toNat)) S) := wp_guard1
theorem wp_shr : Wp (binW .shr (.int i) (.int j) S) Φ = (0 ≤ j ∧ Φ (.int (i / 2 ^ j.toNat)) S) := wp_guard1
theorem wp_band : Wp (binW .band (.int i) (.int j) S) Φ = Φ (.int (Builtin.bitAnd i j)) S := wp_d
theorem wp_bor : Wp (binW .bor (.int i) (.int j) S) Φ = Φ (.int (Builtin.bitOr i j)) S := wp_d
theorem wp_aug {op : BOp} : Wp (augW op (.int i) (.int j) S) Φ = Wp (binW op (.int i) (.int j) S) Φ := rfl
theorem wp_neg : Wp (unW .neg (.int i) S) Φ = Φ (.int (-i)) S := wp_d
theorem wp_inv : Wp (unW .inv (.int i) S) Φ = Φ (.int (Builtin.bitNot i)) S := wp_d
theorem wp_lt : Wp (cmpW .lt (.int i) (.int j) S) Φ = Φ (.bl (decide (i < j))) S := wp_d
theorem wp_le : Wp (cmpW .le (.int i) (.int j) S) Φ = Φ (.bl (decide (i ≤ j))) S := wp_d
theorem wp_gt : Wp (cmpW .gt (.int i) (.int j) S) Φ = Φ (.bl (decide (j < i))) S := wp_d
theorem wp_ge : Wp (cmpW .ge (.int i) (.int j) S) Φ = Φ (.bl (decide (j ≤ i))) S := wp_d
theorem wp_eq : Wp (cmpW .eq (.int i) (.int j) S) Φ = Φ (.bl (i == j)) S := wp_d
theorem wp_ne : Wp (cmpW .ne (.int i) (.int j) S) Φ = Φ (.bl (!(i == j))) S := wp_d
theorem wp_addT {xs ys : List W} : Wp (binW .add (.tup xs) (.tup ys) S) Φ = (xs.length + ys.length ≤ sizeLine ∧ Φ (.tup (xs ++ ys)) S) := wp_guard1
theorem wp_ixT {xs : List W} {k : Int} : Wp (ixW (.tup xs) (.int k) S) Φ = ∃ x, atI xs k = some x ∧ Φ x S := wp_ofO
theorem wp_slT {xs : List W} {lo hi : Option Int} : Wp (slW (.tup xs) lo hi S) Φ = Φ (.tup (cut xs lo hi)) S := wp_d
theorem wp_max : Wp (bltW .max [.int i, .int j] S) Φ = Φ (.int (if j > i then j else i)) S := wp_d
theorem wp_min : Wp (bltW .min [.int i, .int j] S) Φ = Φ (.int (if j < i then j else i)) S := wp_d
theorem wp_int : Wp (bltW .int [.int i] S) Φ = Φ (.int i) S := wp_d
theorem wp_dm : Wp (bltW .divmod [.int i, .int j] S) Φ = ((0 < j ∧ j.natAbs < big) ∧ Φ (.tup [.int (i / j), .int (i % j)]) S) := wp_guard1
theorem wp_lenT {xs : List W} : Wp (bltW .len [.tup xs] S) Φ = Φ (.int xs.length) S := wp_d
theorem wp_tr {b : Bool} {Φ : Bool → Sto → Prop} : Wp (truW (.bl b) S) Φ = Φ b S := wp_d
theorem wp_trI {Φ : Bool → Sto → Prop} : Wp (truW (.int i) S) Φ = Φ (i != 0) S := wp_d
end
/-! ### loops -/
/-- more fuel says the same -/
theorem whN_mono {c : En → M Bool} {b : En → M (Option W × En)} : ∀ (n : Nat) (env : En) (S : Sto), whN c b n env S ≠ .no → ∀ k, whN c b (n + k) env S = whN c b n env S
  | 0, env, S, h, k => absurd rfl h
  | n + 1, env, S, h, k => by
    rw [show n + 1 + k = (n + k) + 1 by omega]
    unfold whN at h ⊢
    unfold M.bind at h ⊢
    cases q : c env S with
    | no => rfl
    | ex _ _ _ => rfl
    | ok t S1 =>
      rw [q] at h
      dsimp only at h ⊢
      cases t with
      | false => rfl
      | true =>
        simp only [↓reduceIte] at h ⊢
        cases q2 : b env S1 with
        | no => rfl
        | ex _ _ _ => rfl
        | ok r S2 =>
          rw [q2] at h
          dsimp only at h ⊢
          obtain ⟨o, env2⟩ := r
          cases o with
          | some w => rfl
          | none => exact whN_mono n env2 S2 h k
theorem whl_of {c : En → M Bool} {b : En → M (Option W × En)} {n : Nat} {env : En} {S : Sto} (h : whN c b n env S ≠ .no) : whl c b env S = whN c b n env S := by
  unfold whl
  have ex : ∃ n, whN c b n env S ≠ .no := ⟨n, h⟩
  rw [dif_pos ex]
  have h2 := Classical.choose_spec ex
  generalize Classical.choose ex = m at h2
  rcases Nat.le_total n m with l | l
  · obtain ⟨k, rfl⟩ := Nat.exists_eq_add_of_le l
    exact whN_mono n env S h k
  · obtain ⟨k, rfl⟩ := Nat.exists_eq_add_of_le l
    exact (whN_mono m env S h2 k).symm
/-- a while: an invariant, a measure -/
theorem wp_whl {c : En → M Bool} {b : En → M (Option W × En)} (I : Nat → En → Sto → Prop) {Φ : Option W × En → Sto → Prop}
    (step : ∀ m env S, I m env S → Wp (c env S) fun t S1 => if t = true then Wp (b env S1) fun r S2 => match r.1 with
      | some w => Φ (some w, r.2) S2
      | none => ∃ k, k < m ∧ I k r.2 S2
      else Φ (none, env) S1) : ∀ (m : Nat) (env : En) (S : Sto), I m env S → Wp (whl c b env S) Φ := by
  have key : ∀ (m : Nat) (env : En) (S : Sto), I m env S → ∃ n, Wp (whN c b n env S) Φ := by
    intro m
    induction m using Nat.strongRecOn with
    | _ m ih =>
      intro env S h
      obtain ⟨t, S1, e, q⟩ := (step m env S h).get
      cases t with
      | false =>
        refine ⟨1, ?_⟩
        unfold whN M.bind
        rw [e]
        exact ⟨q⟩
      | true =>
        rw [if_pos rfl] at q
        obtain ⟨⟨o, env2⟩, S2, e2, q2⟩ := q.get
        cases o with
        | some w =>
          refine ⟨1, ?_⟩
          unfold whN M.bind
          rw [e]
          simp only [↓reduceIte]
          rw [e2]
          exact ⟨q2⟩
        | none =>
          obtain ⟨k, lt, hk⟩ := q2
          obtain ⟨n, hn⟩ := ih k lt env2 S2 hk
          refine ⟨n + 1, ?_⟩
          unfold whN M.bind
          rw [e]
          simp only [↓reduceIte]
          rw [e2]
          exact hn
  intro m env S h
  obtain ⟨n, hn⟩ := key m env S h
  rw [whl_of (n := n) (fun z => by rw [z] at hn; exact hn.h)]
  exact hn
end
end Fb
set_option Elab.async false
set_option linter.all false
set_option maxRecDepth 100000
set_option maxHeartbeats 2000000
/-! Plain: sets of small numbers as bits. -/
namespace Fb
open PySem
theorem band_nat (a b : Nat) : Builtin.bitAnd (a : Int) (b : Int) = ((a &&& b : Nat) : Int) := by
  unfold Builtin.bitAnd
  rw [decide_eq_true (show (0 : Int) ≤ (a : Int) by omega), decide_eq_true (show (0 : Int) ≤ (b : Int) by omega)]
  rfl
theorem bor_nat (a b : Nat) : Builtin.bitOr (a : Int) (b : Int) = ((a ||| b : Nat) : Int) := by
  unfold Builtin.bitOr Builtin.bitAnd Builtin.bitNot
  rw [decide_eq_false (show ¬ (0 : Int) ≤ -(a : Int) - 1 by omega), decide_eq_false (show ¬ (0 : Int) ≤ -(b : Int) - 1 by omega)]
  dsimp only
  rw [show (-(-(a : Int) - 1) - 1).toNat = a by omega, show (-(-(b : Int) - 1) - 1).toNat = b by omega]
  omega
theorem add_or : ∀ (a b : Nat), a &&& b = 0 → a + b = a ||| b := by
  intro a
  induction a using Nat.strongRecOn with
  | _ a ih =>
    intro b h
    by_cases z : a = 0
    · subst z
      simp
    · have h1 : a / 2 &&& b / 2 = 0 := by rw [← Nat.and_div_two, h]
      have i := ih (a / 2) (by omega) (b / 2) h1
      rw [← Nat.or_div_two] at i
      have m1 := Nat.or_mod_two_eq_one (a := a) (b := b)
      have m2 := Nat.and_mod_two_eq_one (a := a) (b := b)
      rw [h] at m2
      omega
/-- without k -/
def clr (a k : Nat) : Nat := a - (a &&& 2 ^ k)
theorem clr_eq (a k : Nat) : clr a k = a ^^^ (a &&& 2 ^ k) := by
  unfold clr
  refine Nat.sub_eq_of_eq_add ?_
  have h : (a ^^^ (a &&& 2 ^ k)) &&& (a &&& 2 ^ k) = 0 := by
    refine Nat.eq_of_testBit_eq fun i => ?_
    simp only [Nat.testBit_and, Nat.testBit_xor, Nat.zero_testBit]
    cases a.testBit i <;> cases (2 ^ k).testBit i <;> rfl
  have h2 : (a ^^^ (a &&& 2 ^ k)) ||| (a &&& 2 ^ k) = a := by
    refine Nat.eq_of_testBit_eq fun i => ?_
    simp only [Nat.testBit_and, Nat.testBit_xor, Nat.testBit_or]
    cases a.testBit i <;> cases (2 ^ k).testBit i <;> rfl
  have := add_or _ _ h
  rw [this, h2]
theorem clr_bit (a k i : Nat) : (clr a k).testBit i = (a.testBit i && decide (i ≠ k)) := by
  rw [clr_eq, Nat.testBit_xor, Nat.testBit_and, Nat.testBit_two_pow]
  by_cases h : i = k
  · subst h
    cases a.testBit i <;> simp
  · cases a.testBit i <;> simp [h, Ne.symm h]
theorem band_not (a k : Nat) : Builtin.bitAnd (a : Int) (Builtin.bitNot ((2 ^ k : Nat) : Int)) = ((clr a k : Nat) : Int) := by
  unfold Builtin.bitAnd Builtin.bitNot clr
  generalize hb : (2 ^ k : Nat) = b
  rw [decide_eq_true (show (0 : Int) ≤ (a : Int) by omega), decide_eq_false (show ¬ (0 : Int) ≤ -(b : Int) - 1 by omega)]
  dsimp only
  rw [show (-(-(b : Int) - 1) - 1).toNat = b by omega, Int.toNat_natCast]
  have : a &&& b ≤ a := Nat.and_le_left
  omega
theorem band_m2 (a : Nat) : Builtin.bitAnd (a : Int) (-2) = ((clr a 0 : Nat) : Int) := by
  rw [← band_not a 0]
  rfl
/-- the least one -/
theorem low_ex {a : Nat} (h : 0 < a) : ∃ i, a.testBit i = true := by
  exact Nat.exists_testBit_of_ne_zero (by omega)
/-- the least of a set, from i on (n: the fuel) -/
def lowF (a : Nat) : Nat → Nat → Nat
  | 0, i => i
  | n + 1, i => if a.testBit i = true then i else lowF a n (i + 1)
def low (a : Nat) : Nat := lowF a a 0
theorem lowF_spec (a : Nat) : ∀ (n i j : Nat), a.testBit j = true → i ≤ j → j ≤ i + n → (∀ k, k < i → a.testBit k = false) → a.testBit (lowF a n i) = true ∧ ∀ k, k < lowF a n i → a.testBit k = false
  | 0, i, j, h, h1, h2, h3 => by
    have : i = j := by omega
    subst this
    exact ⟨h, h3⟩
  | n + 1, i, j, h, h1, h2, h3 => by
    unfold lowF
    by_cases c : a.testBit i = true
    · rw [if_pos c]
      exact ⟨c, h3⟩
    · rw [if_neg c]
      have c' : a.testBit i = false := by simpa using c
      have ne : i ≠ j := fun e => by rw [e] at c; exact c h
      refine lowF_spec a n (i + 1) j h (by omega) (by omega) fun k hk => ?_
      by_cases e : k = i
      · rw [e]; exact c'
      · exact h3 k (by omega)
theorem bit_lt {a j : Nat} (h : a.testBit j = true) : j < a := Nat.lt_of_lt_of_le Nat.lt_two_pow_self (Nat.ge_two_pow_of_testBit h)
theorem low_bit {a : Nat} (h : 0 < a) : a.testBit (low a) = true := by
  obtain ⟨j, hj⟩ := low_ex h
  exact (lowF_spec a a 0 j hj (by omega) (by have := bit_lt hj; omega) (fun k z => by omega)).1
theorem low_least {a k : Nat} (h : 0 < a) (hk : k < low a) : a.testBit k = false := by
  obtain ⟨j, hj⟩ := low_ex h
  exact (lowF_spec a a 0 j hj (by omega) (by have := bit_lt hj; omega) (fun k z => by omega)).2 k hk
theorem low_le {a j : Nat} (h : a.testBit j = true) : low a ≤ j := by
  rcases Nat.lt_or_ge j (low a) with l | l
  · rw [low_least (by have := bit_lt h; omega) l] at h
    cases h
  · exact l
/-- all of a set, ascending -/
def bits (a : Nat) : List Nat := (List.range a).filter a.testBit
theorem mem_bits {a j : Nat} : j ∈ bits a ↔ a.testBit j = true := by
  unfold bits
  rw [List.mem_filter, List.mem_range]
  exact ⟨fun h => h.2, fun h => ⟨bit_lt h, h⟩⟩
theorem filter_more {p : Nat → Bool} {n : Nat} : ∀ (d : Nat), (∀ j, n ≤ j → p j = false) → (List.range (n + d)).filter p = (List.range n).filter p
  | 0, _ => rfl
  | d + 1, h => by
    rw [show n + (d + 1) = (n + d) + 1 by omega, List.range_succ, List.filter_append, filter_more d h, List.filter_cons_of_neg (by rw [h (n + d) (by omega)]; exact Bool.false_ne_true)]
    simp
theorem bits_upto {a k : Nat} (h : a < 2 ^ k) : (List.range k).filter a.testBit = bits a := by
  have none : ∀ j, k ≤ j → a.testBit j = false := fun j hj => Nat.testBit_lt_two_pow (Nat.lt_of_lt_of_le h (Nat.pow_le_pow_right (by omega) hj))
  have none2 : ∀ j, a ≤ j → a.testBit j = false := fun j hj => Nat.testBit_lt_two_pow (Nat.lt_of_le_of_lt hj Nat.lt_two_pow_self)
  unfold bits
  rcases Nat.le_total k a with l | l
  · obtain ⟨d, rfl⟩ := Nat.exists_eq_add_of_le l
    exact (filter_more d none).symm
  · obtain ⟨d, hd⟩ := Nat.exists_eq_add_of_le l
    rw [hd]
    exact filter_more d none2
theorem bits_succ {a k : Nat} : (List.range (k + 1)).filter a.testBit = (List.range k).filter a.testBit ++ (if a.testBit k = true then [k] else []) := by
  rw [List.range_succ, List.filter_append]
  by_cases c : a.testBit k = true
  · rw [if_pos c, List.filter_cons_of_pos c]
    rfl
  · rw [if_neg c, List.filter_cons_of_neg c]
    rfl
def setOf (l : List Nat) : Nat := l.foldl (fun a k => a ||| 2 ^ k) 0
theorem setOf_take {l : List Nat} {i k : Nat} (h : l[i]? = some k) : setOf (l.take (i + 1)) = setOf (l.take i) ||| 2 ^ k := by
  unfold setOf
  rw [List.take_add_one, h, List.foldl_append]
  rfl
theorem foldl_bit (j : Nat) : ∀ (l : List Nat) (a : Nat), (l.foldl (fun a k => a ||| 2 ^ k) a).testBit j = (a.testBit j || decide (j ∈ l))
  | [], a => by simp
  | k :: l, a => by
    rw [List.foldl_cons, foldl_bit j l, Nat.testBit_or, Nat.testBit_two_pow]
    by_cases e : k = j
    · subst e; simp
    · simp [e, Ne.symm e]
theorem setOf_bit {l : List Nat} {j : Nat} : (setOf l).testBit j = decide (j ∈ l) := by
  unfold setOf
  rw [foldl_bit]
  simp
end Fb
set_option Elab.async false
set_option linter.all false
set_option maxRecDepth 100000
set_option maxHeartbeats 2000000
/-! Plain: the process of columns, and that it eliminates. -/
namespace Fb
/-! ### eliminating -/
/-- what comes of couplings A by eliminating in sequence -/
inductive Fl (A : Nat → Nat → Prop) : Nat → Nat → Prop
  | base {u w : Nat} (h : A u w) : Fl A u w
  | step {c u w : Nat} (h1 : c < u) (h2 : u < w) (h3 : Fl A c u) (h4 : Fl A c w) : Fl A u w
theorem Fl.lt {A : Nat → Nat → Prop} (hA : ∀ u w, A u w → u < w) {u w : Nat} (h : Fl A u w) : u < w := by
  cases h with
  | base h => exact hA _ _ h
  | step _ h2 _ _ => exact h2
theorem Fl.iff {A : Nat → Nat → Prop} {u w : Nat} : Fl A u w ↔ A u w ∨ ∃ c, c < u ∧ u < w ∧ Fl A c u ∧ Fl A c w :=
  ⟨fun h => by
    cases h with
    | base h => exact .inl h
    | step h1 h2 h3 h4 => exact .inr ⟨_, h1, h2, h3, h4⟩, fun h => h.elim .base fun ⟨_, h1, h2, h3, h4⟩ => .step h1 h2 h3 h4⟩
/-- v is the least of the column of c -/
def Par (P : Nat → Nat → Prop) (c v : Nat) : Prop := P c v ∧ ∀ w, P c w → v ≤ w
/-- handing on to the parent alone is the same -/
theorem par_fl {A P : Nat → Nat → Prop} (hA : ∀ u w, A u w → u < w) (hP : ∀ u w, P u w → u < w)
    (hpar : ∀ c w, P c w → ∃ v, Par P c v)
    (eq : ∀ u w, P u w ↔ A u w ∨ ∃ c, c < u ∧ Par P c u ∧ P c w ∧ w ≠ u) : ∀ u w, P u w ↔ Fl A u w := by
  intro u
  induction u using Nat.strongRecOn with
  | _ u ih =>
    have key : ∀ (m c : Nat), m = u - c → c < u → P c u → ∀ w, u < w → P c w → P u w := by
      intro m
      induction m using Nat.strongRecOn with
      | _ m im =>
        intro c hm hc h1 w hw h2
        obtain ⟨v, pv, lv⟩ := hpar c u h1
        have hv := lv u h1
        by_cases e : v = u
        · subst e
          exact (eq v w).mpr (.inr ⟨c, hc, ⟨pv, lv⟩, h2, by omega⟩)
        · have cv := hP c v pv
          have p1 : P v u := (eq v u).mpr (.inr ⟨c, cv, ⟨pv, lv⟩, h1, by omega⟩)
          have p2 : P v w := (eq v w).mpr (.inr ⟨c, cv, ⟨pv, lv⟩, h2, by omega⟩)
          exact im (u - v) (by omega) v rfl (by omega) p1 w hw p2
    intro w
    constructor
    · intro h
      rcases (eq u w).mp h with h | ⟨c, hc, ⟨p1, _⟩, p2, ne⟩
      · exact .base h
      · exact .step hc (hP u w h) ((ih c hc u).mp p1) ((ih c hc w).mp p2)
    · intro h
      rcases Fl.iff.mp h with h | ⟨c, h1, h2, h3, h4⟩
      · exact (eq u w).mpr (.inl h)
      · exact key _ c rfl h1 ((ih c h1 u).mpr h3) w h2 ((ih c h1 w).mpr h4)

/-! ### the process -/
structure Col where
  a : Nat
  t : Nat
  na : Nat
  nt : Nat
  g : Nat
  deriving DecidableEq
structure Wt where
  later : List (Nat × Nat)
  rims : List Nat
  deriving DecidableEq
def Wt.zero : Wt := ⟨List.replicate 16 (0, 0), List.replicate 6 0⟩
def Wt.hd (w : Wt) : Nat × Nat := w.later.getD 0 (0, 0)
def colOf (w : Wt) (i : Nat × Nat) : Col := ⟨i.1 ||| w.hd.1, i.2 ||| w.hd.2, i.1 &&& w.hd.1, i.2 &&& w.hd.2, (bits i.1).length + (bits i.2).length⟩
def handL (l : List (Nat × Nat)) (a t : Nat) : List (Nat × Nat) :=
  l.set (low a - 1) ((l.getD (low a - 1) (0, 0)).1 ||| clr (a / 2 ^ low a) 0, (l.getD (low a - 1) (0, 0)).2 ||| t)
def handR (l : List Nat) (t : Nat) : List Nat := l.set (low t) (l.getD (low t) 0 ||| clr t (low t))
def behind (w : Wt) (i : Nat × Nat) : Wt :=
  if 0 < (colOf w i).a then ⟨handL (w.later.tail ++ [(0, 0)]) (colOf w i).a (colOf w i).t, w.rims⟩
  else if 0 < (colOf w i).t then ⟨w.later.tail ++ [(0, 0)], handR w.rims (colOf w i).t⟩
  else ⟨w.later.tail ++ [(0, 0)], w.rims⟩
def stN (inp : Nat → Nat × Nat) : Nat → Wt
  | 0 => .zero
  | k + 1 => behind (stN inp k) (inp k)
def colN (inp : Nat → Nat × Nat) (k : Nat) : Col := colOf (stN inp k) (inp k)
/-- the border unknowns' turns -/
def rimSt (s : List Nat) : Nat → List Nat
  | 0 => s
  | i + 1 => if 0 < (rimSt s i).getD i 0 then handR' (rimSt s i) i else rimSt s i
where handR' (l : List Nat) (i : Nat) : List Nat := l.set (low (l.getD i 0)) (l.getD (low (l.getD i 0)) 0 ||| clr (l.getD i 0) (low (l.getD i 0)))
def rimSet (s : List Nat) (i : Nat) : Nat := (rimSt s i).getD i 0

/-- inputs that are right, n inner unknowns -/
structure InpOk (n b : Nat) (inp : Nat → Nat × Nat) : Prop where
  b6 : b ≤ 6
  off : ∀ k d, (inp k).1.testBit d = true → 1 ≤ d ∧ d ≤ 16 ∧ k + d < n
  tch : ∀ k t, (inp k).2.testBit t = true → t < b
/-- the couplings -/
def A0 (n : Nat) (inp : Nat → Nat × Nat) (u w : Nat) : Prop := u < n ∧ u < w ∧ ((w < n ∧ (inp u).1.testBit (w - u) = true) ∨ (n ≤ w ∧ (inp u).2.testBit (w - n) = true))
/-- the columns, as the process tells them -/
def PP (n : Nat) (inp : Nat → Nat × Nat) (u w : Nat) : Prop :=
  (u < n ∧ u < w ∧ ((w < n ∧ (colN inp u).a.testBit (w - u) = true) ∨ (n ≤ w ∧ (colN inp u).t.testBit (w - n) = true))) ∨ (n ≤ u ∧ u < w ∧ u < n + 6 ∧ (rimSet (stN inp n).rims (u - n)).testBit (w - n) = true)
theorem getD_set {α : Type} {l : List α} {i j : Nat} {x d : α} : (l.set i x).getD j d = if i = j ∧ j < l.length then x else l.getD j d := by
  rw [List.getD_eq_getElem?_getD, List.getD_eq_getElem?_getD, List.getElem?_set]
  by_cases e : i = j
  · subst e
    by_cases l : i < l.length
    · simp [l]
    · simp [l]
  · simp [e]
theorem getD_tail {α : Type} {l : List α} {j : Nat} {d : α} (h : l.length = 16) (hj : j < 16) : (l.tail ++ [d]).getD j d = if j = 15 then d else l.getD (j + 1) d := by
  rw [List.getD_eq_getElem?_getD, List.getD_eq_getElem?_getD]
  have ht : l.tail.length = 15 := by rw [List.length_tail, h]
  by_cases e : j = 15
  · subst e
    rw [List.getElem?_append_right (by omega), ht]
    rfl
  · rw [List.getElem?_append_left (by omega), List.getElem?_tail, if_neg e]
end Fb
set_option Elab.async false
set_option linter.all false
set_option maxRecDepth 100000
set_option maxHeartbeats 2000000
/-! Plain: the process of columns eliminates. -/
namespace Fb
section
variable {n b : Nat} {inp : Nat → Nat × Nat}
/-- where the column of c is handed to -/
def hands (n : Nat) (inp : Nat → Nat × Nat) (c v : Nat) : Prop := (0 < (colN inp c).a ∧ v = c + low (colN inp c).a) ∨ ((colN inp c).a = 0 ∧ 0 < (colN inp c).t ∧ v = n + low (colN inp c).t)
/-- what an inner unknown's column has -/
def PI (n : Nat) (inp : Nat → Nat × Nat) (u w : Nat) : Prop := u < w ∧ ((w < n ∧ (colN inp u).a.testBit (w - u) = true) ∨ (n ≤ w ∧ (colN inp u).t.testBit (w - n) = true))
/-- what waits for v ahead of turn k -/
def HH (n : Nat) (inp : Nat → Nat × Nat) (k v w : Nat) : Prop := ∃ c, c < k ∧ hands n inp c v ∧ PI n inp c w ∧ w ≠ v
theorem HH.succ {k v w : Nat} : HH n inp (k + 1) v w ↔ HH n inp k v w ∨ (hands n inp k v ∧ PI n inp k w ∧ w ≠ v) := by
  constructor
  · rintro ⟨c, hc, h⟩
    by_cases e : c = k
    · subst e
      exact .inr h
    · exact .inl ⟨c, by omega, h⟩
  · rintro (⟨c, hc, h⟩ | h)
    · exact ⟨c, by omega, h⟩
    · exact ⟨k, by omega, h⟩
structure Inv (n b : Nat) (inp : Nat → Nat × Nat) (k : Nat) : Prop where
  ll : (stN inp k).later.length = 16
  lr : (stN inp k).rims.length = 6
  ah : ∀ j d, j < 16 → (((stN inp k).later.getD j (0, 0)).1.testBit d = true ↔ 1 ≤ d ∧ k + j + d < n ∧ HH n inp k (k + j) (k + j + d))
  th : ∀ j t, j < 16 → (((stN inp k).later.getD j (0, 0)).2.testBit t = true ↔ k + j < n ∧ HH n inp k (k + j) (n + t))
  rm : ∀ r t, r < 6 → (((stN inp k).rims.getD r 0).testBit t = true ↔ HH n inp k (n + r) (n + t))
/-- the columns till k are within bounds -/
structure Bnd (n b : Nat) (inp : Nat → Nat × Nat) (c : Nat) : Prop where
  a : ∀ d, (colN inp c).a.testBit d = true → 1 ≤ d ∧ d ≤ 16 ∧ c + d < n
  t : ∀ t, (colN inp c).t.testBit t = true → t < b
theorem low_pos {a : Nat} (h : 0 < a) (h0 : a.testBit 0 = false) : 0 < low a := by
  rcases Nat.eq_zero_or_pos (low a) with e | e
  · have := low_bit h
    rw [e, h0] at this
    cases this
  · exact e
theorem pos_of_bit {a d : Nat} (h : a.testBit d = true) : 0 < a := by have := bit_lt h; omega
theorem hands_lt {k c v : Nat} (B : Bnd n b inp c) (hc : c < n) (h : hands n inp c v) : c < v ∧ (v < n → v ≤ c + 16) ∧ (n ≤ v → v < n + b ∧ (colN inp c).a = 0) := by
  rcases h with ⟨h1, rfl⟩ | ⟨h0, h1, rfl⟩
  · obtain ⟨q1, q2, q3⟩ := B.a _ (low_bit h1)
    exact ⟨by omega, fun _ => by omega, fun _ => by omega⟩
  · have := B.t _ (low_bit h1)
    exact ⟨by omega, fun _ => by omega, fun _ => ⟨by omega, h0⟩⟩
/-- the least one of a column is where it is handed to -/
theorem hands_par {c v : Nat} (B : Bnd n b inp c) (hc : c < n) : hands n inp c v ↔ PI n inp c v ∧ ∀ w, PI n inp c w → v ≤ w := by
  constructor
  · rintro (⟨h1, rfl⟩ | ⟨h0, h1, rfl⟩)
    · obtain ⟨q1, q2, q3⟩ := B.a _ (low_bit h1)
      refine ⟨⟨by omega, .inl ⟨q3, ?_⟩⟩, ?_⟩
      · rw [Nat.add_sub_cancel_left]
        exact low_bit h1
      · rintro w ⟨l, ⟨w1, w2⟩ | ⟨w1, w2⟩⟩
        · have := low_le w2
          omega
        · omega
    · refine ⟨⟨by omega, .inr ⟨by omega, ?_⟩⟩, ?_⟩
      · rw [Nat.add_sub_cancel_left]
        exact low_bit h1
      · rintro w ⟨l, ⟨w1, w2⟩ | ⟨w1, w2⟩⟩
        · have := pos_of_bit w2
          omega
        · have := low_le w2
          omega
  · rintro ⟨⟨l, h⟩, m⟩
    by_cases z : 0 < (colN inp c).a
    · obtain ⟨q1, q2, q3⟩ := B.a _ (low_bit z)
      have m1 := m (c + low (colN inp c).a) ⟨by omega, .inl ⟨q3, by rw [Nat.add_sub_cancel_left]; exact low_bit z⟩⟩
      rcases h with ⟨w1, w2⟩ | ⟨w1, w2⟩
      · have := low_le w2
        exact .inl ⟨z, by omega⟩
      · omega
    · have z : (colN inp c).a = 0 := by omega
      rcases h with ⟨w1, w2⟩ | ⟨w1, w2⟩
      · have := pos_of_bit w2
        omega
      · have zt := pos_of_bit w2
        have m1 := m (n + low (colN inp c).t) ⟨by omega, .inr ⟨by omega, by rw [Nat.add_sub_cancel_left]; exact low_bit zt⟩⟩
        have := low_le w2
        exact .inr ⟨z, zt, by omega⟩
theorem zero_getD {j : Nat} : Wt.zero.later.getD j (0, 0) = (0, 0) := by
  unfold Wt.zero
  rw [List.getD_eq_getElem?_getD, List.getElem?_replicate]
  split <;> rfl
theorem zero_rims {j : Nat} : Wt.zero.rims.getD j 0 = 0 := by
  unfold Wt.zero
  rw [List.getD_eq_getElem?_getD, List.getElem?_replicate]
  split <;> rfl
theorem inv0 : Inv n b inp 0 := by
  refine ⟨rfl, rfl, fun j d _ => ?_, fun j t _ => ?_, fun r t _ => ?_⟩
  · show (Wt.zero.later.getD j (0, 0)).1.testBit d = true ↔ _
    rw [zero_getD, Nat.zero_testBit]
    exact ⟨fun h => (by cases h), fun ⟨_, _, c, h, _⟩ => by omega⟩
  · show (Wt.zero.later.getD j (0, 0)).2.testBit t = true ↔ _
    rw [zero_getD, Nat.zero_testBit]
    exact ⟨fun h => (by cases h), fun ⟨_, c, h, _⟩ => by omega⟩
  · show (Wt.zero.rims.getD r 0).testBit t = true ↔ _
    rw [zero_rims, Nat.zero_testBit]
    exact ⟨fun h => (by cases h), fun ⟨c, h, _⟩ => by omega⟩
theorem HH.room {k v w : Nat} (hB : ∀ c, c < k → Bnd n b inp c) (hk : k ≤ n) (h : HH n inp k v w) : (w < n → w < k + 16) ∧ (n ≤ w → w < n + b) ∧ v < w ∧ (v < n → v < k + 16) ∧ (n ≤ v → v < n + b) := by
  obtain ⟨c, hc, h1, ⟨h2, h3⟩, ne⟩ := h
  have B := hB c hc
  obtain ⟨l1, l2, l3⟩ := hands_lt (k := k) B (by omega) h1
  have lv := ((hands_par B (by omega)).mp h1).2 w ⟨h2, h3⟩
  rcases h3 with ⟨w1, w2⟩ | ⟨w1, w2⟩
  · obtain ⟨q1, q2, q3⟩ := B.a _ w2
    exact ⟨fun _ => by omega, fun _ => by omega, by omega, fun z => by have := l2 z; omega, fun z => (l3 z).1⟩
  · have := B.t _ w2
    exact ⟨fun _ => by omega, fun _ => by omega, by omega, fun z => by have := l2 z; omega, fun z => (l3 z).1⟩
/-- the column at turn k -/
theorem col_a (ok : InpOk n b inp) {k : Nat} (I : Inv n b inp k) {d : Nat} : (colN inp k).a.testBit d = true ↔ (inp k).1.testBit d = true ∨ (1 ≤ d ∧ k + d < n ∧ HH n inp k k (k + d)) := by
  show ((inp k).1 ||| (stN inp k).hd.1).testBit d = true ↔ _
  rw [Nat.testBit_or, Bool.or_eq_true]
  exact or_congr Iff.rfl (I.ah 0 d (by omega))
theorem col_t (ok : InpOk n b inp) {k : Nat} (hk : k < n) (I : Inv n b inp k) {t : Nat} : (colN inp k).t.testBit t = true ↔ (inp k).2.testBit t = true ∨ HH n inp k k (n + t) := by
  show ((inp k).2 ||| (stN inp k).hd.2).testBit t = true ↔ _
  rw [Nat.testBit_or, Bool.or_eq_true, (show ((stN inp k).hd.2.testBit t = true ↔ _) from I.th 0 t (by omega))]
  exact or_congr Iff.rfl ⟨fun h => h.2, fun h => ⟨hk, h⟩⟩
theorem col_bnd (ok : InpOk n b inp) {k : Nat} (hk : k < n) (I : Inv n b inp k) (hB : ∀ c, c < k → Bnd n b inp c) : Bnd n b inp k := by
  refine ⟨fun d h => ?_, fun t h => ?_⟩
  · rcases (col_a ok I).mp h with h | ⟨h1, h2, h3⟩
    · exact ok.off k d h
    · have := h3.room hB (by omega)
      exact ⟨h1, by omega, h2⟩
  · rcases (col_t ok hk I).mp h with h | h3
    · exact ok.tch k t h
    · have := h3.room hB (by omega)
      omega
theorem behind_ll {w : Wt} {i : Nat × Nat} (h : w.later.length = 16) : (behind w i).later.length = 16 := by
  have ht : (w.later.tail ++ [((0, 0) : Nat × Nat)]).length = 16 := by rw [List.length_append, List.length_tail, h]; rfl
  unfold behind handL
  split
  · rw [List.length_set]; exact ht
  · split <;> exact ht
theorem behind_lr {w : Wt} {i : Nat × Nat} (h : w.rims.length = 6) : (behind w i).rims.length = 6 := by
  unfold behind handR
  split
  · exact h
  · split
    · rw [List.length_set]; exact h
    · exact h
theorem clr_shift {a k d : Nat} : (clr (a / 2 ^ k) 0).testBit d = (a.testBit (k + d) && decide (d ≠ 0)) := by
  rw [clr_bit, Nat.testBit_div_two_pow, Nat.add_comm]
theorem inv_step (ok : InpOk n b inp) {k : Nat} (hk : k < n) (I : Inv n b inp k) (hB : ∀ c, c < k → Bnd n b inp c) : Inv n b inp (k + 1) := by
  have B := col_bnd ok hk I hB
  have b6 := ok.b6
  have ll := behind_ll (i := inp k) I.ll
  have lr := behind_lr (i := inp k) I.lr
  have tl : ((stN inp k).later.tail ++ [((0, 0) : Nat × Nat)]).length = 16 := by rw [List.length_append, List.length_tail, I.ll]; rfl
  have no16 : ∀ w, ¬ HH n inp k (k + 16) w ∨ n ≤ k + 16 := fun w => by
    rcases Nat.lt_or_ge (k + 16) n with z | z
    · left
      intro q
      have := (q.room hB (by omega)).2.2.2.1 z
      omega
    · exact .inr z
  -- what waited, one on
  have oldA : ∀ j d, j < 16 → ((((stN inp k).later.tail ++ [((0, 0) : Nat × Nat)]).getD j (0, 0)).1.testBit d = true ↔ 1 ≤ d ∧ k + 1 + j + d < n ∧ HH n inp k (k + 1 + j) (k + 1 + j + d)) := fun j d hj => by
    rw [getD_tail I.ll hj]
    split
    · rename_i e
      subst e
      show Nat.testBit 0 d = true ↔ _
      rw [Nat.zero_testBit]
      refine ⟨fun h => (by cases h), fun ⟨h1, h2, h3⟩ => ?_⟩
      rcases no16 (k + 1 + 15 + d) with z | z
      · exact absurd h3 z
      · omega
    · rw [I.ah (j + 1) d (by omega), show k + (j + 1) = k + 1 + j by omega]
  have oldT : ∀ j t, j < 16 → ((((stN inp k).later.tail ++ [((0, 0) : Nat × Nat)]).getD j (0, 0)).2.testBit t = true ↔ k + 1 + j < n ∧ HH n inp k (k + 1 + j) (n + t)) := fun j t hj => by
    rw [getD_tail I.ll hj]
    split
    · rename_i e
      subst e
      show Nat.testBit 0 t = true ↔ _
      rw [Nat.zero_testBit]
      refine ⟨fun h => (by cases h), fun ⟨h2, h3⟩ => ?_⟩
      rcases no16 (n + t) with z | z
      · exact absurd h3 z
      · omega
    · rw [I.th (j + 1) t (by omega), show k + (j + 1) = k + 1 + j by omega]
  have hst : stN inp (k + 1) = behind (stN inp k) (inp k) := rfl
  have hc : colOf (stN inp k) (inp k) = colN inp k := rfl
  by_cases za : 0 < (colN inp k).a
  · obtain ⟨q1, q2, q3⟩ := B.a _ (low_bit za)
    have hv : ∀ v, hands n inp k v ↔ v = k + low (colN inp k).a := fun v => ⟨fun h => by
      rcases h with h | h
      · exact h.2
      · omega, fun h => .inl ⟨za, h⟩⟩
    have e : stN inp (k + 1) = ⟨handL ((stN inp k).later.tail ++ [(0, 0)]) (colN inp k).a (colN inp k).t, (stN inp k).rims⟩ := by
      rw [hst]
      unfold behind
      rw [hc, if_pos za]
    refine ⟨ll, lr, fun j d hj => ?_, fun j t hj => ?_, fun r t hr => ?_⟩
    · rw [e]
      show ((handL _ _ _).getD j (0, 0)).1.testBit d = true ↔ _
      unfold handL
      rw [getD_set, HH.succ, hv]
      by_cases c : low (colN inp k).a - 1 = j
      · rw [if_pos ⟨c, by omega⟩, c]
        show Nat.testBit (_ ||| _) d = true ↔ _
        rw [Nat.testBit_or, Bool.or_eq_true, oldA j d hj, clr_shift, Bool.and_eq_true, decide_eq_true_eq]
        constructor
        · rintro (⟨h1, h2, h3⟩ | ⟨h1, h2⟩)
          · exact ⟨h1, h2, .inl h3⟩
          · obtain ⟨p1, p2, p3⟩ := B.a _ h1
            refine ⟨by omega, by omega, .inr ⟨by omega, ⟨by omega, .inl ⟨by omega, ?_⟩⟩, by omega⟩⟩
            rw [show k + 1 + j + d - k = low (colN inp k).a + d by omega]
            exact h1
        · rintro ⟨h1, h2, h3 | ⟨h3, ⟨h4, h5⟩, h6⟩⟩
          · exact .inl ⟨h1, h2, h3⟩
          · refine .inr ⟨?_, by omega⟩
            rcases h5 with ⟨_, h5⟩ | ⟨h5, _⟩
            · rw [show k + 1 + j + d - k = low (colN inp k).a + d by omega] at h5
              exact h5
            · omega
      · rw [if_neg (fun z => c z.1), oldA j d hj]
        exact ⟨fun ⟨h1, h2, h3⟩ => ⟨h1, h2, .inl h3⟩, fun ⟨h1, h2, h3⟩ => ⟨h1, h2, h3.elim id fun ⟨z, _⟩ => by omega⟩⟩
    · rw [e]
      show ((handL _ _ _).getD j (0, 0)).2.testBit t = true ↔ _
      unfold handL
      rw [getD_set, HH.succ, hv]
      by_cases c : low (colN inp k).a - 1 = j
      · rw [if_pos ⟨c, by omega⟩, c]
        show Nat.testBit (_ ||| _) t = true ↔ _
        rw [Nat.testBit_or, Bool.or_eq_true, oldT j t hj]
        constructor
        · rintro (⟨h2, h3⟩ | h1)
          · exact ⟨h2, .inl h3⟩
          · refine ⟨by omega, .inr ⟨by omega, ⟨by omega, .inr ⟨by omega, ?_⟩⟩, by omega⟩⟩
            rw [Nat.add_sub_cancel_left]
            exact h1
        · rintro ⟨h2, h3 | ⟨h3, ⟨h4, h5⟩, h6⟩⟩
          · exact .inl ⟨h2, h3⟩
          · refine .inr ?_
            rcases h5 with ⟨h5, _⟩ | ⟨_, h5⟩
            · omega
            · rw [Nat.add_sub_cancel_left] at h5
              exact h5
      · rw [if_neg (fun z => c z.1), oldT j t hj]
        exact ⟨fun ⟨h2, h3⟩ => ⟨h2, .inl h3⟩, fun ⟨h2, h3⟩ => ⟨h2, h3.elim id fun ⟨z, _⟩ => by omega⟩⟩
    · rw [e]
      show ((stN inp k).rims.getD r 0).testBit t = true ↔ _
      rw [I.rm r t hr, HH.succ, hv]
      exact ⟨.inl, fun h => h.elim id fun ⟨z, _⟩ => by omega⟩
  · have za0 : (colN inp k).a = 0 := by omega
    by_cases zt : 0 < (colN inp k).t
    · have q1 := B.t _ (low_bit zt)
      have hv : ∀ v, hands n inp k v ↔ v = n + low (colN inp k).t := fun v => ⟨fun h => by
        rcases h with h | h
        · omega
        · exact h.2.2, fun h => .inr ⟨za0, zt, h⟩⟩
      have e : stN inp (k + 1) = ⟨(stN inp k).later.tail ++ [(0, 0)], handR (stN inp k).rims (colN inp k).t⟩ := by
        rw [hst]
        unfold behind
        rw [hc, if_neg za, if_pos zt]
      refine ⟨ll, lr, fun j d hj => ?_, fun j t hj => ?_, fun r t hr => ?_⟩
      · rw [e]
        show (((stN inp k).later.tail ++ [((0, 0) : Nat × Nat)]).getD j (0, 0)).1.testBit d = true ↔ _
        rw [oldA j d hj, HH.succ, hv]
        exact ⟨fun ⟨h1, h2, h3⟩ => ⟨h1, h2, .inl h3⟩, fun ⟨h1, h2, h3⟩ => ⟨h1, h2, h3.elim id fun ⟨z, _⟩ => by omega⟩⟩
      · rw [e]
        show (((stN inp k).later.tail ++ [((0, 0) : Nat × Nat)]).getD j (0, 0)).2.testBit t = true ↔ _
        rw [oldT j t hj, HH.succ, hv]
        exact ⟨fun ⟨h2, h3⟩ => ⟨h2, .inl h3⟩, fun ⟨h2, h3⟩ => ⟨h2, h3.elim id fun ⟨z, _⟩ => by omega⟩⟩
      · rw [e]
        show ((handR _ _).getD r 0).testBit t = true ↔ _
        unfold handR
        rw [getD_set, HH.succ, hv]
        by_cases c : low (colN inp k).t = r
        · rw [if_pos ⟨c, by rw [I.lr]; omega⟩, c, Nat.testBit_or, Bool.or_eq_true, I.rm r t hr, clr_bit, Bool.and_eq_true, decide_eq_true_eq]
          constructor
          · rintro (h3 | ⟨h1, h2⟩)
            · exact .inl h3
            · refine .inr ⟨rfl, ⟨by omega, .inr ⟨by omega, ?_⟩⟩, by omega⟩
              rw [Nat.add_sub_cancel_left]
              exact h1
          · rintro (h3 | ⟨h3, ⟨h4, h5⟩, h6⟩)
            · exact .inl h3
            · refine .inr ⟨?_, by omega⟩
              rcases h5 with ⟨h5, _⟩ | ⟨_, h5⟩
              · omega
              · rw [Nat.add_sub_cancel_left] at h5
                exact h5
        · rw [if_neg (fun z => c z.1), I.rm r t hr]
          exact ⟨.inl, fun h => h.elim id fun ⟨z, _⟩ => by omega⟩
    · have zt0 : (colN inp k).t = 0 := by omega
      have hv : ∀ v, ¬ hands n inp k v := fun v h => by
        rcases h with h | h <;> omega
      have e : stN inp (k + 1) = ⟨(stN inp k).later.tail ++ [(0, 0)], (stN inp k).rims⟩ := by
        rw [hst]
        unfold behind
        rw [hc, if_neg za, if_neg zt]
      refine ⟨ll, lr, fun j d hj => ?_, fun j t hj => ?_, fun r t hr => ?_⟩
      · rw [e]
        show (((stN inp k).later.tail ++ [((0, 0) : Nat × Nat)]).getD j (0, 0)).1.testBit d = true ↔ _
        rw [oldA j d hj, HH.succ]
        exact ⟨fun ⟨h1, h2, h3⟩ => ⟨h1, h2, .inl h3⟩, fun ⟨h1, h2, h3⟩ => ⟨h1, h2, h3.elim id fun ⟨z, _⟩ => absurd z (hv _)⟩⟩
      · rw [e]
        show (((stN inp k).later.tail ++ [((0, 0) : Nat × Nat)]).getD j (0, 0)).2.testBit t = true ↔ _
        rw [oldT j t hj, HH.succ]
        exact ⟨fun ⟨h2, h3⟩ => ⟨h2, .inl h3⟩, fun ⟨h2, h3⟩ => ⟨h2, h3.elim id fun ⟨z, _⟩ => absurd z (hv _)⟩⟩
      · rw [e]
        show ((stN inp k).rims.getD r 0).testBit t = true ↔ _
        rw [I.rm r t hr, HH.succ]
        exact ⟨.inl, fun h => h.elim id fun ⟨z, _⟩ => absurd z (hv _)⟩
theorem inv_all (ok : InpOk n b inp) : ∀ k, k ≤ n → Inv n b inp k ∧ ∀ c, c < k → Bnd n b inp c
  | 0, _ => ⟨inv0, fun c h => by omega⟩
  | k + 1, h => by
    obtain ⟨I, hB⟩ := inv_all ok k (by omega)
    refine ⟨inv_step ok (by omega) I hB, fun c hc => ?_⟩
    by_cases e : c = k
    · subst e
      exact col_bnd ok (by omega) I hB
    · exact hB c (by omega)
theorem bnd_all (ok : InpOk n b inp) {c : Nat} (h : c < n) : Bnd n b inp c := (inv_all ok n (Nat.le_refl _)).2 c h
end
end Fb
set_option Elab.async false
set_option linter.all false
set_option maxRecDepth 100000
set_option maxHeartbeats 2000000
/-! Plain: the process of columns eliminates, border unknowns as well. -/
namespace Fb
section
variable {n b : Nat} {inp : Nat → Nat × Nat}
/-- what waits for v ahead of the border's turn i -/
def HB (n : Nat) (inp : Nat → Nat × Nat) (i v w : Nat) : Prop := HH n inp n v w ∨ ∃ j, j < i ∧ 0 < rimSet (stN inp n).rims j ∧ v = n + low (rimSet (stN inp n).rims j) ∧ n ≤ w ∧ (rimSet (stN inp n).rims j).testBit (w - n) = true ∧ w ≠ v
theorem HB.succ {i v w : Nat} : HB n inp (i + 1) v w ↔ HB n inp i v w ∨ (0 < rimSet (stN inp n).rims i ∧ v = n + low (rimSet (stN inp n).rims i) ∧ n ≤ w ∧ (rimSet (stN inp n).rims i).testBit (w - n) = true ∧ w ≠ v) := by
  constructor
  · rintro (h | ⟨j, hj, h⟩)
    · exact .inl (.inl h)
    · by_cases e : j = i
      · subst e
        exact .inr h
      · exact .inl (.inr ⟨j, by omega, h⟩)
  · rintro ((h | ⟨j, hj, h⟩) | h)
    · exact .inl h
    · exact .inr ⟨j, by omega, h⟩
    · exact .inr ⟨i, by omega, h⟩
structure InvR (n b : Nat) (inp : Nat → Nat × Nat) (i : Nat) : Prop where
  lr : (rimSt (stN inp n).rims i).length = 6
  rm : ∀ r t, i ≤ r → r < 6 → (((rimSt (stN inp n).rims i).getD r 0).testBit t = true ↔ HB n inp i (n + r) (n + t))
def BndR (n b : Nat) (inp : Nat → Nat × Nat) (i : Nat) : Prop := ∀ t, (rimSet (stN inp n).rims i).testBit t = true → i < t ∧ t < b
theorem rim_bnd (ok : InpOk n b inp) {i : Nat} (hi : i < 6) (I : InvR n b inp i) (hB : ∀ j, j < i → BndR n b inp j) : BndR n b inp i := by
  intro t h
  rcases (I.rm i t (Nat.le_refl _) hi).mp h with h | ⟨j, hj, h1, h2, h3, h4, h5⟩
  · have := h.room (inv_all ok n (Nat.le_refl _)).2 (Nat.le_refl _)
    omega
  · have l := low_le h4
    have := hB j hj _ h4
    omega
theorem rim_step (ok : InpOk n b inp) {i : Nat} (hi : i < 6) (I : InvR n b inp i) (hB : ∀ j, j < i → BndR n b inp j) : InvR n b inp (i + 1) := by
  have B := rim_bnd ok hi I hB
  have b6 := ok.b6
  have eS : (rimSt (stN inp n).rims i).getD i 0 = rimSet (stN inp n).rims i := rfl
  by_cases z : 0 < rimSet (stN inp n).rims i
  · have q := B _ (low_bit z)
    have e : rimSt (stN inp n).rims (i + 1) = (rimSt (stN inp n).rims i).set (low (rimSet (stN inp n).rims i)) ((rimSt (stN inp n).rims i).getD (low (rimSet (stN inp n).rims i)) 0 ||| clr (rimSet (stN inp n).rims i) (low (rimSet (stN inp n).rims i))) := by
      show (if 0 < (rimSt (stN inp n).rims i).getD i 0 then rimSt.handR' (rimSt (stN inp n).rims i) i else _) = _
      rw [eS, if_pos z]
      unfold rimSt.handR'
      rw [eS]
    refine ⟨by rw [e, List.length_set]; exact I.lr, fun r t h1 h2 => ?_⟩
    rw [e, getD_set, HB.succ]
    by_cases c : low (rimSet (stN inp n).rims i) = r
    · rw [if_pos ⟨c, by rw [I.lr]; omega⟩, c, Nat.testBit_or, Bool.or_eq_true, I.rm r t (by omega) h2, clr_bit, Bool.and_eq_true, decide_eq_true_eq]
      refine or_congr Iff.rfl ⟨fun ⟨p1, p2⟩ => ⟨z, rfl, by omega, by rw [Nat.add_sub_cancel_left]; exact p1, by omega⟩, fun ⟨_, _, p1, p2, p3⟩ => ?_⟩
      rw [Nat.add_sub_cancel_left] at p2
      exact ⟨p2, by omega⟩
    · rw [if_neg (fun q => c q.1), I.rm r t (by omega) h2]
      exact ⟨.inl, fun h => h.elim id fun ⟨_, q, _⟩ => by omega⟩
  · have e : rimSt (stN inp n).rims (i + 1) = rimSt (stN inp n).rims i := by
      show (if 0 < (rimSt (stN inp n).rims i).getD i 0 then rimSt.handR' (rimSt (stN inp n).rims i) i else _) = _
      rw [eS, if_neg z]
    refine ⟨by rw [e]; exact I.lr, fun r t h1 h2 => ?_⟩
    rw [e, I.rm r t (by omega) h2, HB.succ]
    exact ⟨.inl, fun h => h.elim id fun ⟨q, _⟩ => absurd q z⟩
theorem rim_all (ok : InpOk n b inp) : ∀ i, i ≤ 6 → InvR n b inp i ∧ ∀ j, j < i → BndR n b inp j
  | 0, _ => by
    have I := (inv_all ok n (Nat.le_refl _)).1
    refine ⟨⟨I.lr, fun r t _ h => ?_⟩, fun j h => by omega⟩
    show ((stN inp n).rims.getD r 0).testBit t = true ↔ _
    rw [I.rm r t h]
    exact ⟨.inl, fun h => h.elim id fun ⟨_, q, _⟩ => by omega⟩
  | i + 1, h => by
    obtain ⟨I, hB⟩ := rim_all ok i (by omega)
    refine ⟨rim_step ok (by omega) I hB, fun j hj => ?_⟩
    by_cases e : j = i
    · subst e
      exact rim_bnd ok (by omega) I hB
    · exact hB j (by omega)
theorem pp_in {u w : Nat} (h : u < n) : PP n inp u w ↔ PI n inp u w := by
  unfold PP PI
  constructor
  · rintro (⟨_, h1, h2⟩ | ⟨h1, _⟩)
    · exact ⟨h1, h2⟩
    · omega
  · rintro ⟨h1, h2⟩
    exact .inl ⟨h, h1, h2⟩
theorem pp_rim (ok : InpOk n b inp) {i w : Nat} (hi : i < 6) : PP n inp (n + i) w ↔ n ≤ w ∧ (rimSet (stN inp n).rims i).testBit (w - n) = true := by
  unfold PP
  constructor
  · rintro (⟨h1, _⟩ | ⟨_, h1, h2, h3⟩)
    · omega
    · rw [Nat.add_sub_cancel_left] at h3
      exact ⟨by omega, h3⟩
  · rintro ⟨h1, h2⟩
    have := (rim_all ok 6 (by omega)).2 i hi _ h2
    exact .inr ⟨by omega, by omega, by omega, by rw [Nat.add_sub_cancel_left]; exact h2⟩
theorem pp_lt {u w : Nat} (h : PP n inp u w) : u < w := by
  rcases h with ⟨_, h, _⟩ | ⟨_, h, _⟩ <;> exact h
theorem pp_bnd (ok : InpOk n b inp) {u w : Nat} (h : PP n inp u w) : w < n + b := by
  rcases h with ⟨h1, h2, ⟨h3, h4⟩ | ⟨h3, h4⟩⟩ | ⟨h1, h2, h3, h4⟩
  · omega
  · have := (bnd_all ok h1).t _ h4
    omega
  · have := (rim_all ok 6 (by omega)).2 (u - n) (by omega) _ h4
    omega
theorem par_in (ok : InpOk n b inp) {c v : Nat} (h : c < n) : Par (PP n inp) c v ↔ hands n inp c v := by
  rw [hands_par (bnd_all ok h) h]
  unfold Par
  simp only [pp_in h]
theorem par_rim (ok : InpOk n b inp) {i v : Nat} (hi : i < 6) : Par (PP n inp) (n + i) v ↔ 0 < rimSet (stN inp n).rims i ∧ v = n + low (rimSet (stN inp n).rims i) := by
  unfold Par
  simp only [pp_rim ok hi]
  constructor
  · rintro ⟨⟨h1, h2⟩, m⟩
    have z := pos_of_bit h2
    have := low_le h2
    have := m (n + low (rimSet (stN inp n).rims i)) ⟨by omega, by rw [Nat.add_sub_cancel_left]; exact low_bit z⟩
    exact ⟨z, by omega⟩
  · rintro ⟨z, rfl⟩
    refine ⟨⟨by omega, by rw [Nat.add_sub_cancel_left]; exact low_bit z⟩, fun w ⟨h1, h2⟩ => ?_⟩
    have := low_le h2
    omega
theorem par_ex {P : Nat → Nat → Prop} {c : Nat} : ∀ w, P c w → ∃ v, Par P c v := by
  intro w
  induction w using Nat.strongRecOn with
  | _ w ih =>
    intro h
    by_cases q : ∃ x, x < w ∧ P c x
    · obtain ⟨x, hx, px⟩ := q
      exact ih x hx px
    · exact ⟨w, h, fun x px => Nat.le_of_not_lt fun z => q ⟨x, z, px⟩⟩
theorem pp_eq (ok : InpOk n b inp) (u w : Nat) : PP n inp u w ↔ A0 n inp u w ∨ ∃ c, c < u ∧ Par (PP n inp) c u ∧ PP n inp c w ∧ w ≠ u := by
  have b6 := ok.b6
  by_cases hu : u < n
  · have I := (inv_all ok u (by omega)).1
    rw [pp_in hu]
    have e : (∃ c, c < u ∧ Par (PP n inp) c u ∧ PP n inp c w ∧ w ≠ u) ↔ HH n inp u u w := by
      constructor
      · rintro ⟨c, hc, h1, h2, h3⟩
        exact ⟨c, hc, (par_in ok (by omega)).mp h1, (pp_in (by omega)).mp h2, h3⟩
      · rintro ⟨c, hc, h1, h2, h3⟩
        exact ⟨c, hc, (par_in ok (by omega)).mpr h1, (pp_in (by omega)).mpr h2, h3⟩
    rw [e]
    unfold PI A0
    constructor
    · rintro ⟨h1, ⟨h2, h3⟩ | ⟨h2, h3⟩⟩
      · rcases (col_a ok I).mp h3 with h | ⟨_, _, h⟩
        · exact .inl ⟨hu, h1, .inl ⟨h2, h⟩⟩
        · rw [show u + (w - u) = w by omega] at h
          exact .inr h
      · rcases (col_t ok hu I).mp h3 with h | h
        · exact .inl ⟨hu, h1, .inr ⟨h2, h⟩⟩
        · rw [show n + (w - n) = w by omega] at h
          exact .inr h
    · rintro (⟨_, h1, ⟨h2, h3⟩ | ⟨h2, h3⟩⟩ | h)
      · exact ⟨h1, .inl ⟨h2, (col_a ok I).mpr (.inl h3)⟩⟩
      · exact ⟨h1, .inr ⟨h2, (col_t ok hu I).mpr (.inl h3)⟩⟩
      · have q := (h.room (inv_all ok u (by omega)).2 (by omega))
        refine ⟨q.2.2.1, ?_⟩
        rcases Nat.lt_or_ge w n with l | l
        · refine .inl ⟨l, (col_a ok I).mpr (.inr ⟨by omega, by omega, ?_⟩)⟩
          rw [show u + (w - u) = w by omega]
          exact h
        · refine .inr ⟨l, (col_t ok hu I).mpr (.inr ?_)⟩
          rw [show n + (w - n) = w by omega]
          exact h
  · by_cases h6 : u < n + 6
    · obtain ⟨i, rfl⟩ := Nat.exists_eq_add_of_le (Nat.le_of_not_lt hu)
      have hi : i < 6 := by omega
      rw [pp_rim ok hi]
      have nA : ¬ A0 n inp (n + i) w := fun h => hu h.1
      have I := (rim_all ok i (by omega)).1
      constructor
      · rintro ⟨h1, h2⟩
        have h2' := h2
        rcases (I.rm i (w - n) (Nat.le_refl _) hi).mp h2 with ⟨c, hc, q1, q2, q3⟩ | ⟨j, hj, q1, q2, q3, q4, q5⟩
        · rw [show n + (w - n) = w by omega] at q2 q3
          exact .inr ⟨c, by omega, (par_in ok hc).mpr q1, (pp_in hc).mpr q2, q3⟩
        · rw [show n + (w - n) = w by omega] at q4 q5
          exact .inr ⟨n + j, by omega, (par_rim ok (by omega)).mpr ⟨q1, q2⟩, (pp_rim ok (by omega)).mpr ⟨h1, q4⟩, q5⟩
      · rintro (h | ⟨c, hc, h1, h2, h3⟩)
        · exact absurd h nA
        · have nw : n ≤ w := by
            have := h1.2 w h2
            omega
          refine ⟨nw, (I.rm i (w - n) (Nat.le_refl _) hi).mpr ?_⟩
          rw [show n + (w - n) = w by omega]
          by_cases l : c < n
          · exact .inl ⟨c, l, (par_in ok l).mp h1, (pp_in l).mp h2, h3⟩
          · obtain ⟨j, rfl⟩ := Nat.exists_eq_add_of_le (Nat.le_of_not_lt l)
            obtain ⟨q1, q2⟩ := (par_rim ok (by omega)).mp h1
            obtain ⟨q3, q4⟩ := (pp_rim ok (by omega)).mp h2
            exact .inr ⟨j, by omega, q1, q2, q3, q4, h3⟩
    · constructor
      · rintro (⟨h, _⟩ | ⟨_, _, h, _⟩)
        · exact absurd h hu
        · exact absurd h h6
      · rintro (h | ⟨c, _, h1, _⟩)
        · exact absurd h.1 hu
        · have := pp_bnd ok h1.1
          omega
/-- THE PROCESS eliminates -/
theorem pp_fl (ok : InpOk n b inp) (u w : Nat) : PP n inp u w ↔ Fl (A0 n inp) u w :=
  par_fl (fun _ _ h => h.2.1) (fun _ _ h => pp_lt h) (fun c w h => par_ex w h) (pp_eq ok) u w
end
end Fb
set_option Elab.async false
set_option linter.all false
set_option maxRecDepth 100000
set_option maxHeartbeats 2000000
/-! Lite: more about what the evaluator gives: stores that grow, loops, comprehensions, dicts, fields. -/
namespace Fb
open PySem L2
section
variable {S S' S2 : Sto} {n l : Nat} {o : Ob} {xs ys : List W}
theorem pre_ob (h : S <+: S') (e : S[n]? = some o) : S'[n]? = some o := by
  obtain ⟨t, rfl⟩ := h
  rw [List.getElem?_append_left (List.getElem?_eq_some_iff.mp e).1]
  exact e
theorem pre_lt (e : S[n]? = some o) : n < S.length := (List.getElem?_eq_some_iff.mp e).1
theorem getL_of (e : S[n]? = some (.lst xs)) : getL S n = some xs := by unfold getL; rw [e]
theorem getL_frz (e : S[n]? = some (.frz xs)) : getL S n = some xs := by unfold getL; rw [e]
theorem getL_lt (e : getL S n = some xs) : n < S.length := by
  unfold getL at e
  cases q : S[n]? with
  | none => rw [q] at e; cases e
  | some o => exact pre_lt q
theorem pre_getL (h : S <+: S') (e : getL S n = some xs) : getL S' n = some xs := by
  have l := getL_lt e
  unfold getL at e ⊢
  have : S'[n]? = S[n]? := by
    obtain ⟨t, rfl⟩ := h
    exact List.getElem?_append_left l
  rw [this]
  exact e
theorem pre_new (h : S <+: S') : S <+: S' ++ [o] := h.trans (List.prefix_append _ _)
theorem pre_new1 : S <+: S ++ [o] := List.prefix_append _ _
theorem pre_set (h : S <+: S') (hl : S.length ≤ l) : S <+: S'.set l o := by
  obtain ⟨t, rfl⟩ := h
  rw [List.set_append_right _ _ hl]
  exact List.prefix_append _ _
theorem pre_len (h : S <+: S') : S.length ≤ S'.length := h.length_le
theorem get_set_ne {S : Sto} {i j : Nat} {o : Ob} (h : i ≠ j) : (S.set i o)[j]? = S[j]? := List.getElem?_set_ne h
theorem get_set_eq {S : Sto} {i : Nat} {o : Ob} (h : i < S.length) : (S.set i o)[i]? = some o := List.getElem?_set_self h
theorem pre_of_last (e : (S ++ [o])<+: S') : S'[S.length]? = some o := by
  obtain ⟨t, rfl⟩ := e
  rw [List.getElem?_append_left (by rw [List.length_append]; exact Nat.lt_succ_self _)]
  rw [List.getElem?_append_right (Nat.le_refl _), Nat.sub_self]
  rfl
end
section
variable {α : Type} {S : Sto} {Φ : α → Sto → Prop}
theorem wp_ofSome {a : α} : Wp (ofO (some a) S) Φ = Φ a S := wp_d
theorem wp_ifB {b : Bool} {m k : M α} : Wp ((if b = true then m else k) S) Φ = if b = true then Wp (m S) Φ else Wp (k S) Φ := by split <;> rfl
end
section
variable {S : Sto} {n l : Nat} {xs ys : List W} {x y : W} {i j : Int} {Φ : W → Sto → Prop}
theorem wp_lenL (e : getL S l = some xs) : Wp (bltW .len [.loc l] S) Φ = Φ (.int xs.length) S := by
  show Wp ((getLM l >>= fun ys => pure (.int ys.length)) S) Φ = _
  rw [wp_bind, wp_getLM e]
  exact wp_d
theorem dicAt_of {b : Bool} {kvs : List (W × W)} (e : S[l]? = some (.dic b kvs)) : dicAt S l = some (b, kvs) := by
  unfold dicAt
  rw [e]
theorem dicAt_L (e : getL S l = some xs) : dicAt S l = none := by
  unfold getL at e
  unfold dicAt
  cases q : S[l]? with
  | none => rfl
  | some o =>
    rw [q] at e
    cases o <;> first | rfl | cases e
theorem wp_isDicL (e : getL S l = some xs) {Φ : Bool → Sto → Prop} : Wp (isDic l S) Φ = Φ false S := by
  show Wp (Res.ok (dicAt S l).isSome S) Φ = _
  rw [dicAt_L e]
  exact wp_d
theorem wp_isDicD {b : Bool} {kvs : List (W × W)} (e : S[l]? = some (.dic b kvs)) {Φ : Bool → Sto → Prop} : Wp (isDic l S) Φ = Φ true S := by
  show Wp (Res.ok (dicAt S l).isSome S) Φ = _
  rw [dicAt_of e]
  exact wp_d
theorem wp_ixL (e : getL S l = some xs) : Wp (ixW (.loc l) (.int i) S) Φ = ∃ x, atI xs i = some x ∧ Φ x S := by
  show Wp ((isDic l >>= fun d => if d = true then _ else ixL l (.int i)) S) Φ = _
  rw [wp_bind, wp_isDicL e]
  show Wp ((getLM l >>= fun ys => ofO (atI ys i)) S) Φ = _
  rw [wp_bind, wp_getLM e, wp_ofO]
theorem wp_slL {lo hi : Option Int} (e : getL S l = some xs) : Wp (slW (.loc l) lo hi S) Φ = Φ (.loc S.length) (S ++ [.lst (cut xs lo hi)]) := by
  show Wp ((getLM l >>= fun ys => new (.lst (cut ys lo hi))) S) Φ = _
  rw [wp_bind, wp_getLM e]
  exact wp_d
theorem wp_listT : Wp (bltW .list [.tup xs] S) Φ = Φ (.loc S.length) (S ++ [.lst xs]) := wp_d
theorem wp_listL (e : getL S l = some xs) : Wp (bltW .list [.loc l] S) Φ = Φ (.loc S.length) (S ++ [.lst xs]) := by
  show Wp ((getLM l >>= fun ys => new (.lst ys)) S) Φ = _
  rw [wp_bind, wp_getLM e]
  exact wp_d
theorem wp_tupL (e : getL S l = some xs) : Wp (bltW .tuple [.loc l] S) Φ = Φ (.tup xs) S := by
  show Wp ((getLM l >>= fun ys => pure (W.tup ys)) S) Φ = _
  rw [wp_bind, wp_getLM e]
  exact wp_d
theorem wp_tupT : Wp (bltW .tuple [.tup xs] S) Φ = Φ (.tup xs) S := wp_d
theorem wp_append (e : S[l]? = some (.lst xs)) : Wp (bmW .append (.loc l) [y] S) Φ = (xs.length < sizeLine ∧ Φ .non (S.set l (.lst (xs ++ [y])))) := by
  show Wp ((getM l >>= fun ys => if ys.length < sizeLine then (setOb l (.lst (ys ++ [y])) >>= fun _ => pure .non) else Fb.fail) S) Φ = _
  rw [wp_bind, wp_getM e, wp_guard, wp_bind, wp_setOb, wp_pure]
theorem wp_extend {m : Nat} (e : S[l]? = some (.lst xs)) (e2 : S[m]? = some (.lst ys)) : Wp (bmW .extend (.loc l) [.loc m] S) Φ = (xs.length + ys.length ≤ sizeLine ∧ Φ .non (S.set l (.lst (xs ++ ys)))) := by
  show Wp ((getM l >>= fun xs => getM m >>= fun ys => if xs.length + ys.length ≤ sizeLine then (setOb l (.lst (xs ++ ys)) >>= fun _ => pure .non) else Fb.fail) S) Φ = _
  rw [wp_bind, wp_getM e, wp_bind, wp_getM e2, wp_guard, wp_bind, wp_setOb, wp_pure]
theorem wp_isLst (e : S[l]? = some (.lst xs)) {Φ : Unit → Sto → Prop} : Wp (isLst (.loc l) S) Φ = Φ () S := by
  show Wp ((getM l >>= fun _ => pure ()) S) Φ = _
  rw [wp_bind, wp_getM e]
  exact wp_d
theorem wp_setL {Φ : Unit → Sto → Prop} {k : Nat} (e : S[l]? = some (.lst xs)) (hk : ixN xs.length i = some k) : Wp (setItemW (.loc l) (.int i) y S) Φ = Φ () (S.set l (.lst (xs.set k y))) := by
  show Wp ((isDic l >>= fun d => if d = true then _ else setL l (.int i) y) S) Φ = _
  rw [wp_bind, wp_isDicL (getL_of e)]
  show Wp ((getM l >>= fun xs => match ixN xs.length i with | some j => setOb l (.lst (xs.set j y)) | _ => Fb.fail) S) Φ = _
  rw [wp_bind, wp_getM e, hk]
  exact wp_d
theorem wp_addG {m : Nat} (e : getL S l = some xs) (e2 : getL S m = some ys) : Wp (binW .add (.loc l) (.loc m) S) Φ = (xs.length + ys.length ≤ sizeLine ∧ Φ (.loc S.length) (S ++ [.lst (xs ++ ys)])) := by
  show Wp ((getLM l >>= fun xs => getLM m >>= fun ys => if xs.length + ys.length ≤ sizeLine then new (.lst (xs ++ ys)) else Fb.fail) S) Φ = _
  rw [wp_bind, wp_getLM e, wp_bind, wp_getLM e2, wp_guard, wp_new]
theorem wp_addL {m : Nat} (e : S[l]? = some (.lst xs)) (e2 : S[m]? = some (.lst ys)) : Wp (binW .add (.loc l) (.loc m) S) Φ = (xs.length + ys.length ≤ sizeLine ∧ Φ (.loc S.length) (S ++ [.lst (xs ++ ys)])) := wp_addG (getL_of e) (getL_of e2)
theorem wp_mulL {k : Int} (e : S[l]? = some (.lst xs)) : Wp (binW .mul (.loc l) (.int k) S) Φ = ((-(2 ^ 63) ≤ k ∧ k < 2 ^ 63 ∧ xs.length * k.toNat ≤ sizeLine) ∧ Φ (.loc S.length) (S ++ [.lst (List.replicate k.toNat xs).flatten])) := by
  show Wp ((getM l >>= fun a => if -(2 ^ 63) ≤ k ∧ k < 2 ^ 63 ∧ a.length * k.toNat ≤ sizeLine then new (.lst (List.replicate k.toNat a).flatten) else Fb.fail) S) Φ = _
  rw [wp_bind, wp_getM e, wp_guard, wp_new]
theorem wp_itemsT {Φ : List W → Sto → Prop} : Wp (itemsOf (.tup xs) S) Φ = Φ xs S := wp_d
theorem wp_itemsL {Φ : List W → Sto → Prop} (e : getL S l = some xs) : Wp (itemsOf (.loc l) S) Φ = Φ xs S := wp_getLM e
theorem wp_srcT {Φ : Src → Sto → Prop} : Wp (srcOf (.tup xs) S) Φ = Φ (.its xs) S := wp_d
theorem wp_srcL {Φ : Src → Sto → Prop} (e : getL S l = some xs) : Wp (srcOf (.loc l) S) Φ = Φ (.lst l) S := by
  show Wp ((getLM l >>= fun _ => pure (Src.lst l)) S) Φ = _
  rw [wp_bind, wp_getLM e]
  exact wp_d
theorem wp_enm {Φ : Src → Sto → Prop} (e : getL S l = some xs) : Wp (enmM (.loc l) S) Φ = Φ (.enm (.lst l)) S := by
  show Wp ((getLM l >>= fun _ => pure (Src.enm (.lst l))) S) Φ = _
  rw [wp_bind, wp_getLM e]
  exact wp_d
theorem wp_zip {Φ : Src → Sto → Prop} {m : Nat} (e : getL S l = some xs) (e2 : getL S m = some ys) : Wp (zipM (.loc l) (.loc m) S) Φ = Φ (.zip (.lst l) (.lst m)) S := by
  show Wp ((getLM l >>= fun _ => getLM m >>= fun _ => pure (Src.zip (.lst l) (.lst m))) S) Φ = _
  rw [wp_bind, wp_getLM e, wp_bind, wp_getLM e2]
  exact wp_d
theorem wp_rng {Φ : Src → Sto → Prop} : Wp (rngM (.int i) (.int j) S) Φ = ((-(2 ^ 200) ≤ i ∧ i < 2 ^ 200 ∧ -(2 ^ 200) ≤ j ∧ j < 2 ^ 200) ∧ Φ (.its (rngW i (j - i).toNat)) S) := wp_guard1
theorem wp_lrg : Wp (lrgW (.int i) (.int j) S) Φ = ((-(2 ^ 62) ≤ i ∧ i < 2 ^ 62 ∧ -(2 ^ 62) ≤ j ∧ j < 2 ^ 62 ∧ (j - i).toNat ≤ sizeLine) ∧ Φ (.loc S.length) (S ++ [.lst (rngW i (j - i).toNat)])) := by
  refine Eq.trans (wp_guard (m := new (.lst (rngW i (j - i).toNat)))) ?_
  rw [wp_new]
theorem len_lst (e : getL S l = some xs) : (Src.lst l).len S = xs.length := by
  show ((getL S l).getD []).length = _
  rw [e]
  rfl
theorem len_its : (Src.its xs).len S = xs.length := rfl
theorem at_lst (e : getL S l = some xs) (k : Nat) : (Src.lst l).at S k = some xs[k]? := by
  show (getL S l).map _ = _
  rw [e]
  rfl
theorem at_its (k : Nat) : (Src.its xs).at S k = some xs[k]? := rfl
theorem wp_enmT {xs : List W} {S : Sto} {Φ : Src → Sto → Prop} : Wp (enmM (.tup xs) S) Φ = Φ (.enm (.its xs)) S := wp_d
def enmW (xs : List W) : List W := xs.mapIdx fun i x => .tup [.int (i : Nat), x]
def zipW (xs ys : List W) : List W := (xs.zip ys).map fun p => .tup [p.1, p.2]
theorem at_enm (e : getL S l = some xs) (k : Nat) : (Src.enm (.lst l)).at S k = some (enmW xs)[k]? := by
  show ((Src.lst l).at S k).map _ = _
  rw [at_lst e, enmW, List.getElem?_mapIdx]
  rfl
theorem at_enmT {xs : List W} {S : Sto} (k : Nat) : (Src.enm (.its xs)).at S k = some (enmW xs)[k]? := by
  show ((Src.its xs).at S k).map (·.map fun x => W.tup [.int k, x]) = _
  rw [show (Src.its xs).at S k = some xs[k]? from rfl, enmW, List.getElem?_mapIdx]
  rfl
theorem len_enmT {xs : List W} {S : Sto} : (Src.enm (.its xs)).len S = (enmW xs).length := by
  rw [enmW, List.length_mapIdx]
  rfl
theorem len_enm (e : getL S l = some xs) : (Src.enm (.lst l)).len S = (enmW xs).length := by
  rw [enmW, List.length_mapIdx]
  exact len_lst e
theorem at_zip {m : Nat} (e : getL S l = some xs) (e2 : getL S m = some ys) (k : Nat) : (Src.zip (.lst l) (.lst m)).at S k = some (zipW xs ys)[k]? := by
  show (match (Src.lst l).at S k, (Src.lst m).at S k with
    | some (some x), some (some y) => some (some (W.tup [x, y]))
    | some none, some _ => some none
    | some (some _), some none => some none
    | _, _ => none) = _
  rw [at_lst e, at_lst e2, zipW, List.getElem?_map, List.zip, List.getElem?_zipWith]
  cases xs[k]? <;> cases ys[k]? <;> rfl
theorem len_zip {m : Nat} (e : getL S l = some xs) (e2 : getL S m = some ys) : (Src.zip (.lst l) (.lst m)).len S = (zipW xs ys).length := by
  show min ((Src.lst l).len S) ((Src.lst m).len S) = _
  rw [len_lst e, len_lst e2, zipW, List.length_map, List.length_zip]
theorem rngW_eq : ∀ (n : Nat) (lo : Int), rngW lo n = (List.range n).map fun k : Nat => W.int (lo + k)
  | 0, _ => rfl
  | n + 1, lo => by
    rw [rngW, rngW_eq n, List.range_succ_eq_map, List.map_cons, List.map_map]
    congr 1
    · simp
    · refine List.map_congr_left fun k _ => ?_
      show W.int _ = W.int _
      congr 1
      simp
      omega
theorem rngW_at {k : Nat} {lo : Int} {x : W} (h : (rngW lo n)[k]? = some x) : k < n ∧ x = .int (lo + k) := by
  rw [rngW_eq, List.getElem?_map] at h
  obtain ⟨z, hz, rfl⟩ := Option.map_eq_some_iff.mp h
  obtain ⟨h1, h2⟩ := List.getElem?_eq_some_iff.mp hz
  rw [List.length_range] at h1
  rw [List.getElem_range] at h2
  subst h2
  exact ⟨h1, rfl⟩
theorem rngW_length {lo : Int} : (rngW lo n).length = n := by rw [rngW_eq, List.length_map, List.length_range]
end
/-! ### loops -/
section
variable {S : Sto}
theorem for_any {src : Src} {xs : List W} {f : W → En → M (Option W × En)} (I : Nat → En → Sto → Prop) {Φ : Option W × En → Sto → Prop} (keep : ∀ i env S, I i env S → src.at S i = some xs[i]?)
    (step : ∀ i x env S, xs[i]? = some x → I i env S → Wp (f x env S) fun r S1 => match r.1 with
      | some w => Φ (some w, r.2) S1
      | none => I (i + 1) r.2 S1)
    (last : ∀ env S, I xs.length env S → Φ (none, env) S) : ∀ (n i : Nat) (env : En) (S : Sto), i + n = xs.length → I i env S → Wp (forL src f (n + 1) i env S) Φ
  | 0, i, env, S, e, h => by
    have q : xs[i]? = none := List.getElem?_eq_none_iff.mpr (by omega)
    unfold forL
    show Wp (match src.at S i with | none => _ | some none => _ | some (some x) => _) Φ
    rw [keep i env S h, q]
    have e' : i = xs.length := by omega
    subst e'
    exact ⟨last env S h⟩
  | n + 1, i, env, S, e, h => by
    have hl : i < xs.length := by omega
    unfold forL
    show Wp (match src.at S i with | none => _ | some none => _ | some (some x) => _) Φ
    rw [keep i env S h, List.getElem?_eq_getElem hl]
    show Wp ((f xs[i] env >>= fun r => match r.1 with
      | some w => M.pure (some w, r.2)
      | none => forL src f (n + 1) (i + 1) r.2) S) Φ
    rw [wp_bind]
    refine (step i _ env S (List.getElem?_eq_getElem hl) h).mono fun r S1 hr => ?_
    obtain ⟨o, env1⟩ := r
    cases o with
    | some w => exact ⟨hr⟩
    | none => exact for_any I keep step last n (i + 1) env1 S1 (by omega) hr
theorem wp_for {src : Src} {xs : List W} {f : W → En → M (Option W × En)} {n : Nat} {env : En} {Φ : Option W × En → Sto → Prop} (I : Nat → En → Sto → Prop) (hn : n = xs.length) (h0 : I 0 env S) (keep : ∀ i env S, I i env S → src.at S i = some xs[i]?)
    (step : ∀ i x env S, xs[i]? = some x → I i env S → Wp (f x env S) fun r S1 => match r.1 with
      | some w => Φ (some w, r.2) S1
      | none => I (i + 1) r.2 S1)
    (last : ∀ env S, I xs.length env S → Φ (none, env) S) : Wp (forL src f (n + 1) 0 env S) Φ := for_any I keep step last n 0 env S (by omega) h0
/-- a comprehension, any -/
theorem comp_any {src : Src} {xs : List W} {f : W → M (Option W)} {d : Nat} (I : Nat → List W → Sto → Prop) {Φ : Unit → Sto → Prop} (hz : xs.length ≤ sizeLine) (keep : ∀ i ys S, I i ys S → src.at S i = some xs[i]? ∧ S[d]? = some (.lst ys) ∧ ys.length ≤ i)
    (step : ∀ i x ys S, xs[i]? = some x → I i ys S → Wp (f x S) fun r S1 => match r with
      | none => I (i + 1) ys S1
      | some y => S1[d]? = some (.lst ys) ∧ I (i + 1) (ys ++ [y]) (S1.set d (.lst (ys ++ [y]))))
    (last : ∀ ys S, I xs.length ys S → Φ () S) : ∀ (n i : Nat) (ys : List W) (S : Sto), i + n = xs.length → I i ys S → Wp (compL src f d (n + 1) i S) Φ
  | 0, i, ys, S, e, h => by
    have q : xs[i]? = none := List.getElem?_eq_none_iff.mpr (by omega)
    unfold compL
    show Wp (match src.at S i with | none => _ | some none => _ | some (some x) => _) Φ
    rw [(keep i ys S h).1, q]
    have e' : i = xs.length := by omega
    subst e'
    exact ⟨last ys S h⟩
  | n + 1, i, ys, S, e, h => by
    have hl : i < xs.length := by omega
    unfold compL
    show Wp (match src.at S i with | none => _ | some none => _ | some (some x) => _) Φ
    rw [(keep i ys S h).1, List.getElem?_eq_getElem hl]
    show Wp ((f xs[i] >>= fun r => match r with
      | none => compL src f d (n + 1) (i + 1)
      | some y => M.bind (getM d) fun xs => if xs.length < sizeLine then M.bind (setOb d (.lst (xs ++ [y]))) fun _ => compL src f d (n + 1) (i + 1) else fail) S) Φ
    rw [wp_bind]
    refine (step i _ ys S (List.getElem?_eq_getElem hl) h).mono fun r S1 hr => ?_
    cases r with
    | none => exact comp_any I hz keep step last n (i + 1) ys S1 (by omega) hr
    | some y =>
      obtain ⟨e1, hr⟩ := hr
      show Wp ((getM d >>= fun xs => if xs.length < sizeLine then (setOb d (.lst (xs ++ [y])) >>= fun _ => compL src f d (n + 1) (i + 1)) else fail) S1) Φ
      rw [wp_bind, wp_getM e1, wp_guard, wp_bind, wp_setOb]
      have := (keep i ys S h).2.2
      exact ⟨by omega, comp_any I hz keep step last n (i + 1) (ys ++ [y]) _ (by omega) hr⟩
theorem wp_noEx {α : Type} {m : M α} {Φ : α → Sto → Prop} : Wp (noEx m S) Φ = Wp (m S) Φ := by
  unfold noEx
  cases m S with
  | ok a S1 => rfl
  | ex _ _ _ => rw [wp_exc]; exact wp_no
  | no => rfl
/-- a comprehension whose items come one by one, the store growing -/
theorem wp_comp {src : Src} {xs : List W} {f : W → M (Option W)} {n : Nat} {g : W → Option W} {Φ : Unit → Sto → Prop} (hn : n = xs.length) (hz : xs.length ≤ sizeLine) (keep : ∀ i S1, S <+: S1 → src.at S1 i = some xs[i]?)
    (step : ∀ (i : Nat) x S1, xs[i]? = some x → S <+: S1 → Wp (f x S1) fun r S2 => r = g x ∧ S1 <+: S2)
    (last : ∀ S1, S <+: S1 → S1[S.length]? = some (.lst (xs.filterMap g)) → Φ () S1) : Wp (compL src f S.length (n + 1) 0 (S ++ [.lst []])) Φ := by
  refine comp_any (xs := xs) (fun i ys S1 => S <+: S1 ∧ S1[S.length]? = some (.lst ys) ∧ ys = (xs.take i).filterMap g) hz (fun i ys S1 h => ⟨keep i S1 h.1, h.2.1, ?_⟩) (fun i x ys S1 hx h => ?_) (fun ys S1 h => ?_) n 0 [] _ (by omega) ⟨pre_new1, by rw [List.getElem?_append_right (Nat.le_refl _), Nat.sub_self]; rfl, rfl⟩
  · rw [h.2.2]
    have := List.length_filterMap_le g (xs.take i)
    rw [List.length_take] at this
    omega
  · obtain ⟨h1, h2, h3⟩ := h
    refine (step i x S1 hx h1).mono fun r S2 ⟨e, p⟩ => ?_
    have et : (xs.take (i + 1)).filterMap g = ys ++ (match g x with | some y => [y] | none => []) := by
      rw [List.take_add_one, hx, List.filterMap_append, ← h3]
      congr 1
      show List.filterMap g [x] = _
      rw [List.filterMap_cons]
      cases g x <;> rfl
    subst e
    have h2' := pre_ob p h2
    cases q : g x with
    | none =>
      refine ⟨h1.trans p, h2', ?_⟩
      rw [et, q, List.append_nil]
    | some y =>
      refine ⟨h2', pre_set (h1.trans p) (Nat.le_refl _), get_set_eq (pre_lt h2'), ?_⟩
      rw [et, q]
  · obtain ⟨h1, h2, h3⟩ := h
    rw [List.take_length] at h3
    rw [h3] at h2
    exact last S1 h1 h2
end
/-! ### dicts, fields -/
section
variable {S : Sto} {l : Nat} {kvs : List (W × W)} {b : Bool} {x y : W}
theorem wp_inD {Φ : W → Sto → Prop} (e : S[l]? = some (.dic b kvs)) (k : isKey b x = true) : Wp (cmpW .isin x (.loc l) S) Φ = Φ (.bl (dfind kvs x).isSome) S := by
  show Wp ((inW x (.loc l) >>= fun r => pure (W.bl r)) S) Φ = _
  rw [wp_bind]
  show Wp ((isDic l >>= fun d => if d = true then (dgetW l x >>= fun r => pure r.isSome) else inSeq x (.loc l)) S) _ = _
  rw [wp_bind, wp_isDicD e, if_pos rfl, wp_bind]
  show Wp (match dicAt S l with | some (b, kvs) => if isKey b x = true then Res.ok (dfind kvs x) S else .no | none => .no) _ = _
  rw [dicAt_of e]
  dsimp only
  rw [if_pos k, wp_ok, wp_pure, wp_pure]
theorem wp_ixD {Φ : W → Sto → Prop} (e : S[l]? = some (.dic b kvs)) (k : isKey b x = true) : Wp (ixW (.loc l) x S) Φ = ∃ v, dfind kvs x = some v ∧ Φ v S := by
  show Wp ((isDic l >>= fun d => if d = true then (dgetW l x >>= fun r => ofO r) else ixL l x) S) _ = _
  rw [wp_bind, wp_isDicD e, if_pos rfl, wp_bind]
  show Wp (match dicAt S l with | some (b, kvs) => if isKey b x = true then Res.ok (dfind kvs x) S else .no | none => .no) _ = _
  rw [dicAt_of e]
  dsimp only
  rw [if_pos k, wp_ok]
  exact wp_ofO
theorem wp_putD {Φ : Unit → Sto → Prop} (e : S[l]? = some (.dic b kvs)) (k : isKey b x = true) (hz : kvs.length < sizeLine) : Wp (setItemW (.loc l) x y S) Φ = Φ () (S.set l (.dic b (dput kvs x y))) := by
  show Wp ((isDic l >>= fun d => if d = true then dputW l x y else setL l x y) S) Φ = _
  rw [wp_bind, wp_isDicD e, if_pos rfl]
  show Wp (match dicAt S l with | some (b, kvs) => if isKey b x = true ∧ kvs.length < sizeLine then Res.ok () (S.set l (.dic b (dput kvs x y))) else .no | none => .no) _ = _
  rw [dicAt_of e]
  dsimp only
  rw [if_pos ⟨k, hz⟩]
  exact wp_d
theorem wp_fld {Φ : W → Sto → Prop} {c : Nat} {fs : List (Str × W)} {f : Str} {v : W} (e : S[l]? = some (.ins c fs)) (h : fs.lookup f = some v) : Wp (fldW (.loc l) c f S) Φ = Φ v S := by
  show Wp ((getOb l >>= fun o => match o with | .ins d fs => if d = c then ofO (fs.lookup f) else fail | _ => fail) S) Φ = _
  rw [wp_bind, wp_getOb e]
  dsimp only
  rw [if_pos rfl, h]
  exact wp_d
theorem wp_setFld {Φ : Unit → Sto → Prop} {c : Nat} {fs : List (Str × W)} {f : Str} {v : W} (e : S[l]? = some (.ins c fs)) (h : fs.length < 1000) : Wp (setFldW (.loc l) c f v S) Φ = Φ () (S.set l (.ins c (putFW f v fs))) := by
  show Wp ((getOb l >>= fun o => match o with | .ins d fs => if d = c ∧ fs.length < 1000 then setOb l (.ins d (putFW f v fs)) else fail | _ => fail) S) Φ = _
  rw [wp_bind, wp_getOb e]
  dsimp only
  rw [if_pos ⟨rfl, h⟩]
  exact wp_d
end
end Fb
set_option Elab.async false
set_option linter.all false
set_option maxRecDepth 100000
set_option maxHeartbeats 2000000
/-! Specs: the words. -/
namespace Fb
open PySem L2
noncomputable abbrev GG (n : Nat) : Ct := Gn gv ds n
theorem g_fn {n i : Nat} {D : DI} (h : ds[i]? = some D) : (GG (n + 1)).fn i = runDf (GG n) D.df := by
  show (match ds[i]? with | some D => runDf (Gn gv ds n) D.df | none => fun _ => fail) = _
  rw [h]
theorem wp_run {G : Ct} {d : Df} {vs : List W} {S : Sto} {Φ : W → Sto → Prop} (h : vs.length = d.np) : Wp (runDf G d vs S) Φ = Wp (exs G d.body (vs.map some ++ List.replicate (d.ns - d.np) none) S) fun r S1 => Φ (r.1.getD .non) S1 := by
  unfold runDf
  rw [if_pos h, wp_bind]
  simp only [wp_pure]
theorem noEx_bind_wp {α β : Type} {m : M α} {f : α → M β} {S : Sto} {Φ : β → Sto → Prop} : Wp ((noEx m >>= f) S) Φ = Wp ((m >>= f) S) Φ := by
  rw [wp_bind, wp_bind, wp_noEx]
theorem wp_evX {G : Ct} {e : E} {env : En} {S : Sto} {Φ : W → Sto → Prop} : Wp (evX G e env S) Φ = Wp (ev G e env S) Φ := by
  cases e with
  | meth a c m f es =>
    show Wp ((noEx (ev G a env) >>= fun x => _) S) Φ = Wp ((ev G a env >>= fun x => _) S) Φ
    rw [wp_bind, wp_bind, wp_noEx]
    congr 1
    funext x S1
    cases x with
    | loc n =>
      show Wp ((getOb n >>= fun o => _) S1) Φ = Wp ((getOb n >>= fun o => _) S1) Φ
      rw [wp_bind, wp_bind]
      congr 1
      funext o S2
      cases o with
      | ins d fs =>
        show Wp ((if d = c ∧ fs.lookup m = none then (noEx (evs G es env) >>= fun vs => _) else Fb.fail) S2) Φ = Wp ((if d = c ∧ fs.lookup m = none then (evs G es env >>= fun vs => _) else Fb.fail) S2) Φ
        by_cases h : d = c ∧ fs.lookup m = none
        · rw [if_pos h, if_pos h, wp_bind, wp_bind, wp_noEx]
        · rw [if_neg h, if_neg h]
      | _ => rfl
    | _ => rfl
  | _ => first
    | exact wp_noEx
    | (simp only [evX, ev, wp_bind, wp_noEx]; done)
theorem sz0 : (0 ≤ sizeLine) = True := eq_true (Nat.zero_le _)
theorem sz1 : (1 ≤ sizeLine) = True := eq_true (by rw [sizeLine_eq]; decide)
theorem sz2 : (2 ≤ sizeLine) = True := eq_true (by rw [sizeLine_eq]; decide)
theorem sz3 : (3 ≤ sizeLine) = True := eq_true (by rw [sizeLine_eq]; decide)
theorem sz5 : (5 ≤ sizeLine) = True := eq_true (by rw [sizeLine_eq]; decide)
theorem set_last {S : Sto} {x y : Ob} : (S ++ [x]).set S.length y = S ++ [y] := by
  rw [List.set_append_right _ _ (Nat.le_refl _), Nat.sub_self]
  rfl
theorem get_last {S : Sto} {x : Ob} : (S ++ [x])[S.length]? = some x := by
  rw [List.getElem?_append_right (Nat.le_refl _), Nat.sub_self]
  rfl
theorem len_app {S : Sto} {x : Ob} : (S ++ [x]).length = S.length + 1 := by rw [List.length_append]; rfl
theorem wp_boundI {i : Int} {S : Sto} {Φ : Option Int → Sto → Prop} : Wp (boundW (.int i) S) Φ = Φ (some i) S := wp_d
def isNon : W → Bool | .non => true | _ => false
section
variable {S : Sto} {x : W} {xs : List W} {k : Int} {l : Nat} {Φ : W → Sto → Prop}
theorem wp_isN : Wp (cmpW .isN x .non S) Φ = Φ (.bl (isNon x)) S := by cases x <;> exact wp_d
theorem wp_notN : Wp (cmpW .notN x .non S) Φ = Φ (.bl (!isNon x)) S := by cases x <;> exact wp_d
theorem wp_mulT : Wp (binW .mul (.tup xs) (.int k) S) Φ = ((xs ≠ [] ∧ (k = 1 ∨ (2 ≤ k ∧ k < 2 ^ 60 ∧ xs.length * k.toNat ≤ 16777216))) ∧ Φ (.tup (List.replicate k.toNat xs).flatten) S) := wp_guard1
theorem wp_ixLW (e : getL S l = some xs) : Wp (ixLW (.loc l) (.int k) S) Φ = ∃ x, atI xs k = some x ∧ Φ x S := by
  show Wp ((getLM l >>= fun ys => ofO (atI ys k)) S) Φ = _
  rw [wp_bind, wp_getLM e, wp_ofO]
end
theorem atI_nat {α : Type} {xs : List α} {k : Nat} : atI xs (k : Int) = xs[k]? := by
  unfold atI ixN
  rw [if_pos (Int.natCast_nonneg k)]
  by_cases h : k < xs.length
  · rw [if_pos (by omega)]
    simp
  · rw [if_neg (by omega), List.getElem?_eq_none_iff.mpr (by omega)]
    rfl
theorem atI_0 {α : Type} {xs : List α} : atI xs 0 = xs[0]? := atI_nat (k := 0)
theorem atI_1 {α : Type} {xs : List α} : atI xs 1 = xs[1]? := atI_nat (k := 1)
theorem atI_2 {α : Type} {xs : List α} : atI xs 2 = xs[2]? := atI_nat (k := 2)
theorem atI_3 {α : Type} {xs : List α} : atI xs 3 = xs[3]? := atI_nat (k := 3)
theorem atI_4 {α : Type} {xs : List α} : atI xs 4 = xs[4]? := atI_nat (k := 4)
theorem atI_m1 {α : Type} {xs : List α} (h : xs ≠ []) : atI xs (-1) = xs[xs.length - 1]? := by
  have hl : 0 < xs.length := List.length_pos_iff.mpr h
  unfold atI ixN
  rw [if_neg (by omega), if_pos (by omega)]
  show xs[(-1 + (xs.length : Int)).toNat]? = _
  congr 1
  omega
theorem ixN_nat {n k : Nat} (h : k < n) : ixN n (k : Int) = some k := by
  unfold ixN
  rw [if_pos (Int.natCast_nonneg k), if_pos (by omega), Int.toNat_natCast]
theorem cut_from {α : Type} {xs : List α} {k : Nat} : cut xs (some (k : Int)) none = xs.drop k := by
  unfold cut
  rw [HT.sIx_nat, HT.sIx_none]
  rcases Nat.le_total k xs.length with h | h
  · rw [Nat.min_eq_left h, List.take_of_length_le (by rw [List.length_drop]; exact Nat.le_refl _)]
  · rw [Nat.min_eq_right h, List.drop_of_length_le h, List.drop_of_length_le (Nat.le_refl _), List.take_nil]
theorem cut_to {α : Type} {xs : List α} {k : Nat} : cut xs none (some (k : Int)) = xs.take k := by
  unfold cut
  rw [HT.sIx_nat, HT.sIx_none, List.drop_zero, Nat.sub_zero]
  rcases Nat.le_total k xs.length with h | h
  · rw [Nat.min_eq_left h]
  · rw [Nat.min_eq_right h, List.take_of_length_le (Nat.le_refl _), List.take_of_length_le h]
theorem cut_1 {α : Type} {xs : List α} : cut xs (some 1) none = xs.drop 1 := cut_from (k := 1)
theorem cut_to2 {α : Type} {xs : List α} : cut xs none (some 2) = xs.take 2 := cut_to (k := 2)
/-! words for what is told -/
abbrev wI (l : List Nat) : List W := l.map fun i : Nat => W.int (i : Int)
def pI (p : Nat × Nat) : W := .tup [.int (p.1 : Nat), .int (p.2 : Nat)]
def wW (w : Wt) : W := .tup [.tup (w.later.map pI), .tup (wI w.rims)]
def cW (c : Col) : W := .tup [.int (c.a : Nat), .int (c.t : Nat), .int (c.na : Nat), .int (c.nt : Nat), .int (c.g : Nat)]
theorem shr_nat (a k : Nat) : (a : Int) / 2 ^ (k : Int).toNat = ((a / 2 ^ k : Nat) : Int) := by
  rw [Int.toNat_natCast]
  simp
theorem bit_nat (a k : Nat) : Builtin.bitAnd ((a / 2 ^ k : Nat) : Int) 1 = if a.testBit k = true then 1 else 0 := by
  rw [show (1 : Int) = ((1 : Nat) : Int) from rfl, band_nat, Nat.and_one_is_mod, Nat.testBit_eq_decide_div_mod_eq]
  by_cases h : a / 2 ^ k % 2 = 1
  · rw [h]; simp
  · have : a / 2 ^ k % 2 = 0 := by omega
    rw [this]; simp
theorem shl_nat (k : Nat) : (1 : Int) * 2 ^ (k : Int).toNat = ((2 ^ k : Nat) : Int) := by
  rw [Int.toNat_natCast]
  simp
end Fb
set_option Elab.async false
set_option linter.all false
set_option maxRecDepth 100000
set_option maxHeartbeats 2000000
/-! The constants of systems are not there: names alone. -/
namespace Fb
open PySem L2
abbrev g_REACH : Nat := 100000
theorem gl_REACH {n : Nat} : (GG n).gl g_REACH = .int 0 := by cases n <;> rfl
abbrev g_SETTLED : Nat := 100001
theorem gl_SETTLED {n : Nat} : (GG n).gl g_SETTLED = .int 0 := by cases n <;> rfl
abbrev g_MOST_ROUND : Nat := 100002
theorem gl_MOST_ROUND {n : Nat} : (GG n).gl g_MOST_ROUND = .int 0 := by cases n <;> rfl
abbrev g_MOST_ZONES : Nat := 100003
theorem gl_MOST_ZONES {n : Nat} : (GG n).gl g_MOST_ZONES = .int 0 := by cases n <;> rfl
abbrev g_MOST_BORDERS : Nat := 100004
theorem gl_MOST_BORDERS {n : Nat} : (GG n).gl g_MOST_BORDERS = .int 0 := by cases n <;> rfl
abbrev g_MOST_INNER : Nat := 100005
theorem gl_MOST_INNER {n : Nat} : (GG n).gl g_MOST_INNER = .int 0 := by cases n <;> rfl
abbrev g_MOST_LISTED : Nat := 100006
theorem gl_MOST_LISTED {n : Nat} : (GG n).gl g_MOST_LISTED = .int 0 := by cases n <;> rfl
end Fb
set_option Elab.async false
set_option linter.all false
set_option maxRecDepth 100000
set_option maxHeartbeats 8000000
/-! Law k42: errors made. -/
namespace Fb
open PySem L2
theorem big_r {i j : Int} (h : j.natAbs < 2 ^ 64) : mulOk i j = true := by
  unfold mulOk
  rw [show decide (j.natAbs < 2 ^ 64) = true from decide_eq_true h]
  simp
theorem big_l {i j : Int} (h : i.natAbs < 2 ^ 64) : mulOk i j = true := by
  unfold mulOk
  rw [show decide (i.natAbs < 2 ^ 64) = true from decide_eq_true h]
  simp
theorem lt_bigS {x : Nat} (h : x < 2 ^ 1000) : x < big := Nat.lt_of_lt_of_le h (Nat.pow_le_pow_right (by omega) (by omega))
theorem wp_intS {S : Sto} {i : Int} {Φ : W → Sto → Prop} : Wp (bltW .int [.int i] S) Φ = Φ (.int i) S := wp_d
theorem mod_ltS (a : Int) {b : Nat} (h : 0 < b) : ∃ r : Nat, a % (b : Int) = (r : Int) ∧ r < b := by
  have h1 := Int.emod_nonneg a (show ((b : Nat) : Int) ≠ 0 by omega)
  have h2 := Int.emod_lt_of_pos a (show (0 : Int) < (b : Nat) by omega)
  exact ⟨(a % (b : Int)).toNat, by omega, by omega⟩
theorem p15 : ((10 : Int) ^ (15 : Int).toNat) = 1000000000000000 := by decide
theorem p18 : ((10 : Int) ^ (18 : Int).toNat) = 1000000000000000000 := by decide
theorem p60 : ((10 : Int) ^ (60 : Int).toNat) = 1000000000000000000000000000000000000000000000000000000000000 := by decide +kernel
/-- a bag stands at l -/
def BagAt (S : Sto) (l : Nat) : Prop := ∃ x y z : Int, S[l]? = some (.lst [.int x, .int y, .int z])
theorem BagAt.mono {S S' : Sto} {l : Nat} (h : BagAt S l) (p : S <+: S') : BagAt S' l := by
  obtain ⟨x, y, z, e⟩ := h
  exact ⟨x, y, z, pre_ob p e⟩
theorem sp_law_bag {n : Nat} {c : Int} {S : Sto} {Φ : W → Sto → Prop} (q : ∀ S1 l, BagAt S1 l → Φ (.loc l) S1) : Wp ((GG (n + 1)).fn f__law_bag [.int c] S) Φ := by
  rw [g_fn at__law_bag, wp_run rfl]
  simp only [D__law_bag, b__law_bag, List.map_cons, List.map_nil, List.replicate, List.cons_append, List.nil_append, Nat.reduceSub]
  simp only [atI_0, atI_1, atI_2, atI_3, atI_4, Option.some.injEq, exists_eq_left', wp_bind, exs, ex, wp_evX, ev, evs, evT, evTs, evI, evB, asg, asgs, wp_pure, wp_ofSome, wp_ifB, wp_new, wp_guard, wp_srcLen, wp_noEx, List.getElem?_cons_zero, List.getElem?_cons_succ, Option.join_some, List.length_cons, List.length_nil, Nat.reduceAdd, Nat.reduceLT, Nat.reduceLeDiff, Nat.reduceSub, ↓reduceIte, List.set_cons_succ, List.set_cons_zero, wipeE, sz0, sz1, sz2, sz3, sz5, true_and, and_true, Option.getD_some, Option.getD_none, wp_add, wp_sub, wp_mul, wp_fdiv, wp_mod, wp_pow, wp_shl, wp_shr, wp_band, wp_bor, wp_aug, wp_neg, wp_inv, wp_lt, wp_le, wp_gt, wp_ge, wp_eq, wp_ne, wp_addT, wp_ixT, wp_slT, wp_max, wp_min, wp_int, wp_dm, wp_lenT, wp_tr, wp_trI, wp_boundI, wp_listT, wp_tupT, wp_srcT, wp_rng, wp_lrg, wp_mulT, wp_isN, wp_notN, len_its, decide_eq_true_eq, beq_iff_eq, beq_eq_false_iff_ne, ne_eq, ite_not, Bool.not_eq_true', gl_REACH, gl_SETTLED, gl_MOST_ROUND, gl_MOST_ZONES, gl_MOST_BORDERS, gl_MOST_INNER, gl_MOST_LISTED, Bool.not_eq_true, List.append_nil, wp_itemsT]
  exact ⟨⟨by omega, .inl ⟨by omega, by decide⟩⟩, q _ _ ⟨_, _, _, get_last⟩⟩
theorem sp_law_pick {n l many : Nat} {S : Sto} {Φ : W → Sto → Prop} (B : BagAt S l) (m0 : 0 < many) (m1 : many < 2 ^ 900) (q : ∀ (r : Nat) S1, r < many → BagAt S1 l → Φ (.int (r : Nat)) S1) :
    Wp ((GG (n + 1)).fn f__law_pick [.loc l, .int (many : Nat)] S) Φ := by
  obtain ⟨x, y, z, e⟩ := B
  have hl := pre_lt e
  have bg : ((many : Nat) : Int).natAbs < big := lt_bigS (by rw [Int.natAbs_natCast]; exact Nat.lt_of_lt_of_le m1 (Nat.pow_le_pow_right (by omega) (by omega)))
  have ix0 : ixN 3 0 = some 0 := rfl
  have ix2 : ixN 3 2 = some 2 := rfl
  rw [g_fn at__law_pick, wp_run rfl]
  simp only [D__law_pick, b__law_pick, List.map_cons, List.map_nil, List.replicate, List.cons_append, List.nil_append, Nat.reduceSub]
  simp only [atI_0, atI_1, atI_2, atI_3, atI_4, Option.some.injEq, exists_eq_left', wp_bind, exs, ex, wp_evX, ev, evs, evT, evTs, evI, evB, asg, asgs, wp_pure, wp_ofSome, wp_ifB, wp_new, wp_guard, wp_srcLen, wp_noEx, List.getElem?_cons_zero, List.getElem?_cons_succ, Option.join_some, List.length_cons, List.length_nil, Nat.reduceAdd, Nat.reduceLT, Nat.reduceLeDiff, Nat.reduceSub, ↓reduceIte, List.set_cons_succ, List.set_cons_zero, wipeE, sz0, sz1, sz2, sz3, sz5, true_and, and_true, Option.getD_some, Option.getD_none, wp_add, wp_sub, wp_mul, wp_fdiv, wp_mod, wp_pow, wp_shl, wp_shr, wp_band, wp_bor, wp_aug, wp_neg, wp_inv, wp_lt, wp_le, wp_gt, wp_ge, wp_eq, wp_ne, wp_addT, wp_ixT, wp_slT, wp_max, wp_min, wp_int, wp_dm, wp_lenT, wp_tr, wp_trI, wp_boundI, wp_listT, wp_tupT, wp_srcT, wp_rng, wp_lrg, wp_mulT, wp_isN, wp_notN, len_its, decide_eq_true_eq, beq_iff_eq, beq_eq_false_iff_ne, ne_eq, ite_not, Bool.not_eq_true', gl_REACH, gl_SETTLED, gl_MOST_ROUND, gl_MOST_ZONES, gl_MOST_BORDERS, gl_MOST_INNER, gl_MOST_LISTED, Bool.not_eq_true, List.append_nil, wp_itemsT, wp_ixL (getL_of e), wp_setL e ix2]
  have e2 : (S.set l (Ob.lst [W.int x, W.int y, W.int (z + 1)]))[l]? = some (.lst [.int x, .int y, .int (z + 1)]) := get_set_eq hl
  revert e2
  generalize S.set l (Ob.lst [W.int x, W.int y, W.int (z + 1)]) = S2
  intro e2
  try simp only [atI_0, atI_1, atI_2, atI_3, atI_4, Option.some.injEq, exists_eq_left', wp_bind, exs, ex, wp_evX, ev, evs, evT, evTs, evI, evB, asg, asgs, wp_pure, wp_ofSome, wp_ifB, wp_new, wp_guard, wp_srcLen, wp_noEx, List.getElem?_cons_zero, List.getElem?_cons_succ, Option.join_some, List.length_cons, List.length_nil, Nat.reduceAdd, Nat.reduceLT, Nat.reduceLeDiff, Nat.reduceSub, ↓reduceIte, List.set_cons_succ, List.set_cons_zero, wipeE, sz0, sz1, sz2, sz3, sz5, true_and, and_true, Option.getD_some, Option.getD_none, wp_add, wp_sub, wp_mul, wp_fdiv, wp_mod, wp_pow, wp_shl, wp_shr, wp_band, wp_bor, wp_aug, wp_neg, wp_inv, wp_lt, wp_le, wp_gt, wp_ge, wp_eq, wp_ne, wp_addT, wp_ixT, wp_slT, wp_max, wp_min, wp_int, wp_dm, wp_lenT, wp_tr, wp_trI, wp_boundI, wp_listT, wp_tupT, wp_srcT, wp_rng, wp_lrg, wp_mulT, wp_isN, wp_notN, len_its, decide_eq_true_eq, beq_iff_eq, beq_eq_false_iff_ne, ne_eq, ite_not, Bool.not_eq_true', gl_REACH, gl_SETTLED, gl_MOST_ROUND, gl_MOST_ZONES, gl_MOST_BORDERS, gl_MOST_INNER, gl_MOST_LISTED, Bool.not_eq_true, List.append_nil, wp_itemsT, wp_ixL (getL_of e2), wp_intS]
  by_cases c : 0 < x
  · rw [if_pos c]
    obtain ⟨r, hr, lr⟩ := mod_ltS x m0
    rw [hr, wp_setL e2 ix0]
    refine ⟨by omega, ⟨by omega, bg⟩, q r _ lr ⟨_, _, _, get_set_eq (pre_lt e2)⟩⟩
  · rw [if_neg c, p15]
    obtain ⟨a, ha, la⟩ := mod_ltS (y % 2147483629 * 48271 + (z + 1) * 69621 + 12345) (b := 2147483647) (by omega)
    have ha : (y % 2147483629 * 48271 + (z + 1) * 69621 + 12345) % 2147483647 = (a : Int) := ha
    rw [ha]
    obtain ⟨d, hd, ld⟩ := mod_ltS ((a : Int) * (a : Int) + (z + 1) * 40692) (b := 2147483587) (by omega)
    have hd : ((a : Int) * (a : Int) + (z + 1) * 40692) % 2147483587 = (d : Int) := hd
    rw [hd]
    have dr : ((a : Int) * 2147483587 + (d : Int)) / 32 = (((a * 2147483587 + d) / 32 : Nat) : Int) := by omega
    rw [dr]
    have sm : (a * 2147483587 + d) / 32 < 2 ^ 64 := by omega
    obtain ⟨r1, h1, l1⟩ := mod_ltS (((a * 2147483587 + d) / 32 : Nat) : Int) m0
    obtain ⟨r2, h2, l2⟩ := mod_ltS ((((a * 2147483587 + d) / 32 : Nat) : Int) ^ (8 : Int).toNat + (d : Int)) m0
    refine ⟨by omega, big_r (by decide), big_r (by decide), by omega, big_l (by rw [Int.natAbs_natCast]; omega), big_r (by decide), by omega, big_r (by decide), ⟨by omega, lt_bigS (Nat.lt_of_le_of_lt (show _ ≤ 2 ^ 10 by decide) (Nat.pow_lt_pow_right (by omega) (by omega)))⟩, ⟨by omega, .inl ⟨by omega, by decide⟩⟩, ?_⟩
    split
    · refine ⟨⟨by omega, .inl ⟨by omega, by rw [Int.natAbs_natCast]; exact sm⟩⟩, by omega, ?_⟩
      rw [h2]
      exact q r2 _ l2 ⟨_, _, _, e2⟩
    · refine ⟨by omega, ?_⟩
      rw [h1]
      exact q r1 _ l1 ⟨_, _, _, e2⟩
/-! ### what is told of errors -/
section
variable {S : Sto} {c d : Nat} {p : Option W} {t : Option Nat} {w : W} {f : Str} {Φ : W → Sto → Prop}
theorem wp_isx (e : S[c]? = some (.exn d p)) : Wp (isxW (.loc c) t S) Φ = Φ (.bl (isxB d t)) S := by
  show Wp ((getOb c >>= fun o => match o with | .exn d _ => pure (.bl (isxB d t)) | _ => Fb.fail) S) Φ = _
  rw [wp_bind, wp_getOb e]
  exact wp_d
theorem wp_xfl (e : S[c]? = some (.exn d (some w))) (h : xfN d = f) : Wp (xflW (.loc c) f S) Φ = Φ w S := by
  show Wp ((getOb c >>= fun o => match o with | .exn d (some w) => (if xfN d = f then pure w else Fb.fail) | _ => Fb.fail) S) Φ = _
  rw [wp_bind, wp_getOb e]
  show Wp ((if xfN d = f then pure w else Fb.fail) S) Φ = _
  rw [if_pos h, wp_pure]
end
/-! ### lists that are the same -/
section
variable {S : Sto} {a b : Nat} {xs : List W} {ds : List PyData} {Φ : W → Sto → Prop}
theorem toD_lst {l : Nat} (e : S[l]? = some (.lst xs)) (h : toDs1 (rdD S 7) xs = some ds) : toD S (.loc l) = some (.list ds) := by
  show ((getL S l).bind fun xs => (toDs1 (rdD S 7) xs).map PyData.list) = _
  rw [getL_of e, Option.bind_some, h]
  rfl
theorem wp_eqMs (e1 : S[a]? = some (.lst xs)) (e2 : S[b]? = some (.lst xs)) (h : toDs1 (rdD S 7) xs = some ds) (s : SeqAt.shaped (.list ds) = true) (c : (PyData.list ds).canLay0 = true) {Φ : Bool → Sto → Prop} : Wp (eqM (.loc a) (.loc b) S) Φ = Φ true S := by
  show Wp ((match toD S (.loc a), toD S (.loc b) with
    | some d, some e => if SeqAt.shaped d && SeqAt.shaped e then Res.ok (PyData.eqv d e) S else .no
    | _, _ => .no)) Φ = _
  rw [toD_lst e1 h, toD_lst e2 h]
  dsimp only
  rw [s, PySem.SeqAt.eqv_refl _ c]
  exact wp_d
theorem wp_eqSm (e1 : S[a]? = some (.lst xs)) (e2 : S[b]? = some (.lst xs)) (h : toDs1 (rdD S 7) xs = some ds) (s : SeqAt.shaped (.list ds) = true) (c : (PyData.list ds).canLay0 = true) : Wp (cmpW .eq (.loc a) (.loc b) S) Φ = Φ (.bl true) S := by
  show Wp ((eqM (.loc a) (.loc b) >>= fun b => pure (.bl b)) S) Φ = _
  rw [wp_bind, wp_eqMs e1 e2 h s c, wp_pure]
theorem wp_neSm (e1 : S[a]? = some (.lst xs)) (e2 : S[b]? = some (.lst xs)) (h : toDs1 (rdD S 7) xs = some ds) (s : SeqAt.shaped (.list ds) = true) (c : (PyData.list ds).canLay0 = true) : Wp (cmpW .ne (.loc a) (.loc b) S) Φ = Φ (.bl false) S := by
  show Wp ((eqM (.loc a) (.loc b) >>= fun b => pure (.bl (!b))) S) Φ = _
  rw [wp_bind, wp_eqMs e1 e2 h s c, wp_pure]
  rfl
theorem toDs_bl (rd : Nat → Option PyData) : ∀ bs : List Bool, toDs1 rd (bs.map .bl) = some (bs.map .bool)
  | [] => rfl
  | b :: bs => by
    rw [List.map_cons, toDs1, toDs_bl rd bs]
    rfl
theorem lay_bl : ∀ bs : List Bool, PyData.canLayAll0 (bs.map .bool) = true ∧ PyData.depthAll (bs.map .bool) = 0
  | [] => ⟨rfl, rfl⟩
  | b :: bs => by
    obtain ⟨h1, h2⟩ := lay_bl bs
    constructor
    · show (true && PyData.canLayAll0 (bs.map .bool)) = true
      rw [h1]
      rfl
    · show max 0 (PyData.depthAll (bs.map .bool)) = 0
      rw [h2]
      rfl
theorem shaped_bl (bs : List Bool) : SeqAt.shaped (.list (bs.map .bool)) = true := by
  show (PyData.canLayAll0 (bs.map .bool) && decide (PyData.depthAll (bs.map .bool) + 1 ≤ 64)) = true
  rw [(lay_bl bs).1, (lay_bl bs).2]
  rfl
theorem wp_neBl {bs : List Bool} (e1 : S[a]? = some (.lst (bs.map .bl))) (e2 : S[b]? = some (.lst (bs.map .bl))) : Wp (cmpW .ne (.loc a) (.loc b) S) Φ = Φ (.bl false) S := wp_neSm e1 e2 (toDs_bl _ bs) (shaped_bl bs) (lay_bl bs).1
theorem wp_notinBl {bs : List Bool} (e : S[a]? = some (.lst (bs.map .bl))) : Wp (cmpW .notin (.bl true) (.loc a) S) Φ = Φ (.bl (!bs.any id)) S := by
  show Wp ((inW (.bl true) (.loc a) >>= fun r => pure (W.bl (!r))) S) Φ = _
  rw [wp_bind]
  show Wp ((isDic a >>= fun d => if d = true then (dgetW a (.bl true) >>= fun r => pure r.isSome) else inSeq (.bl true) (.loc a)) S) _ = _
  rw [wp_bind, wp_isDicL (getL_of e), if_neg Bool.false_ne_true]
  show Wp ((itemsOf (.loc a) >>= fun ys => if (flatW (.bl true) && ys.all flatW) = true then pure (ys.any fun z => eqW z (.bl true)) else inDat (.bl true) (.loc a)) S) _ = _
  have fl : (flatW (.bl true) && (bs.map W.bl).all flatW) = true := by
    rw [List.all_map]
    show (true && bs.all fun _ => true) = true
    simp
  rw [wp_bind, wp_itemsL (getL_of e), if_pos fl, wp_pure, wp_pure, List.any_map]
  have : ((fun z => eqW z (.bl true)) ∘ W.bl) = (id : Bool → Bool) := by
    funext b
    cases b <;> rfl
  rw [this]
end
/-! ### the errors -/
/-- their fields -/
def pf (r : Nat) (c : Nat) : Option W := if c < 6 then some (.int (r : Nat)) else none
/-- the first k errors -/
def XL (S : Sto) (r k : Nat) (xs : List W) : Prop := xs.length = k ∧ ∀ i, i < k → ∃ a, xs[i]? = some (.loc a) ∧ S[a]? = some (.exn (i + 1) (pf r (i + 1)))
theorem XL.mono {S S1 : Sto} {r k : Nat} {xs : List W} (h : XL S r k xs) (p : S <+: S1) : XL S1 r k xs := ⟨h.1, fun i hi => by
  obtain ⟨a, e1, e2⟩ := h.2 i hi
  exact ⟨a, e1, pre_ob p e2⟩⟩
theorem XL.nil {S : Sto} {r : Nat} : XL S r 0 [] := ⟨rfl, fun _ h => by omega⟩
theorem XL.snoc {S : Sto} {r k a : Nat} {xs : List W} (h : XL S r k xs) (e : S[a]? = some (.exn (k + 1) (pf r (k + 1)))) : XL S r (k + 1) (xs ++ [.loc a]) := by
  obtain ⟨h1, h2⟩ := h
  refine ⟨by rw [List.length_append, h1]; rfl, fun i hi => ?_⟩
  by_cases c : i < k
  · obtain ⟨b, e1, e2⟩ := h2 i c
    exact ⟨b, by rw [List.getElem?_append_left (by omega)]; exact e1, e2⟩
  · have : i = k := by omega
    subst this
    exact ⟨a, by rw [List.getElem?_append_right (by omega), h1, Nat.sub_self]; rfl, e⟩
def mk0s : Nat → Nat → Es
  | _, 0 => .nil
  | k, n + 1 => .cons (.mkx0 k) (mk0s (k + 1) n)
def mk1s : Nat → Nat → Es
  | _, 0 => .nil
  | k, n + 1 => .cons (.mkx1 k (.var 0)) (mk1s (k + 1) n)
def isxs : Nat → Nat → Es
  | _, 0 => .nil
  | k, n + 1 => .cons (.isx (.var 0) (some k)) (isxs (k + 1) n)
theorem ev_mk0s {G : Ct} {env : En} {r : Nat} : ∀ (n k : Nat) (S : Sto) (xs : List W), XL S r k xs → 5 ≤ k → Wp (evs G (mk0s (k + 1) n) env S) fun ws S1 => S <+: S1 ∧ XL S1 r (k + n) (xs ++ ws)
  | 0, k, S, xs, X, _ => by
    rw [mk0s, evs, wp_pure, List.append_nil]
    exact ⟨List.prefix_refl _, X⟩
  | n + 1, k, S, xs, X, h => by
    rw [mk0s, evs, wp_bind, ev, wp_new, wp_bind]
    refine (ev_mk0s n (k + 1) _ (xs ++ [.loc S.length]) ((X.mono pre_new1).snoc ?_) (by omega)).mono fun ws S1 I => ?_
    · rw [pf, if_neg (by omega)]
      exact get_last
    · rw [wp_pure]
      refine ⟨pre_new1.trans I.1, ?_⟩
      have := I.2
      rw [List.append_assoc, show k + 1 + n = k + (n + 1) by omega] at this
      exact this
theorem ev_mk1s {G : Ct} {env : En} {r : Nat} : ∀ (n k : Nat) (S : Sto) (xs : List W), XL S r k xs → k + n ≤ 5 → Wp (evs G (mk1s (k + 1) n) (some (.int (r : Nat)) :: env) S) fun ws S1 => S <+: S1 ∧ XL S1 r (k + n) (xs ++ ws)
  | 0, k, S, xs, X, _ => by
    rw [mk1s, evs, wp_pure, List.append_nil]
    exact ⟨List.prefix_refl _, X⟩
  | n + 1, k, S, xs, X, h => by
    rw [mk1s, evs, wp_bind, ev, wp_bind]
    try simp only [atI_0, atI_1, atI_2, atI_3, atI_4, Option.some.injEq, exists_eq_left', wp_bind, exs, ex, wp_evX, ev, evs, evT, evTs, evI, evB, asg, asgs, wp_pure, wp_ofSome, wp_ifB, wp_new, wp_guard, wp_srcLen, wp_noEx, List.getElem?_cons_zero, List.getElem?_cons_succ, Option.join_some, List.length_cons, List.length_nil, Nat.reduceAdd, Nat.reduceLT, Nat.reduceLeDiff, Nat.reduceSub, ↓reduceIte, List.set_cons_succ, List.set_cons_zero, wipeE, sz0, sz1, sz2, sz3, sz5, true_and, and_true, Option.getD_some, Option.getD_none, wp_add, wp_sub, wp_mul, wp_fdiv, wp_mod, wp_pow, wp_shl, wp_shr, wp_band, wp_bor, wp_aug, wp_neg, wp_inv, wp_lt, wp_le, wp_gt, wp_ge, wp_eq, wp_ne, wp_addT, wp_ixT, wp_slT, wp_max, wp_min, wp_int, wp_dm, wp_lenT, wp_tr, wp_trI, wp_boundI, wp_listT, wp_tupT, wp_srcT, wp_rng, wp_lrg, wp_mulT, wp_isN, wp_notN, len_its, decide_eq_true_eq, beq_iff_eq, beq_eq_false_iff_ne, ne_eq, ite_not, Bool.not_eq_true', gl_REACH, gl_SETTLED, gl_MOST_ROUND, gl_MOST_ZONES, gl_MOST_BORDERS, gl_MOST_INNER, gl_MOST_LISTED, Bool.not_eq_true, List.append_nil, wp_itemsT]
    refine (ev_mk1s n (k + 1) _ (xs ++ [.loc S.length]) ((X.mono pre_new1).snoc ?_) (by omega)).mono fun ws S1 I => ?_
    · rw [pf, if_pos (by omega)]
      exact get_last
    · refine ⟨pre_new1.trans I.1, ?_⟩
      have := I.2
      rw [List.append_assoc, show k + 1 + n = k + (n + 1) by omega] at this
      exact this
theorem ev_isxs {G : Ct} {env : En} {a d : Nat} {p : Option W} {S : Sto} (e : S[a]? = some (.exn d p)) {Φ : List W → Sto → Prop} : ∀ (n k : Nat), Φ (((List.range' k n).map fun c => isxB d (some c)).map W.bl) S → Wp (evs G (isxs k n) (some (.loc a) :: env) S) Φ := by
  intro n
  induction n generalizing Φ with
  | zero => intro k h; rw [isxs, evs, wp_pure]; exact h
  | succ n ih =>
    intro k h
    rw [isxs, evs, wp_bind, ev, wp_bind]
    try simp only [atI_0, atI_1, atI_2, atI_3, atI_4, Option.some.injEq, exists_eq_left', wp_bind, exs, ex, wp_evX, ev, evs, evT, evTs, evI, evB, asg, asgs, wp_pure, wp_ofSome, wp_ifB, wp_new, wp_guard, wp_srcLen, wp_noEx, List.getElem?_cons_zero, List.getElem?_cons_succ, Option.join_some, List.length_cons, List.length_nil, Nat.reduceAdd, Nat.reduceLT, Nat.reduceLeDiff, Nat.reduceSub, ↓reduceIte, List.set_cons_succ, List.set_cons_zero, wipeE, sz0, sz1, sz2, sz3, sz5, true_and, and_true, Option.getD_some, Option.getD_none, wp_add, wp_sub, wp_mul, wp_fdiv, wp_mod, wp_pow, wp_shl, wp_shr, wp_band, wp_bor, wp_aug, wp_neg, wp_inv, wp_lt, wp_le, wp_gt, wp_ge, wp_eq, wp_ne, wp_addT, wp_ixT, wp_slT, wp_max, wp_min, wp_int, wp_dm, wp_lenT, wp_tr, wp_trI, wp_boundI, wp_listT, wp_tupT, wp_srcT, wp_rng, wp_lrg, wp_mulT, wp_isN, wp_notN, len_its, decide_eq_true_eq, beq_iff_eq, beq_eq_false_iff_ne, ne_eq, ite_not, Bool.not_eq_true', gl_REACH, gl_SETTLED, gl_MOST_ROUND, gl_MOST_ZONES, gl_MOST_BORDERS, gl_MOST_INNER, gl_MOST_LISTED, Bool.not_eq_true, List.append_nil, wp_itemsT, wp_isx e]
    exact ih (k + 1) h
theorem sp_law_made {n r : Nat} {S : Sto} {Φ : W → Sto → Prop} (q : ∀ S1 o xs, S <+: S1 → S1[o]? = some (.lst xs) → XL S1 r 17 xs → Φ (.loc o) S1) : Wp ((GG (n + 1)).fn f__law_made [.int (r : Nat)] S) Φ := by
  rw [g_fn at__law_made, wp_run rfl]
  show Wp (exs (GG n) (.cons (.asg (.var 1) (.lst (mk1s 1 5))) (.cons (.asg (.var 1) (.bin .add (.var 1) (.lst (mk0s 6 5)))) (.cons (.asg (.var 1) (.bin .add (.var 1) (.lst (mk0s 11 5)))) (.cons (.ret (.bin .add (.var 1) (.lst (mk0s 16 2)))) .nil)))) [some (.int (r : Nat)), none] S) _
  try simp only [atI_0, atI_1, atI_2, atI_3, atI_4, Option.some.injEq, exists_eq_left', wp_bind, exs, ex, wp_evX, ev, evs, evT, evTs, evI, evB, asg, asgs, wp_pure, wp_ofSome, wp_ifB, wp_new, wp_guard, wp_srcLen, wp_noEx, List.getElem?_cons_zero, List.getElem?_cons_succ, Option.join_some, List.length_cons, List.length_nil, Nat.reduceAdd, Nat.reduceLT, Nat.reduceLeDiff, Nat.reduceSub, ↓reduceIte, List.set_cons_succ, List.set_cons_zero, wipeE, sz0, sz1, sz2, sz3, sz5, true_and, and_true, Option.getD_some, Option.getD_none, wp_add, wp_sub, wp_mul, wp_fdiv, wp_mod, wp_pow, wp_shl, wp_shr, wp_band, wp_bor, wp_aug, wp_neg, wp_inv, wp_lt, wp_le, wp_gt, wp_ge, wp_eq, wp_ne, wp_addT, wp_ixT, wp_slT, wp_max, wp_min, wp_int, wp_dm, wp_lenT, wp_tr, wp_trI, wp_boundI, wp_listT, wp_tupT, wp_srcT, wp_rng, wp_lrg, wp_mulT, wp_isN, wp_notN, len_its, decide_eq_true_eq, beq_iff_eq, beq_eq_false_iff_ne, ne_eq, ite_not, Bool.not_eq_true', gl_REACH, gl_SETTLED, gl_MOST_ROUND, gl_MOST_ZONES, gl_MOST_BORDERS, gl_MOST_INNER, gl_MOST_LISTED, Bool.not_eq_true, List.append_nil, wp_itemsT]
  refine (ev_mk1s 5 0 S [] .nil (by omega)).mono fun ws S1 ⟨p1, X1⟩ => ?_
  try simp only [atI_0, atI_1, atI_2, atI_3, atI_4, Option.some.injEq, exists_eq_left', wp_bind, exs, ex, wp_evX, ev, evs, evT, evTs, evI, evB, asg, asgs, wp_pure, wp_ofSome, wp_ifB, wp_new, wp_guard, wp_srcLen, wp_noEx, List.getElem?_cons_zero, List.getElem?_cons_succ, Option.join_some, List.length_cons, List.length_nil, Nat.reduceAdd, Nat.reduceLT, Nat.reduceLeDiff, Nat.reduceSub, ↓reduceIte, List.set_cons_succ, List.set_cons_zero, wipeE, sz0, sz1, sz2, sz3, sz5, true_and, and_true, Option.getD_some, Option.getD_none, wp_add, wp_sub, wp_mul, wp_fdiv, wp_mod, wp_pow, wp_shl, wp_shr, wp_band, wp_bor, wp_aug, wp_neg, wp_inv, wp_lt, wp_le, wp_gt, wp_ge, wp_eq, wp_ne, wp_addT, wp_ixT, wp_slT, wp_max, wp_min, wp_int, wp_dm, wp_lenT, wp_tr, wp_trI, wp_boundI, wp_listT, wp_tupT, wp_srcT, wp_rng, wp_lrg, wp_mulT, wp_isN, wp_notN, len_its, decide_eq_true_eq, beq_iff_eq, beq_eq_false_iff_ne, ne_eq, ite_not, Bool.not_eq_true', gl_REACH, gl_SETTLED, gl_MOST_ROUND, gl_MOST_ZONES, gl_MOST_BORDERS, gl_MOST_INNER, gl_MOST_LISTED, Bool.not_eq_true, List.append_nil, wp_itemsT]
  have e1 := get_last (S := S1) (x := Ob.lst ws)
  have X1 : XL (S1 ++ [Ob.lst ws]) r 5 ws := X1.mono pre_new1
  have p1 : S <+: S1 ++ [Ob.lst ws] := pre_new p1
  generalize S1.length = l1 at *
  generalize S1 ++ [Ob.lst ws] = S1 at *
  refine ⟨by have := X1.1; rw [sizeLine_eq]; omega, ?_⟩
  refine (ev_mk0s 5 5 S1 ws X1 (by omega)).mono fun ws2 S2 ⟨p2, X2⟩ => ?_
  have l2 := X2.1
  rw [List.length_append] at l2
  try simp only [atI_0, atI_1, atI_2, atI_3, atI_4, Option.some.injEq, exists_eq_left', wp_bind, exs, ex, wp_evX, ev, evs, evT, evTs, evI, evB, asg, asgs, wp_pure, wp_ofSome, wp_ifB, wp_new, wp_guard, wp_srcLen, wp_noEx, List.getElem?_cons_zero, List.getElem?_cons_succ, Option.join_some, List.length_cons, List.length_nil, Nat.reduceAdd, Nat.reduceLT, Nat.reduceLeDiff, Nat.reduceSub, ↓reduceIte, List.set_cons_succ, List.set_cons_zero, wipeE, sz0, sz1, sz2, sz3, sz5, true_and, and_true, Option.getD_some, Option.getD_none, wp_add, wp_sub, wp_mul, wp_fdiv, wp_mod, wp_pow, wp_shl, wp_shr, wp_band, wp_bor, wp_aug, wp_neg, wp_inv, wp_lt, wp_le, wp_gt, wp_ge, wp_eq, wp_ne, wp_addT, wp_ixT, wp_slT, wp_max, wp_min, wp_int, wp_dm, wp_lenT, wp_tr, wp_trI, wp_boundI, wp_listT, wp_tupT, wp_srcT, wp_rng, wp_lrg, wp_mulT, wp_isN, wp_notN, len_its, decide_eq_true_eq, beq_iff_eq, beq_eq_false_iff_ne, ne_eq, ite_not, Bool.not_eq_true', gl_REACH, gl_SETTLED, gl_MOST_ROUND, gl_MOST_ZONES, gl_MOST_BORDERS, gl_MOST_INNER, gl_MOST_LISTED, Bool.not_eq_true, List.append_nil, wp_itemsT]
  rw [wp_addL (pre_ob (pre_new p2) e1) get_last]
  refine ⟨by rw [sizeLine_eq]; omega, by rw [sizeLine_eq]; omega, ?_⟩
  have e3 := get_last (S := S2 ++ [Ob.lst ws2]) (x := Ob.lst (ws ++ ws2))
  have X3 : XL (S2 ++ [Ob.lst ws2] ++ [Ob.lst (ws ++ ws2)]) r 10 (ws ++ ws2) := X2.mono (pre_new pre_new1)
  have p3 : S <+: S2 ++ [Ob.lst ws2] ++ [Ob.lst (ws ++ ws2)] := p1.trans (pre_new (pre_new p2))
  generalize (S2 ++ [Ob.lst ws2]).length = l3 at *
  generalize S2 ++ [Ob.lst ws2] ++ [Ob.lst (ws ++ ws2)] = S3 at *
  generalize ws ++ ws2 = ws3 at *
  refine (ev_mk0s 5 10 S3 ws3 X3 (by omega)).mono fun ws4 S4 ⟨p4, X4⟩ => ?_
  have l4 := X4.1
  rw [List.length_append] at l4
  try simp only [atI_0, atI_1, atI_2, atI_3, atI_4, Option.some.injEq, exists_eq_left', wp_bind, exs, ex, wp_evX, ev, evs, evT, evTs, evI, evB, asg, asgs, wp_pure, wp_ofSome, wp_ifB, wp_new, wp_guard, wp_srcLen, wp_noEx, List.getElem?_cons_zero, List.getElem?_cons_succ, Option.join_some, List.length_cons, List.length_nil, Nat.reduceAdd, Nat.reduceLT, Nat.reduceLeDiff, Nat.reduceSub, ↓reduceIte, List.set_cons_succ, List.set_cons_zero, wipeE, sz0, sz1, sz2, sz3, sz5, true_and, and_true, Option.getD_some, Option.getD_none, wp_add, wp_sub, wp_mul, wp_fdiv, wp_mod, wp_pow, wp_shl, wp_shr, wp_band, wp_bor, wp_aug, wp_neg, wp_inv, wp_lt, wp_le, wp_gt, wp_ge, wp_eq, wp_ne, wp_addT, wp_ixT, wp_slT, wp_max, wp_min, wp_int, wp_dm, wp_lenT, wp_tr, wp_trI, wp_boundI, wp_listT, wp_tupT, wp_srcT, wp_rng, wp_lrg, wp_mulT, wp_isN, wp_notN, len_its, decide_eq_true_eq, beq_iff_eq, beq_eq_false_iff_ne, ne_eq, ite_not, Bool.not_eq_true', gl_REACH, gl_SETTLED, gl_MOST_ROUND, gl_MOST_ZONES, gl_MOST_BORDERS, gl_MOST_INNER, gl_MOST_LISTED, Bool.not_eq_true, List.append_nil, wp_itemsT]
  rw [wp_addL (pre_ob (pre_new p4) e3) get_last]
  refine ⟨by rw [sizeLine_eq]; omega, by rw [sizeLine_eq]; omega, ?_⟩
  have e5 := get_last (S := S4 ++ [Ob.lst ws4]) (x := Ob.lst (ws3 ++ ws4))
  have X5 : XL (S4 ++ [Ob.lst ws4] ++ [Ob.lst (ws3 ++ ws4)]) r 15 (ws3 ++ ws4) := X4.mono (pre_new pre_new1)
  have p5 : S <+: S4 ++ [Ob.lst ws4] ++ [Ob.lst (ws3 ++ ws4)] := p3.trans (pre_new (pre_new p4))
  generalize (S4 ++ [Ob.lst ws4]).length = l5 at *
  generalize S4 ++ [Ob.lst ws4] ++ [Ob.lst (ws3 ++ ws4)] = S5 at *
  generalize ws3 ++ ws4 = ws5 at *
  refine (ev_mk0s 2 15 S5 ws5 X5 (by omega)).mono fun ws6 S6 ⟨p6, X6⟩ => ?_
  have l6 := X6.1
  rw [List.length_append] at l6
  try simp only [atI_0, atI_1, atI_2, atI_3, atI_4, Option.some.injEq, exists_eq_left', wp_bind, exs, ex, wp_evX, ev, evs, evT, evTs, evI, evB, asg, asgs, wp_pure, wp_ofSome, wp_ifB, wp_new, wp_guard, wp_srcLen, wp_noEx, List.getElem?_cons_zero, List.getElem?_cons_succ, Option.join_some, List.length_cons, List.length_nil, Nat.reduceAdd, Nat.reduceLT, Nat.reduceLeDiff, Nat.reduceSub, ↓reduceIte, List.set_cons_succ, List.set_cons_zero, wipeE, sz0, sz1, sz2, sz3, sz5, true_and, and_true, Option.getD_some, Option.getD_none, wp_add, wp_sub, wp_mul, wp_fdiv, wp_mod, wp_pow, wp_shl, wp_shr, wp_band, wp_bor, wp_aug, wp_neg, wp_inv, wp_lt, wp_le, wp_gt, wp_ge, wp_eq, wp_ne, wp_addT, wp_ixT, wp_slT, wp_max, wp_min, wp_int, wp_dm, wp_lenT, wp_tr, wp_trI, wp_boundI, wp_listT, wp_tupT, wp_srcT, wp_rng, wp_lrg, wp_mulT, wp_isN, wp_notN, len_its, decide_eq_true_eq, beq_iff_eq, beq_eq_false_iff_ne, ne_eq, ite_not, Bool.not_eq_true', gl_REACH, gl_SETTLED, gl_MOST_ROUND, gl_MOST_ZONES, gl_MOST_BORDERS, gl_MOST_INNER, gl_MOST_LISTED, Bool.not_eq_true, List.append_nil, wp_itemsT]
  rw [wp_addL (pre_ob (pre_new p6) e5) get_last]
  refine ⟨by rw [sizeLine_eq]; omega, by rw [sizeLine_eq]; omega, ?_⟩
  exact q _ _ _ (p5.trans (pre_new (pre_new p6))) get_last (X6.mono (pre_new pre_new1))
/-- of which classes an error is -/
def clB (d : Nat) : List Bool := (List.range' 1 17).map fun c => isxB d (some c)
theorem sp_law_classes {n a d : Nat} {p : Option W} {S : Sto} {Φ : W → Sto → Prop} (e : S[a]? = some (.exn d p)) (q : ∀ S1 o, S <+: S1 → S1[o]? = some (.lst ((clB d).map W.bl)) → Φ (.loc o) S1) : Wp ((GG (n + 1)).fn f__law_classes [.loc a] S) Φ := by
  rw [g_fn at__law_classes, wp_run rfl]
  show Wp (exs (GG n) (.cons (.asg (.var 1) (.lst (isxs 1 3))) (.cons (.asg (.var 1) (.bin .add (.var 1) (.lst (isxs 4 3)))) (.cons (.asg (.var 1) (.bin .add (.var 1) (.lst (isxs 7 3)))) (.cons (.asg (.var 1) (.bin .add (.var 1) (.lst (isxs 10 3)))) (.cons (.asg (.var 1) (.bin .add (.var 1) (.lst (isxs 13 3)))) (.cons (.ret (.bin .add (.var 1) (.lst (isxs 16 2)))) .nil)))))) [some (.loc a), none] S) _
  try simp only [atI_0, atI_1, atI_2, atI_3, atI_4, Option.some.injEq, exists_eq_left', wp_bind, exs, ex, wp_evX, ev, evs, evT, evTs, evI, evB, asg, asgs, wp_pure, wp_ofSome, wp_ifB, wp_new, wp_guard, wp_srcLen, wp_noEx, List.getElem?_cons_zero, List.getElem?_cons_succ, Option.join_some, List.length_cons, List.length_nil, Nat.reduceAdd, Nat.reduceLT, Nat.reduceLeDiff, Nat.reduceSub, ↓reduceIte, List.set_cons_succ, List.set_cons_zero, wipeE, sz0, sz1, sz2, sz3, sz5, true_and, and_true, Option.getD_some, Option.getD_none, wp_add, wp_sub, wp_mul, wp_fdiv, wp_mod, wp_pow, wp_shl, wp_shr, wp_band, wp_bor, wp_aug, wp_neg, wp_inv, wp_lt, wp_le, wp_gt, wp_ge, wp_eq, wp_ne, wp_addT, wp_ixT, wp_slT, wp_max, wp_min, wp_int, wp_dm, wp_lenT, wp_tr, wp_trI, wp_boundI, wp_listT, wp_tupT, wp_srcT, wp_rng, wp_lrg, wp_mulT, wp_isN, wp_notN, len_its, decide_eq_true_eq, beq_iff_eq, beq_eq_false_iff_ne, ne_eq, ite_not, Bool.not_eq_true', gl_REACH, gl_SETTLED, gl_MOST_ROUND, gl_MOST_ZONES, gl_MOST_BORDERS, gl_MOST_INNER, gl_MOST_LISTED, Bool.not_eq_true, List.append_nil, wp_itemsT]
  refine ev_isxs e 3 1 ?_
  try simp only [atI_0, atI_1, atI_2, atI_3, atI_4, Option.some.injEq, exists_eq_left', wp_bind, exs, ex, wp_evX, ev, evs, evT, evTs, evI, evB, asg, asgs, wp_pure, wp_ofSome, wp_ifB, wp_new, wp_guard, wp_srcLen, wp_noEx, List.getElem?_cons_zero, List.getElem?_cons_succ, Option.join_some, List.length_cons, List.length_nil, Nat.reduceAdd, Nat.reduceLT, Nat.reduceLeDiff, Nat.reduceSub, ↓reduceIte, List.set_cons_succ, List.set_cons_zero, wipeE, sz0, sz1, sz2, sz3, sz5, true_and, and_true, Option.getD_some, Option.getD_none, wp_add, wp_sub, wp_mul, wp_fdiv, wp_mod, wp_pow, wp_shl, wp_shr, wp_band, wp_bor, wp_aug, wp_neg, wp_inv, wp_lt, wp_le, wp_gt, wp_ge, wp_eq, wp_ne, wp_addT, wp_ixT, wp_slT, wp_max, wp_min, wp_int, wp_dm, wp_lenT, wp_tr, wp_trI, wp_boundI, wp_listT, wp_tupT, wp_srcT, wp_rng, wp_lrg, wp_mulT, wp_isN, wp_notN, len_its, decide_eq_true_eq, beq_iff_eq, beq_eq_false_iff_ne, ne_eq, ite_not, Bool.not_eq_true', gl_REACH, gl_SETTLED, gl_MOST_ROUND, gl_MOST_ZONES, gl_MOST_BORDERS, gl_MOST_INNER, gl_MOST_LISTED, Bool.not_eq_true, List.append_nil, wp_itemsT]
  have go : ∀ (k m : Nat) (S1 : Sto) (o : Nat), S <+: S1 → S1[o]? = some (.lst (((List.range' 1 k).map fun c => isxB d (some c)).map W.bl)) → k + m ≤ 100 → ∀ {Ψ : W → Sto → Prop}, (∀ S2 o2, S <+: S2 → S2[o2]? = some (.lst (((List.range' 1 (k + m)).map fun c => isxB d (some c)).map W.bl)) → Ψ (.loc o2) S2) → Wp (evs (GG n) (isxs (1 + k) m) [some (.loc a), some (.loc o)] S1) fun ws S2 => ws.length ≤ sizeLine ∧ Wp (binW .add (.loc o) (.loc S2.length) (S2 ++ [Ob.lst ws])) Ψ := by
    intro k m S1 o p1 e1 hk Ψ q
    refine ev_isxs (pre_ob p1 e) m (1 + k) ?_
    rw [wp_addL (pre_ob pre_new1 e1) get_last]
    refine ⟨by simp only [List.length_map, List.length_range']; rw [sizeLine_eq]; omega, by simp only [List.length_map, List.length_range']; rw [sizeLine_eq]; omega, ?_⟩
    refine q _ _ (pre_new (pre_new p1)) ?_
    rw [← List.map_append, ← List.map_append, ← List.range'_append_1]
    exact get_last
  have e1 := get_last (S := S) (x := Ob.lst (((List.range' 1 3).map fun c => isxB d (some c)).map W.bl))
  have p1 : S <+: S ++ [Ob.lst (((List.range' 1 3).map fun c => isxB d (some c)).map W.bl)] := pre_new1
  generalize S ++ [Ob.lst (((List.range' 1 3).map fun c => isxB d (some c)).map W.bl)] = S1 at *
  generalize S.length = o1 at *
  refine ⟨by simp only [List.length_map, List.length_range']; rw [sizeLine_eq]; omega, ?_⟩
  refine go 3 3 S1 o1 p1 e1 (by omega) fun S2 o2 p2 e2 => ?_
  try simp only [atI_0, atI_1, atI_2, atI_3, atI_4, Option.some.injEq, exists_eq_left', wp_bind, exs, ex, wp_evX, ev, evs, evT, evTs, evI, evB, asg, asgs, wp_pure, wp_ofSome, wp_ifB, wp_new, wp_guard, wp_srcLen, wp_noEx, List.getElem?_cons_zero, List.getElem?_cons_succ, Option.join_some, List.length_cons, List.length_nil, Nat.reduceAdd, Nat.reduceLT, Nat.reduceLeDiff, Nat.reduceSub, ↓reduceIte, List.set_cons_succ, List.set_cons_zero, wipeE, sz0, sz1, sz2, sz3, sz5, true_and, and_true, Option.getD_some, Option.getD_none, wp_add, wp_sub, wp_mul, wp_fdiv, wp_mod, wp_pow, wp_shl, wp_shr, wp_band, wp_bor, wp_aug, wp_neg, wp_inv, wp_lt, wp_le, wp_gt, wp_ge, wp_eq, wp_ne, wp_addT, wp_ixT, wp_slT, wp_max, wp_min, wp_int, wp_dm, wp_lenT, wp_tr, wp_trI, wp_boundI, wp_listT, wp_tupT, wp_srcT, wp_rng, wp_lrg, wp_mulT, wp_isN, wp_notN, len_its, decide_eq_true_eq, beq_iff_eq, beq_eq_false_iff_ne, ne_eq, ite_not, Bool.not_eq_true', gl_REACH, gl_SETTLED, gl_MOST_ROUND, gl_MOST_ZONES, gl_MOST_BORDERS, gl_MOST_INNER, gl_MOST_LISTED, Bool.not_eq_true, List.append_nil, wp_itemsT]
  refine go 6 3 S2 o2 p2 e2 (by omega) fun S3 o3 p3 e3 => ?_
  try simp only [atI_0, atI_1, atI_2, atI_3, atI_4, Option.some.injEq, exists_eq_left', wp_bind, exs, ex, wp_evX, ev, evs, evT, evTs, evI, evB, asg, asgs, wp_pure, wp_ofSome, wp_ifB, wp_new, wp_guard, wp_srcLen, wp_noEx, List.getElem?_cons_zero, List.getElem?_cons_succ, Option.join_some, List.length_cons, List.length_nil, Nat.reduceAdd, Nat.reduceLT, Nat.reduceLeDiff, Nat.reduceSub, ↓reduceIte, List.set_cons_succ, List.set_cons_zero, wipeE, sz0, sz1, sz2, sz3, sz5, true_and, and_true, Option.getD_some, Option.getD_none, wp_add, wp_sub, wp_mul, wp_fdiv, wp_mod, wp_pow, wp_shl, wp_shr, wp_band, wp_bor, wp_aug, wp_neg, wp_inv, wp_lt, wp_le, wp_gt, wp_ge, wp_eq, wp_ne, wp_addT, wp_ixT, wp_slT, wp_max, wp_min, wp_int, wp_dm, wp_lenT, wp_tr, wp_trI, wp_boundI, wp_listT, wp_tupT, wp_srcT, wp_rng, wp_lrg, wp_mulT, wp_isN, wp_notN, len_its, decide_eq_true_eq, beq_iff_eq, beq_eq_false_iff_ne, ne_eq, ite_not, Bool.not_eq_true', gl_REACH, gl_SETTLED, gl_MOST_ROUND, gl_MOST_ZONES, gl_MOST_BORDERS, gl_MOST_INNER, gl_MOST_LISTED, Bool.not_eq_true, List.append_nil, wp_itemsT]
  refine go 9 3 S3 o3 p3 e3 (by omega) fun S4 o4 p4 e4 => ?_
  try simp only [atI_0, atI_1, atI_2, atI_3, atI_4, Option.some.injEq, exists_eq_left', wp_bind, exs, ex, wp_evX, ev, evs, evT, evTs, evI, evB, asg, asgs, wp_pure, wp_ofSome, wp_ifB, wp_new, wp_guard, wp_srcLen, wp_noEx, List.getElem?_cons_zero, List.getElem?_cons_succ, Option.join_some, List.length_cons, List.length_nil, Nat.reduceAdd, Nat.reduceLT, Nat.reduceLeDiff, Nat.reduceSub, ↓reduceIte, List.set_cons_succ, List.set_cons_zero, wipeE, sz0, sz1, sz2, sz3, sz5, true_and, and_true, Option.getD_some, Option.getD_none, wp_add, wp_sub, wp_mul, wp_fdiv, wp_mod, wp_pow, wp_shl, wp_shr, wp_band, wp_bor, wp_aug, wp_neg, wp_inv, wp_lt, wp_le, wp_gt, wp_ge, wp_eq, wp_ne, wp_addT, wp_ixT, wp_slT, wp_max, wp_min, wp_int, wp_dm, wp_lenT, wp_tr, wp_trI, wp_boundI, wp_listT, wp_tupT, wp_srcT, wp_rng, wp_lrg, wp_mulT, wp_isN, wp_notN, len_its, decide_eq_true_eq, beq_iff_eq, beq_eq_false_iff_ne, ne_eq, ite_not, Bool.not_eq_true', gl_REACH, gl_SETTLED, gl_MOST_ROUND, gl_MOST_ZONES, gl_MOST_BORDERS, gl_MOST_INNER, gl_MOST_LISTED, Bool.not_eq_true, List.append_nil, wp_itemsT]
  refine go 12 3 S4 o4 p4 e4 (by omega) fun S5 o5 p5 e5 => ?_
  try simp only [atI_0, atI_1, atI_2, atI_3, atI_4, Option.some.injEq, exists_eq_left', wp_bind, exs, ex, wp_evX, ev, evs, evT, evTs, evI, evB, asg, asgs, wp_pure, wp_ofSome, wp_ifB, wp_new, wp_guard, wp_srcLen, wp_noEx, List.getElem?_cons_zero, List.getElem?_cons_succ, Option.join_some, List.length_cons, List.length_nil, Nat.reduceAdd, Nat.reduceLT, Nat.reduceLeDiff, Nat.reduceSub, ↓reduceIte, List.set_cons_succ, List.set_cons_zero, wipeE, sz0, sz1, sz2, sz3, sz5, true_and, and_true, Option.getD_some, Option.getD_none, wp_add, wp_sub, wp_mul, wp_fdiv, wp_mod, wp_pow, wp_shl, wp_shr, wp_band, wp_bor, wp_aug, wp_neg, wp_inv, wp_lt, wp_le, wp_gt, wp_ge, wp_eq, wp_ne, wp_addT, wp_ixT, wp_slT, wp_max, wp_min, wp_int, wp_dm, wp_lenT, wp_tr, wp_trI, wp_boundI, wp_listT, wp_tupT, wp_srcT, wp_rng, wp_lrg, wp_mulT, wp_isN, wp_notN, len_its, decide_eq_true_eq, beq_iff_eq, beq_eq_false_iff_ne, ne_eq, ite_not, Bool.not_eq_true', gl_REACH, gl_SETTLED, gl_MOST_ROUND, gl_MOST_ZONES, gl_MOST_BORDERS, gl_MOST_INNER, gl_MOST_LISTED, Bool.not_eq_true, List.append_nil, wp_itemsT]
  refine go 15 2 S5 o5 p5 e5 (by omega) fun S6 o6 p6 e6 => ?_
  exact q _ _ p6 e6
end Fb
set_option Elab.async false
set_option linter.all false
set_option maxRecDepth 100000
set_option maxHeartbeats 8000000
/-! Law k42: the law. -/
namespace Fb
open PySem L2
theorem shaped_i5 (r : Int) : SeqAt.shaped (.list [.int r, .int r, .int r, .int r, .int r]) = true := rfl
theorem clB_eq : ∀ k : Nat, k < 17 → clB (k + 1) = (List.range 17).map fun j => decide (j = k) := by decide +kernel
theorem law_wp {n : Nat} {ns : List Int} (hz : ns.length ≤ 63) : Wp (runDf (GG (n + 2)) D_law.df [.loc 0] [.frz (ns.map W.int)]) fun v _ => v = .bl true := by
  rw [wp_run rfl]
  simp only [D_law, b_law, List.map_cons, List.map_nil, List.replicate, List.cons_append, List.nil_append, Nat.reduceSub]
  have e0 : getL [Ob.frz (ns.map W.int)] 0 = some (ns.map W.int) := rfl
  try simp only [atI_0, atI_1, atI_2, atI_3, atI_4, Option.some.injEq, exists_eq_left', wp_bind, exs, ex, wp_evX, ev, evs, evT, evTs, evI, evB, asg, asgs, wp_pure, wp_ofSome, wp_ifB, wp_new, wp_guard, wp_srcLen, wp_noEx, List.getElem?_cons_zero, List.getElem?_cons_succ, Option.join_some, List.length_cons, List.length_nil, Nat.reduceAdd, Nat.reduceLT, Nat.reduceLeDiff, Nat.reduceSub, ↓reduceIte, List.set_cons_succ, List.set_cons_zero, wipeE, sz0, sz1, sz2, sz3, sz5, true_and, and_true, Option.getD_some, Option.getD_none, wp_add, wp_sub, wp_mul, wp_fdiv, wp_mod, wp_pow, wp_shl, wp_shr, wp_band, wp_bor, wp_aug, wp_neg, wp_inv, wp_lt, wp_le, wp_gt, wp_ge, wp_eq, wp_ne, wp_addT, wp_ixT, wp_slT, wp_max, wp_min, wp_int, wp_dm, wp_lenT, wp_tr, wp_trI, wp_boundI, wp_listT, wp_tupT, wp_srcT, wp_rng, wp_lrg, wp_mulT, wp_isN, wp_notN, len_its, decide_eq_true_eq, beq_iff_eq, beq_eq_false_iff_ne, ne_eq, ite_not, Bool.not_eq_true', gl_REACH, gl_SETTLED, gl_MOST_ROUND, gl_MOST_ZONES, gl_MOST_BORDERS, gl_MOST_INNER, gl_MOST_LISTED, Bool.not_eq_true, List.append_nil, wp_itemsT]
  rw [wp_addG (l := 0) (m := 1) (xs := ns.map W.int) (ys := [W.int 0]) rfl rfl]
  refine ⟨by rw [sizeLine_eq, List.length_map]; show _ + 1 ≤ _; omega, ?_⟩
  rw [wp_ixL (getL_of get_last), atI_0]
  obtain ⟨c, hc⟩ : ∃ c : Int, (ns.map W.int ++ [W.int 0])[0]? = some (.int c) := by
    cases ns with
    | nil => exact ⟨0, rfl⟩
    | cons c r => exact ⟨c, rfl⟩
  rw [hc]
  try simp only [atI_0, atI_1, atI_2, atI_3, atI_4, Option.some.injEq, exists_eq_left', wp_bind, exs, ex, wp_evX, ev, evs, evT, evTs, evI, evB, asg, asgs, wp_pure, wp_ofSome, wp_ifB, wp_new, wp_guard, wp_srcLen, wp_noEx, List.getElem?_cons_zero, List.getElem?_cons_succ, Option.join_some, List.length_cons, List.length_nil, Nat.reduceAdd, Nat.reduceLT, Nat.reduceLeDiff, Nat.reduceSub, ↓reduceIte, List.set_cons_succ, List.set_cons_zero, wipeE, sz0, sz1, sz2, sz3, sz5, true_and, and_true, Option.getD_some, Option.getD_none, wp_add, wp_sub, wp_mul, wp_fdiv, wp_mod, wp_pow, wp_shl, wp_shr, wp_band, wp_bor, wp_aug, wp_neg, wp_inv, wp_lt, wp_le, wp_gt, wp_ge, wp_eq, wp_ne, wp_addT, wp_ixT, wp_slT, wp_max, wp_min, wp_int, wp_dm, wp_lenT, wp_tr, wp_trI, wp_boundI, wp_listT, wp_tupT, wp_srcT, wp_rng, wp_lrg, wp_mulT, wp_isN, wp_notN, len_its, decide_eq_true_eq, beq_iff_eq, beq_eq_false_iff_ne, ne_eq, ite_not, Bool.not_eq_true', gl_REACH, gl_SETTLED, gl_MOST_ROUND, gl_MOST_ZONES, gl_MOST_BORDERS, gl_MOST_INNER, gl_MOST_LISTED, Bool.not_eq_true, List.append_nil, wp_itemsT]
  refine sp_law_bag fun S0 l B0 => ?_
  try simp only [atI_0, atI_1, atI_2, atI_3, atI_4, Option.some.injEq, exists_eq_left', wp_bind, exs, ex, wp_evX, ev, evs, evT, evTs, evI, evB, asg, asgs, wp_pure, wp_ofSome, wp_ifB, wp_new, wp_guard, wp_srcLen, wp_noEx, List.getElem?_cons_zero, List.getElem?_cons_succ, Option.join_some, List.length_cons, List.length_nil, Nat.reduceAdd, Nat.reduceLT, Nat.reduceLeDiff, Nat.reduceSub, ↓reduceIte, List.set_cons_succ, List.set_cons_zero, wipeE, sz0, sz1, sz2, sz3, sz5, true_and, and_true, Option.getD_some, Option.getD_none, wp_add, wp_sub, wp_mul, wp_fdiv, wp_mod, wp_pow, wp_shl, wp_shr, wp_band, wp_bor, wp_aug, wp_neg, wp_inv, wp_lt, wp_le, wp_gt, wp_ge, wp_eq, wp_ne, wp_addT, wp_ixT, wp_slT, wp_max, wp_min, wp_int, wp_dm, wp_lenT, wp_tr, wp_trI, wp_boundI, wp_listT, wp_tupT, wp_srcT, wp_rng, wp_lrg, wp_mulT, wp_isN, wp_notN, len_its, decide_eq_true_eq, beq_iff_eq, beq_eq_false_iff_ne, ne_eq, ite_not, Bool.not_eq_true', gl_REACH, gl_SETTLED, gl_MOST_ROUND, gl_MOST_ZONES, gl_MOST_BORDERS, gl_MOST_INNER, gl_MOST_LISTED, Bool.not_eq_true, List.append_nil, wp_itemsT]
  refine ⟨by omega, ?_⟩
  rw [show (Int.toNat (4 - 0)) = 4 from rfl, rngW_length]
  refine wp_for (xs := rngW 0 4) (fun i env S1 => BagAt S1 l ∧ ∃ x2 x5 x6 x7 x8, env = [some (.loc 0), some (.loc l), x2, none, none, x5, x6, x7, x8, none]) (by rw [rngW_length]) ⟨B0, _, _, _, _, _, rfl⟩ (fun _ _ _ _ => at_its _) (fun i x env S1 hx I => ?_) (fun env S1 I => ?_)
  · obtain ⟨B1, x2, x5, x6, x7, x8, rfl⟩ := I
    obtain ⟨hi, rfl⟩ := rngW_at hx
    try simp only [atI_0, atI_1, atI_2, atI_3, atI_4, Option.some.injEq, exists_eq_left', wp_bind, exs, ex, wp_evX, ev, evs, evT, evTs, evI, evB, asg, asgs, wp_pure, wp_ofSome, wp_ifB, wp_new, wp_guard, wp_srcLen, wp_noEx, List.getElem?_cons_zero, List.getElem?_cons_succ, Option.join_some, List.length_cons, List.length_nil, Nat.reduceAdd, Nat.reduceLT, Nat.reduceLeDiff, Nat.reduceSub, ↓reduceIte, List.set_cons_succ, List.set_cons_zero, wipeE, sz0, sz1, sz2, sz3, sz5, true_and, and_true, Option.getD_some, Option.getD_none, wp_add, wp_sub, wp_mul, wp_fdiv, wp_mod, wp_pow, wp_shl, wp_shr, wp_band, wp_bor, wp_aug, wp_neg, wp_inv, wp_lt, wp_le, wp_gt, wp_ge, wp_eq, wp_ne, wp_addT, wp_ixT, wp_slT, wp_max, wp_min, wp_int, wp_dm, wp_lenT, wp_tr, wp_trI, wp_boundI, wp_listT, wp_tupT, wp_srcT, wp_rng, wp_lrg, wp_mulT, wp_isN, wp_notN, len_its, decide_eq_true_eq, beq_iff_eq, beq_eq_false_iff_ne, ne_eq, ite_not, Bool.not_eq_true', gl_REACH, gl_SETTLED, gl_MOST_ROUND, gl_MOST_ZONES, gl_MOST_BORDERS, gl_MOST_INNER, gl_MOST_LISTED, Bool.not_eq_true, List.append_nil, wp_itemsT]
    refine ⟨⟨by omega, .inl ⟨by omega, by decide⟩⟩, by omega, ?_⟩
    obtain ⟨many, hm0, hm1, hm⟩ : ∃ many : Nat, 0 < many ∧ many < 2 ^ 900 ∧ atI [W.int 9, W.int (10 ^ Int.toNat 60)] ((0 + (i : Int)) % 2) = some (.int (many : Nat)) := by
      have h9 : 9 < 2 ^ 900 := Nat.lt_of_lt_of_le (show 9 < 2 ^ 4 by decide) (Nat.pow_le_pow_right (by omega) (by omega))
      have h60 : 10 ^ 60 < 2 ^ 900 := Nat.lt_of_lt_of_le (show 10 ^ 60 < 2 ^ 200 by decide +kernel) (Nat.pow_le_pow_right (by omega) (by omega))
      match i, hi with
      | 0, _ => exact ⟨9, by omega, h9, rfl⟩
      | 1, _ => exact ⟨10 ^ 60, by decide, h60, by show atI _ (1 : Int) = _; rw [atI_1]; exact congrArg (fun x => some (W.int x)) (by decide +kernel : (10 : Int) ^ Int.toNat 60 = ((10 ^ 60 : Nat) : Int))⟩
      | 2, _ => exact ⟨9, by omega, h9, rfl⟩
      | 3, _ => exact ⟨10 ^ 60, by decide, h60, by show atI _ (1 : Int) = _; rw [atI_1]; exact congrArg (fun x => some (W.int x)) (by decide +kernel : (10 : Int) ^ Int.toNat 60 = ((10 ^ 60 : Nat) : Int))⟩
    rw [wp_ixL (getL_of get_last), hm]
    try simp only [atI_0, atI_1, atI_2, atI_3, atI_4, Option.some.injEq, exists_eq_left', wp_bind, exs, ex, wp_evX, ev, evs, evT, evTs, evI, evB, asg, asgs, wp_pure, wp_ofSome, wp_ifB, wp_new, wp_guard, wp_srcLen, wp_noEx, List.getElem?_cons_zero, List.getElem?_cons_succ, Option.join_some, List.length_cons, List.length_nil, Nat.reduceAdd, Nat.reduceLT, Nat.reduceLeDiff, Nat.reduceSub, ↓reduceIte, List.set_cons_succ, List.set_cons_zero, wipeE, sz0, sz1, sz2, sz3, sz5, true_and, and_true, Option.getD_some, Option.getD_none, wp_add, wp_sub, wp_mul, wp_fdiv, wp_mod, wp_pow, wp_shl, wp_shr, wp_band, wp_bor, wp_aug, wp_neg, wp_inv, wp_lt, wp_le, wp_gt, wp_ge, wp_eq, wp_ne, wp_addT, wp_ixT, wp_slT, wp_max, wp_min, wp_int, wp_dm, wp_lenT, wp_tr, wp_trI, wp_boundI, wp_listT, wp_tupT, wp_srcT, wp_rng, wp_lrg, wp_mulT, wp_isN, wp_notN, len_its, decide_eq_true_eq, beq_iff_eq, beq_eq_false_iff_ne, ne_eq, ite_not, Bool.not_eq_true', gl_REACH, gl_SETTLED, gl_MOST_ROUND, gl_MOST_ZONES, gl_MOST_BORDERS, gl_MOST_INNER, gl_MOST_LISTED, Bool.not_eq_true, List.append_nil, wp_itemsT]
    refine sp_law_pick (B1.mono pre_new1) hm0 hm1 fun r S2 _ B2 => ?_
    try simp only [atI_0, atI_1, atI_2, atI_3, atI_4, Option.some.injEq, exists_eq_left', wp_bind, exs, ex, wp_evX, ev, evs, evT, evTs, evI, evB, asg, asgs, wp_pure, wp_ofSome, wp_ifB, wp_new, wp_guard, wp_srcLen, wp_noEx, List.getElem?_cons_zero, List.getElem?_cons_succ, Option.join_some, List.length_cons, List.length_nil, Nat.reduceAdd, Nat.reduceLT, Nat.reduceLeDiff, Nat.reduceSub, ↓reduceIte, List.set_cons_succ, List.set_cons_zero, wipeE, sz0, sz1, sz2, sz3, sz5, true_and, and_true, Option.getD_some, Option.getD_none, wp_add, wp_sub, wp_mul, wp_fdiv, wp_mod, wp_pow, wp_shl, wp_shr, wp_band, wp_bor, wp_aug, wp_neg, wp_inv, wp_lt, wp_le, wp_gt, wp_ge, wp_eq, wp_ne, wp_addT, wp_ixT, wp_slT, wp_max, wp_min, wp_int, wp_dm, wp_lenT, wp_tr, wp_trI, wp_boundI, wp_listT, wp_tupT, wp_srcT, wp_rng, wp_lrg, wp_mulT, wp_isN, wp_notN, len_its, decide_eq_true_eq, beq_iff_eq, beq_eq_false_iff_ne, ne_eq, ite_not, Bool.not_eq_true', gl_REACH, gl_SETTLED, gl_MOST_ROUND, gl_MOST_ZONES, gl_MOST_BORDERS, gl_MOST_INNER, gl_MOST_LISTED, Bool.not_eq_true, List.append_nil, wp_itemsT]
    refine sp_law_made fun S3 o xs p3 eo X => ?_
    try simp only [atI_0, atI_1, atI_2, atI_3, atI_4, Option.some.injEq, exists_eq_left', wp_bind, exs, ex, wp_evX, ev, evs, evT, evTs, evI, evB, asg, asgs, wp_pure, wp_ofSome, wp_ifB, wp_new, wp_guard, wp_srcLen, wp_noEx, List.getElem?_cons_zero, List.getElem?_cons_succ, Option.join_some, List.length_cons, List.length_nil, Nat.reduceAdd, Nat.reduceLT, Nat.reduceLeDiff, Nat.reduceSub, ↓reduceIte, List.set_cons_succ, List.set_cons_zero, wipeE, sz0, sz1, sz2, sz3, sz5, true_and, and_true, Option.getD_some, Option.getD_none, wp_add, wp_sub, wp_mul, wp_fdiv, wp_mod, wp_pow, wp_shl, wp_shr, wp_band, wp_bor, wp_aug, wp_neg, wp_inv, wp_lt, wp_le, wp_gt, wp_ge, wp_eq, wp_ne, wp_addT, wp_ixT, wp_slT, wp_max, wp_min, wp_int, wp_dm, wp_lenT, wp_tr, wp_trI, wp_boundI, wp_listT, wp_tupT, wp_srcT, wp_rng, wp_lrg, wp_mulT, wp_isN, wp_notN, len_its, decide_eq_true_eq, beq_iff_eq, beq_eq_false_iff_ne, ne_eq, ite_not, Bool.not_eq_true', gl_REACH, gl_SETTLED, gl_MOST_ROUND, gl_MOST_ZONES, gl_MOST_BORDERS, gl_MOST_INNER, gl_MOST_LISTED, Bool.not_eq_true, List.append_nil, wp_itemsT]
    rw [wp_enm (getL_of eo), len_enm (getL_of eo)]
    have B3 := B2.mono p3
    have xl := X.1
    refine wp_for (xs := enmW xs) (fun k env S4 => S3 <+: S4 ∧ ∃ x7 x8, env = [some (.loc 0), some (.loc l), some (.int (0 + (i : Int))), none, none, some (.int (r : Nat)), some (.loc o), x7, x8, none]) rfl ⟨List.prefix_refl _, _, _, rfl⟩ (fun k env S4 I => at_enm (getL_of (pre_ob I.1 eo)) k) (fun k x env S4 hx I => ?_) (fun env S4 I => ?_)
    · obtain ⟨p4, x7, x8, rfl⟩ := I
      rw [enmW, List.getElem?_mapIdx] at hx
      obtain ⟨y, hy, rfl⟩ := Option.map_eq_some_iff.mp hx
      have kl : k < 17 := by have := (List.getElem?_eq_some_iff.mp hy).1; omega
      obtain ⟨a, ha, ea⟩ := X.2 k kl
      rw [ha] at hy
      cases hy
      have ea4 := pre_ob p4 ea
      try simp only [atI_0, atI_1, atI_2, atI_3, atI_4, Option.some.injEq, exists_eq_left', wp_bind, exs, ex, wp_evX, ev, evs, evT, evTs, evI, evB, asg, asgs, wp_pure, wp_ofSome, wp_ifB, wp_new, wp_guard, wp_srcLen, wp_noEx, List.getElem?_cons_zero, List.getElem?_cons_succ, Option.join_some, List.length_cons, List.length_nil, Nat.reduceAdd, Nat.reduceLT, Nat.reduceLeDiff, Nat.reduceSub, ↓reduceIte, List.set_cons_succ, List.set_cons_zero, wipeE, sz0, sz1, sz2, sz3, sz5, true_and, and_true, Option.getD_some, Option.getD_none, wp_add, wp_sub, wp_mul, wp_fdiv, wp_mod, wp_pow, wp_shl, wp_shr, wp_band, wp_bor, wp_aug, wp_neg, wp_inv, wp_lt, wp_le, wp_gt, wp_ge, wp_eq, wp_ne, wp_addT, wp_ixT, wp_slT, wp_max, wp_min, wp_int, wp_dm, wp_lenT, wp_tr, wp_trI, wp_boundI, wp_listT, wp_tupT, wp_srcT, wp_rng, wp_lrg, wp_mulT, wp_isN, wp_notN, len_its, decide_eq_true_eq, beq_iff_eq, beq_eq_false_iff_ne, ne_eq, ite_not, Bool.not_eq_true', gl_REACH, gl_SETTLED, gl_MOST_ROUND, gl_MOST_ZONES, gl_MOST_BORDERS, gl_MOST_INNER, gl_MOST_LISTED, Bool.not_eq_true, List.append_nil, wp_itemsT, wp_isx ea4]
      rw [show isxB (k + 1) (some 0) = true from by simp [isxB, xsub], show isxB (k + 1) none = true from rfl]
      try simp only [atI_0, atI_1, atI_2, atI_3, atI_4, Option.some.injEq, exists_eq_left', wp_bind, exs, ex, wp_evX, ev, evs, evT, evTs, evI, evB, asg, asgs, wp_pure, wp_ofSome, wp_ifB, wp_new, wp_guard, wp_srcLen, wp_noEx, List.getElem?_cons_zero, List.getElem?_cons_succ, Option.join_some, List.length_cons, List.length_nil, Nat.reduceAdd, Nat.reduceLT, Nat.reduceLeDiff, Nat.reduceSub, ↓reduceIte, List.set_cons_succ, List.set_cons_zero, wipeE, sz0, sz1, sz2, sz3, sz5, true_and, and_true, Option.getD_some, Option.getD_none, wp_add, wp_sub, wp_mul, wp_fdiv, wp_mod, wp_pow, wp_shl, wp_shr, wp_band, wp_bor, wp_aug, wp_neg, wp_inv, wp_lt, wp_le, wp_gt, wp_ge, wp_eq, wp_ne, wp_addT, wp_ixT, wp_slT, wp_max, wp_min, wp_int, wp_dm, wp_lenT, wp_tr, wp_trI, wp_boundI, wp_listT, wp_tupT, wp_srcT, wp_rng, wp_lrg, wp_mulT, wp_isN, wp_notN, len_its, decide_eq_true_eq, beq_iff_eq, beq_eq_false_iff_ne, ne_eq, ite_not, Bool.not_eq_true', gl_REACH, gl_SETTLED, gl_MOST_ROUND, gl_MOST_ZONES, gl_MOST_BORDERS, gl_MOST_INNER, gl_MOST_LISTED, Bool.not_eq_true, List.append_nil, wp_itemsT, Bool.not_true, Bool.false_eq_true]
      refine sp_law_classes ea4 fun S5 oc p5 ec => ?_
      try simp only [atI_0, atI_1, atI_2, atI_3, atI_4, Option.some.injEq, exists_eq_left', wp_bind, exs, ex, wp_evX, ev, evs, evT, evTs, evI, evB, asg, asgs, wp_pure, wp_ofSome, wp_ifB, wp_new, wp_guard, wp_srcLen, wp_noEx, List.getElem?_cons_zero, List.getElem?_cons_succ, Option.join_some, List.length_cons, List.length_nil, Nat.reduceAdd, Nat.reduceLT, Nat.reduceLeDiff, Nat.reduceSub, ↓reduceIte, List.set_cons_succ, List.set_cons_zero, wipeE, sz0, sz1, sz2, sz3, sz5, true_and, and_true, Option.getD_some, Option.getD_none, wp_add, wp_sub, wp_mul, wp_fdiv, wp_mod, wp_pow, wp_shl, wp_shr, wp_band, wp_bor, wp_aug, wp_neg, wp_inv, wp_lt, wp_le, wp_gt, wp_ge, wp_eq, wp_ne, wp_addT, wp_ixT, wp_slT, wp_max, wp_min, wp_int, wp_dm, wp_lenT, wp_tr, wp_trI, wp_boundI, wp_listT, wp_tupT, wp_srcT, wp_rng, wp_lrg, wp_mulT, wp_isN, wp_notN, len_its, decide_eq_true_eq, beq_iff_eq, beq_eq_false_iff_ne, ne_eq, ite_not, Bool.not_eq_true', gl_REACH, gl_SETTLED, gl_MOST_ROUND, gl_MOST_ZONES, gl_MOST_BORDERS, gl_MOST_INNER, gl_MOST_LISTED, Bool.not_eq_true, List.append_nil, wp_itemsT]
      have eo5 := pre_ob (p4.trans p5) eo
      rw [wp_lenL (getL_of eo5), xl]
      try simp only [atI_0, atI_1, atI_2, atI_3, atI_4, Option.some.injEq, exists_eq_left', wp_bind, exs, ex, wp_evX, ev, evs, evT, evTs, evI, evB, asg, asgs, wp_pure, wp_ofSome, wp_ifB, wp_new, wp_guard, wp_srcLen, wp_noEx, List.getElem?_cons_zero, List.getElem?_cons_succ, Option.join_some, List.length_cons, List.length_nil, Nat.reduceAdd, Nat.reduceLT, Nat.reduceLeDiff, Nat.reduceSub, ↓reduceIte, List.set_cons_succ, List.set_cons_zero, wipeE, sz0, sz1, sz2, sz3, sz5, true_and, and_true, Option.getD_some, Option.getD_none, wp_add, wp_sub, wp_mul, wp_fdiv, wp_mod, wp_pow, wp_shl, wp_shr, wp_band, wp_bor, wp_aug, wp_neg, wp_inv, wp_lt, wp_le, wp_gt, wp_ge, wp_eq, wp_ne, wp_addT, wp_ixT, wp_slT, wp_max, wp_min, wp_int, wp_dm, wp_lenT, wp_tr, wp_trI, wp_boundI, wp_listT, wp_tupT, wp_srcT, wp_rng, wp_lrg, wp_mulT, wp_isN, wp_notN, len_its, decide_eq_true_eq, beq_iff_eq, beq_eq_false_iff_ne, ne_eq, ite_not, Bool.not_eq_true', gl_REACH, gl_SETTLED, gl_MOST_ROUND, gl_MOST_ZONES, gl_MOST_BORDERS, gl_MOST_INNER, gl_MOST_LISTED, Bool.not_eq_true, List.append_nil, wp_itemsT]
      refine ⟨by omega, ?_⟩
      rw [show (Int.toNat (((17 : Nat) : Int) - 0)) = 17 from rfl, rngW_length]
      refine wp_comp (xs := rngW 0 17) (g := fun x => match x with | .int j => some (.bl (decide (j = (k : Int)))) | _ => none) (by rw [rngW_length]) (by rw [rngW_length, sizeLine_eq]; omega) (fun _ _ _ => at_its _) (fun j x S6 hj p6 => ?_) (fun S6 p6 o6 => ?_)
      · obtain ⟨hj, rfl⟩ := rngW_at hj
        try simp only [atI_0, atI_1, atI_2, atI_3, atI_4, Option.some.injEq, exists_eq_left', wp_bind, exs, ex, wp_evX, ev, evs, evT, evTs, evI, evB, asg, asgs, wp_pure, wp_ofSome, wp_ifB, wp_new, wp_guard, wp_srcLen, wp_noEx, List.getElem?_cons_zero, List.getElem?_cons_succ, Option.join_some, List.length_cons, List.length_nil, Nat.reduceAdd, Nat.reduceLT, Nat.reduceLeDiff, Nat.reduceSub, ↓reduceIte, List.set_cons_succ, List.set_cons_zero, wipeE, sz0, sz1, sz2, sz3, sz5, true_and, and_true, Option.getD_some, Option.getD_none, wp_add, wp_sub, wp_mul, wp_fdiv, wp_mod, wp_pow, wp_shl, wp_shr, wp_band, wp_bor, wp_aug, wp_neg, wp_inv, wp_lt, wp_le, wp_gt, wp_ge, wp_eq, wp_ne, wp_addT, wp_ixT, wp_slT, wp_max, wp_min, wp_int, wp_dm, wp_lenT, wp_tr, wp_trI, wp_boundI, wp_listT, wp_tupT, wp_srcT, wp_rng, wp_lrg, wp_mulT, wp_isN, wp_notN, len_its, decide_eq_true_eq, beq_iff_eq, beq_eq_false_iff_ne, ne_eq, ite_not, Bool.not_eq_true', gl_REACH, gl_SETTLED, gl_MOST_ROUND, gl_MOST_ZONES, gl_MOST_BORDERS, gl_MOST_INNER, gl_MOST_LISTED, Bool.not_eq_true, List.append_nil, wp_itemsT]
        refine ⟨rfl, List.prefix_refl _⟩
      · have e6 : (rngW 0 17).filterMap (fun x => match x with | .int j => some (W.bl (decide (j = (k : Int)))) | _ => none) = (clB (k + 1)).map W.bl := by
          rw [clB_eq k kl, rngW_eq, List.filterMap_map, List.map_map, ← List.filterMap_eq_map]
          congr 1
          funext j
          show some (W.bl (decide ((0 : Int) + (j : Int) = (k : Int)))) = some (W.bl (decide (j = k)))
          congr 2
          exact decide_eq_decide.mpr ⟨fun h => by omega, fun h => by omega⟩
        rw [e6] at o6
        rw [wp_neBl (pre_ob p6 ec) o6]
        try simp only [atI_0, atI_1, atI_2, atI_3, atI_4, Option.some.injEq, exists_eq_left', wp_bind, exs, ex, wp_evX, ev, evs, evT, evTs, evI, evB, asg, asgs, wp_pure, wp_ofSome, wp_ifB, wp_new, wp_guard, wp_srcLen, wp_noEx, List.getElem?_cons_zero, List.getElem?_cons_succ, Option.join_some, List.length_cons, List.length_nil, Nat.reduceAdd, Nat.reduceLT, Nat.reduceLeDiff, Nat.reduceSub, ↓reduceIte, List.set_cons_succ, List.set_cons_zero, wipeE, sz0, sz1, sz2, sz3, sz5, true_and, and_true, Option.getD_some, Option.getD_none, wp_add, wp_sub, wp_mul, wp_fdiv, wp_mod, wp_pow, wp_shl, wp_shr, wp_band, wp_bor, wp_aug, wp_neg, wp_inv, wp_lt, wp_le, wp_gt, wp_ge, wp_eq, wp_ne, wp_addT, wp_ixT, wp_slT, wp_max, wp_min, wp_int, wp_dm, wp_lenT, wp_tr, wp_trI, wp_boundI, wp_listT, wp_tupT, wp_srcT, wp_rng, wp_lrg, wp_mulT, wp_isN, wp_notN, len_its, decide_eq_true_eq, beq_iff_eq, beq_eq_false_iff_ne, ne_eq, ite_not, Bool.not_eq_true', gl_REACH, gl_SETTLED, gl_MOST_ROUND, gl_MOST_ZONES, gl_MOST_BORDERS, gl_MOST_INNER, gl_MOST_LISTED, Bool.not_eq_true, List.append_nil, wp_itemsT, Bool.false_eq_true]
        exact ⟨p4.trans (p5.trans p6), _, _, rfl⟩
    · obtain ⟨p4, x7, x8, rfl⟩ := I
      try simp only [atI_0, atI_1, atI_2, atI_3, atI_4, Option.some.injEq, exists_eq_left', wp_bind, exs, ex, wp_evX, ev, evs, evT, evTs, evI, evB, asg, asgs, wp_pure, wp_ofSome, wp_ifB, wp_new, wp_guard, wp_srcLen, wp_noEx, List.getElem?_cons_zero, List.getElem?_cons_succ, Option.join_some, List.length_cons, List.length_nil, Nat.reduceAdd, Nat.reduceLT, Nat.reduceLeDiff, Nat.reduceSub, ↓reduceIte, List.set_cons_succ, List.set_cons_zero, wipeE, sz0, sz1, sz2, sz3, sz5, true_and, and_true, Option.getD_some, Option.getD_none, wp_add, wp_sub, wp_mul, wp_fdiv, wp_mod, wp_pow, wp_shl, wp_shr, wp_band, wp_bor, wp_aug, wp_neg, wp_inv, wp_lt, wp_le, wp_gt, wp_ge, wp_eq, wp_ne, wp_addT, wp_ixT, wp_slT, wp_max, wp_min, wp_int, wp_dm, wp_lenT, wp_tr, wp_trI, wp_boundI, wp_listT, wp_tupT, wp_srcT, wp_rng, wp_lrg, wp_mulT, wp_isN, wp_notN, len_its, decide_eq_true_eq, beq_iff_eq, beq_eq_false_iff_ne, ne_eq, ite_not, Bool.not_eq_true', gl_REACH, gl_SETTLED, gl_MOST_ROUND, gl_MOST_ZONES, gl_MOST_BORDERS, gl_MOST_INNER, gl_MOST_LISTED, Bool.not_eq_true, List.append_nil, wp_itemsT]
      have eo4 := pre_ob p4 eo
      obtain ⟨a0, h0, f0⟩ := X.2 0 (by omega)
      obtain ⟨a1, h1, f1⟩ := X.2 1 (by omega)
      obtain ⟨a2, h2, f2⟩ := X.2 2 (by omega)
      obtain ⟨a3, h3, f3⟩ := X.2 3 (by omega)
      obtain ⟨a4, h4, f4⟩ := X.2 4 (by omega)
      rw [wp_ixL (getL_of eo4), atI_0, h0]
      try simp only [atI_0, atI_1, atI_2, atI_3, atI_4, Option.some.injEq, exists_eq_left', wp_bind, exs, ex, wp_evX, ev, evs, evT, evTs, evI, evB, asg, asgs, wp_pure, wp_ofSome, wp_ifB, wp_new, wp_guard, wp_srcLen, wp_noEx, List.getElem?_cons_zero, List.getElem?_cons_succ, Option.join_some, List.length_cons, List.length_nil, Nat.reduceAdd, Nat.reduceLT, Nat.reduceLeDiff, Nat.reduceSub, ↓reduceIte, List.set_cons_succ, List.set_cons_zero, wipeE, sz0, sz1, sz2, sz3, sz5, true_and, and_true, Option.getD_some, Option.getD_none, wp_add, wp_sub, wp_mul, wp_fdiv, wp_mod, wp_pow, wp_shl, wp_shr, wp_band, wp_bor, wp_aug, wp_neg, wp_inv, wp_lt, wp_le, wp_gt, wp_ge, wp_eq, wp_ne, wp_addT, wp_ixT, wp_slT, wp_max, wp_min, wp_int, wp_dm, wp_lenT, wp_tr, wp_trI, wp_boundI, wp_listT, wp_tupT, wp_srcT, wp_rng, wp_lrg, wp_mulT, wp_isN, wp_notN, len_its, decide_eq_true_eq, beq_iff_eq, beq_eq_false_iff_ne, ne_eq, ite_not, Bool.not_eq_true', gl_REACH, gl_SETTLED, gl_MOST_ROUND, gl_MOST_ZONES, gl_MOST_BORDERS, gl_MOST_INNER, gl_MOST_LISTED, Bool.not_eq_true, List.append_nil, wp_itemsT]
      rw [wp_xfl (f := Str.ofString "item") (d := 1) (w := W.int (r : Nat)) (pre_ob p4 f0) rfl, wp_ixL (getL_of eo4), atI_1, h1]
      try simp only [atI_0, atI_1, atI_2, atI_3, atI_4, Option.some.injEq, exists_eq_left', wp_bind, exs, ex, wp_evX, ev, evs, evT, evTs, evI, evB, asg, asgs, wp_pure, wp_ofSome, wp_ifB, wp_new, wp_guard, wp_srcLen, wp_noEx, List.getElem?_cons_zero, List.getElem?_cons_succ, Option.join_some, List.length_cons, List.length_nil, Nat.reduceAdd, Nat.reduceLT, Nat.reduceLeDiff, Nat.reduceSub, ↓reduceIte, List.set_cons_succ, List.set_cons_zero, wipeE, sz0, sz1, sz2, sz3, sz5, true_and, and_true, Option.getD_some, Option.getD_none, wp_add, wp_sub, wp_mul, wp_fdiv, wp_mod, wp_pow, wp_shl, wp_shr, wp_band, wp_bor, wp_aug, wp_neg, wp_inv, wp_lt, wp_le, wp_gt, wp_ge, wp_eq, wp_ne, wp_addT, wp_ixT, wp_slT, wp_max, wp_min, wp_int, wp_dm, wp_lenT, wp_tr, wp_trI, wp_boundI, wp_listT, wp_tupT, wp_srcT, wp_rng, wp_lrg, wp_mulT, wp_isN, wp_notN, len_its, decide_eq_true_eq, beq_iff_eq, beq_eq_false_iff_ne, ne_eq, ite_not, Bool.not_eq_true', gl_REACH, gl_SETTLED, gl_MOST_ROUND, gl_MOST_ZONES, gl_MOST_BORDERS, gl_MOST_INNER, gl_MOST_LISTED, Bool.not_eq_true, List.append_nil, wp_itemsT]
      rw [wp_xfl (f := Str.ofString "item") (d := 2) (w := W.int (r : Nat)) (pre_ob p4 f1) rfl, wp_ixL (getL_of eo4), atI_2, h2]
      try simp only [atI_0, atI_1, atI_2, atI_3, atI_4, Option.some.injEq, exists_eq_left', wp_bind, exs, ex, wp_evX, ev, evs, evT, evTs, evI, evB, asg, asgs, wp_pure, wp_ofSome, wp_ifB, wp_new, wp_guard, wp_srcLen, wp_noEx, List.getElem?_cons_zero, List.getElem?_cons_succ, Option.join_some, List.length_cons, List.length_nil, Nat.reduceAdd, Nat.reduceLT, Nat.reduceLeDiff, Nat.reduceSub, ↓reduceIte, List.set_cons_succ, List.set_cons_zero, wipeE, sz0, sz1, sz2, sz3, sz5, true_and, and_true, Option.getD_some, Option.getD_none, wp_add, wp_sub, wp_mul, wp_fdiv, wp_mod, wp_pow, wp_shl, wp_shr, wp_band, wp_bor, wp_aug, wp_neg, wp_inv, wp_lt, wp_le, wp_gt, wp_ge, wp_eq, wp_ne, wp_addT, wp_ixT, wp_slT, wp_max, wp_min, wp_int, wp_dm, wp_lenT, wp_tr, wp_trI, wp_boundI, wp_listT, wp_tupT, wp_srcT, wp_rng, wp_lrg, wp_mulT, wp_isN, wp_notN, len_its, decide_eq_true_eq, beq_iff_eq, beq_eq_false_iff_ne, ne_eq, ite_not, Bool.not_eq_true', gl_REACH, gl_SETTLED, gl_MOST_ROUND, gl_MOST_ZONES, gl_MOST_BORDERS, gl_MOST_INNER, gl_MOST_LISTED, Bool.not_eq_true, List.append_nil, wp_itemsT]
      rw [wp_xfl (f := Str.ofString "part") (d := 3) (w := W.int (r : Nat)) (pre_ob p4 f2) rfl, wp_ixL (getL_of eo4), atI_3, h3]
      try simp only [atI_0, atI_1, atI_2, atI_3, atI_4, Option.some.injEq, exists_eq_left', wp_bind, exs, ex, wp_evX, ev, evs, evT, evTs, evI, evB, asg, asgs, wp_pure, wp_ofSome, wp_ifB, wp_new, wp_guard, wp_srcLen, wp_noEx, List.getElem?_cons_zero, List.getElem?_cons_succ, Option.join_some, List.length_cons, List.length_nil, Nat.reduceAdd, Nat.reduceLT, Nat.reduceLeDiff, Nat.reduceSub, ↓reduceIte, List.set_cons_succ, List.set_cons_zero, wipeE, sz0, sz1, sz2, sz3, sz5, true_and, and_true, Option.getD_some, Option.getD_none, wp_add, wp_sub, wp_mul, wp_fdiv, wp_mod, wp_pow, wp_shl, wp_shr, wp_band, wp_bor, wp_aug, wp_neg, wp_inv, wp_lt, wp_le, wp_gt, wp_ge, wp_eq, wp_ne, wp_addT, wp_ixT, wp_slT, wp_max, wp_min, wp_int, wp_dm, wp_lenT, wp_tr, wp_trI, wp_boundI, wp_listT, wp_tupT, wp_srcT, wp_rng, wp_lrg, wp_mulT, wp_isN, wp_notN, len_its, decide_eq_true_eq, beq_iff_eq, beq_eq_false_iff_ne, ne_eq, ite_not, Bool.not_eq_true', gl_REACH, gl_SETTLED, gl_MOST_ROUND, gl_MOST_ZONES, gl_MOST_BORDERS, gl_MOST_INNER, gl_MOST_LISTED, Bool.not_eq_true, List.append_nil, wp_itemsT]
      rw [wp_xfl (f := Str.ofString "limit") (d := 4) (w := W.int (r : Nat)) (pre_ob p4 f3) rfl, wp_ixL (getL_of eo4), atI_4, h4]
      try simp only [atI_0, atI_1, atI_2, atI_3, atI_4, Option.some.injEq, exists_eq_left', wp_bind, exs, ex, wp_evX, ev, evs, evT, evTs, evI, evB, asg, asgs, wp_pure, wp_ofSome, wp_ifB, wp_new, wp_guard, wp_srcLen, wp_noEx, List.getElem?_cons_zero, List.getElem?_cons_succ, Option.join_some, List.length_cons, List.length_nil, Nat.reduceAdd, Nat.reduceLT, Nat.reduceLeDiff, Nat.reduceSub, ↓reduceIte, List.set_cons_succ, List.set_cons_zero, wipeE, sz0, sz1, sz2, sz3, sz5, true_and, and_true, Option.getD_some, Option.getD_none, wp_add, wp_sub, wp_mul, wp_fdiv, wp_mod, wp_pow, wp_shl, wp_shr, wp_band, wp_bor, wp_aug, wp_neg, wp_inv, wp_lt, wp_le, wp_gt, wp_ge, wp_eq, wp_ne, wp_addT, wp_ixT, wp_slT, wp_max, wp_min, wp_int, wp_dm, wp_lenT, wp_tr, wp_trI, wp_boundI, wp_listT, wp_tupT, wp_srcT, wp_rng, wp_lrg, wp_mulT, wp_isN, wp_notN, len_its, decide_eq_true_eq, beq_iff_eq, beq_eq_false_iff_ne, ne_eq, ite_not, Bool.not_eq_true', gl_REACH, gl_SETTLED, gl_MOST_ROUND, gl_MOST_ZONES, gl_MOST_BORDERS, gl_MOST_INNER, gl_MOST_LISTED, Bool.not_eq_true, List.append_nil, wp_itemsT]
      rw [wp_xfl (f := Str.ofString "count") (d := 5) (w := W.int (r : Nat)) (pre_ob p4 f4) rfl, wp_mulL get_last]
      refine ⟨⟨by decide, by decide, by rw [sizeLine_eq]; show 1 * Int.toNat _ ≤ _; decide⟩, ?_⟩
      rw [show (List.replicate (Int.toNat 5) [W.int (r : Nat)]).flatten = [W.int (r : Nat), W.int (r : Nat), W.int (r : Nat), W.int (r : Nat), W.int (r : Nat)] from rfl]
      rw [wp_neSm (xs := [W.int (r : Nat), W.int (r : Nat), W.int (r : Nat), W.int (r : Nat), W.int (r : Nat)]) (pre_ob (pre_new pre_new1) get_last) get_last rfl rfl rfl]
      try simp only [atI_0, atI_1, atI_2, atI_3, atI_4, Option.some.injEq, exists_eq_left', wp_bind, exs, ex, wp_evX, ev, evs, evT, evTs, evI, evB, asg, asgs, wp_pure, wp_ofSome, wp_ifB, wp_new, wp_guard, wp_srcLen, wp_noEx, List.getElem?_cons_zero, List.getElem?_cons_succ, Option.join_some, List.length_cons, List.length_nil, Nat.reduceAdd, Nat.reduceLT, Nat.reduceLeDiff, Nat.reduceSub, ↓reduceIte, List.set_cons_succ, List.set_cons_zero, wipeE, sz0, sz1, sz2, sz3, sz5, true_and, and_true, Option.getD_some, Option.getD_none, wp_add, wp_sub, wp_mul, wp_fdiv, wp_mod, wp_pow, wp_shl, wp_shr, wp_band, wp_bor, wp_aug, wp_neg, wp_inv, wp_lt, wp_le, wp_gt, wp_ge, wp_eq, wp_ne, wp_addT, wp_ixT, wp_slT, wp_max, wp_min, wp_int, wp_dm, wp_lenT, wp_tr, wp_trI, wp_boundI, wp_listT, wp_tupT, wp_srcT, wp_rng, wp_lrg, wp_mulT, wp_isN, wp_notN, len_its, decide_eq_true_eq, beq_iff_eq, beq_eq_false_iff_ne, ne_eq, ite_not, Bool.not_eq_true', gl_REACH, gl_SETTLED, gl_MOST_ROUND, gl_MOST_ZONES, gl_MOST_BORDERS, gl_MOST_INNER, gl_MOST_LISTED, Bool.not_eq_true, List.append_nil, wp_itemsT, Bool.false_eq_true]
      exact ⟨B3.mono (p4.trans (pre_new (pre_new pre_new1))), _, _, _, _, _, rfl⟩
  · obtain ⟨B1, x2, x5, x6, x7, x8, rfl⟩ := I
    try simp only [atI_0, atI_1, atI_2, atI_3, atI_4, Option.some.injEq, exists_eq_left', wp_bind, exs, ex, wp_evX, ev, evs, evT, evTs, evI, evB, asg, asgs, wp_pure, wp_ofSome, wp_ifB, wp_new, wp_guard, wp_srcLen, wp_noEx, List.getElem?_cons_zero, List.getElem?_cons_succ, Option.join_some, List.length_cons, List.length_nil, Nat.reduceAdd, Nat.reduceLT, Nat.reduceLeDiff, Nat.reduceSub, ↓reduceIte, List.set_cons_succ, List.set_cons_zero, wipeE, sz0, sz1, sz2, sz3, sz5, true_and, and_true, Option.getD_some, Option.getD_none, wp_add, wp_sub, wp_mul, wp_fdiv, wp_mod, wp_pow, wp_shl, wp_shr, wp_band, wp_bor, wp_aug, wp_neg, wp_inv, wp_lt, wp_le, wp_gt, wp_ge, wp_eq, wp_ne, wp_addT, wp_ixT, wp_slT, wp_max, wp_min, wp_int, wp_dm, wp_lenT, wp_tr, wp_trI, wp_boundI, wp_listT, wp_tupT, wp_srcT, wp_rng, wp_lrg, wp_mulT, wp_isN, wp_notN, len_its, decide_eq_true_eq, beq_iff_eq, beq_eq_false_iff_ne, ne_eq, ite_not, Bool.not_eq_true', gl_REACH, gl_SETTLED, gl_MOST_ROUND, gl_MOST_ZONES, gl_MOST_BORDERS, gl_MOST_INNER, gl_MOST_LISTED, Bool.not_eq_true, List.append_nil, wp_itemsT]
    rw [wp_xfl (f := Str.ofString "item") (d := 1) (w := W.non) get_last rfl, wp_xfl (f := Str.ofString "item") (d := 2) (w := W.non) get_last rfl, wp_xfl (f := Str.ofString "part") (d := 3) (w := W.non) get_last rfl, wp_mulL get_last]
    refine ⟨⟨by decide, by decide, by rw [sizeLine_eq]; show 1 * Int.toNat _ ≤ _; decide⟩, ?_⟩
    rw [show (List.replicate (Int.toNat 3) [W.non]).flatten = [W.non, W.non, W.non] from rfl]
    rw [wp_eqSm (xs := [W.non, W.non, W.non]) (pre_ob (pre_new pre_new1) get_last) get_last rfl rfl rfl]
    have ex := pre_ob (S' := S1 ++ [Ob.exn 0 none] ++ [Ob.exn 1 (some W.non)] ++ [Ob.exn 2 (some W.non)] ++ [Ob.exn 3 (some W.non)] ++ [Ob.lst [W.non, W.non, W.non]] ++ [Ob.lst [W.non]] ++ [Ob.lst [W.non, W.non, W.non]]) (pre_new (pre_new (pre_new (pre_new (pre_new pre_new1))))) (get_last (S := S1) (x := Ob.exn 0 none))
    try simp only [atI_0, atI_1, atI_2, atI_3, atI_4, Option.some.injEq, exists_eq_left', wp_bind, exs, ex, wp_evX, ev, evs, evT, evTs, evI, evB, asg, asgs, wp_pure, wp_ofSome, wp_ifB, wp_new, wp_guard, wp_srcLen, wp_noEx, List.getElem?_cons_zero, List.getElem?_cons_succ, Option.join_some, List.length_cons, List.length_nil, Nat.reduceAdd, Nat.reduceLT, Nat.reduceLeDiff, Nat.reduceSub, ↓reduceIte, List.set_cons_succ, List.set_cons_zero, wipeE, sz0, sz1, sz2, sz3, sz5, true_and, and_true, Option.getD_some, Option.getD_none, wp_add, wp_sub, wp_mul, wp_fdiv, wp_mod, wp_pow, wp_shl, wp_shr, wp_band, wp_bor, wp_aug, wp_neg, wp_inv, wp_lt, wp_le, wp_gt, wp_ge, wp_eq, wp_ne, wp_addT, wp_ixT, wp_slT, wp_max, wp_min, wp_int, wp_dm, wp_lenT, wp_tr, wp_trI, wp_boundI, wp_listT, wp_tupT, wp_srcT, wp_rng, wp_lrg, wp_mulT, wp_isN, wp_notN, len_its, decide_eq_true_eq, beq_iff_eq, beq_eq_false_iff_ne, ne_eq, ite_not, Bool.not_eq_true', gl_REACH, gl_SETTLED, gl_MOST_ROUND, gl_MOST_ZONES, gl_MOST_BORDERS, gl_MOST_INNER, gl_MOST_LISTED, Bool.not_eq_true, List.append_nil, wp_itemsT]
    refine sp_law_classes ex fun S2 o p2 e2 => ?_
    rw [wp_notinBl e2, show (clB 0).any id = false from by decide +kernel]
    try simp only [atI_0, atI_1, atI_2, atI_3, atI_4, Option.some.injEq, exists_eq_left', wp_bind, exs, ex, wp_evX, ev, evs, evT, evTs, evI, evB, asg, asgs, wp_pure, wp_ofSome, wp_ifB, wp_new, wp_guard, wp_srcLen, wp_noEx, List.getElem?_cons_zero, List.getElem?_cons_succ, Option.join_some, List.length_cons, List.length_nil, Nat.reduceAdd, Nat.reduceLT, Nat.reduceLeDiff, Nat.reduceSub, ↓reduceIte, List.set_cons_succ, List.set_cons_zero, wipeE, sz0, sz1, sz2, sz3, sz5, true_and, and_true, Option.getD_some, Option.getD_none, wp_add, wp_sub, wp_mul, wp_fdiv, wp_mod, wp_pow, wp_shl, wp_shr, wp_band, wp_bor, wp_aug, wp_neg, wp_inv, wp_lt, wp_le, wp_gt, wp_ge, wp_eq, wp_ne, wp_addT, wp_ixT, wp_slT, wp_max, wp_min, wp_int, wp_dm, wp_lenT, wp_tr, wp_trI, wp_boundI, wp_listT, wp_tupT, wp_srcT, wp_rng, wp_lrg, wp_mulT, wp_isN, wp_notN, len_its, decide_eq_true_eq, beq_iff_eq, beq_eq_false_iff_ne, ne_eq, ite_not, Bool.not_eq_true', gl_REACH, gl_SETTLED, gl_MOST_ROUND, gl_MOST_ZONES, gl_MOST_BORDERS, gl_MOST_INNER, gl_MOST_LISTED, Bool.not_eq_true, List.append_nil, wp_itemsT, Bool.not_false]
    rw [wp_isx (pre_ob p2 ex)]
    rfl
theorem law_ev : ∃ n, n ≤ 100 ∧ ∀ ns : List Int, ns.length ≤ 63 → (∀ z ∈ ns, Builtin.Int.intBits z ≤ 1048576) → ∃ S', runDf (Gn gv ds n) D_law.df [.loc 0] [.frz (ns.map W.int)] = .ok (.bl true) S' := by
  refine ⟨2, by omega, fun ns hz _ => ?_⟩
  obtain ⟨v, S', e, rfl⟩ := (law_wp (n := 0) (ns := ns) hz).get
  exact ⟨S', e⟩
end Fb
set_option maxRecDepth 100000 in
set_option maxHeartbeats 8000000 in
theorem PySem.Challenge.cw_fillbands_k42_errors_made_holds : PySem.Challenge.rw_fillbands_k42_errors_made.Holds := by
  exact holds_of Fb.law_ev
