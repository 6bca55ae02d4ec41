import PyProof.Rows.All
import PyProof.ReprRoads
import PyProof.Rows.Digits
import PySem.Syntax
import PyProof.PureStr
import PyProof.StrBlock2
import PyProof.StrBlockL
import HandS.Text
import HandS.ForMost
import HandS.ForExc
import HandS.ExcInit
import HandS.CallSlots
import HandS.IsInst
import KE.KOpsOwn
import HandS.Wide
import HandS.Property
import HandS.OwnEq
import PyProof.NeKinds
import HandS.Star
import HandS.List
import HandS.NoneIn
import HandS.Iter
import KE.GoesMore
import HandS.Zip
import HandS.Comp
import KE.GoesComp
import HandS.WordsExc
import KE.KExcIs
import HandS.MakeKw
import HandS.MakeKwOnly
import HandS.TryMany
import HandS.Style
import KE.KRevSl
import HandS.TupAny
import HandS.Defaults
import HandS.FStr
import HandS.ClsMeth
import HandS.Dict
import HandS.Conv
import HandS.DictEq
import HandS.HeadEnd
import HandS.HeadHook2
import HandS.Head2
import PySem.Challenge.RW_rangepools_k01_errors

section
set_option Elab.async false
set_option linter.all false
/-! The evaluator: pure data P, a store of cells, expressions E, statements S, and what they evaluate to. -/
namespace RP
open PySem

inductive P where
  | non | bl (b : Bool) | int (i : Int) | str (s : Str)
  | tup (xs : List P) | lst (xs : List P) | ob (c : Nat) (xs : List P) | scr (ns : List Int)
  | dic (ks : List Str) (vs : List P)
  | exn (c : Nat) (xs : List P)
  deriving Inhabited

inductive D where
  | p (x : P) | loc (n : Nat) | cls (c : Nat)

inductive Cell where
  | lst (xs : List P)
  | obj (c : Nat) (fs : List (Nat × D))
  | nst (ds : List D)
  | dct (kvs : List (Str × D))

/-- a place of the store: a thing that changes, one that stays from now on, one that is gone through just now -/
inductive Slot where
  | live (c : Cell) | fz (x : P) | lk (c : Cell)
abbrev Sto := List Slot
/-- what an expression comes to -/
inductive RE (α : Type) where
  | ok (a : α) (S : Sto) | exc (c : Nat) (x : Option P) (S : Sto) | stuck
/-- what a pure def comes to -/
inductive RP where
  | ok (x : P) | exc (c : Nat) (x : Option P) | stuck
abbrev PFn := List P → RP
/-- a method's or an operator's own def: class, name, what it does -/
structure MEnt where
  c : Nat
  m : Nat
  f : PFn
/-- an impure def -/
abbrev IFn := List D → Sto → RE D
/-- a def called with values and keywords -/
abbrev KFn := List P → List P → RP
structure IEnt where
  c : Nat
  m : Nat
  f : IFn
  kw : List (List Str × KFn) := []
structure Tab where
  fns : List (Nat × PFn)
  ifns : List (Nat × IFn)
  mts : List MEnt
  prs : List MEnt
  gcs : List (Nat × P) := []
  kfns : List (Nat × KFn) := []
  imts : List IEnt := []
  kifns : List (Nat × Nat × IFn) := []
  cms : List IEnt := []
  kcms : List (Nat × IFn) := []
def findI (c m : Nat) : List IEnt → Option IFn
  | [] => none
  | e :: r => if e.c == c && e.m == m then some e.f else findI c m r
def findM (c m : Nat) : List MEnt → Option PFn
  | [] => none
  | e :: r => if e.c == c && e.m == m then some e.f else findM c m r
def Tab.meth (Γ : Tab) (c m : Nat) : Option PFn := findM c m Γ.mts
def findK (c m : Nat) (ks : List Str) : List IEnt → Option KFn
  | [] => none
  | e :: r => if e.c == c && e.m == m then e.kw.lookup ks else findK c m ks r
def Tab.kmeth (Γ : Tab) (c m : Nat) (ks : List Str) : Option KFn := findK c m ks Γ.imts
def Tab.cmeth (Γ : Tab) (c m : Nat) : Option IFn := findI c m Γ.cms
/-- ids of names: the operators' first -/
abbrev mAdd : Nat := 0
abbrev mSub : Nat := 1
abbrev mMul : Nat := 2
/-- what a loop goes through: a dict's values, its items, its keys, a list of things that change -/
inductive DK where
  | vals | itms | keys | list
  deriving DecidableEq
inductive Ty where
  | int | bool | str | tup | lst | own (c : Nat)
  deriving DecidableEq
/-- built-ins of one, of two values -/
inductive B1 where
  | len | int | abs | list | tuple | all | sum | rpr | str
  deriving DecidableEq
inductive B2 where
  | min | max
  deriving DecidableEq

mutual
inductive E where
  | var (i : Nat) | gc (k : Nat)
  | non | bl (b : Bool) | int (i : Int) | str (s : Str)
  | bin (op : Operator) (a b : E) | neg (a : E) | not (a : E)
  | cmp (op : CmpOp) (a b : E) | chain (op op' : CmpOp) (a b c : E)
  | and (a b : E) | or (a b : E) | ite (t a b : E)
  | tup (es : Es) | lst (es : Es) | newl (es : Es) | newn (es : Es) | dsp (ks : List Str) (vs : List P) | catl (a b : E)
  | sub (a i : E) | subn (a i : E) | slc (a : E) (hl : Bool) (lo : E) (hh : Bool) (hi : E) | rev (a : E)
  | attr (a : E) (f : Nat)
  | call (k : Nat) (es : Es) | icall (k : Nat) (es : Es) | kcall (k : Nat) (es ks : Es)
  | meth (a : E) (m : Nat) (es : Es) | app (a e : E) | clr (a : E)
  | b1 (b : B1) (a : E) | b2 (b : B2) (a c : E) | cpl (a : E)
  | isi (a : E) (t : Ty)
  | comp (lv : Bool) (elt : E) (tg : Tg) (it : It) (hc : Bool) (c : E)
  | fcall (k : Nat) (es : Es) | bcall (k : Nat) (es : Es)
  | compb (lv : Bool) (elt : E) (tg : Tg) (i : Nat) (hc : Bool) (c : E)
  | fmeth (a : E) (m : Nat) (es : Es)
  | kmeth (a : E) (m : Nat) (ks : List Str) (es : Es)
  | comp2 (elt : E) (tg : Tg) (it : It) (tg1 : Tg) (it1 : It) (hc : Bool) (c : E)
  | fkcall (k : Nat) (es ks : Es)
  | compx (elt : E) (tg : Tg) (it : It) (hc : Bool) (c : E)
  | xn1 (c : Nat) (e : E) | xn0 (c : Nat) | xnk (c : Nat) (e : E) | xget (a : E) (f : Nat) | xis (a : E) (y : Str) (yes no : List Nat)
  | newd | dget (a i : E) | din (neg : Bool) (i a : E) | deq (a b : E) | rpb (a : E) | dkeys (a : E) | dpop (a i : E) | lmeth (a : E) (m : Nat) (es : Es)
  | joi (z : Str) (a : E) | spl (a b : E) | fs3 (a : E) (z : Str) (b : E)
  | lcall (i c k : Nat) (y : Str) (es : Es) | cmeth (c m : Nat) (y : Str) (es : Es) | kcmeth (j c : Nat) (y : Str) (es : Es)
inductive Es where
  | nil | cons (e : E) (es : Es) | star (e : E) (es : Es)
inductive Tg where
  | name (i : Nat) | tup (ts : Tgs)
inductive Tgs where
  | nil | cons (t : Tg) (ts : Tgs)
inductive It where
  | seq (e : E) | rng1 (e : E) | rng2 (a b : E) | zip (a b : E) | enum (e : E)
end

def opM : Operator → Option Nat
  | .Add => some mAdd | .Sub => some mSub | .Mult => some mMul | _ => none
def look : List Str → List P → Str → Option P
  | k :: ks, x :: xs, z => if k = z then some x else look ks xs z
  | _, _, _ => none
/-- the fields of the classes: by the class's number -/
abbrev FldT := Nat → List Nat
/-! dicts with texts as keys -/
section
variable (Γ : Tab) (FT : FldT)
end
/-! ### statements -/
/-- what an except suite may say: constants, names, the exception's own value -/
inductive HX where
  | non | bl (b : Bool) | int (i : Int) | str (s : Str) | var (i : Nat) | given
  | tup (xs : List HX) | lst (xs : List HX)
  | no (i : Nat) | rq (a b : HX)
section
variable (Γ : Tab) (FT : FldT)
end
end RP
end

section
set_option Elab.async false
set_option linter.all false
set_option maxRecDepth 100000
/-! What data stands for which value in a heap. -/
namespace RP
open PySem L2

section
variable {Pg : Program} {w : World} {K : PySem.W.Frag} {mg : Str → Option Value} {bs : Heap} {Y : CXT} {j k : Nat} {fa : Addr} {fd : FuncData} {ns : List Str} {sp sp2 : Sp}
end
structure CC where
  K : PySem.W.Frag
  CA : Nat → Addr
  FT : FldT
  NM : Nat → Str
  kn : Nat → Bool

section
variable (C : CC)
end

section
variable {C : CC} {G G' : Hp} {s s' : Sit}
end
end RP
end



















section
set_option Elab.async false
set_option linter.all false
set_option maxRecDepth 100000
set_option maxHeartbeats 2000000
/-! Built-in functions of data. -/
namespace RP
open PySem L2
/-- a class as isinstance takes it -/
def tyC (C : CC) : Ty → Value
  | .int => .type "int"
  | .bool => .type "bool"
  | .str => .type "str"
  | .tup => .type "tuple"
  | .lst => .type "list"
  | .own c => .ref (C.CA c)
section
variable {C : CC} {W : WX} {X : Cx} {k : Nat} {Γ : Tab} {F : Hp} {a b c e o : Expr} {es : List Expr} {fa fb fe fo : DEnv → Sto → RE D} {pos p apos : Pos}
/-! ### repr -/
section
variable {pins : List (Addr × Obj)} {σ : L2.St} {G H : Hp} {s : Shared}
end
section
variable {pins : List (Addr × Obj)} {σ : L2.St} {G H : Hp} {s : Shared}
end
end
end RP
end



section
set_option Elab.async false
set_option linter.all false
set_option maxRecDepth 100000
set_option maxHeartbeats 2000000
/-! zip of any two of: lists, tuples, texts. -/
namespace RP
open PySem L2 PySem.Spec PyProof.Rows
open PySem.Sem (wp)
/-- what is walked -/
inductive Src where
  | l (a : Addr) | t (a : Addr) | s (z : Str)
section
variable {X : Cx} {pins : List (Addr × Obj)} {σ : L2.St} {H : Hp} {s : Shared} {p : Src} {xs : List V}
end
end RP
end























section
set_option Elab.async false
set_option linter.all false
set_option maxRecDepth 100000
set_option maxHeartbeats 4000000
/-! Defs of the text, what the top has left, and the law's end. -/
namespace RP
open PySem L2
/-! ### parameters -/
/-! ### a def of the text -/
/-- a def: where it stands, and its text -/
structure DD where
  ad : PySem.W.Frag → Addr
  name : Str
  qual : Str
  params : Arguments
  body : List Stmt
  scope : Scope
  dfl : List He.Dv := []
abbrev Seen : Type := Option (Str × Str × Arguments × FuncBody × Scope × Addr × List (Str × Addr) × Addr)
def seeF (K : PySem.W.Frag) (a : Addr) : Seen := match K.lookup a with
  | some o => (match o.data with
    | .func g => some (g.name, g.qualname, g.params, g.body, g.scope, g.globals, g.closure, g.builtins)
    | _ => none)
  | none => none
def DD.told (d : DD) : Seen := some (d.name, d.qual, d.params, .stmts d.body, d.scope, mainGlobals, [], builtinsNs)
def DD.dvs (K : PySem.W.Frag) (d : DD) : List V := d.dfl.map (He.Dv.v K)
def DD.ok (K : PySem.W.Frag) (d : DD) : Bool := PySem.W.keepIn K (.ref (d.ad K)) && (match K.lookup (d.ad K) with
  | some o => (match o.data with
    | .func g => PySem.W.codeIn K g.code d.qual && He.dflB K g.defaults (d.dvs K)
    | _ => false)
  | none => false)
/-- what an address stands for: a global, a method of a class, the getter of a property -/
def gA (x : Str) (K : PySem.W.Frag) : Addr := He.ga K x
def mA (c m : Str) (K : PySem.W.Frag) : Addr := He.ma K (He.ga K c) m
/-! ### the Hook -/
/-- lists of addresses and objects, reckoned once -/
def frcL {α : Type} : List Addr → (List Addr → α) → α
  | [], k => k []
  | a :: r, k => HandSHeadRun.frNat a fun a => frcL r fun r => k (a :: r)
def frcK {α : Type} : PySem.W.Frag → (PySem.W.Frag → α) → α
  | [], k => k []
  | (a, o) :: r, k => HandSHeadRun.frNat a fun a => frcK r fun r => k ((a, o) :: r)
def refsG (g : Addr → Option Obj) (a : Addr) : List Addr := match g a with
  | some o => He.refsD o
  | none => []
def bitB (m a : Nat) : Bool := (m >>> a) % 2 == 1
/-- what is new, and the mask with it -/
def newR {α : Type} : List Addr → Nat → List Addr → (List Addr → Nat → α) → α
  | [], m, r, k => k r m
  | a :: l, m, r, k => HandSHeadRun.frNat a fun a => match bitB m a with
    | true => newR l m r k
    | false => HandSHeadRun.frNat (m ||| (1 <<< a)) fun m => newR l m (a :: r) k
def reachR {α : Type} (g : Addr → Option Obj) : Nat → List Addr → Nat → List Addr → (List Addr → α) → α
  | 0, _, _, acc, k => k acc
  | n + 1, front, m, acc, k => newR (front.flatMap (refsG g)) m [] fun new m => reachR g n new m (acc ++ new) k
def mask0 : Nat := (1 <<< mainGlobals) ||| (1 <<< cStatics)
/-- what is asked of the objects that the module's names reach -/
def askR {α : Type} (n : Nat) (g : Addr → Option Obj) (p : PySem.W.Frag → α) : α := reachR g n [mainGlobals, cStatics] mask0 [mainGlobals, cStatics] fun as => frcL as fun as => frcK (He.frG g as) fun K => p K
def okB (fn : List DD) (K : PySem.W.Frag) : Bool := fn.all (fun d => d.ok K)
def seenL (fn : List DD) (K : PySem.W.Frag) : List Seen := fn.map fun d => seeF K (d.ad K)
end RP
end


section
set_option Elab.async false
set_option linter.all false
set_option maxRecDepth 100000
set_option maxHeartbeats 4000000
/-! The layout of a program: its classes, names, fields; what the top must have left of them. -/
namespace RP
open PySem L2
/-- a constant of a module: texts, a number -/
inductive Gc where
  | txs (l : List Str) | num (i : Int)
def Gc.p : Gc → P
  | .txs l => .tup (l.map P.str)
  | .num i => .int i
structure Lay where
  own : List (Nat × Str)
  xs : List (Nat × Str × List Nat)
  bas : Str
  nm : List Str
  flds : List (Nat × List Nat)
  free : List Str
  gcs : List (Str × Nat × Gc)
  mts : List (Nat × Nat)
  prs : List (Nat × Nat)
  mks : List Nat
  glo : List Str
  cms : List (Nat × Nat) := []
  xv : List Nat := []
  xkn : List (Nat × Str) := []
  xis : List (Str × List Nat × List Nat) := []
def Lay.cn (L : Lay) (c : Nat) : Str := match L.own.lookup c with
  | some x => x
  | none => match L.xs.lookup c with
    | some e => e.1
    | none => ""
def Lay.ft (L : Lay) : FldT := fun c => match L.flds.lookup c with
  | some l => l
  | none => match L.xs.lookup c with
    | some e => e.2
    | none => []
def Lay.NM (L : Lay) (i : Nat) : Str := L.nm.getD i ""
def Lay.cc (L : Lay) (K : PySem.W.Frag) : CC := ⟨K, fun c => He.ga K (L.cn c), L.ft, L.NM, fun c => (L.own.lookup c).isSome⟩
def Lay.tys (L : Lay) : List Ty := [.int, .bool, .str, .tup, .lst] ++ L.own.map fun e => .own e.1
/-! ### looks -/
abbrev Fr := PySem.W.Frag
def ooB (a b : Option (Option Value)) : Bool := decide (a = b)
def clsB (K : Fr) (c : Addr) : Bool := PySem.W.plainGet K c Str.empty && PySem.W.hasDictIn K c && PySem.W.plainOver K c && ooB (PySem.W.findIn K (.ref c) "__setattr__") (some (some (.builtin "object.__setattr__"))) &&
  ooB (PySem.W.findIn K (.ref c) "__class__") (some (some (.builtin "object.__class__"))) && ooB (PySem.W.specialIn K (.builtin "object.__class__") "__get__") (some (some (.builtin "getset_descriptor.__get__"))) && decide (PySem.W.takesIn K (.builtin "object.__class__") = some true) &&
  decide (PySem.W.mroIn K c (.type "object") = some true) && PySem.W.selfFirst K c && ooB (PySem.W.findIn K (.ref c) "__ne__") (some (some (.builtin "object.__ne__")))
def baseB (K : Fr) (c : Addr) : Bool := PySem.W.readsIn K c (.type "type") && (match PySem.W.findCls K (.ref c) (.type "type") "__init__" with
  | some (.val (.builtin n)) => n == "ValueError.__init__"
  | _ => false) && ooB (PySem.W.specialIn K (.ref c) "__getattribute__") (some (some (.builtin "type.__getattribute__")))
def oexB (K : Fr) (c : Addr) : Bool := (match K.lookup c with
  | some o => (match o.cls, o.data, o.slots.toList with
    | .type t, .cls cd, [_, _, _, _, some (.builtin n), _] => t == "type" && n == "ValueError.__new__" && cd.hasDict && !cd.hasDel && (match cd.mro with
      | .ref c' :: bm => c' == c && PySem.HandSPX.refsVE bm
      | _ => false)
    | _, _, _ => false)
  | none => false) && ooB (PySem.W.findIn K (.ref c) "__setattr__") (some (some (.builtin "object.__setattr__"))) && decide (PySem.W.subIn K (.ref c) (.type "BaseException") = some true) && decide (PySem.W.typeIn K (.ref c) = some (.type "type")) && PySem.W.keepIn K (.ref c)
def xrdB (K : Fr) (c : Addr) (f : Str) : Bool := ooB (PySem.W.findIn K (.ref c) "__getattribute__") (some (some (.builtin "BaseException.__getattribute__"))) && ooB (PySem.W.findIn K (.ref c) "__getattr__") (some none) && ooB (PySem.W.findIn K (.ref c) f) (some none) && decide (PySem.W.subIn K (.ref c) (.type "BaseException") = some true) && PySem.W.hasDictIn K c
/-- isinstance against a class: what each kind of value answers -/
def kitB (L : Lay) (K : Fr) (t : Ty) : Bool :=
  let v := tyC (L.cc K) t
  decide (PySem.W.kitOne K (.type "NoneType") v = some false) && decide (PySem.W.kitOne K (.type "bool") v = some (t == .int || t == .bool)) && decide (PySem.W.kitOne K (.type "int") v = some (t == .int)) && decide (PySem.W.kitOne K (.type "str") v = some (t == .str)) &&
  decide (PySem.W.kitOne K (.type "tuple") v = some (t == .tup)) && decide (PySem.W.kitOne K (.type "list") v = some (t == .lst)) && decide (PySem.W.kitOne K (.type "dict") v = some false) && L.own.all fun e => decide (PySem.W.kitOne K (.ref (He.ga K e.2)) v = some (t == .own e.1))
/-! ### all of it -/
def gloB (K : Fr) (x : Str) : Bool := ooB (PySem.W.nsIn K mainGlobals x) (some (some (.ref (He.ga K x))))
def icB (K : Fr) (x : Str) (i : Int) : Bool := match PySem.W.nsIn K mainGlobals x with
  | some (some (.int j _)) => decide (j = i)
  | _ => false
def gcB (K : Fr) (x : Str) : Gc → Bool
  | .txs l => gloB K x && He.tupB K x (l.map He.Dv.str)
  | .num i => icB K x i
def methB (K : Fr) (c : Addr) (m : Str) : Bool := ooB (PySem.W.findIn K (.ref c) m) (some (some (.ref (He.ma K c m)))) && PySem.W.isFn K (.ref (He.ma K c m)) && PySem.W.keepIn K (.ref (He.ma K c m))
def norB (K : Fr) (c : Addr) (m : Nat) : Bool := [Operator.Add, .Sub, .Mult].all fun op => !(opM op == some m) || ooB (PySem.W.findIn K (.ref c) (PySem.dunderR op.info.2)) (some none)
def propB (K : Fr) (c : Addr) (m : Str) : Bool := ooB (PySem.W.findIn K (.ref c) m) (some (some (.ref (He.ma K c m)))) && ooB (PySem.W.specialIn K (.ref (He.ma K c m)) "__get__") (some (some (.builtin "property.__get__"))) && decide (PySem.W.takesIn K (.ref (He.ma K c m)) = some true) && (match PySem.W.recIn K (He.ma K c m) "property" with
  | some (.ref _ :: _) => true
  | _ => false)
def cmB (K : Fr) (c : Addr) (m : Str) : Bool := PySem.W.readsIn K c (.type "type") && ooB (PySem.W.specialIn K (.ref c) "__getattribute__") (some (some (.builtin "type.__getattribute__"))) && (match PySem.W.findCls K (.ref c) (.type "type") m with
  | some (.get (.builtin n) (.ref p) .none (.ref d)) => n == "classmethod.__get__" && p == He.ma K c m && d == c
  | _ => false) && (match PySem.W.recIn K (He.ma K c m) "classmethod" with
  | some (.ref g :: _) => PySem.W.fnIn K g
  | _ => false)
def mkB (K : Fr) (c : Addr) : Bool := PySem.W.makesIn K c && ooB (PySem.W.findIn K (.ref c) "__init__") (some (some (.ref (He.ma K c "__init__")))) && PySem.W.isFn K (.ref (He.ma K c "__init__")) && PySem.W.keepIn K (.ref c)
/-- an exception that is a value -/
def xclB (L : Lay) (K : Fr) (c : Nat) : Bool :=
  let a := He.ga K (L.cn c)
  oexB K a && (PySem.W.clsIn K a).isSome && ooB (PySem.W.findIn K (.ref a) "__getattribute__") (some (some (.builtin "BaseException.__getattribute__"))) && ooB (PySem.W.findIn K (.ref a) "__getattr__") (some none) &&
  ooB (PySem.W.findIn K (.ref a) "__class__") (some (some (.builtin "object.__class__"))) && decide (PySem.W.mroIn K a (.type "object") = some true) && PySem.W.hasDictIn K a && (L.ft c).all (fun f => ooB (PySem.W.findIn K (.ref a) (L.NM f)) (some none)) &&
  L.own.all (fun e => decide (PySem.W.subIn K (.ref a) (.ref (He.ga K e.2)) = some false)) && !(He.ga K "" == a) && L.own.all (fun e => !(He.ga K e.2 == a)) && L.xs.all (fun e => e.1 == c || !(He.ga K e.2.1 == a))
def xisV (K : Fr) (z : Str) : Value := if z = "ValueError" then .type "ValueError" else .ref (He.ga K z)
def xisB (L : Lay) (K : Fr) (e : Str × List Nat × List Nat) : Bool :=
  (if e.1 = "ValueError" then ooB (PySem.W.nsIn K mainGlobals e.1) (some none) else gloB K e.1) &&
  e.2.1.all (fun c => decide (PySem.W.kitOne K (.ref (He.ga K (L.cn c))) (xisV K e.1) = some true)) && e.2.2.all (fun c => decide (PySem.W.kitOne K (.ref (He.ga K (L.cn c))) (xisV K e.1) = some false))
def xdnB (K : Fr) : Bool := ooB (PySem.W.specialIn K (.builtin "object.__class__") "__get__") (some (some (.builtin "getset_descriptor.__get__"))) && decide (PySem.W.takesIn K (.builtin "object.__class__") = some true)
def Lay.look (L : Lay) (K : Fr) : Bool :=
  L.own.all (fun e => gloB K e.2 && clsB K (He.ga K e.2)) &&
  L.own.all (fun e => L.own.all fun d => e.1 == d.1 || (decide (PySem.W.subIn K (.ref (He.ga K e.2)) (.ref (He.ga K d.2)) = some false) && !(He.ga K e.2 == He.ga K d.2))) &&
  L.own.all (fun e => (L.ft e.1).all fun f => ooB (PySem.W.findIn K (.ref (He.ga K e.2)) (L.NM f)) (some none)) &&
  L.tys.all (kitB L K) && L.free.all (fun x => ooB (PySem.W.nsIn K mainGlobals x) (some none)) &&
  L.gcs.all (fun e => gcB K e.1 e.2.2) &&
  gloB K L.bas && baseB K (He.ga K L.bas) &&
  L.xs.all (fun e => gloB K e.2.1 && oexB K (He.ga K e.2.1) && ooB (PySem.W.findIn K (.ref (He.ga K e.2.1)) "__init__") (some (some (.ref (He.ma K (He.ga K e.2.1) "__init__")))) && decide (PySem.W.typeIn K (.ref (He.ma K (He.ga K e.2.1) "__init__")) = some (.type "function"))) &&
  L.xs.all (fun e => L.xs.all fun d => decide (PySem.W.exmOne K (.ref (He.ga K e.2.1)) (.ref (He.ga K d.2.1)) = some (e.1 == d.1))) &&
  L.xs.all (fun e => match e.2.2 with
    | [f] => xrdB K (He.ga K e.2.1) (L.NM f)
    | _ => true) &&
  L.mts.all (fun e => methB K (He.ga K (L.cn e.1)) (L.NM e.2) && norB K (He.ga K (L.cn e.1)) e.2) &&
  L.prs.all (fun e => propB K (He.ga K (L.cn e.1)) (L.NM e.2)) &&
  L.mks.all (fun c => gloB K (L.cn c) && mkB K (He.ga K (L.cn c))) &&
  L.glo.all (gloB K) &&
  L.cms.all (fun e => cmB K (He.ga K (L.cn e.1)) (L.NM e.2)) &&
  L.xv.all (xclB L K) && L.xis.all (xisB L K) && xdnB K
section
variable {L : Lay} {K : Fr} {Pr : Program} {w : World} {h : Heap} {mg : Str → Option Value} {base : Heap}
end
end RP
end



section
set_option Elab.async false
set_option linter.all false
set_option maxRecDepth 100000
set_option maxHeartbeats 4000000
namespace RP
open PySem L2
def top (i : Nat) : Stmt := PySem.Challenge.pw_rangepools_k01_errors.main.body.getD i (.Pass ⟨0, 0, 0, 0⟩)
def names : List Str := [(Str.ofString "__add__"), (Str.ofString "__sub__"), (Str.ofString "__mul__"), (Str.ofString "__neg__"), (Str.ofString "__eq__"), (Str.ofString "__lt__"), (Str.ofString "__le__"), (Str.ofString "append"), (Str.ofString "clear"), (Str.ofString "bottom"), (Str.ofString "top"), (Str.ofString "rows"), (Str.ofString "kept"), (Str.ofString "all"), (Str.ofString "over"), (Str.ofString "fee"), (Str.ofString "root"), (Str.ofString "profile"), (Str.ofString "stretches"), (Str.ofString "given"), (Str.ofString "rows_kept"), (Str.ofString "holds"), (Str.ofString "told"), (Str.ofString "end"), (Str.ofString "needed"), (Str.ofString "rate"), (Str.ofString "pieces"), (Str.ofString "text"), (Str.ofString "read"), (Str.ofString "size"), (Str.ofString "low"), (Str.ofString "high"), (Str.ofString "fees"), (Str.ofString "position"), (Str.ofString "pool"), (Str.ofString "names"), (Str.ofString "entries"), (Str.ofString "held_size"), (Str.ofString "before"), (Str.ofString "due"), (Str.ofString "inside"), (Str.ofString "span"), (Str.ofString "entry"), (Str.ofString "grown"), (Str.ofString "price"), (Str.ofString "marks"), (Str.ofString "beyond"), (Str.ofString "share"), (Str.ofString "close"), (Str.ofString "collect"), (Str.ofString "lessen"), (Str.ofString "grow"), (Str.ofString "lend"), (Str.ofString "trade"), (Str.ofString "settle"), (Str.ofString "unmark"), (Str.ofString "users"), (Str.ofString "change"), (Str.ofString "mark"), (Str.ofString "place"), (Str.ofString "parts_of"), (Str.ofString "pass_part"), (Str.ofString "pass_gap"), (Str.ofString "turn"), (Str.ofString "twin"), (Str.ofString "line")]
def L : Lay where
  own := []
  xs := [(100, (Str.ofString "ByZero"), []), (101, (Str.ofString "BadNumber"), [19]), (102, (Str.ofString "BadText"), []), (103, (Str.ofString "BadRange"), []), (104, (Str.ofString "BadSize"), [19]), (105, (Str.ofString "BadRoot"), [19]), (106, (Str.ofString "BadFee"), [19]), (107, (Str.ofString "BadGood"), [19]), (108, (Str.ofString "BadAmount"), [19]), (109, (Str.ofString "Lacking"), []), (110, (Str.ofString "NoWay"), [19]), (111, (Str.ofString "BadName"), [19]), (112, (Str.ofString "InUse"), [19]), (113, (Str.ofString "NoPosition"), [19]), (114, (Str.ofString "NoPool"), [19]), (115, (Str.ofString "BadLine"), [65]), (116, (Str.ofString "Short"), [19]), (117, (Str.ofString "NothingToUndo"), []), (118, (Str.ofString "NothingToRedo"), []), (119, (Str.ofString "BadWeb"), [19]), (120, (Str.ofString "NoGood"), [19]), (121, (Str.ofString "BadRoute"), []), (122, (Str.ofString "TooMuch"), []), (123, (Str.ofString "UnlikeFees"), []), (124, (Str.ofString "BadPrices"), []), (125, (Str.ofString "BadShare"), [19]), (126, (Str.ofString "BadDeed"), [19]), (127, (Str.ofString "BadSplit"), []), (128, (Str.ofString "BadRing"), [])]
  bas := "PoolError"
  nm := names
  flds := []
  free := [(Str.ofString "abs"), (Str.ofString "all"), (Str.ofString "bool"), (Str.ofString "enumerate"), (Str.ofString "int"), (Str.ofString "isinstance"), (Str.ofString "len"), (Str.ofString "list"), (Str.ofString "max"), (Str.ofString "min"), (Str.ofString "range"), (Str.ofString "repr"), (Str.ofString "str"), (Str.ofString "sum"), (Str.ofString "tuple"), (Str.ofString "zip")]
  gcs := []
  mts := []
  prs := []
  mks := []
  glo := [(Str.ofString "_law_cell"), (Str.ofString "_law_take"), (Str.ofString "_law_same"), (Str.ofString "_law_kinds"), (Str.ofString "_law_box"), (Str.ofString "_law_bases"), (Str.ofString "law")]
  xv := [101, 104, 105, 106, 107, 108, 110, 111, 112, 113, 114, 119, 120, 125, 126, 116, 100, 102, 103, 109, 121, 122, 123, 124, 127, 128, 117, 118, 115]
  xkn := [(101, (Str.ofString "given")), (104, (Str.ofString "given")), (105, (Str.ofString "given")), (106, (Str.ofString "given")), (107, (Str.ofString "given")), (108, (Str.ofString "given")), (110, (Str.ofString "given")), (111, (Str.ofString "given")), (112, (Str.ofString "given")), (113, (Str.ofString "given")), (114, (Str.ofString "given")), (119, (Str.ofString "given")), (120, (Str.ofString "given")), (125, (Str.ofString "given")), (126, (Str.ofString "given")), (116, (Str.ofString "given")), (115, (Str.ofString "line"))]
  xis := [((Str.ofString "BadNumber"), [101], [104, 105, 106, 107, 108, 110, 111, 112, 113, 114, 119, 120, 125, 126, 116, 100, 102, 103, 109, 121, 122, 123, 124, 127, 128, 117, 118, 115]), ((Str.ofString "BadSize"), [104], [101, 105, 106, 107, 108, 110, 111, 112, 113, 114, 119, 120, 125, 126, 116, 100, 102, 103, 109, 121, 122, 123, 124, 127, 128, 117, 118, 115]), ((Str.ofString "BadRoot"), [105], [101, 104, 106, 107, 108, 110, 111, 112, 113, 114, 119, 120, 125, 126, 116, 100, 102, 103, 109, 121, 122, 123, 124, 127, 128, 117, 118, 115]), ((Str.ofString "BadFee"), [106], [101, 104, 105, 107, 108, 110, 111, 112, 113, 114, 119, 120, 125, 126, 116, 100, 102, 103, 109, 121, 122, 123, 124, 127, 128, 117, 118, 115]), ((Str.ofString "BadGood"), [107], [101, 104, 105, 106, 108, 110, 111, 112, 113, 114, 119, 120, 125, 126, 116, 100, 102, 103, 109, 121, 122, 123, 124, 127, 128, 117, 118, 115]), ((Str.ofString "BadAmount"), [108], [101, 104, 105, 106, 107, 110, 111, 112, 113, 114, 119, 120, 125, 126, 116, 100, 102, 103, 109, 121, 122, 123, 124, 127, 128, 117, 118, 115]), ((Str.ofString "NoWay"), [110], [101, 104, 105, 106, 107, 108, 111, 112, 113, 114, 119, 120, 125, 126, 116, 100, 102, 103, 109, 121, 122, 123, 124, 127, 128, 117, 118, 115]), ((Str.ofString "BadName"), [111], [101, 104, 105, 106, 107, 108, 110, 112, 113, 114, 119, 120, 125, 126, 116, 100, 102, 103, 109, 121, 122, 123, 124, 127, 128, 117, 118, 115]), ((Str.ofString "InUse"), [112], [101, 104, 105, 106, 107, 108, 110, 111, 113, 114, 119, 120, 125, 126, 116, 100, 102, 103, 109, 121, 122, 123, 124, 127, 128, 117, 118, 115]), ((Str.ofString "NoPosition"), [113], [101, 104, 105, 106, 107, 108, 110, 111, 112, 114, 119, 120, 125, 126, 116, 100, 102, 103, 109, 121, 122, 123, 124, 127, 128, 117, 118, 115]), ((Str.ofString "NoPool"), [114], [101, 104, 105, 106, 107, 108, 110, 111, 112, 113, 119, 120, 125, 126, 116, 100, 102, 103, 109, 121, 122, 123, 124, 127, 128, 117, 118, 115]), ((Str.ofString "BadWeb"), [119], [101, 104, 105, 106, 107, 108, 110, 111, 112, 113, 114, 120, 125, 126, 116, 100, 102, 103, 109, 121, 122, 123, 124, 127, 128, 117, 118, 115]), ((Str.ofString "NoGood"), [120], [101, 104, 105, 106, 107, 108, 110, 111, 112, 113, 114, 119, 125, 126, 116, 100, 102, 103, 109, 121, 122, 123, 124, 127, 128, 117, 118, 115]), ((Str.ofString "BadShare"), [125], [101, 104, 105, 106, 107, 108, 110, 111, 112, 113, 114, 119, 120, 126, 116, 100, 102, 103, 109, 121, 122, 123, 124, 127, 128, 117, 118, 115]), ((Str.ofString "BadDeed"), [126], [101, 104, 105, 106, 107, 108, 110, 111, 112, 113, 114, 119, 120, 125, 116, 100, 102, 103, 109, 121, 122, 123, 124, 127, 128, 117, 118, 115]), ((Str.ofString "Short"), [116], [101, 104, 105, 106, 107, 108, 110, 111, 112, 113, 114, 119, 120, 125, 126, 100, 102, 103, 109, 121, 122, 123, 124, 127, 128, 117, 118, 115]), ((Str.ofString "ByZero"), [100], [101, 104, 105, 106, 107, 108, 110, 111, 112, 113, 114, 119, 120, 125, 126, 116, 102, 103, 109, 121, 122, 123, 124, 127, 128, 117, 118, 115]), ((Str.ofString "BadText"), [102], [101, 104, 105, 106, 107, 108, 110, 111, 112, 113, 114, 119, 120, 125, 126, 116, 100, 103, 109, 121, 122, 123, 124, 127, 128, 117, 118, 115]), ((Str.ofString "BadRange"), [103], [101, 104, 105, 106, 107, 108, 110, 111, 112, 113, 114, 119, 120, 125, 126, 116, 100, 102, 109, 121, 122, 123, 124, 127, 128, 117, 118, 115]), ((Str.ofString "Lacking"), [109], [101, 104, 105, 106, 107, 108, 110, 111, 112, 113, 114, 119, 120, 125, 126, 116, 100, 102, 103, 121, 122, 123, 124, 127, 128, 117, 118, 115]), ((Str.ofString "BadRoute"), [121], [101, 104, 105, 106, 107, 108, 110, 111, 112, 113, 114, 119, 120, 125, 126, 116, 100, 102, 103, 109, 122, 123, 124, 127, 128, 117, 118, 115]), ((Str.ofString "TooMuch"), [122], [101, 104, 105, 106, 107, 108, 110, 111, 112, 113, 114, 119, 120, 125, 126, 116, 100, 102, 103, 109, 121, 123, 124, 127, 128, 117, 118, 115]), ((Str.ofString "UnlikeFees"), [123], [101, 104, 105, 106, 107, 108, 110, 111, 112, 113, 114, 119, 120, 125, 126, 116, 100, 102, 103, 109, 121, 122, 124, 127, 128, 117, 118, 115]), ((Str.ofString "BadPrices"), [124], [101, 104, 105, 106, 107, 108, 110, 111, 112, 113, 114, 119, 120, 125, 126, 116, 100, 102, 103, 109, 121, 122, 123, 127, 128, 117, 118, 115]), ((Str.ofString "BadSplit"), [127], [101, 104, 105, 106, 107, 108, 110, 111, 112, 113, 114, 119, 120, 125, 126, 116, 100, 102, 103, 109, 121, 122, 123, 124, 128, 117, 118, 115]), ((Str.ofString "BadRing"), [128], [101, 104, 105, 106, 107, 108, 110, 111, 112, 113, 114, 119, 120, 125, 126, 116, 100, 102, 103, 109, 121, 122, 123, 124, 127, 117, 118, 115]), ((Str.ofString "NothingToUndo"), [117], [101, 104, 105, 106, 107, 108, 110, 111, 112, 113, 114, 119, 120, 125, 126, 116, 100, 102, 103, 109, 121, 122, 123, 124, 127, 128, 118, 115]), ((Str.ofString "NothingToRedo"), [118], [101, 104, 105, 106, 107, 108, 110, 111, 112, 113, 114, 119, 120, 125, 126, 116, 100, 102, 103, 109, 121, 122, 123, 124, 127, 128, 117, 115]), ((Str.ofString "BadLine"), [115], [101, 104, 105, 106, 107, 108, 110, 111, 112, 113, 114, 119, 120, 125, 126, 116, 100, 102, 103, 109, 121, 122, 123, 124, 127, 128, 117, 118]), ((Str.ofString "PoolError"), [101, 104, 105, 106, 107, 108, 110, 111, 112, 113, 114, 119, 120, 125, 126, 116, 100, 102, 103, 109, 121, 122, 123, 124, 127, 128, 117, 118, 115], []), ((Str.ofString "ValueError"), [101, 104, 105, 106, 107, 108, 110, 111, 112, 113, 114, 119, 120, 125, 126, 116, 100, 102, 103, 109, 121, 122, 123, 124, 127, 128, 117, 118, 115], [])]
/-! ### the defs -/
/-! ### the tables -/
/-! ### look-ups -/
end RP
end

section
set_option Elab.async false
set_option linter.all false
set_option maxRecDepth 100000
set_option maxHeartbeats 4000000
namespace RP
open PySem L2
def d_l_cell : DD := ⟨gA (Str.ofString "_law_cell"), (Str.ofString "_law_cell"), (Str.ofString "_law_cell"), defArgs (top 32), defBody (top 32), defScope (top 32), []⟩
def d_l_take : DD := ⟨gA (Str.ofString "_law_take"), (Str.ofString "_law_take"), (Str.ofString "_law_take"), defArgs (top 34), defBody (top 34), defScope (top 34), []⟩
def d_l_same : DD := ⟨gA (Str.ofString "_law_same"), (Str.ofString "_law_same"), (Str.ofString "_law_same"), defArgs (top 35), defBody (top 35), defScope (top 35), []⟩
def d_l_kinds : DD := ⟨gA (Str.ofString "_law_kinds"), (Str.ofString "_law_kinds"), (Str.ofString "_law_kinds"), defArgs (top 36), defBody (top 36), defScope (top 36), []⟩
def d_l_box : DD := ⟨gA (Str.ofString "_law_box"), (Str.ofString "_law_box"), (Str.ofString "_law_box"), defArgs (top 33), defBody (top 33), defScope (top 33), []⟩
def d_l_bases : DD := ⟨gA (Str.ofString "_law_bases"), (Str.ofString "_law_bases"), (Str.ofString "_law_bases"), defArgs (top 37), defBody (top 37), defScope (top 37), []⟩
def d_law : DD := ⟨gA (Str.ofString "law"), (Str.ofString "law"), (Str.ofString "law"), defArgs (top 38), defBody (top 38), defScope (top 38), []⟩
def dx_ByZero : DD := ⟨mA (Str.ofString "ByZero") "__init__", "__init__", (Str.ofString "ByZero.__init__"), defArgs (inClass (top 2) 0), defBody (inClass (top 2) 0), defScope (inClass (top 2) 0), []⟩
def dx_BadNumber : DD := ⟨mA (Str.ofString "BadNumber") "__init__", "__init__", (Str.ofString "BadNumber.__init__"), defArgs (inClass (top 3) 0), defBody (inClass (top 3) 0), defScope (inClass (top 3) 0), []⟩
def dx_BadText : DD := ⟨mA (Str.ofString "BadText") "__init__", "__init__", (Str.ofString "BadText.__init__"), defArgs (inClass (top 4) 0), defBody (inClass (top 4) 0), defScope (inClass (top 4) 0), []⟩
def dx_BadRange : DD := ⟨mA (Str.ofString "BadRange") "__init__", "__init__", (Str.ofString "BadRange.__init__"), defArgs (inClass (top 5) 0), defBody (inClass (top 5) 0), defScope (inClass (top 5) 0), []⟩
def dx_BadSize : DD := ⟨mA (Str.ofString "BadSize") "__init__", "__init__", (Str.ofString "BadSize.__init__"), defArgs (inClass (top 6) 0), defBody (inClass (top 6) 0), defScope (inClass (top 6) 0), []⟩
def dx_BadRoot : DD := ⟨mA (Str.ofString "BadRoot") "__init__", "__init__", (Str.ofString "BadRoot.__init__"), defArgs (inClass (top 7) 0), defBody (inClass (top 7) 0), defScope (inClass (top 7) 0), []⟩
def dx_BadFee : DD := ⟨mA (Str.ofString "BadFee") "__init__", "__init__", (Str.ofString "BadFee.__init__"), defArgs (inClass (top 8) 0), defBody (inClass (top 8) 0), defScope (inClass (top 8) 0), []⟩
def dx_BadGood : DD := ⟨mA (Str.ofString "BadGood") "__init__", "__init__", (Str.ofString "BadGood.__init__"), defArgs (inClass (top 9) 0), defBody (inClass (top 9) 0), defScope (inClass (top 9) 0), []⟩
def dx_BadAmount : DD := ⟨mA (Str.ofString "BadAmount") "__init__", "__init__", (Str.ofString "BadAmount.__init__"), defArgs (inClass (top 10) 0), defBody (inClass (top 10) 0), defScope (inClass (top 10) 0), []⟩
def dx_Lacking : DD := ⟨mA (Str.ofString "Lacking") "__init__", "__init__", (Str.ofString "Lacking.__init__"), defArgs (inClass (top 11) 0), defBody (inClass (top 11) 0), defScope (inClass (top 11) 0), []⟩
def dx_NoWay : DD := ⟨mA (Str.ofString "NoWay") "__init__", "__init__", (Str.ofString "NoWay.__init__"), defArgs (inClass (top 12) 0), defBody (inClass (top 12) 0), defScope (inClass (top 12) 0), []⟩
def dx_BadName : DD := ⟨mA (Str.ofString "BadName") "__init__", "__init__", (Str.ofString "BadName.__init__"), defArgs (inClass (top 13) 0), defBody (inClass (top 13) 0), defScope (inClass (top 13) 0), []⟩
def dx_InUse : DD := ⟨mA (Str.ofString "InUse") "__init__", "__init__", (Str.ofString "InUse.__init__"), defArgs (inClass (top 14) 0), defBody (inClass (top 14) 0), defScope (inClass (top 14) 0), []⟩
def dx_NoPosition : DD := ⟨mA (Str.ofString "NoPosition") "__init__", "__init__", (Str.ofString "NoPosition.__init__"), defArgs (inClass (top 15) 0), defBody (inClass (top 15) 0), defScope (inClass (top 15) 0), []⟩
def dx_NoPool : DD := ⟨mA (Str.ofString "NoPool") "__init__", "__init__", (Str.ofString "NoPool.__init__"), defArgs (inClass (top 16) 0), defBody (inClass (top 16) 0), defScope (inClass (top 16) 0), []⟩
def dx_BadLine : DD := ⟨mA (Str.ofString "BadLine") "__init__", "__init__", (Str.ofString "BadLine.__init__"), defArgs (inClass (top 17) 0), defBody (inClass (top 17) 0), defScope (inClass (top 17) 0), []⟩
def dx_Short : DD := ⟨mA (Str.ofString "Short") "__init__", "__init__", (Str.ofString "Short.__init__"), defArgs (inClass (top 18) 0), defBody (inClass (top 18) 0), defScope (inClass (top 18) 0), []⟩
def dx_NothingToUndo : DD := ⟨mA (Str.ofString "NothingToUndo") "__init__", "__init__", (Str.ofString "NothingToUndo.__init__"), defArgs (inClass (top 19) 0), defBody (inClass (top 19) 0), defScope (inClass (top 19) 0), []⟩
def dx_NothingToRedo : DD := ⟨mA (Str.ofString "NothingToRedo") "__init__", "__init__", (Str.ofString "NothingToRedo.__init__"), defArgs (inClass (top 20) 0), defBody (inClass (top 20) 0), defScope (inClass (top 20) 0), []⟩
def dx_BadWeb : DD := ⟨mA (Str.ofString "BadWeb") "__init__", "__init__", (Str.ofString "BadWeb.__init__"), defArgs (inClass (top 21) 0), defBody (inClass (top 21) 0), defScope (inClass (top 21) 0), []⟩
def dx_NoGood : DD := ⟨mA (Str.ofString "NoGood") "__init__", "__init__", (Str.ofString "NoGood.__init__"), defArgs (inClass (top 22) 0), defBody (inClass (top 22) 0), defScope (inClass (top 22) 0), []⟩
def dx_BadRoute : DD := ⟨mA (Str.ofString "BadRoute") "__init__", "__init__", (Str.ofString "BadRoute.__init__"), defArgs (inClass (top 23) 0), defBody (inClass (top 23) 0), defScope (inClass (top 23) 0), []⟩
def dx_TooMuch : DD := ⟨mA (Str.ofString "TooMuch") "__init__", "__init__", (Str.ofString "TooMuch.__init__"), defArgs (inClass (top 24) 0), defBody (inClass (top 24) 0), defScope (inClass (top 24) 0), []⟩
def dx_UnlikeFees : DD := ⟨mA (Str.ofString "UnlikeFees") "__init__", "__init__", (Str.ofString "UnlikeFees.__init__"), defArgs (inClass (top 25) 0), defBody (inClass (top 25) 0), defScope (inClass (top 25) 0), []⟩
def dx_BadPrices : DD := ⟨mA (Str.ofString "BadPrices") "__init__", "__init__", (Str.ofString "BadPrices.__init__"), defArgs (inClass (top 26) 0), defBody (inClass (top 26) 0), defScope (inClass (top 26) 0), []⟩
def dx_BadShare : DD := ⟨mA (Str.ofString "BadShare") "__init__", "__init__", (Str.ofString "BadShare.__init__"), defArgs (inClass (top 27) 0), defBody (inClass (top 27) 0), defScope (inClass (top 27) 0), []⟩
def dx_BadDeed : DD := ⟨mA (Str.ofString "BadDeed") "__init__", "__init__", (Str.ofString "BadDeed.__init__"), defArgs (inClass (top 28) 0), defBody (inClass (top 28) 0), defScope (inClass (top 28) 0), []⟩
def dx_BadSplit : DD := ⟨mA (Str.ofString "BadSplit") "__init__", "__init__", (Str.ofString "BadSplit.__init__"), defArgs (inClass (top 29) 0), defBody (inClass (top 29) 0), defScope (inClass (top 29) 0), []⟩
def dx_BadRing : DD := ⟨mA (Str.ofString "BadRing") "__init__", "__init__", (Str.ofString "BadRing.__init__"), defArgs (inClass (top 30) 0), defBody (inClass (top 30) 0), defScope (inClass (top 30) 0), []⟩
def fn : List DD := [d_l_cell, d_l_take, d_l_same, d_l_kinds, d_l_box, d_l_bases, d_law, dx_ByZero, dx_BadNumber, dx_BadText, dx_BadRange, dx_BadSize, dx_BadRoot, dx_BadFee, dx_BadGood, dx_BadAmount, dx_Lacking, dx_NoWay, dx_BadName, dx_InUse, dx_NoPosition, dx_NoPool, dx_BadLine, dx_Short, dx_NothingToUndo, dx_NothingToRedo, dx_BadWeb, dx_NoGood, dx_BadRoute, dx_TooMuch, dx_UnlikeFees, dx_BadPrices, dx_BadShare, dx_BadDeed, dx_BadSplit, dx_BadRing]
section
variable {Pr : Program} {w : World} {K : Fr} {mg : Str → Option Value} {base : Heap}
end
end RP
end

section
set_option Elab.async false
set_option linter.all false
set_option maxRecDepth 100000
set_option maxHeartbeats 4000000
namespace RP
open PySem L2 PySem.W PySem.Calls PyProof.Rows
/-! ### the head -/
abbrev R : PySem.W.OpenRow := PySem.W.OpenLaw.row PySem.Challenge.rw_rangepools_k01_errors
def loose0 : List PySem.Str := [(Str.ofString "__name__"), (Str.ofString "PoolError"), (Str.ofString "ByZero"), (Str.ofString "BadNumber"), (Str.ofString "BadText"), (Str.ofString "BadRange"), (Str.ofString "BadSize"), (Str.ofString "BadRoot"), (Str.ofString "BadFee"), (Str.ofString "BadGood"), (Str.ofString "BadAmount"), (Str.ofString "Lacking"), (Str.ofString "NoWay"), (Str.ofString "BadName"), (Str.ofString "InUse"), (Str.ofString "NoPosition"), (Str.ofString "NoPool"), (Str.ofString "BadLine"), (Str.ofString "Short"), (Str.ofString "NothingToUndo"), (Str.ofString "NothingToRedo"), (Str.ofString "BadWeb"), (Str.ofString "NoGood"), (Str.ofString "BadRoute"), (Str.ofString "TooMuch"), (Str.ofString "UnlikeFees"), (Str.ofString "BadPrices"), (Str.ofString "BadShare"), (Str.ofString "BadDeed"), (Str.ofString "BadSplit")]
def loose1 : List PySem.Str := [(Str.ofString "BadRing"), (Str.ofString "_law_cell"), (Str.ofString "_law_box"), (Str.ofString "_law_take"), (Str.ofString "_law_same"), (Str.ofString "_law_kinds"), (Str.ofString "_law_bases")]
def loose : List PySem.Str := loose0 ++ loose1
noncomputable abbrev top_run (w : World) (os : OsState) : Option PySem.W.SharedT := HandSHeadRun.endF (HandSHeadRun.stepQ (HandSHeadRun.denQ HandSHeadRun.tabQ) R.prog w) 60000 R.prog w os
theorem run_a (w : World) (os : OsState) : (top_run w os).map (fun s => HandSHeadRun.looksF R.prog (boot_heap w.params) s.abs) = some true := by kernel_rfl
theorem run_b (w : World) (os : OsState) : (top_run w os).map (fun s => HandSHeadRun.seenQ (PySem.W.view R.prog [38]) loose (importedModules R.prog.main.body) (fun s => PySem.W.xlAt (PySem.W.view R.prog [38]) [] s && PySem.W.recOk R.toRowW.records s) s.abs) = some (PySem.W.openGood (PySem.W.view R.prog [38]) loose) := by kernel_rfl
theorem run_c (w : World) (os : OsState) : (top_run w os).map (fun s => askR 6 (HandSHeadRun.getT s) L.look) = some true := by kernel_rfl
theorem run_d (w : World) (os : OsState) : (top_run w os).map (fun s => askR 6 (HandSHeadRun.getT s) (okB fn)) = some true := by kernel_rfl
theorem run_e (w : World) (os : OsState) : (top_run w os).map (fun s => askR 6 (HandSHeadRun.getT s) (seenL fn)) = some (fn.map DD.told) := by kernel_rfl
end RP
end








section
set_option Elab.async false
set_option linter.all false
set_option maxRecDepth 100000
set_option maxHeartbeats 2000000
/-! repr of lists and tuples of large numbers: up to 12,900 bits. -/
namespace RP
open PySem PyProof.Rows
mutual
def bigD : PyData → Bool
  | .none | .bool _ | .str _ => true
  | .int i => decide (i.natAbs.log2 < 12900)
  | .list xs | .tuple xs => bigL xs
  | .dict _ => false
def bigL : List PyData → Bool
  | [] => true
  | x :: xs => bigD x && bigL xs
end
theorem big_lt {i : Int} (h : i.natAbs.log2 < 12900) : i.natAbs < 10 ^ 4300 := Nat.lt_of_lt_of_le (lt_of_log2 h) pow_lo
section
variable {prog : Program} {w : World} {A : Around} {E : Value → Shared → Prop} {s : Shared}
theorem over_none {M : Model} {a : Int} {Q : Option Nat → Shared → Prop} (hn : s.heap.NoDigits) (h : a.natAbs.log2 < 12900) (h1 : Q none s) : wpAny M A (Builtin.overDigitLimit? a) Q E s :=
  overDigitLimit_any hn (fun _ => h1) (fun k => by
    have := big_lt h
    revert k this
    generalize 10 ^ 4300 = P
    intro k this
    omega)
theorem repr_obj_big {a : Int} {t : Tok} {Q : Value → Shared → Prop} (hn : s.heap.NoDigits) (h : a.natAbs.log2 < 12900) (hu : A.units < cLine) (hQ : Q (.str (toString a) s.toks) { s with toks := s.toks + 1 }) : wpAny (model prog w) A (pyReprObj (.int a t)) Q E s := by
  refine wpAny_pyReprObj_slot (by omega) (typeIs_int s a t) PySem.F.slot_int_repr.toG ?_
  refine wpAny_call (codeAny_call_builtin PySem.F.slot_int_repr.plain PySem.F.entry_int_repr (PySem.F.slot_int_repr.check _ _ _ _ _ _ _ _ (typeIs_int _ a t) (PySem.F.args_int_repr_1 _) ?_))
  unfold Builtin.«int.__repr__»
  show wpAny _ _ (do let r ← Builtin.overDigitLimit? a; _) _ _ s
  refine wpAny_bind (over_none hn h ?_)
  exact wpAny_bind (wpAny_mkStr (wpAny_pure ⟨_, _, rfl, hQ⟩) (int_text_fits10 (big_lt h)))
end
section
variable {prog : Program} {w : World} {h₀ : Heap}
theorem reprk_int {a : Int} (t : Tok) (nd : h₀.NoDigits) (h : a.natAbs.log2 < 12900) (d : Nat) : ReprK prog w [] h₀ d (.int a t) (toString a) := fun base hb A g E s Q hg hcl hu hk hQ => by
  have nd' := nd.keeps hk
  rw [pyReprUnder_leaf (v := .int a t) (by omega) (fun _ e => nomatch e)]
  unfold pyRepr
  exact wpAny_bind (repr_obj_big nd' h (by omega) (wpAny_pure (hQ s.heap _ fun _ _ e => e)))
mutual
theorem reprk_of (nd : h₀.NoDigits) : ∀ {v : Value} {d : PyData} {as : List Addr}, Reads h₀ v d as → bigD d = true → d.shown.length ≤ sizeLine → ∃ bs, ReadAtMost h₀ d.depth bs ∧ ReprK prog w bs h₀ d.depth v d.shown
  | _, _, _, .none, _, _ => ⟨[], (fun _ h => nomatch h), by simp only [PyData.shown]; exact .of_is ReprIs.none _ _ _⟩
  | _, _, _, .bool b, _, _ => ⟨[], (fun _ h => nomatch h), by simp only [PyData.shown]; exact .of_is (ReprIs.bool b) _ _ _⟩
  | _, _, _, .int i t, hs, _ => ⟨[], (fun _ h => nomatch h), by simp only [PyData.shown]; exact reprk_int t nd (by simpa [bigD] using hs) _⟩
  | _, _, _, .str x t, _, hz => ⟨[], (fun _ h => nomatch h), by simp only [PyData.shown]; exact .of_is (ReprIs.str x t (by simpa only [PyData.shown] using hz)) _ _ _⟩
  | _, _, _, .list (a := a) (vs := vs) (xs := xs) h1 h2 h3 h4, hs, hz => by
    have hz' : (listText (PyData.shownAll xs)).length ≤ sizeLine := by simpa only [PyData.shown] using hz
    obtain ⟨bs, hb, hk⟩ := reprks_of nd h4 (by simpa [bigD] using hs) (fun t ht => Nat.le_trans (listText_mem_le ht) hz')
    have r : Reads h₀ (.ref a) (.list xs) _ := .list h1 h2 h3 h4
    have hna : a ∉ bs := not_mem_of_deeper r (by simp only [PyData.depth]; omega) hb
    refine ⟨a :: bs, ReadAtMost.cons r (by simp only [PyData.depth]; omega) hb, ?_⟩
    simp only [PyData.depth, PyData.shown]
    obtain ⟨l⟩ := vs
    cases l with
    | nil =>
      have h4' : ReadsAll h₀ [] xs _ := h4
      cases h4'
      simp only [PyData.shownAll, listText_nil]
      exact ReprK.listEmpty h1 h2 h3
    | cons x l => exact ReprK.list h1 h2 h3 hna (by simpa using hk.length_eq) (fun i y e => hk.item i y (by simpa using e))
  | _, _, _, .tuple (a := a) (xs := xs) h1 h2 h3 h4, hs, hz => by
    have hz' : (tupleText (PyData.shownAll xs)).length ≤ sizeLine := by simpa only [PyData.shown] using hz
    obtain ⟨bs, hb, hk⟩ := reprks_of nd h4 (by simpa [bigD] using hs) (fun t ht => Nat.le_trans (tupleText_mem_le ht) hz')
    have r : Reads h₀ (.ref a) (.tuple xs) _ := .tuple h1 h2 h3 h4
    have hna : a ∉ bs := not_mem_of_deeper r (by simp only [PyData.depth]; omega) hb
    refine ⟨a :: bs, ReadAtMost.cons r (by simp only [PyData.depth]; omega) hb, ?_⟩
    simp only [PyData.depth, PyData.shown]
    exact ReprK.tuple h1 h2 h3 hna hk
  | _, _, _, .dict _ _ _ _ _, hs, _ => by simp [bigD] at hs
theorem reprks_of (nd : h₀.NoDigits) : ∀ {vs : List Value} {ds : List PyData} {as : List Addr}, ReadsAll h₀ vs ds as → bigL ds = true → (∀ t ∈ PyData.shownAll ds, t.length ≤ sizeLine) →
    ∃ bs, ReadAtMost h₀ (PyData.depthAll ds) bs ∧ ReprAllK prog w bs h₀ (PyData.depthAll ds) vs (PyData.shownAll ds)
  | _, _, _, .nil, _, _ => ⟨[], (fun _ h => nomatch h), by simp only [PyData.shownAll]; exact .nil⟩
  | _, _, _, .cons (d := d) (ds := ds) r rs, hs, hz => by
    have hs' : bigD d = true ∧ bigL ds = true := by simpa [bigL] using hs
    obtain ⟨b1, hb1, k1⟩ := reprk_of nd r hs'.1 (hz _ (by simp only [PyData.shownAll]; exact List.mem_cons_self ..))
    obtain ⟨b2, hb2, k2⟩ := reprks_of nd rs hs'.2 (fun t ht => hz t (by simp only [PyData.shownAll]; exact List.mem_cons_of_mem _ ht))
    refine ⟨b1 ++ b2, ?_, ?_⟩
    · intro b hm
      simp only [PyData.depthAll]
      rcases List.mem_append.mp hm with hm | hm
      · obtain ⟨d', as', r', hd'⟩ := hb1 b hm
        exact ⟨d', as', r', Nat.le_trans hd' (Nat.le_max_left _ _)⟩
      · obtain ⟨d', as', r', hd'⟩ := hb2 b hm
        exact ⟨d', as', r', Nat.le_trans hd' (Nat.le_max_right _ _)⟩
    · simp only [PyData.depthAll, PyData.shownAll]
      exact .cons ((k1.more fun b hb => List.mem_append_left _ hb).level_le (Nat.le_max_left _ _)) (k2.more_le (fun b hb => List.mem_append_right _ hb) (Nat.le_max_right _ _))
end
/-- repr of a list -/
theorem repr_big {a : Addr} {xs : List PyData} {as : List Addr} (r : Reads h₀ (.ref a) (.list xs) as) (nd : h₀.NoDigits) (hs : bigL xs = true) {A : Around} {E : Value → Shared → Prop} {s : Shared} {Q : Value → Shared → Prop} (hg : A.guards = some []) (hu : A.units + ((PyData.list xs).depth + 1) < cLine) (hk0 : ∀ b o, h₀.get? b = some o → s.heap.get? b = some o)
    (hQ : ∀ h' u tk, (∀ b o, s.heap.get? b = some o → h'.get? b = some o) → Q (.str (PyData.list xs).shown u) { s with heap := h', toks := tk }) (hsz : (PyData.list xs).shown.length ≤ sizeLine) : wpAny (model prog w) A (call (.builtin "repr") [.ref a]) Q E s := by
  cases r with
  | list h1 h2 h3 h4 =>
    rename_i o vs n bs₀
    have hz' : (listText (PyData.shownAll xs)).length ≤ sizeLine := by simpa only [PyData.shown] using hsz
    obtain ⟨bs, hb, hk⟩ := reprks_of (prog := prog) (w := w) nd h4 hs (fun t ht => Nat.le_trans (listText_mem_le ht) hz')
    have hna : a ∉ bs := not_mem_of_deeper (.list h1 h2 h3 h4) (by simp only [PyData.depth]; omega) hb
    simp only [PyData.depth] at hu
    simp only [PyData.shown] at hQ
    refine call_repr_slot (by omega) ⟨o, hk0 _ _ h1, h2⟩ PySem.F.slot_list_repr.toG ?_
    obtain ⟨l⟩ := vs
    cases l with
    | nil =>
      have h4' : ReadsAll h₀ [] xs _ := h4
      cases h4'
      simp only [PyData.shownAll, listText_nil] at hQ
      exact call_list_repr_empty ⟨o, hk0 _ _ h1, h2⟩ (hk0 _ _ h1) h3 ⟨_, _, rfl, hQ s.heap _ _ fun _ _ e => e⟩
    | cons x l =>
      exact call_list_reprK h1 h2 h3 hna (by simpa using hk.length_eq) (fun i y e => hk.item i y (by simpa using e)) (A := A.in1) hg (fun b _ => Clear.nil b) (by show A.units + 1 + _ < cLine; omega) hk0 (fun h' u tk hk' => ⟨_, _, rfl, hQ h' u tk hk'⟩) hz'
end
end RP
end

section
set_option Elab.async false
set_option linter.all false
/-! The evaluator: pure data P, a store of cells, expressions E, statements S, and what they evaluate to. -/
namespace RP
open PySem

abbrev DEnv := List (Option D)

/-- what a statement comes to -/
inductive RS where
  | next (δ : DEnv) (S : Sto) | ret (d : D) (S : Sto) | brk (δ : DEnv) (S : Sto) | cnt (δ : DEnv) (S : Sto) | exc (c : Nat) (x : Option P) (δ : DEnv) (S : Sto) | stuck

@[simp] def RE.bind {α β : Type} (r : RE α) (f : α → Sto → RE β) : RE β := match r with
  | .ok a S => f a S
  | .exc c x S => .exc c x S
  | .stuck => .stuck
@[simp] def RP.lift (r : RP) (S : Sto) : RE D := match r with
  | .ok x => .ok (.p x) S
  | .exc c x => .exc c x S
  | .stuck => .stuck

def Tab.imeth (Γ : Tab) (c m : Nat) : Option IFn := findI c m Γ.imts
def Tab.prop (Γ : Tab) (c m : Nat) : Option PFn := findM c m Γ.prs
abbrev mNeg : Nat := 3
abbrev mEq : Nat := 4
abbrev mLt : Nat := 5
abbrev mLe : Nat := 6
abbrev mAppend : Nat := 7

/-- a text backward -/
def revS (z : Str) : Str := ⟨z.cps.toList.reverse.toArray⟩
def revG (o : Option P) (S : Sto) : RE D := match o with
  | some (.lst xs) => .ok (.p (.lst xs.reverse)) S
  | some (.str z) => if decide (z.length ≤ 100000) then .ok (.p (.str (revS z))) S else .stuck
  | _ => .stuck
/-- a text in parts -/
def splR (x y : Str) (S : Sto) : RE D := if decide (y.length ≠ 0) && decide (x.length ≤ 100000) then .ok (.p (.lst ((PySem.Txt.split x y).map .str))) S else .stuck
def strsOf : List P → Option (List Str)
  | [] => some []
  | .str z :: r => (strsOf r).map (z :: ·)
  | _ :: _ => none
/-- texts joined -/
def joiR (z : Str) (o : Option P) (S : Sto) : RE D := match o with
  | some (.lst xs) => match strsOf xs with
    | some l => if decide ((l.map (·.length)).sum + l.length * z.length ≤ 100000) then .ok (.p (.str (PySem.Txt.join z l))) S else .stuck
    | none => .stuck
  | _ => .stuck
/-- a part of an f-string -/
def fmtD (d : D) : Option Str := match d with
  | .p (.str y) => if decide (y.length ≤ 100000) then some y else none
  | .p (.int i) => if decide (i.natAbs.log2 < 1920) then some (Str.ofString (toString i)) else none
  | _ => none
def fs3R (x z y : Str) (S : Sto) : RE D := if decide ((x ++ z).length ≤ 100000) && decide ((x ++ z ++ y).length ≤ 100000) then .ok (.p (.str (x ++ z ++ y))) S else .stuck
/-- a value becomes pure: a live list is given away -/
@[simp] def purify (d : D) (S : Sto) : RE P := match d with
  | .p x => .ok x S
  | .loc n => match S[n]? with
    | some (.live (.lst xs)) => .ok (.lst xs) (S.set n (.fz (.lst xs)))
    | some (.fz x) => .ok x S
    | _ => .stuck
  | .cls _ => .stuck
/-- a value looked at, at once -/
@[simp] def peek (d : D) (S : Sto) : Option P := match d with
  | .p x => some x
  | .loc n => match S[n]? with
    | some (.live (.lst xs)) => some (.lst xs)
    | some (.fz x) => some x
    | _ => none
  | .cls _ => none

/-- == of flat data, and of data of unlike kinds -/
def eq0 : P → P → Option Bool
  | .non, .non => some true
  | .bl a, .bl b => some (a == b)
  | .int a, .int b => some (a == b)
  | .bl a, .int b => some ((if a then 1 else 0) == b)
  | .int a, .bl b => some (a == (if b then 1 else 0))
  | .str a, .str b => some (a == b)
  | .ob _ _, _ => none
  | _, .ob _ _ => none
  | .scr _, _ => none
  | _, .scr _ => none
  | .dic _ _, _ => none
  | _, .dic _ _ => none
  | .exn _ _, _ => none
  | _, .exn _ _ => none
  | .tup _, .tup _ => none
  | .lst _, .lst _ => none
  | _, _ => some false
def eqL (f : P → P → Option Bool) : List P → List P → Option Bool
  | x :: xs, y :: ys => match f x y with
    | some true => eqL f xs ys
    | some false => some false
    | none => none
  | _, _ => some true
/-- == of data, at most n deep; feq: the own __eq__ -/
def eqN (feq : Nat → P → P → Option Bool) : Nat → P → P → Option Bool
  | 0, _, _ => none
  | n + 1, x, y => match x with
    | .ob c xs => feq c (.ob c xs) y
    | .tup xs => match y with
      | .tup ys => if xs.length == ys.length then eqL (eqN feq n) xs ys else none
      | y => eq0 (.tup xs) y
    | .lst xs => match y with
      | .lst ys => if xs.length == ys.length then eqL (eqN feq n) xs ys else some false
      | y => eq0 (.lst xs) y
    | x => eq0 x y
mutual
def sameP : P → P → Bool
  | .non, .non => true
  | .bl a, .bl b => a == b
  | .int a, .int b => decide (a = b)
  | .str a, .str b => decide (a = b)
  | .tup xs, .tup ys => sameL xs ys
  | .lst xs, .lst ys => sameL xs ys
  | .ob c xs, .ob d ys => decide (c = d) && sameL xs ys
  | .scr a, .scr b => decide (a = b)
  | .dic a xs, .dic b ys => decide (a = b) && sameL xs ys
  | .exn a xs, .exn b ys => decide (a = b) && sameL xs ys
  | _, _ => false
def sameL : List P → List P → Bool
  | [], [] => true
  | x :: xs, y :: ys => sameP x y && sameL xs ys
  | _, _ => false
end
mutual
theorem same_refl : ∀ x : P, sameP x x = true
  | .non => by simp only [sameP]
  | .bl b => by simp [sameP]
  | .int b => by simp [sameP]
  | .str b => by simp [sameP]
  | .tup xs => by simp only [sameP]; exact sameL_refl xs
  | .lst xs => by simp only [sameP]; exact sameL_refl xs
  | .ob c xs => by simp only [sameP, decide_true, Bool.true_and]; exact sameL_refl xs
  | .scr b => by simp [sameP]
  | .dic c xs => by simp only [sameP, decide_true, Bool.true_and]; exact sameL_refl xs
  | .exn c xs => by simp only [sameP, decide_true, Bool.true_and]; exact sameL_refl xs
theorem sameL_refl : ∀ x : List P, sameL x x = true
  | [] => by simp only [sameL]
  | x :: xs => by simp only [sameL, Bool.and_eq_true]; exact ⟨same_refl x, sameL_refl xs⟩
end
mutual
theorem same_eq : ∀ x y : P, sameP x y = true → x = y
  | .non, y, h => by cases y <;> simp [sameP] at h ⊢
  | .bl b, y, h => by cases y <;> simp [sameP] at h ⊢ <;> exact h
  | .int b, y, h => by cases y <;> simp [sameP] at h ⊢ <;> exact h
  | .str b, y, h => by cases y <;> simp [sameP] at h ⊢ <;> exact h
  | .tup xs, y, h => by
    cases y <;> simp [sameP] at h ⊢
    exact sameL_eq xs _ h
  | .lst xs, y, h => by
    cases y <;> simp [sameP] at h ⊢
    exact sameL_eq xs _ h
  | .ob c xs, y, h => by
    cases y <;> simp [sameP] at h ⊢
    exact ⟨h.1, sameL_eq xs _ h.2⟩
  | .scr b, y, h => by cases y <;> simp [sameP] at h ⊢ <;> exact h
  | .dic c xs, y, h => by
    cases y <;> simp [sameP] at h ⊢
    exact ⟨h.1, sameL_eq xs _ h.2⟩
  | .exn c xs, y, h => by
    cases y <;> simp [sameP] at h ⊢
    exact ⟨h.1, sameL_eq xs _ h.2⟩
theorem sameL_eq : ∀ x y : List P, sameL x y = true → x = y
  | [], y, h => by cases y <;> simp [sameL] at h ⊢
  | x :: xs, y, h => by
    cases y <;> simp [sameL] at h ⊢
    exact ⟨same_eq x _ h.1, sameL_eq xs _ h.2⟩
end
/-- an own ==; of one thing with itself it has to be true -/
def Tab.feq (Γ : Tab) (c : Nat) (x y : P) : Option Bool := match Γ.meth c mEq with
  | some f => match f [x, y] with
    | .ok (.bl b) => if sameP x y && !b then none else some b
    | _ => none
  | none => none
theorem Tab.feq_refl {Γ : Tab} {c : Nat} {x : P} {b : Bool} (h : Γ.feq c x x = some b) : b = true := by
  unfold Tab.feq at h
  split at h
  · split at h
    · rw [same_refl] at h
      split at h
      · cases h
      · rename_i hb
        cases h
        simpa using hb
    · cases h
  · cases h
def eqDeep : Nat := 6
def Tab.eq (Γ : Tab) (x y : P) : RP := match eqN Γ.feq eqDeep x y with
  | some b => .ok (.bl b)
  | none => .stuck
def notR : RP → RP
  | .ok (.bl b) => .ok (.bl (!b))
  | .ok _ => .stuck
  | r => r
def flatP : P → Bool
  | .non => true
  | .bl _ => true
  | .int _ => true
  | .str _ => true
  | _ => false
/-- x in ys -/
def isInL (f : P → P → Option Bool) (x : P) : List P → Option Bool
  | [] => some false
  | y :: ys => match f y x with
    | some true => some true
    | some false => isInL f x ys
    | none => none
def Tab.isIn (Γ : Tab) (x y : P) : RP := match y with
  | .lst ys => match isInL (eqN Γ.feq eqDeep) x ys with
    | some b => .ok (.bl b)
    | none => .stuck
  | .tup ys => if flatP x && ys.all flatP then (match isInL eq0 x ys with
    | some b => .ok (.bl b)
    | none => .stuck) else .stuck
  | .str z => match x with
    | .str c => match c.cps.toList with
      | [d] => .ok (.bl (decide (d ∈ z.cps.toList)))
      | _ => .stuck
    | _ => .stuck
  | _ => .stuck

def mulOk (i j : Int) : Bool := decide (i.natAbs.log2 + j.natAbs.log2 < 100000000)
def divOk (j : Int) : Bool := decide (j ≠ 0)
def powOk (i j : Int) : Bool := decide (0 ≤ j) && decide (j ≤ 1000) && decide (i.natAbs.log2 < 10000)
def lineOk (n : Nat) : Bool := decide (n ≤ 100000)
def Tab.bin (Γ : Tab) (op : Operator) (x y : P) : RP := match x with
  | .int i => match y with
    | .int j => match op with
      | .Add => .ok (.int (i + j))
      | .Sub => .ok (.int (i - j))
      | .Mult => if mulOk i j then .ok (.int (i * j)) else .stuck
      | .FloorDiv => if divOk j then .ok (.int (i.fdiv j)) else .stuck
      | .Mod => if j == 0 then .stuck else .ok (.int (i.fmod j))
      | .Pow => if powOk i j then .ok (.int (i ^ j.toNat)) else .stuck
      | _ => .stuck
    | _ => .stuck
  | .str s => match y, op with
    | .str t, .Add => if lineOk (s.length + t.length) then .ok (.str (s ++ t)) else .stuck
    | .int k, .Mult => if decide (k ≤ 1000) && decide (0 ≤ k) && decide (s.length ≤ 100) then .ok (.str (PySem.Txt.mul s k)) else .stuck
    | _, _ => .stuck
  | .lst xs => match y, op with
    | .lst ys, .Add => if lineOk xs.length && lineOk ys.length then .ok (.lst (xs ++ ys)) else .stuck
    | .int k, .Mult => if decide (k ≤ 1000) && decide (0 ≤ k) && lineOk (xs.length * k.toNat) then .ok (.lst (List.replicate k.toNat xs).flatten) else .stuck
    | _, _ => .stuck
  | .tup xs => match y, op with
    | .tup ys, .Add => if !xs.isEmpty && !ys.isEmpty && lineOk xs.length && lineOk ys.length then .ok (.tup (xs ++ ys)) else .stuck
    | _, _ => .stuck
  | .ob c xs => match opM op with
    | some m => match Γ.meth c m with
      | some f => match y with
        | .int i => f [.ob c xs, .int i]
        | .ob c' ys => if c' == c then f [.ob c xs, .ob c' ys] else .stuck
        | _ => .stuck
      | none => .stuck
    | none => .stuck
  | _ => .stuck
def Tab.neg (Γ : Tab) (x : P) : RP := match x with
  | .int i => .ok (.int (-i))
  | .ob c xs => match Γ.meth c mNeg with
    | some f => f [.ob c xs]
    | none => .stuck
  | _ => .stuck
def isNon : P → Bool
  | .non => true
  | _ => false
/-- is: beside None, or of two bools -/
def isW (x y : P) : Option Bool := if isNon y then some (isNon x) else match x with
  | .bl a => match y with
    | .bl b => some (a == b)
    | _ => none
  | _ => none
def Tab.cmp (Γ : Tab) (op : CmpOp) (x y : P) : RP := match op with
  | .Eq => Γ.eq x y
  | .NotEq => notR (Γ.eq x y)
  | .Is => match isW x y with
    | some b => .ok (.bl b)
    | none => .stuck
  | .IsNot => match isW x y with
    | some b => .ok (.bl (!b))
    | none => .stuck
  | .In => Γ.isIn x y
  | .NotIn => notR (Γ.isIn x y)
  | .Lt => match x with
    | .int i => match y with
      | .int j => .ok (.bl (decide (i < j)))
      | _ => .stuck
    | .ob c xs => match Γ.meth c mLt with
      | some f => match y with
        | .lst _ => .stuck
        | y => f [.ob c xs, y]
      | none => .stuck
    | _ => .stuck
  | .LtE => match x with
    | .int i => match y with
      | .int j => .ok (.bl (decide (i ≤ j)))
      | _ => .stuck
    | .ob c xs => match Γ.meth c mLe with
      | some f => match y with
        | .lst _ => .stuck
        | y => f [.ob c xs, y]
      | none => .stuck
    | _ => .stuck
  | .Gt => match x with
    | .int i => match y with
      | .int j => .ok (.bl (decide (j < i)))
      | _ => .stuck
    | _ => .stuck
  | .GtE => match x with
    | .int i => match y with
      | .int j => .ok (.bl (decide (j ≤ i)))
      | _ => .stuck
    | _ => .stuck

def ixAt {α : Type} (xs : List α) (i : Int) : Option α := if 0 ≤ i then xs[i.toNat]? else if i + xs.length < 0 then none else xs[(i + xs.length).toNat]?
/-- an item of a list of changing lists -/
@[simp] def subN (d1 d2 : D) (S : Sto) : RE D := match d1, d2 with
  | .loc n, .p (.int i) => match S[n]? with
    | some (.live (.nst ds)) => match ixAt ds i with
      | some d => .ok d S
      | none => .stuck
    | _ => .stuck
  | _, _ => .stuck
def subP (x i : P) : RP := match i with
  | .str z => match x with
    | .dic ks vs => match look ks vs z with
      | some y => .ok y
      | none => .stuck
    | _ => .stuck
  | .int i => match x with
    | .lst xs => match ixAt xs i with
      | some y => .ok y
      | none => .stuck
    | .tup xs => match ixAt xs i with
      | some y => .ok y
      | none => .stuck
    | .scr ns => if 0 ≤ i then (match ns[i.toNat]? with
      | some n => .ok (.int n)
      | none => .stuck) else .stuck
    | .str z => if 0 ≤ i ∧ z.length ≤ 1000000 then (match z.cps[i.toNat]? with
      | some c => .ok (.str ⟨#[c]⟩)
      | none => .stuck) else .stuck
    | _ => .stuck
  | _ => .stuck
/-- xs[lo:hi] -/
def cutAt (n : Nat) (i : Int) : Nat := if i < 0 then (i + n).toNat else min i.toNat n
def cutO (n d : Nat) : Option Int → Nat
  | some i => cutAt n i
  | none => d
def cutP {α : Type} (xs : List α) (lo hi : Option Int) : List α := (xs.drop (cutO xs.length 0 lo)).take (cutO xs.length xs.length hi - cutO xs.length 0 lo)
def slcP (x : P) (lo hi : Option Int) : RP := match x with
  | .lst xs => .ok (.lst (cutP xs lo hi))
  | .tup xs => if cutO xs.length 0 lo = 0 ∧ cutO xs.length xs.length hi = xs.length then .stuck else .ok (.tup (cutP xs lo hi))
  | .str s => if lineOk s.length then .ok (.str ⟨(cutP s.cps.toList lo hi).toArray⟩) else .stuck
  | _ => .stuck
/-- fields by name -/
def fldIx (f : Nat) : List Nat → List P → Option P
  | g :: gs, x :: xs => if g == f then some x else fldIx f gs xs
  | _, _ => none
def isiP (t : Ty) (x : P) : Option Bool := match x with
  | .non => some false
  | .bl _ => some (t == .int || t == .bool)
  | .int _ => some (t == .int)
  | .str _ => some (t == .str)
  | .tup _ => some (t == .tup)
  | .lst _ => some (t == .lst)
  | .ob c _ => some (t == .own c)
  | .scr _ => none
  | .dic _ _ => some false
  | .exn _ _ => none
def intsOf : List P → Option (List Int)
  | [] => some []
  | .int i :: r => (intsOf r).map (i :: ·)
  | _ :: _ => none
def bolsOf : List P → Option (List Bool)
  | [] => some []
  | .bl i :: r => (bolsOf r).map (i :: ·)
  | _ :: _ => none
mutual
/-- data that can be shown -/
def data0 : P → Option PyData
  | .non => some .none
  | .bl b => some (.bool b)
  | .int i => some (.int i)
  | .str s => some (.str s)
  | .tup xs => (dataL xs).map .tuple
  | .lst xs => (dataL xs).map .list
  | _ => none
def dataL : List P → Option (List PyData)
  | [] => some []
  | x :: xs => match data0 x, dataL xs with
    | some d, some ds => some (d :: ds)
    | _, _ => none
end
def shwP : Option PyData → RP
  | some d => if d.showable && (decide (d.shown.length ≤ 100000) && decide (d.depth ≤ 30)) then .ok (.str d.shown) else .stuck
  | none => .stuck
/-- repr of a list with large numbers -/
def rpbG (x : Option P) (S : Sto) : RE D := match x with
  | some (.lst xs) => match dataL xs with
    | some ds => if bigL ds && (decide ((PyData.list ds).shown.length ≤ 1000000) && decide ((PyData.list ds).depth ≤ 30)) then .ok (.p (.str (PyData.list ds).shown)) S else .stuck
    | none => .stuck
  | _ => .stuck
/-- repr -/
def rprP : P → RP
  | .non => .ok (.str "None")
  | .bl b => .ok (.str (if b then "True" else "False"))
  | .int i => if decide (i.natAbs.log2 < 1920) then .ok (.str (Str.ofString (toString i))) else .stuck
  | .str s => if decide ((PySem.reprText s).length ≤ 100000) then .ok (.str (PySem.reprText s)) else .stuck
  | .tup xs => shwP (data0 (.tup xs))
  | .lst xs => shwP (data0 (.lst xs))
  | .dic ks vs => if vs.all flatP then shwP ((dataL vs).map fun ds => .dict ((ks.map .str).zip ds)) else .stuck
  | _ => .stuck
/-- str(x) -/
def strP : P → RP
  | .str s => .ok (.str s)
  | x => rprP x
def b1P (b : B1) (x : P) : RP := match b with
  | .str => strP x
  | .all => match x with
    | .lst ys => match bolsOf ys with
      | some bs => .ok (.bl (bs.all id))
      | none => .stuck
    | _ => .stuck
  | .sum => match x with
    | .lst ys => match intsOf ys with
      | some is => .ok (.int is.sum)
      | none => .stuck
    | _ => .stuck
  | .rpr => rprP x
  | .len => match x with
    | .lst ys => .ok (.int ys.length)
    | .tup ys => .ok (.int ys.length)
    | .scr ns => .ok (.int ns.length)
    | .str s => if lineOk s.length then .ok (.int s.length) else .stuck
    | _ => .stuck
  | .int => match x with
    | .int i => .ok (.int i)
    | .bl b => .ok (.int (if b then 1 else 0))
    | .str s => if decide (s.length ≤ 640) then (match PySem.intText? s with
      | some n => .ok (.int n)
      | none => .stuck) else .stuck
    | _ => .stuck
  | .abs => match x with
    | .int i => .ok (.int (if i < 0 then -i else i))
    | _ => .stuck
  | .list => match x with
    | .lst ys => .ok (.lst ys)
    | .tup ys => .ok (.lst ys)
    | _ => .stuck
  | .tuple => match x with
    | .lst ys => .ok (.tup ys)
    | .tup ys => .ok (.tup ys)
    | _ => .stuck
def b2P (b : B2) (x y : P) : RP := match x with
  | .int i => match y with
    | .int j => match b with
      | .min => .ok (.int (if j < i then j else i))
      | .max => .ok (.int (if j > i then j else i))
    | _ => .stuck
  | _ => .stuck
/-- a new list with these items, to be changed -/
def newG (xs : List P) (S : Sto) : RE D := .ok (.loc S.length) (S ++ [.live (.lst xs)])
def cplG (x : Option P) (S : Sto) : RE D := match x with
  | some (.lst xs) => newG xs S
  | some (.tup xs) => newG xs S
  | _ => .stuck

/-- the one field of an exception that is a value -/
def xgetG (FT : FldT) (f : Nat) (d : D) (S : Sto) : RE D := match d with
  | .p (.exn c [y]) => if FT c = [f] then .ok (.p y) S else .stuck
  | _ => .stuck
/-- isinstance(e, class): for the classes yes it is so, for the classes no it is not -/
def xisG (yes no : List Nat) (d : D) (S : Sto) : RE D := match d with
  | .p (.exn c _) => if yes.contains c then .ok (.p (.bl true)) S else if no.contains c then .ok (.p (.bl false)) S else .stuck
  | _ => .stuck

def setSlot (δ : DEnv) (i : Nat) (d : D) : DEnv := δ.set i (some d)
mutual
def bindT : Tg → P → DEnv → Option DEnv
  | .name i, x, δ => some (setSlot δ i (.p x))
  | .tup ts, .tup xs, δ => bindTs ts xs δ
  | .tup ts, .lst xs, δ => bindTs ts xs δ
  | .tup _, _, _ => none
def bindTs : Tgs → List P → DEnv → Option DEnv
  | .nil, [], δ => some δ
  | .cons t ts, x :: xs, δ => (bindT t x δ).bind (bindTs ts xs)
  | _, _, _ => none
end
mutual
/-- the slots of a target -/
def tgIx : Tg → List Nat
  | .name i => [i]
  | .tup ts => tgsIx ts
def tgsIx : Tgs → List Nat
  | .nil => []
  | .cons t ts => tgIx t ++ tgsIx ts
end
def wipeD (δ : DEnv) : List Nat → DEnv
  | [] => δ
  | v :: vs => (wipeD δ vs).set v none
def zipP : List P → List P → List P
  | x :: xs, y :: ys => .tup [x, y] :: zipP xs ys
  | _, _ => []
def rangeP (lo : Int) : Nat → List P
  | 0 => []
  | n + 1 => .int lo :: rangeP (lo + 1) n
/-- the pairs of enumerate -/
def enumP : Nat → List P → List P
  | _, [] => []
  | i, x :: xs => .tup [.int (i : Nat), x] :: enumP (i + 1) xs
/-- the signs of a text -/
def signsP (z : Str) : List P := z.cps.toList.map fun c => .str ⟨#[c]⟩
/-- the items of a list, a tuple, a text -/
@[simp] def seqOf : P → Option (List P)
  | .lst xs => some xs
  | .tup xs => some xs
  | .str z => some (signsP z)
  | _ => none
def rngOk (i : Int) : Bool := decide (-(2 ^ 62) ≤ i) && decide (i < 2 ^ 62)

/-- o.m(..) of a thing that never changes -/
def methG (Γ : Tab) (m : Nat) (d : D) (fs : Sto → RE (List P)) (S : Sto) : RE D := match d with
  | .p (.ob c ys) => match Γ.meth c m with
    | some g => (fs S).bind fun xs S2 => (g (.ob c ys :: xs)).lift S2
    | none => .stuck
  | _ => .stuck
/-- values looked at, all at once -/
def peeks : List D → Sto → Option (List P)
  | [], _ => some []
  | d :: ds, S => match peek d S, peeks ds S with
    | some x, some xs => some (x :: xs)
    | _, _ => none
/-- a def that was run by itself gives a new list: it may change -/
def freshG (r : RE D) (S : Sto) : RE D := match r with
  | .ok (.loc n) S' => match S'[n]? with
    | some (.live (.lst ys)) => .ok (.loc S.length) (S ++ [.live (.lst ys)])
    | _ => .stuck
  | .ok (.p x) _ => if flatP x then .ok (.p x) S else .stuck
  | .exc c x _ => .exc c x S
  | _ => .stuck
/-- o.m(..) whose own new list goes on living -/
def methF (Γ : Tab) (m : Nat) (d : D) (fs : Sto → RE (List P)) (S : Sto) : RE D := match d with
  | .p (.ob c ys) => match Γ.imeth c m with
    | some g => (fs S).bind fun xs S2 => freshG (g ((P.ob c ys :: xs).map D.p) []) S2
    | none => .stuck
  | _ => .stuck
/-- o.m(x=..) -/
def methK (Γ : Tab) (m : Nat) (ks : List Str) (d : D) (fs : Sto → RE (List P)) (S : Sto) : RE D := match d with
  | .p (.ob c ys) => match Γ.kmeth c m ks with
    | some g => (fs S).bind fun xs S2 => (g [P.ob c ys] xs).lift S2
    | none => .stuck
  | _ => .stuck
/-- xs.append(x), xs.clear() -/
def appG (d : D) (x : P) (S : Sto) : RE D := match d with
  | .loc n => match S[n]? with
    | some (.live (.lst ys)) => if lineOk ys.length then .ok (.p .non) (S.set n (.live (.lst (ys ++ [x])))) else .stuck
    | _ => .stuck
  | _ => .stuck
def clrG (d : D) (S : Sto) : RE D := match d with
  | .loc n => match S[n]? with
    | some (.live (.lst _)) => .ok (.p .non) (S.set n (.live (.lst [])))
    | some (.fz (.lst [])) => .ok (.p .non) S
    | _ => .stuck
  | _ => .stuck
/-! dicts with texts as keys -/
def lookD (k : Str) : List (Str × D) → Option D
  | [] => none
  | (j, d) :: r => if j = k then some d else lookD k r
def hasD (k : Str) (kvs : List (Str × D)) : Bool := kvs.any fun e => decide (e.1 = k)
def putD (kvs : List (Str × D)) (k : Str) (d : D) : List (Str × D) := if hasD k kvs then kvs.map (fun e => if e.1 = k then (e.1, d) else e) else kvs ++ [(k, d)]
def dropD (kvs : List (Str × D)) (k : Str) : List (Str × D) := kvs.filter fun e => decide (e.1 ≠ k)
/-- a dict, as it can be read -/
def rdD (d : D) (S : Sto) : Option (List (Str × D)) := match d with
  | .loc n => match S[n]? with
    | some (.live (.dct kvs)) => some kvs
    | some (.lk (.dct kvs)) => some kvs
    | _ => none
  | _ => none
def dgetG (d1 d2 : D) (S : Sto) : RE D := match rdD d1 S with
  | some kvs => match d2 with
    | .p (.str k) => match lookD k kvs with
      | some d => .ok d S
      | none => .stuck
    | _ => .stuck
  | none => .stuck
def dinG (neg : Bool) (d2 d1 : D) (S : Sto) : RE D := match rdD d1 S with
  | some kvs => match d2 with
    | .p (.str k) => .ok (.p (.bl (hasD k kvs != neg))) S
    | _ => .stuck
  | none => .stuck
/-- == of dicts of which one is empty -/
def deqG (d1 d2 : D) (S : Sto) : RE D := match rdD d1 S with
  | some xs => match rdD d2 S with
    | some ys => if xs.isEmpty || ys.isEmpty then .ok (.p (.bl (xs.isEmpty && ys.isEmpty))) S else .stuck
    | none => .stuck
  | none => .stuck
def dkeysG (d : D) (S : Sto) : RE D := match d with
  | .loc n => match S[n]? with
    | some (.live (.dct kvs)) => newG (kvs.map fun e => .str e.1) S
    | _ => .stuck
  | _ => .stuck
def isDct (d : D) (S : Sto) : Bool := match d with
  | .loc n => match S[n]? with
    | some (.live (.dct _)) => true
    | _ => false
  | _ => false
def dpopG (d1 d2 : D) (S : Sto) : RE D := match d1 with
  | .loc n => match S[n]? with
    | some (.live (.dct kvs)) => match d2 with
      | .p (.str k) => match lookD k kvs with
        | some d => .ok d (S.set n (.live (.dct (dropD kvs k))))
        | none => .stuck
      | _ => .stuck
    | _ => .stuck
  | _ => .stuck
/-- o.m(..) of a thing that changes -/
def methL (Γ : Tab) (m : Nat) (d : D) (fs : Sto → RE (List D)) (S : Sto) : RE D := match d with
  | .loc n => match S[n]? with
    | some (.live (.obj c _)) => match Γ.imeth c m with
      | some g => (fs S).bind fun ds S2 => g (.loc n :: ds) S2
      | none => .stuck
    | _ => .stuck
  | _ => .stuck
/-- what is gone through, item by item -/
def itmsD (k : DK) : Cell → Option (List (List D))
  | .dct kvs => match k with
    | .vals => some (kvs.map fun e => [e.2])
    | .itms => some (kvs.map fun e => [.p (.str e.1), e.2])
    | .keys => some (kvs.map fun e => [.p (.str e.1)])
    | .list => none
  | .nst ds => match k with
    | .list => some (ds.map fun d => [d])
    | _ => none
  | _ => none
/-- names bound to values -/
def bindD : List Nat → List D → DEnv → Option DEnv
  | [], [], δ => some δ
  | i :: is, d :: ds, δ => bindD is ds (setSlot δ i d)
  | _, _, _ => none
/-- the thing at n is locked, gone through, and set free -/
def lockR {α : Type} (f : DEnv → Sto → RE D) (δ : DEnv) (S : Sto) (go : Nat → Cell → Sto → α) (no : α) : α := match f δ S with
  | .ok (.loc n) _ => match S[n]? with
    | some (.live c) => match f δ (S.set n (.lk c)) with
      | .ok (.loc m) S1 => if m = n then (match S1[n]? with
        | some (.lk c') => go n c' S1
        | _ => no) else no
      | _ => no
    | _ => no
  | _ => no
def freeS (n : Nat) (S : Sto) : Option Sto := match S[n]? with
  | some (.lk c) => some (S.set n (.live c))
  | _ => none
section
variable (Γ : Tab) (FT : FldT)
/-- one comprehension, over things that change -/
def compD (pur : Bool) (js : List Nat) (test : DEnv → Sto → RE D) (elt : DEnv → Sto → RE D) (δ : DEnv) : List (List D) → Sto → RE (List D)
  | [], S => .ok [] S
  | x :: xs, S => match bindD js x δ with
    | none => .stuck
    | some δ' => match test δ' S with
      | .ok (.p (.bl true)) S1 => match elt δ' S1 with
        | .ok d S2 => if pur then (match purify d S2 with
          | .ok y S3 => (compD pur js test elt δ xs S3).bind fun ys S4 => .ok (.p y :: ys) S4
          | _ => .stuck) else (compD pur js test elt δ xs S2).bind fun ys S4 => .ok (d :: ys) S4
        | _ => .stuck
      | .ok (.p (.bl false)) S1 => compD pur js test elt δ xs S1
      | _ => .stuck
/-- one comprehension, over items that are known -/
def compL (bind : P → DEnv → Option DEnv) (test : DEnv → Sto → RE D) (elt : DEnv → Sto → RE D) (δ : DEnv) : List P → Sto → RE (List P)
  | [], S => .ok [] S
  | x :: xs, S => match bind x δ with
    | none => .stuck
    | some δ' => match test δ' S with
      | .ok (.p (.bl true)) S1 => match elt δ' S1 with
        | .ok d S2 => match purify d S2 with
          | .ok y S3 => (compL bind test elt δ xs S3).bind fun ys S4 => .ok (y :: ys) S4
          | _ => .stuck
        | _ => .stuck
      | .ok (.p (.bl false)) S1 => compL bind test elt δ xs S1
      | _ => .stuck
/-- one comprehension whose element may raise -/
def compLx (bind : P → DEnv → Option DEnv) (test : DEnv → Sto → RE D) (elt : DEnv → Sto → RE D) (δ : DEnv) : List P → Sto → RE (List P)
  | [], S => .ok [] S
  | x :: xs, S => match bind x δ with
    | none => .stuck
    | some δ' => match test δ' S with
      | .ok (.p (.bl true)) S1 => match elt δ' S1 with
        | .ok d S2 => match purify d S2 with
          | .ok y S3 => (compLx bind test elt δ xs S3).bind fun ys S4 => .ok (y :: ys) S4
          | _ => .stuck
        | .exc c x S2 => .exc c x S2
        | .stuck => .stuck
      | .ok (.p (.bl false)) S1 => compLx bind test elt δ xs S1
      | _ => .stuck
/-- a comprehension of two clauses; n: how many items there are -/
def comp2L (bind : P → DEnv → Option DEnv) (fi : DEnv → Sto → RE (List P)) (bind1 : P → DEnv → Option DEnv) (test elt : DEnv → Sto → RE D) (ix : List Nat) (δ : DEnv) : Nat → List P → Sto → RE (List P)
  | _, [], S => .ok [] S
  | n, x :: xs, S => match bind x δ with
    | none => .stuck
    | some δ1 => match fi δ1 S with
      | .ok zs S1 => if lineOk (n + zs.length) then (compL bind1 test elt (wipeD δ1 ix) zs S1).bind fun ys S2 => (comp2L bind fi bind1 test elt ix δ (n + ys.length) xs S2).bind fun rs S3 => .ok (ys ++ rs) S3 else .stuck
      | _ => .stuck
/-- the list at n is still there, as it was -/
def borG (n : Nat) (xs : List P) (S : Sto) : Bool := match S[n]? with
  | some (.live (.lst ys)) => sameL xs ys
  | _ => false
/-- a comprehension over a list that may change afterwards -/
def compB (gd : Sto → Bool) (bind : P → DEnv → Option DEnv) (test : DEnv → Sto → RE D) (elt : DEnv → Sto → RE D) (δ : DEnv) : List P → Sto → RE (List P)
  | [], S => if gd S then .ok [] S else .stuck
  | x :: xs, S => if gd S then (match bind x δ with
    | none => .stuck
    | some δ' => match test δ' S with
      | .ok (.p (.bl true)) S1 => match elt δ' S1 with
        | .ok d S2 => match purify d S2 with
          | .ok y S3 => (compB gd bind test elt δ xs S3).bind fun ys S4 => .ok (y :: ys) S4
          | _ => .stuck
        | _ => .stuck
      | .ok (.p (.bl false)) S1 => compB gd bind test elt δ xs S1
      | _ => .stuck) else .stuck
/-- the live list of a name -/
def borV (i : Nat) (δ : DEnv) (S : Sto) : RE (Nat × List P) := match δ[i]? with
  | some (some (.loc n)) => match S[n]? with
    | some (.live (.lst xs)) => .ok (n, xs) S
    | _ => .stuck
  | _ => .stuck
/-- two lists that cannot be one -/
def clash : List P → List P → Bool
  | [], [] => false
  | [], _ :: _ => true
  | _ :: _, [] => true
  | x :: _, y :: _ => match x, y with
    | .tup _, .ob _ _ => true
    | _, _ => flatP x != flatP y
mutual
/-- no list within it can be the list -/
def sepP (ys : List P) : P → Bool
  | .tup xs => sepPs ys xs
  | .lst xs => clash xs ys && sepPs ys xs
  | .ob _ xs => sepPs ys xs
  | .dic _ xs => sepPs ys xs
  | .exn _ xs => sepPs ys xs
  | _ => true
def sepPs (ys : List P) : List P → Bool
  | [] => true
  | x :: xs => sepP ys x && sepPs ys xs
end
def sepD (x : P) (ds : List D) (S : Sto) : Bool := ds.all fun d => match d with
  | .loc n => match S[n]? with
    | some (.live (.lst ys)) => sepP ys x
    | _ => true
  | _ => true
/-- a call that was lent lists: what comes back keeps none of them; a single empty list stands still from then on -/
def lentR (ds : List D) (r : RP) (S : Sto) : RE D := match r with
  | .ok x => if flatP x || sepD x ds S then .ok (.p x) S else match ds with
    | [.loc n] => match S[n]? with
      | some (.live (.lst [])) => .ok (.p x) (S.set n (.fz (.lst [])))
      | _ => .stuck
    | _ => .stuck
  | .exc c none => .exc c none S
  | _ => .stuck
/-- what a comprehension makes -/
def compR (lv : Bool) (ys : List P) (S : Sto) : RE D := if lv then newG ys S else .ok (.p (.lst ys)) S
def optT (hc : Bool) (f : DEnv → Sto → RE D) : DEnv → Sto → RE D := if hc then f else fun _ S => .ok (.p (.bl true)) S
def optI (h : Bool) (f : Sto → RE D) (S : Sto) : RE (Option Int) := if h then (f S).bind fun d S1 => match d with
    | .p (.int i) => .ok (some i) S1
    | _ => .stuck
  else .ok none S
/-- i op j, of ints -/
def icmp (op : CmpOp) (i j : Int) : Option Bool := match op with
  | .Lt => some (decide (i < j))
  | .LtE => some (decide (i ≤ j))
  | _ => none
def chainD (fc : Sto → RE D) (op op' : CmpOp) (d1 d2 : D) (S : Sto) : RE D := match d1, d2 with
  | .p (.int i), .p (.int j) => match icmp op i j with
    | some true => (fc S).bind fun d3 S3 => match d3 with
      | .p (.int k) => match icmp op' j k with
        | some b => .ok (.p (.bl b)) S3
        | none => .stuck
      | _ => .stuck
    | some false => .ok (.p (.bl false)) S
    | none => .stuck
  | _, _ => .stuck
mutual
def evE : E → DEnv → Sto → RE D
  | .var i, δ, S => match δ[i]? with
    | some (some d) => .ok d S
    | _ => .stuck
  | .gc k, _, S => match Γ.gcs.lookup k with
    | some x => .ok (.p x) S
    | none => .stuck
  | .non, _, S => .ok (.p .non) S
  | .bl b, _, S => .ok (.p (.bl b)) S
  | .int i, _, S => .ok (.p (.int i)) S
  | .str s, _, S => .ok (.p (.str s)) S
  | .bin op a b, δ, S => (evE a δ S).bind fun d1 S1 => (evE b δ S1).bind fun d2 S2 => match peek d1 S2, peek d2 S2 with
    | some x, some y => (Γ.bin op x y).lift S2
    | _, _ => .stuck
  | .neg a, δ, S => (evE a δ S).bind fun d S1 => match d with
    | .p x => (Γ.neg x).lift S1
    | _ => .stuck
  | .not a, δ, S => (evE a δ S).bind fun d S1 => match d with
    | .p (.bl b) => .ok (.p (.bl (!b))) S1
    | _ => .stuck
  | .cmp op a b, δ, S => (evE a δ S).bind fun d1 S1 => (evE b δ S1).bind fun d2 S2 => match peek d1 S2, peek d2 S2 with
    | some x, some y => (Γ.cmp op x y).lift S2
    | _, _ => .stuck
  | .chain op op' a b c, δ, S => (evE a δ S).bind fun d1 S1 => (evE b δ S1).bind fun d2 S2 => chainD (evE c δ) op op' d1 d2 S2
  | .and a b, δ, S => (evE a δ S).bind fun d S1 => match d with
    | .p (.bl true) => evE b δ S1
    | .p (.bl false) => .ok (.p (.bl false)) S1
    | _ => .stuck
  | .or a b, δ, S => (evE a δ S).bind fun d S1 => match d with
    | .p (.bl true) => .ok (.p (.bl true)) S1
    | .p (.bl false) => evE b δ S1
    | _ => .stuck
  | .ite t a b, δ, S => (evE t δ S).bind fun d S1 => match d with
    | .p (.bl true) => evE a δ S1
    | .p (.bl false) => evE b δ S1
    | _ => .stuck
  | .tup es, δ, S => (evEs es δ S).bind fun xs S1 => if lineOk xs.length then .ok (.p (.tup xs)) S1 else .stuck
  | .lst es, δ, S => (evEs es δ S).bind fun xs S1 => if lineOk xs.length then .ok (.p (.lst xs)) S1 else .stuck
  | .newl es, δ, S => (evEs es δ S).bind fun xs S1 => if lineOk xs.length then .ok (.loc S1.length) (S1 ++ [.live (.lst xs)]) else .stuck
  | .dsp ks vs, _, S => if decide (ks.length = vs.length) && (decide (vs.length ≤ 15) && (decide ks.Nodup && vs.all flatP)) then .ok (.p (.dic ks vs)) S else .stuck
  | .newn es, δ, S => (evDs es δ S).bind fun ds S1 => if lineOk ds.length then .ok (.loc S1.length) (S1 ++ [.live (.nst ds)]) else .stuck
  | .catl a b, δ, S => (evE a δ S).bind fun d1 S1 => (evE b δ S1).bind fun d2 S2 => match peek d1 S2, peek d2 S2 with
    | some (.lst xs), some (.lst ys) => if lineOk xs.length && lineOk ys.length then .ok (.loc S2.length) (S2 ++ [.live (.lst (xs ++ ys))]) else .stuck
    | _, _ => .stuck
  | .sub a i, δ, S => (evE a δ S).bind fun d1 S1 => (evE i δ S1).bind fun d2 S2 => match peek d1 S2, d2 with
    | some x, .p y => (subP x y).lift S2
    | _, _ => .stuck
  | .subn a i, δ, S => (evE a δ S).bind fun d1 S1 => (evE i δ S1).bind fun d2 S2 => subN d1 d2 S2
  | .slc a hl lo hh hi, δ, S => (evE a δ S).bind fun d1 S1 => (optI hl (evE lo δ) S1).bind fun o1 S2 => (optI hh (evE hi δ) S2).bind fun o2 S3 => match peek d1 S3 with
    | some x => (slcP x o1 o2).lift S3
    | none => .stuck
  | .rev a, δ, S => (evE a δ S).bind fun d1 S1 => revG (peek d1 S1) S1
  | .attr a f, δ, S => (evE a δ S).bind fun d S1 => match d with
    | .p (.ob c xs) => match fldIx f (FT c) xs with
      | some y => .ok (.p y) S1
      | none => match Γ.prop c f with
        | some g => match g [.ob c xs] with
          | .ok y => .ok (.p y) S1
          | _ => .stuck
        | none => .stuck
    | .loc n => match S1[n]? with
      | some (.live (.obj _ fs)) => match fs.lookup f with
        | some d => .ok d S1
        | none => .stuck
      | _ => .stuck
    | _ => .stuck
  | .call k es, δ, S => (evEs es δ S).bind fun xs S1 => match Γ.fns.lookup k with
    | some f => (f xs).lift S1
    | none => .stuck
  | .kcall k es ks, δ, S => (evEs es δ S).bind fun xs S1 => (evEs ks δ S1).bind fun ys S2 => match Γ.kfns.lookup k with
    | some f => (f xs ys).lift S2
    | none => .stuck
  | .icall k es, δ, S => (evDs es δ S).bind fun ds S1 => match Γ.ifns.lookup k with
    | some f => f ds S1
    | none => .stuck
  | .meth a m es, δ, S => (evE a δ S).bind fun d S1 => methG Γ m d (evEs es δ) S1
  | .app a e, δ, S => (evE a δ S).bind fun d S1 => match peek d S1 with
    | some (.lst _) => (evE e δ S1).bind fun d2 S2 => (purify d2 S2).bind fun x S3 => appG d x S3
    | _ => .stuck
  | .clr a, δ, S => (evE a δ S).bind fun d S1 => clrG d S1
  | .b1 b a, δ, S => (evE a δ S).bind fun d S1 => match peek d S1 with
    | some x => (b1P b x).lift S1
    | none => .stuck
  | .b2 b a c, δ, S => (evE a δ S).bind fun d1 S1 => (evE c δ S1).bind fun d2 S2 => match d1, d2 with
    | .p x, .p y => (b2P b x y).lift S2
    | _, _ => .stuck
  | .cpl a, δ, S => (evE a δ S).bind fun d S1 => cplG (peek d S1) S1
  | .isi a t, δ, S => (evE a δ S).bind fun d S1 => match d with
    | .p x => match isiP t x with
      | some b => .ok (.p (.bl b)) S1
      | none => .stuck
    | _ => .stuck
  | .comp lv elt tg it hc c, δ, S => (evIt it δ S).bind fun xs S1 => if lineOk xs.length then (compL (bindT tg) (optT hc (evE c)) (evE elt) (wipeD δ (tgIx tg)) xs S1).bind (compR lv) else .stuck
  | .fcall k es, δ, S => (evEs es δ S).bind fun xs S1 => match Γ.ifns.lookup k with
    | some f => freshG (f (xs.map D.p) []) S1
    | none => .stuck
  | .bcall k es, δ, S => (evDs es δ S).bind fun ds S1 => match peeks ds S1 with
    | some xs => match Γ.fns.lookup k with
      | some f => lentR ds (f xs) S1
      | none => .stuck
    | none => .stuck
  | .fmeth a m es, δ, S => (evE a δ S).bind fun d S1 => methF Γ m d (evEs es δ) S1
  | .kmeth a m ks es, δ, S => (evE a δ S).bind fun d S1 => methK Γ m ks d (evEs es δ) S1
  | .compb lv elt tg i hc c, δ, S => (borV i δ S).bind fun nx S1 => if lineOk nx.2.length then (compB (borG nx.1 nx.2) (bindT tg) (optT hc (evE c)) (evE elt) (wipeD δ (tgIx tg)) nx.2 S1).bind (compR lv) else .stuck
  | .fkcall k es ks, δ, S => (evEs es δ S).bind fun xs S1 => (evEs ks δ S1).bind fun ys S2 => match Γ.kifns.lookup k with
    | some nf => if xs.length = nf.1 then freshG (nf.2 ((xs ++ ys).map D.p) []) S2 else .stuck
    | none => .stuck
  | .compx elt tg it hc c, δ, S => (evIt it δ S).bind fun xs S1 => if lineOk xs.length then (compLx (bindT tg) (optT hc (evE c)) (evE elt) (wipeD δ (tgIx tg)) xs S1).bind (compR false) else .stuck
  | .newd, _, S => .ok (.loc S.length) (S ++ [.live (.dct [])])
  | .dget a i, δ, S => (evE a δ S).bind fun d1 S1 => (evE i δ S1).bind fun d2 S2 => dgetG d1 d2 S2
  | .din neg i a, δ, S => (evE i δ S).bind fun d2 S1 => (evE a δ S1).bind fun d1 S2 => dinG neg d2 d1 S2
  | .rpb a, δ, S => (evE a δ S).bind fun d S1 => rpbG (peek d S1) S1
  | .xn1 c a, δ, S => (evE a δ S).bind fun d S1 => (purify d S1).bind fun y S2 => .ok (.p (.exn c [y])) S2
  | .xnk c a, δ, S => (evE a δ S).bind fun d S1 => (purify d S1).bind fun y S2 => .ok (.p (.exn c [y])) S2
  | .xn0 c, _, S => .ok (.p (.exn c [])) S
  | .xget a f, δ, S => (evE a δ S).bind fun d S1 => xgetG FT f d S1
  | .xis a _ yes no, δ, S => (evE a δ S).bind fun d S1 => xisG yes no d S1
  | .deq a b, δ, S => (evE a δ S).bind fun d1 S1 => (evE b δ S1).bind fun d2 S2 => deqG d1 d2 S2
  | .dkeys a, δ, S => (evE a δ S).bind fun d S1 => dkeysG d S1
  | .dpop a i, δ, S => (evE a δ S).bind fun d1 S1 => if isDct d1 S1 then (evE i δ S1).bind fun d2 S2 => dpopG d1 d2 S2 else .stuck
  | .lmeth a m es, δ, S => (evE a δ S).bind fun d S1 => methL Γ m d (evDs es δ) S1
  | .joi z a, δ, S => (evE a δ S).bind fun d1 S1 => joiR z (peek d1 S1) S1
  | .spl a b, δ, S => (evE a δ S).bind fun d1 S1 => match d1 with
    | .p (.str x) => (evE b δ S1).bind fun d2 S2 => match d2 with
      | .p (.str y) => splR x y S2
      | _ => .stuck
    | _ => .stuck
  | .fs3 a z b, δ, S => (evE a δ S).bind fun d1 S1 => match fmtD d1 with
    | some x => (evE b δ S1).bind fun d2 S2 => match fmtD d2 with
      | some y => fs3R x z y S2
      | none => .stuck
    | none => .stuck
  | .lcall i c k _ es, δ, S => match δ[i]? with
    | some (some (.cls c')) => if c' = c then ((evEs es δ S).bind fun xs S1 => match Γ.fns.lookup k with
      | some f => (f xs).lift S1
      | none => .stuck) else .stuck
    | _ => .stuck
  | .cmeth c m _ es, δ, S => (evEs es δ S).bind fun xs S1 => match Γ.cmeth c m with
    | some f => f (.cls c :: xs.map .p) S1
    | none => .stuck
  | .kcmeth j c _ es, δ, S => (evEs es δ S).bind fun xs S1 => match Γ.kcms.lookup j with
    | some f => f (.cls c :: xs.map .p) S1
    | none => .stuck
  | .comp2 elt tg it tg1 it1 hc c, δ, S => (evIt it δ S).bind fun xs S1 => if lineOk xs.length then (comp2L (bindT tg) (evIt it1) (bindT tg1) (optT hc (evE c)) (evE elt) (tgIx tg1) (wipeD δ (tgIx tg ++ tgIx tg1)) 0 xs S1).bind fun ys S2 => .ok (.p (.lst ys)) S2 else .stuck
termination_by structural e => e
/-- pure items -/
def evEs : Es → DEnv → Sto → RE (List P)
  | .nil, _, S => .ok [] S
  | .cons e es, δ, S => (evE e δ S).bind fun d S1 => (purify d S1).bind fun x S2 => (evEs es δ S2).bind fun xs S3 => .ok (x :: xs) S3
  | .star e es, δ, S => (evE e δ S).bind fun d S1 => match peek d S1 with
    | some (.lst ys) => (evEs es δ S1).bind fun xs S2 => .ok (ys ++ xs) S2
    | some (.tup ys) => (evEs es δ S1).bind fun xs S2 => .ok (ys ++ xs) S2
    | _ => .stuck
def evDs : Es → DEnv → Sto → RE (List D)
  | .nil, _, S => .ok [] S
  | .cons e es, δ, S => (evE e δ S).bind fun d S1 => (evDs es δ S1).bind fun ds S2 => .ok (d :: ds) S2
  | .star _ _, _, _ => .stuck
def evIt : It → DEnv → Sto → RE (List P)
  | .seq e, δ, S => (evE e δ S).bind fun d S1 => (purify d S1).bind fun x S2 => match x with
    | .lst xs => .ok xs S2
    | .tup xs => .ok xs S2
    | .str z => .ok (signsP z) S2
    | _ => .stuck
  | .rng1 e, δ, S => (evE e δ S).bind fun d S1 => match d with
    | .p (.int j) => if rngOk j then .ok (rangeP 0 j.toNat) S1 else .stuck
    | _ => .stuck
  | .rng2 a b, δ, S => (evE a δ S).bind fun d S1 => (evE b δ S1).bind fun d2 S2 => match d, d2 with
    | .p (.int i), .p (.int j) => if rngOk i && rngOk j then .ok (rangeP i (j - i).toNat) S2 else .stuck
    | _, _ => .stuck
  | .zip a b, δ, S => (evE a δ S).bind fun d S1 => (purify d S1).bind fun x S2 => (evE b δ S2).bind fun d2 S3 => (purify d2 S3).bind fun y S4 => match seqOf x, seqOf y with
    | some xs, some ys => .ok (zipP xs ys) S4
    | _, _ => .stuck
  | .enum a, δ, S => (evE a δ S).bind fun d S1 => (purify d S1).bind fun x S2 => match x with
    | .lst xs => .ok (enumP 0 xs) S2
    | .tup xs => .ok (enumP 0 xs) S2
    | _ => .stuck
end
end
/-! ### statements -/
inductive HS where
  | ret (e : HX) | inc (i : Nat) (k : Int) | app (i : Nat) (e : HX) | set (i : Nat) (e : HX)
def P.isStr : P → P → Bool
  | .str s, .str t => s == t
  | _, _ => false
mutual
def hxE (g : Option P) (δ : DEnv) : HX → Option P
  | .non => some .non
  | .bl b => some (.bl b)
  | .int i => some (.int i)
  | .str s => some (.str s)
  | .var i => match δ[i]? with
    | some (some (.p x)) => some x
    | _ => none
  | .given => g
  | .no i => match δ[i]? with
    | some (some (.p (.bl b))) => some (.bl (!b))
    | _ => none
  | .rq a b => match hxE g δ a with
    | some x => match hxE g δ b with
      | some y => match rprP x with
        | .ok z => match rprP y with
          | .ok w => some (.bl (z.isStr w))
          | _ => none
        | _ => none
      | none => none
    | none => none
  | .tup xs => match hxEs g δ xs with
    | some ys => if lineOk ys.length then some (.tup ys) else none
    | none => none
  | .lst xs => match hxEs g δ xs with
    | some ys => if lineOk ys.length then some (.lst ys) else none
    | none => none
def hxEs (g : Option P) (δ : DEnv) : List HX → Option (List P)
  | [] => some []
  | x :: xs => match hxE g δ x with
    | some y => match hxEs g δ xs with
      | some ys => some (y :: ys)
      | none => none
    | none => none
end
mutual
inductive S where
  | asg (t : Tg) (e : E) | par (i j : Nat) (a b : E) | par3 (i j l : Nat) (a b c : E)
  | setf (o : E) (f : Nat) (e : E) | seti (o i e : E)
  | ext (i : Nat) (e : E)
  | expr (e : E) | ret (e : E) | retn
  | ifs (c : E) (a b : Ss) | whl (c : E) (b : Ss) | for_ (t : Tg) (it : It) (b : Ss)
  | brk | cnt | pass
  | dput (o i e : E) | incf (o : E) (f : Nat) (neg : Bool) (k : Int) | seti2 (o1 i1 o2 i2 e : E)
  | forD (js : List Nat) (k : DK) (a : E) (b : Ss) | asgD (x : Nat) (pur : Bool) (elt : E) (j : Nat) (k : DK) (a : E) (hc : Bool) (c : E)
  | rais0 (c : Nat) | rais1 (c : Nat) (e : E)
  | tr (b : Ss) (hs : Hs)
inductive Ss where
  | nil | cons (s : S) (r : Ss)
inductive Hs where
  | nil | cons (cs ns : List Nat) (i : Option Nat) (b : HS) (r : Hs)
end
def RS.bind (r : RS) (f : DEnv → Sto → RS) : RS := match r with
  | .next δ S => f δ S
  | r => r
/-- an expression ahead of the rest of a statement -/
def RE.st {α : Type} (r : RE α) (δ : DEnv) (f : α → Sto → RS) : RS := match r with
  | .ok a S => f a S
  | .exc c x S => .exc c x δ S
  | .stuck => .stuck
/-- behind a loop's body: on, out, or further out -/
def loopEnd (r : RS) (on : DEnv → Sto → RS) : RS := match r with
  | .next δ S => on δ S
  | .cnt δ S => on δ S
  | .brk δ S => .next δ S
  | r => r
def whileL (test : DEnv → Sto → RE D) (body : DEnv → Sto → RS) : Nat → DEnv → Sto → RS
  | 0, _, _ => .stuck
  | n + 1, δ, S => (test δ S).st δ fun d S1 => match d with
    | .p (.bl true) => loopEnd (body δ S1) (whileL test body n)
    | .p (.bl false) => .next δ S1
    | _ => .stuck
def forL (bind : P → DEnv → Option DEnv) (body : DEnv → Sto → RS) : List P → DEnv → Sto → RS
  | [], δ, S => .next δ S
  | x :: xs, δ, S => match bind x δ with
    | none => .stuck
    | some δ' => loopEnd (body δ' S) (forL bind body xs)
/-- more turns than any while here makes -/
@[irreducible] def fuel : Nat := 2 ^ 1000000
def setFld (f : Nat) (d : D) : List (Nat × D) → List (Nat × D)
  | [] => [(f, d)]
  | (g, e) :: r => if g == f then (g, d) :: r else (g, e) :: setFld f d r
def setIx {α : Type} (xs : List α) (i : Int) (y : α) : Option (List α) :=
  if 0 ≤ i then (if i.toNat < xs.length then some (xs.set i.toNat y) else none)
  else if i + xs.length < 0 then none else some (xs.set (i + xs.length).toNat y)
/-- no exception out of it -/
def noX : RS → RS
  | .exc _ _ _ _ => .stuck
  | r => r
def freeR (n : Nat) (r : RS) : RS := match r with
  | .next δ S => match freeS n S with
    | some S' => .next δ S'
    | none => .stuck
  | .ret d S => match freeS n S with
    | some S' => .ret d S'
    | none => .stuck
  | .brk δ S => match freeS n S with
    | some S' => .brk δ S'
    | none => .stuck
  | .cnt δ S => match freeS n S with
    | some S' => .cnt δ S'
    | none => .stuck
  | .exc _ _ _ _ => .stuck
  | .stuck => .stuck
def forDL (js : List Nat) (body : DEnv → Sto → RS) : List (List D) → DEnv → Sto → RS
  | [], δ, S => .next δ S
  | x :: xs, δ, S => match bindD js x δ with
    | none => .stuck
    | some δ' => loopEnd (noX (body δ' S)) (forDL js body xs)
/-- d[k] = e -/
def dputG (d d1 d2 : D) (δ : DEnv) (S : Sto) : RS := match d1 with
  | .loc n => match S[n]? with
    | some (.live (.dct kvs)) => match d2 with
      | .p (.str k) => if decide (kvs.length < 1000) then .next δ (S.set n (.live (.dct (putD kvs k d)))) else .stuck
      | _ => .stuck
    | _ => .stuck
  | _ => .stuck
/-- o.f += k, o.f -= k -/
def incfG (FT : FldT) (f : Nat) (neg : Bool) (k : Int) (d : D) (δ : DEnv) (S : Sto) : RS := match d with
  | .loc n => match S[n]? with
    | some (.live (.obj c fs)) => match fs.lookup f with
      | some (.p (.int j)) => if decide (fs.length < 100) && (FT c).contains f then .next δ (S.set n (.live (.obj c (setFld f (.p (.int (if neg then j - k else j + k))) fs)))) else .stuck
      | _ => .stuck
    | _ => .stuck
  | _ => .stuck
def setiG (y : P) (d2 d3 : D) (S : Sto) : Option Sto := match d2, d3 with
  | .loc n, .p (.int k) => match S[n]? with
    | some (.live (.lst xs)) => match setIx xs k y with
      | some ys => some (S.set n (.live (.lst ys)))
      | none => none
    | _ => none
  | _, _ => none
/-- a list of such things, or of data -/
def asgDR (pur : Bool) (x n : Nat) (δ : DEnv) (r : RE (List D)) : RS := match r with
  | .ok ds S => match freeS n S with
    | some S' => if pur then (match ds.mapM (fun d => match d with
        | .p y => some y
        | _ => none) with
      | some ys => .next (setSlot δ x (.p (.lst ys))) S'
      | none => .stuck) else .next (setSlot δ x (.loc S'.length)) (S' ++ [.live (.nst ds)])
    | none => .stuck
  | _ => .stuck
/-- xs += ys -/
def extD (i : Nat) (d d2 : D) (δ : DEnv) (S : Sto) : RS := match d with
  | .loc n => match S[n]?, peek d2 S with
    | some (.live (.lst xs)), some (.lst ys) => if lineOk xs.length && lineOk ys.length then .next (setSlot δ i (.loc n)) (S.set n (.live (.lst (xs ++ ys)))) else .stuck
    | _, _ => .stuck
  | _ => .stuck
def goneSlot (i : Option Nat) (δ : DEnv) : DEnv := match i with
  | some j => δ.set j none
  | none => δ
/-- an except suite; δ: without the exception's name -/
def exH (g : Option P) (δ : DEnv) (S : Sto) : HS → RS
  | .ret e => match hxE g δ e with
    | some x => .ret (.p x) S
    | none => .stuck
  | .inc j k => match δ[j]? with
    | some (some (.p (.int n))) => .next (setSlot δ j (.p (.int (n + k)))) S
    | _ => .stuck
  | .app j e => match δ[j]? with
    | some (some d) => match peek d S with
      | some (.lst _) => match hxE g δ e with
        | some x => match appG d x S with
          | .ok _ S' => .next δ S'
          | _ => .stuck
        | none => .stuck
      | _ => .stuck
    | _ => .stuck
  | .set j e => match hxE g δ e with
    | some x => .next (setSlot δ j (.p x)) S
    | none => .stuck
def slotIn (i : Option Nat) (δ : DEnv) : Bool := match i with
  | some j => decide (j < δ.length)
  | none => true
def goneR (i : Option Nat) (r : RS) : RS := match r with
  | .next δ S => .next (goneSlot i δ) S
  | r => r
def exHs : Hs → Nat → Option P → DEnv → Sto → RS
  | .nil, c, x, δ, S => .exc c x δ S
  | .cons cs ns i b r, c, x, δ, S => if cs.contains c then (if slotIn i δ then goneR i (exH x (goneSlot i δ) S b) else .stuck) else if ns.contains c then exHs r c x δ S else .stuck
section
variable (Γ : Tab) (FT : FldT)
mutual
def exS : S → DEnv → Sto → RS
  | .asg t e, δ, S => (evE Γ FT e δ S).st δ fun d S1 => match t with
    | .name i => .next (setSlot δ i d) S1
    | .tup ts => match peek d S1 with
      | some (.tup xs) => match bindTs ts xs δ with
        | some δ' => .next δ' S1
        | none => .stuck
      | some (.lst xs) => match d with
        | .p _ => match bindTs ts xs δ with
          | some δ' => .next δ' S1
          | none => .stuck
        | _ => .stuck
      | _ => .stuck
  | .par i j a b, δ, S => (evE Γ FT a δ S).st δ fun d1 S1 => (evE Γ FT b δ S1).st δ fun d2 S2 => .next (setSlot (setSlot δ i d1) j d2) S2
  | .par3 i j l a b c, δ, S => (evE Γ FT a δ S).st δ fun d1 S1 => (evE Γ FT b δ S1).st δ fun d2 S2 => (evE Γ FT c δ S2).st δ fun d3 S3 => .next (setSlot (setSlot (setSlot δ i d1) j d2) l d3) S3
  | .setf o f e, δ, S => (evE Γ FT e δ S).st δ fun d S1 => (evE Γ FT o δ S1).st δ fun d2 S2 => match d2 with
    | .loc n => match S2[n]? with
      | some (.live (.obj c fs)) => if decide (fs.length < 100) && (FT c).contains f then .next δ (S2.set n (.live (.obj c (setFld f d fs)))) else .stuck
      | _ => .stuck
    | _ => .stuck
  | .seti o i e, δ, S => (evE Γ FT e δ S).st δ fun d S1 => (purify d S1).st δ fun y S2 => (evE Γ FT o δ S2).st δ fun d2 S3 => (evE Γ FT i δ S3).st δ fun d3 S4 => match d2, d3 with
    | .loc n, .p (.int k) => match S4[n]? with
      | some (.live (.lst xs)) => match setIx xs k y with
        | some ys => .next δ (S4.set n (.live (.lst ys)))
        | none => .stuck
      | some (.live (.nst ds)) => match setIx ds k (.p y) with
        | some ys => .next δ (S4.set n (.live (.nst ys)))
        | none => .stuck
      | _ => .stuck
    | _, _ => .stuck
  | .dput o i e, δ, S => (evE Γ FT e δ S).st δ fun d S1 => (evE Γ FT o δ S1).st δ fun d1 S2 => (evE Γ FT i δ S2).st δ fun d2 S3 => dputG d d1 d2 δ S3
  | .incf o f neg k, δ, S => (evE Γ FT o δ S).st δ fun d S1 => incfG FT f neg k d δ S1
  | .seti2 o1 i1 o2 i2 e, δ, S => (evE Γ FT e δ S).st δ fun d S1 => match d with
    | .p (.tup [y1, y2]) => (evE Γ FT o1 δ S1).st δ fun a1 S2 => (evE Γ FT i1 δ S2).st δ fun b1 S3 => match setiG y1 a1 b1 S3 with
      | some S4 => (evE Γ FT o2 δ S4).st δ fun a2 S5 => (evE Γ FT i2 δ S5).st δ fun b2 S6 => match setiG y2 a2 b2 S6 with
        | some S7 => .next δ S7
        | none => .stuck
      | none => .stuck
    | _ => .stuck
  | .forD js k a b, δ, S => lockR (evE Γ FT a) δ S (fun n c S1 => match itmsD k c with
    | some xs => freeR n (forDL js (exSs b) xs δ S1)
    | none => .stuck) .stuck
  | .asgD x pur elt j k a hc c, δ, S => lockR (evE Γ FT a) δ S (fun n cl S1 => match itmsD k cl with
    | some xs => if lineOk xs.length then asgDR pur x n δ (compD pur [j] (optT hc (evE Γ FT c)) (evE Γ FT elt) (wipeD δ [j]) xs S1) else .stuck
    | none => .stuck) .stuck
  | .ext i e, δ, S => match δ[i]? with
    | some (some d) => (evE Γ FT e δ S).st δ fun d2 S1 => extD i d d2 δ S1
    | _ => .stuck
  | .expr e, δ, S => (evE Γ FT e δ S).st δ fun _ S1 => .next δ S1
  | .ret e, δ, S => (evE Γ FT e δ S).st δ fun d S1 => .ret d S1
  | .retn, _, S => .ret (.p .non) S
  | .ifs c a b, δ, S => (evE Γ FT c δ S).st δ fun d S1 => match d with
    | .p (.bl true) => exSs a δ S1
    | .p (.bl false) => exSs b δ S1
    | _ => .stuck
  | .whl c b, δ, S => whileL (evE Γ FT c) (exSs b) fuel δ S
  | .for_ t it b, δ, S => (evIt Γ FT it δ S).st δ fun xs S1 => forL (bindT t) (exSs b) xs δ S1
  | .brk, δ, S => .brk δ S
  | .cnt, δ, S => .cnt δ S
  | .pass, δ, S => .next δ S
  | .rais0 c, δ, S => .exc c none δ S
  | .rais1 c e, δ, S => (evE Γ FT e δ S).st δ fun d S1 => (purify d S1).st δ fun x S2 => .exc c (some x) δ S2
  | .tr b hs, δ, S => match exSs b δ S with
    | .exc c x δ' S' => exHs hs c x δ' S'
    | r => r
termination_by structural s => s
def exSs : Ss → DEnv → Sto → RS
  | .nil, δ, S => .next δ S
  | .cons s r, δ, S => (exS s δ S).bind (exSs r)
end
/-- a def that may change what it is handed -/
def runI (n : Nat) (body : Ss) : IFn := fun ds S => match exSs Γ FT body (ds.map some ++ List.replicate (n - ds.length) none) S with
  | .next _ S' => .ok (.p .non) S'
  | .ret d S' => .ok d S'
  | .exc c x _ S' => .exc c x S'
  | _ => .stuck
end
end RP
end

section
set_option Elab.async false
set_option linter.all false
set_option maxRecDepth 100000
/-! What data stands for which value in a heap. -/
namespace RP
open PySem L2

/-- room below, and nothing is being shown -/
structure Room (k : Nat) (A : Around) : Prop where
  r : L2.Room k A
  gd : A.guards = some []
theorem Room.mono {j k : Nat} {A : Around} (r : Room k A) (h : j ≤ k) : Room j A := ⟨r.r.mono h, r.gd⟩
theorem Room.deeper {k : Nat} {A : Around} (r : Room (k + 1) A) (env : Env) : Room k (A.deeper env) := ⟨r.r.deeper env, by
  have h := r.gd
  simp [Around.deeper, Around.under, Code.guards, Code.isGuard, pushGuards, h]⟩
theorem Room.in1 {k : Nat} {A : Around} (r : Room (k + 1) A) : Room k A.in1 := ⟨r.r.in1, r.gd⟩
theorem Room.make {k : Nat} {A : Around} (r : Room (k + 1) A) (C : Addr) (us : List Value) (kw : List (Str × Value)) : Room k (A.under (.builtin "type.__call__" ⟨.ref C :: us, kw⟩)) := ⟨r.r.make C us kw, by
  have h := r.gd
  have g : Code.guards (.builtin "type.__call__" ⟨.ref C :: us, kw⟩) = [] := by
    have z : (guardIds.contains "type.__call__") = false := by decide
    simp only [Code.guards, Code.isGuard, z]
    rfl
  show pushGuards (Code.guards (.builtin "type.__call__" ⟨.ref C :: us, kw⟩)) A.guards = some []
  rw [g, h]
  rfl⟩
theorem Room.dp {k : Nat} {A : Around} (r : Room k A) : A.depth + 3 * k + 5 < recursionLimit := r.r.dp
theorem Room.un {k : Nat} {A : Around} (r : Room k A) : A.units + 16 * k + 200 < cLine := r.r.un
theorem Room.hd {k : Nat} {A : Around} (r : Room k A) : A.handled = none := r.r.hd
theorem Room.depth {k : Nat} {A : Around} (r : Room k A) : A.depth < recursionLimit := r.r.depth
theorem Room.units {k : Nat} {A : Around} (r : Room k A) : A.units + 64 < cLine := r.r.units
theorem Room.units0 {k : Nat} {A : Around} (r : Room k A) : A.units < cLine := r.r.units0
/-- a def, called where nothing is being shown -/
structure FnOk (Pg : Program) (w : World) (K : PySem.W.Frag) (mg : Str → Option Value) (bs : Heap) (Y : CXT) (k : Nat) (fa : Addr) (fd : FuncData) (ns : List Str) (sp : Sp) : Prop where
  len : ∀ xs H Q E, sp xs H Q E → xs.length = ns.length
  run : ∀ (B : Around) (up : List Env) (t : Shared) (H : Hp) (ag : Args) (us : List Value) (xs : List V) (Q : VK) (E : XK), Room k B → Env0 Pg w K mg bs B up t H → BindsTo t fd ag (ns.zip us) → Vals xs us → sp xs H Q E → codeAny (model Pg w) B (.call (.ref fa) ag) (CR Y up Pg w H t Q E) t
section
variable {Pg : Program} {w : World} {K : PySem.W.Frag} {mg : Str → Option Value} {bs : Heap} {Y : CXT} {j k : Nat} {fa : Addr} {fd : FuncData} {ns : List Str} {sp sp2 : Sp}
theorem FnOk.mono (F : FnOk Pg w K mg bs Y j fa fd ns sp) (le : j ≤ k) : FnOk Pg w K mg bs Y k fa fd ns sp :=
  ⟨F.len, fun B up t H ag us xs Q E room => F.run B up t H ag us xs Q E (room.mono le)⟩
theorem FnOk.imp (F : FnOk Pg w K mg bs Y k fa fd ns sp) (weak : ∀ xs H Q E, sp2 xs H Q E → sp xs H Q E) : FnOk Pg w K mg bs Y k fa fd ns sp2 :=
  ⟨fun xs H Q E z => F.len xs H Q E (weak _ _ _ _ z), fun B up t H ag us xs Q E room e0 bd va z => F.run B up t H ag us xs Q E room e0 bd va (weak _ _ _ _ z)⟩
theorem FnOk.of (F : L2.FnOk Pg w K mg bs Y k fa fd ns sp) : FnOk Pg w K mg bs Y k fa fd ns sp := ⟨F.len, fun B up t H ag us xs Q E room => F.run B up t H ag us xs Q E room.r⟩
/-- THE RULE for a def of the text, by its body -/
theorem fn_of {name qual : Str} {pr : Arguments} {body : List Stmt} {sc : Scope} {dV kV doc pm cdv ct oc : Value} {an od : Option Addr} {osl : Array (Option Value)} {N : List Str}
    (lk : K.lookup fa = some ⟨oc, od, .func (PySem.W.fnOf name qual pr body sc dV kV doc pm an cdv ct), osl⟩) (hcd : PySem.W.codeIn K cdv qual = true) (S : FnScope N ns sc) (len : ∀ xs H Q E, sp xs H Q E → xs.length = ns.length)
    (bd : ∀ (B : Around) (up : List Env) (t : Shared) (H : Hp) (xs : List V) (Q : VK) (E : XK), Room k (B.deeper (PyProof.Rows.envOfC qual sc t.heap.objs.size fa cdv)) → sp xs H Q E →
      ∃ T, PSs (cxOf Y Pg w K mg bs N qual sc fa cdv B up t H E) body T ∧ T { nx := fun _ H' => Q .non H', rt := Q } (start N xs) H) :
    FnOk Pg w K mg bs Y (k + 1) fa (PySem.W.fnOf name qual pr body sc dV kV doc pm an cdv ct) ns sp := by
  constructor
  · exact len
  intro B up t H ag us xs Q E room e0 bind va z
  have count := len _ _ _ _ z
  have same : ∀ b o, bs.get? b = some o → t.heap.get? b = some o := fun b o e => (e0.bs b o e).1
  have inK : K.In t.heap := e0.mod.kin.keeps same
  have noLim : t.heap.NoLimit := e0.mod.nolimit.keeps same
  have kinds : ∀ y ∈ ns.zip us, sc.names.lookup y.1 = some .local ∨ (sc.names.lookup y.1 = some .cell ∧ ((cellsFrom (t.heap.objs.size + 1) sc.names []).lookup y.1).isSome = true) := by
    rintro ⟨n, v⟩ hy
    cases S.par n (List.of_mem_zip hy).1 with
    | inl h => exact .inl h
    | inr h => exact .inr ⟨h, PySem.W.cellsFrom_some _ _ _ (.inl h)⟩
  refine codeAny_call_function room.depth (inK _ _ lk) rfl S.co S.gen rfl (PySem.W.codeRec_of inK hcd) (bind _ _ _ _ ?_)
  refine wpAny_newFunctionEnv_cells S.kind kinds fun env he t1 made => ?_
  subst he
  refine ⟨noLim.keeps made.toInCall.keep, codeAny_func ?_⟩
  obtain ⟨T, ok, want⟩ := bd B up t H xs Q E (room.deeper _) z
  have I : Inv (cxOf Y Pg w K mg bs N qual sc fa cdv B up t H E) [] (start N xs) H t1 := inv_start S room.hd e0 count va made
  refine wpAny_mono (ok.run [] t1 (start N xs) H _ I want) (fun fl t2 h => ?_) fun e t2 h => h
  cases fl with
  | next =>
    obtain ⟨σ2, H2, J, q⟩ := h
    exact ⟨V.non, H2, J.os, J.bare, J.base, J.hok, rfl, q⟩
  | ret u =>
    obtain ⟨v, σ2, H2, J, rv, q⟩ := h
    exact ⟨v, H2, J.os, J.bare, J.base, J.hok, rv, q⟩
  | brk => exact h.choose_spec.choose_spec.2.elim
  | cont => exact h.choose_spec.choose_spec.2.elim
end
/-- a list that is read alone: locked, or of the written part -/
def Scr (K : PySem.W.Frag) (G : Hp) (a : Addr) (xs : List V) : Prop := (∃ o, G a = some (.frz o (.lst xs))) ∨
  ∃ (o : Obj) (its : Array Value) (n : Nat), K.lookup a = some o ∧ o.cls = .type "list" ∧ o.dict = none ∧ o.data = .seq its n ∧ its.size ≤ sizeLine ∧ Vals xs its.toList
theorem Scr.sq {K : PySem.W.Frag} {G : Hp} {a : Addr} {xs : List V} (h : Scr K G a xs) : SqL K G a xs := by
  rcases h with h | h
  · exact Or.inl (Or.inr h)
  · exact Or.inr h
theorem Scr.mono {K : PySem.W.Frag} {G G' : Hp} {a : Addr} {xs : List V} (e : Same G G') (h : Scr K G a xs) : Scr K G' a xs := by
  rcases h with ⟨o, h⟩ | h
  · exact Or.inl ⟨o, e _ _ h⟩
  · exact Or.inr h
/-- an own class of exceptions: what is asked of its values -/
structure XCl (C : CC) (c : Nat) : Prop where
  o : OexC C.K (C.CA c)
  cl : (PySem.W.clsIn C.K (C.CA c)).isSome = true
  ga : PySem.W.findIn C.K (.ref (C.CA c)) "__getattribute__" = some (some (.builtin "BaseException.__getattribute__"))
  gg : PySem.W.findIn C.K (.ref (C.CA c)) "__getattr__" = some none
  ca : PySem.W.findIn C.K (.ref (C.CA c)) "__class__" = some (some (.builtin "object.__class__"))
  hm : PySem.W.mroIn C.K (C.CA c) (.type "object") = some true
  hd : PySem.W.hasDictIn C.K (C.CA c) = true
  no : ∀ f ∈ C.FT c, PySem.W.findIn C.K (.ref (C.CA c)) (C.NM f) = some none
  nf : ∀ c', C.kn c' = true → PySem.W.subIn C.K (.ref (C.CA c)) (.ref (C.CA c')) = some false
  uq : ∀ c', C.CA c' = C.CA c → c' = c
/-- an own exception, not raised: its field, if it has one -/
def XAt (C : CC) (G : Hp) (a : Addr) (c : Nat) (vs : List V) : Prop := (vs = [] ∧ G a = some (exo a (C.CA c) none)) ∨
  ∃ (dx : Addr) (f : Nat) (v : V), vs = [v] ∧ C.FT c = [f] ∧ G a = some (exo a (C.CA c) (some dx)) ∧ G dx = some (.xd [(C.NM f, v)])
theorem XAt.mono {C : CC} {G G' : Hp} {a : Addr} {c : Nat} {vs : List V} (e : Same G G') (h : XAt C G a c vs) : XAt C G' a c vs := by
  rcases h with ⟨h1, h2⟩ | ⟨dx, f, v, h1, h2, h3, h4⟩
  · exact Or.inl ⟨h1, e _ _ h2⟩
  · exact Or.inr ⟨dx, f, v, h1, h2, e _ _ h3, e _ _ h4⟩
section
variable (C : CC)
mutual
def RepP (G : Hp) : P → V → Prop
  | .non, v => v = .non
  | .bl b, v => v = .bl b
  | .int i, v => v = .int i
  | .str s, v => v = .str s
  | .tup xs, v => ∃ a vs, v = .ref a ∧ SqT C.K G a vs ∧ RepPs G xs vs
  | .lst xs, v => ∃ a vs, v = .ref a ∧ G a = some (.lst vs) ∧ RepPs G xs vs
  | .ob c xs, v => C.kn c = true ∧ ∃ a dx vs, v = .ref a ∧ G a = some (.ins (C.CA c) dx (((C.FT c).map C.NM).zip vs)) ∧ (C.FT c).length = vs.length ∧ RepPs G xs vs
  | .scr ns, v => ∃ a, v = .ref a ∧ Scr C.K G a (ns.map V.int)
  | .dic ks xs, v => ∃ a vs, v = .ref a ∧ G a = some (.dK ((ks.map Sum.inr).zip vs)) ∧ ks.length = vs.length ∧ RepPs G xs vs
  | .exn c xs, v => XCl C c ∧ ∃ a vs, v = .ref a ∧ XAt C G a c vs ∧ RepPs G xs vs
def RepPs (G : Hp) : List P → List V → Prop
  | [], vs => vs = []
  | x :: xs, vs => ∃ v ws, vs = v :: ws ∧ RepP G x v ∧ RepPs G xs ws
end
structure Sit where
  G : Hp
  μ : List Addr
  S : Sto
def RepD (s : Sit) : D → V → Prop
  | .p x, v => RepP C s.G x v
  | .loc n, v => ∃ a, s.μ[n]? = some a ∧ v = .ref a
  | .cls c, v => v = .ref (C.CA c)
def RepDs (s : Sit) : List D → List V → Prop
  | [], vs => vs = []
  | x :: xs, vs => ∃ v ws, vs = v :: ws ∧ RepD C s x v ∧ RepDs s xs ws
def RepF (s : Sit) : List (Nat × D) → List (Str × V) → Prop
  | [], vs => vs = []
  | (f, d) :: fs, vs => ∃ v ws, vs = (C.NM f, v) :: ws ∧ RepD C s d v ∧ RepF s fs ws
def RepK (s : Sit) : List (Str × D) → List (Key × V) → Prop
  | [], vs => vs = []
  | (k, d) :: r, vs => ∃ v ws, vs = (Sum.inr k, v) :: ws ∧ RepD C s d v ∧ RepK s r ws
def RepC (s : Sit) : Cell → HO → Prop
  | .lst xs, o => ∃ vs, o = .lst vs ∧ RepPs C s.G xs vs
  | .obj c fs, o => C.kn c = true ∧ (∀ g ∈ fs.map (·.1), g ∈ C.FT c) ∧ ∃ dx gs, o = .ins (C.CA c) dx gs ∧ RepF C s fs gs
  | .nst ds, o => ∃ vs, o = .lst vs ∧ RepDs C s ds vs
  | .dct kvs, o => ∃ vs, o = .dK vs ∧ RepK C s kvs vs
def RepS (s : Sit) (δ : DEnv) (σ : St) : Prop := δ.length = σ.length ∧ ∀ (i : Nat) (d : D), δ[i]? = some (some d) → ∃ v, σ[i]? = some (some v) ∧ RepD C s d v
/-- what is gone through just now: it stands still, beside us -/
structure LkOk (F : Hp) (s : Sit) : Prop where
  at_ : ∀ (n : Nat) (c : Cell), s.S[n]? = some (.lk c) → ∃ a od u, s.μ[n]? = some a ∧ F a = some (.frz od u) ∧ Mut (some u) ∧ RepC C s c u
  inj : ∀ (n m : Nat) (c c' : Cell) (a : Addr), s.S[n]? = some (.lk c) → s.S[m]? = some (.lk c') → s.μ[n]? = some a → s.μ[m]? = some a → n = m
/-- the situation holds in the heap; F: what is not ours -/
structure AtS (F : Hp) (s : Sit) (H : Hp) : Prop where
  sub : Same s.G H
  len : s.μ.length = s.S.length
  fzn : ∀ (n : Nat) (x : P), s.S[n]? = some (.fz x) → ∃ a, s.μ[n]? = some a ∧ RepP C s.G x (.ref a)
  live : ∀ (n : Nat) (c : Cell), s.S[n]? = some (.live c) → ∃ a o, s.μ[n]? = some a ∧ s.G a = none ∧ F a = none ∧ H a = some o ∧ RepC C s c o
  inj : ∀ (n m : Nat) (c c' : Cell) (a : Addr), s.S[n]? = some (.live c) → s.S[m]? = some (.live c') → s.μ[n]? = some a → s.μ[m]? = some a → n = m
  frm : ∀ a o, F a = some o → H a = some o ∧ s.G a = none
  lk : LkOk C F s
structure ExtS (s s' : Sit) : Prop where
  G : Same s.G s'.G
  μ : s.μ <+: s'.μ
theorem ExtS.refl (s : Sit) : ExtS s s := ⟨Same.refl _, List.prefix_refl _⟩
theorem ExtS.trans {s s1 s2 : Sit} (a : ExtS s s1) (b : ExtS s1 s2) : ExtS s s2 := ⟨a.G.trans b.G, a.μ.trans b.μ⟩
end

section
variable {C : CC} {G G' : Hp} {s s' : Sit}
theorem sqL_mono {K : PySem.W.Frag} {a : Addr} {xs : List V} (e : Same G G') (h : SqL K G a xs) : SqL K G' a xs := by
  rcases h with (k | ⟨o, k⟩) | k
  · exact Or.inl (Or.inl (e _ _ k))
  · exact Or.inl (Or.inr ⟨o, e _ _ k⟩)
  · exact Or.inr k
theorem sqT_mono {K : PySem.W.Frag} {a : Addr} {xs : List V} (e : Same G G') (h : SqT K G a xs) : SqT K G' a xs := by
  rcases h with (k | ⟨o, k⟩) | k
  · exact Or.inl (Or.inl (e _ _ k))
  · exact Or.inl (Or.inr ⟨o, e _ _ k⟩)
  · exact Or.inr k
mutual
theorem RepP.mono (e : Same G G') : ∀ (x : P) (v : V), RepP C G x v → RepP C G' x v
  | .non, _, h => by simpa only [RepP] using h
  | .bl _, _, h => by simpa only [RepP] using h
  | .int _, _, h => by simpa only [RepP] using h
  | .str _, _, h => by simpa only [RepP] using h
  | .scr ns, v, h => by
    simp only [RepP] at h ⊢
    obtain ⟨a, hv, hs⟩ := h
    exact ⟨a, hv, hs.mono e⟩
  | .dic ks xs, v, h => by
    simp only [RepP] at h ⊢
    obtain ⟨a, vs, hv, hs, hl, hr⟩ := h
    exact ⟨a, vs, hv, e _ _ hs, hl, RepPs.mono e xs vs hr⟩
  | .exn c xs, v, h => by
    simp only [RepP] at h ⊢
    obtain ⟨t, a, vs, hv, hs, hr⟩ := h
    exact ⟨t, a, vs, hv, hs.mono e, RepPs.mono e xs vs hr⟩
  | .tup xs, v, h => by
    simp only [RepP] at h ⊢
    obtain ⟨a, vs, hv, hs, hr⟩ := h
    exact ⟨a, vs, hv, sqT_mono e hs, RepPs.mono e xs vs hr⟩
  | .lst xs, v, h => by
    simp only [RepP] at h ⊢
    obtain ⟨a, vs, hv, hs, hr⟩ := h
    exact ⟨a, vs, hv, e _ _ hs, RepPs.mono e xs vs hr⟩
  | .ob c xs, v, h => by
    simp only [RepP] at h ⊢
    obtain ⟨hk, a, dx, vs, hv, hs, hl, hr⟩ := h
    exact ⟨hk, a, dx, vs, hv, e _ _ hs, hl, RepPs.mono e xs vs hr⟩
theorem RepPs.mono (e : Same G G') : ∀ (xs : List P) (vs : List V), RepPs C G xs vs → RepPs C G' xs vs
  | [], _, h => by simpa only [RepPs] using h
  | x :: xs, _, h => by
    simp only [RepPs] at h ⊢
    obtain ⟨v, ws, hv, h1, h2⟩ := h
    exact ⟨v, ws, hv, RepP.mono e x v h1, RepPs.mono e xs ws h2⟩
end
theorem pre_get {α : Type} {l m : List α} {i : Nat} {a : α} (h : l <+: m) (e : l[i]? = some a) : m[i]? = some a := by
  obtain ⟨t, rfl⟩ := h
  have hi : i < l.length := (List.getElem?_eq_some_iff.mp e).1
  rw [List.getElem?_append_left hi]
  exact e
theorem RepD.mono (e : ExtS s s') : ∀ (d : D) (v : V), RepD C s d v → RepD C s' d v
  | .p x, v, h => RepP.mono (C := C) e.G x v h
  | .loc n, v, ⟨a, ha, hv⟩ => ⟨a, pre_get e.μ ha, hv⟩
  | .cls c, v, h => h
theorem RepDs.mono (e : ExtS s s') : ∀ (xs : List D) (vs : List V), RepDs C s xs vs → RepDs C s' xs vs
  | [], _, h => h
  | x :: xs, _, ⟨v, ws, hv, h1, h2⟩ => ⟨v, ws, hv, RepD.mono e x v h1, RepDs.mono e xs ws h2⟩
theorem RepF.mono (e : ExtS s s') : ∀ (xs : List (Nat × D)) (vs : List (Str × V)), RepF C s xs vs → RepF C s' xs vs
  | [], _, h => h
  | (f, x) :: xs, _, ⟨v, ws, hv, h1, h2⟩ => ⟨v, ws, hv, RepD.mono e x v h1, RepF.mono e xs ws h2⟩
theorem RepK.mono (e : ExtS s s') : ∀ (xs : List (Str × D)) (vs : List (Key × V)), RepK C s xs vs → RepK C s' xs vs
  | [], _, h => h
  | (k, x) :: xs, _, ⟨v, ws, hv, h1, h2⟩ => ⟨v, ws, hv, RepD.mono e x v h1, RepK.mono e xs ws h2⟩
theorem RepC.mono (e : ExtS s s') : ∀ (c : Cell) (o : HO), RepC C s c o → RepC C s' c o
  | .lst xs, o, ⟨vs, ho, h⟩ => ⟨vs, ho, RepPs.mono e.G xs vs h⟩
  | .obj c fs, o, ⟨hc, hm, dx, gs, ho, h⟩ => ⟨hc, hm, dx, gs, ho, RepF.mono e fs gs h⟩
  | .nst ds, o, ⟨vs, ho, h⟩ => ⟨vs, ho, RepDs.mono e ds vs h⟩
  | .dct ds, o, ⟨vs, ho, h⟩ => ⟨vs, ho, RepK.mono e ds vs h⟩
theorem LkOk.nil {F : Hp} {G : Hp} : LkOk C F ⟨G, [], []⟩ := ⟨fun n c e => by simp at e, fun n m c c' a e => by simp at e⟩
theorem LkOk.to {F F' : Hp} (h : LkOk C F s) (ex : ExtS s s') (hs : ∀ (n : Nat) (c : Cell), s'.S[n]? = some (Slot.lk c) → s.S[n]? = some (Slot.lk c)) (hF : ∀ a od u, F a = some (.frz od u) → Mut (some u) → F' a = some (.frz od u) := by exact fun _ _ _ z _ => z) : LkOk C F' s' := by
  refine ⟨fun n c e => ?_, fun n m c c' a e1 e2 q1 q2 => ?_⟩
  · obtain ⟨a, od, u, h1, h2, h3, h4⟩ := h.at_ n c (hs n c e)
    exact ⟨a, od, u, pre_get ex.μ h1, hF a od u h2 h3, h3, RepC.mono ex c u h4⟩
  · obtain ⟨b, od, u, h1, _⟩ := h.at_ n c (hs n c e1)
    obtain ⟨b', od', u', h1', _⟩ := h.at_ m c' (hs m c' e2)
    rw [pre_get ex.μ h1] at q1
    cases q1
    rw [pre_get ex.μ h1'] at q2
    cases q2
    exact h.inj n m c c' _ (hs n c e1) (hs m c' e2) h1 h1'
theorem RepS.mono (e : ExtS s s') {δ : DEnv} {σ : St} (h : RepS C s δ σ) : RepS C s' δ σ := ⟨h.1, fun i d hd => by
  obtain ⟨v, hv, r⟩ := h.2 i d hd
  exact ⟨v, hv, RepD.mono e d v r⟩⟩
theorem RepPs.len : ∀ (xs : List P) (vs : List V), RepPs C G xs vs → xs.length = vs.length
  | [], vs, h => by
    simp only [RepPs] at h
    subst h
    rfl
  | x :: xs, vs, h => by
    simp only [RepPs] at h
    obtain ⟨v, ws, hv, _, h2⟩ := h
    rw [hv, List.length_cons, List.length_cons, RepPs.len xs ws h2]
theorem RepS.set {δ : DEnv} {σ : St} (h : RepS C s δ σ) {i : Nat} {d : D} {v : V} (r : RepD C s d v) : RepS C s (setSlot δ i d) (σ.set i (some v)) := by
  refine ⟨by unfold setSlot; rw [List.length_set, List.length_set, h.1], fun j e he => ?_⟩
  unfold setSlot at he
  by_cases hj : i = j
  · subst hj
    have hi : i < δ.length := by
      rcases Nat.lt_or_ge i δ.length with q | q
      · exact q
      · rw [List.getElem?_eq_none (by rw [List.length_set]; exact q)] at he
        cases he
    rw [List.getElem?_set_self hi] at he
    cases he
    exact ⟨v, by rw [List.getElem?_set_self (by rw [← h.1]; exact hi)], r⟩
  · rw [List.getElem?_set_ne hj] at he
    obtain ⟨w, hw, rw'⟩ := h.2 j e he
    exact ⟨w, by rw [List.getElem?_set_ne hj]; exact hw, rw'⟩
end
end RP
end

section
set_option Elab.async false
set_option linter.all false
set_option maxRecDepth 100000
/-! How a situation goes on. -/
namespace RP
open PySem L2
section
variable {C : CC} {F G' H H' : Hp} {s s' : Sit}
theorem Same.new {H : Hp} {p : Addr} {o : HO} (h : H p = none) : Same H (upd H p o) := fun a u e => by
  rw [upd_ne (ne_of_none e h)]
  exact e
theorem AtS.none_of (A : AtS C F s H) {p : Addr} (h : H p = none) : s.G p = none := A.sub.free h
theorem AtS.fnone (A : AtS C F s H) {p : Addr} (h : H p = none) : F p = none := by
  cases q : F p with
  | none => rfl
  | some o =>
    rw [(A.frm p o q).1] at h
    cases h
theorem AtS.live_ne (A : AtS C F s H) {p : Addr} (h : H p = none) {n : Nat} {c : Cell} (e : s.S[n]? = some (.live c)) : s.μ[n]? ≠ some p := fun z => by
  obtain ⟨a, o, h1, _, _, h4, _⟩ := A.live n c e
  rw [h1] at z
  cases z
  rw [h] at h4
  cases h4
/-- what stays, stays -/
theorem AtS.fzM (A : AtS C F s H) {G' : Hp} (ex : ExtS s { s with G := G' }) : ∀ (n : Nat) (x : P), s.S[n]? = some (.fz x) → ∃ a, s.μ[n]? = some a ∧ RepP C G' x (.ref a) := fun n x e => by
  obtain ⟨a, h1, h2⟩ := A.fzn n x e
  exact ⟨a, h1, RepP.mono ex.G x _ h2⟩
/-- a new thing that never changes -/
theorem AtS.grow (A : AtS C F s H) {p : Addr} {o : HO} (h : H p = none) : AtS C F { s with G := upd s.G p o } (upd H p o) ∧ ExtS s { s with G := upd s.G p o } := by
  have hG := A.none_of h
  have ex : ExtS s { s with G := upd s.G p o } := ⟨Same.new hG, List.prefix_refl _⟩
  refine ⟨⟨fun a u e => ?_, A.len, A.fzM ex, fun n c e => ?_, A.inj, fun a u e => ?_, ?_⟩, ex⟩
  · dsimp only at e
    by_cases ha : a = p
    · subst ha
      rw [upd_same] at e ⊢
      exact e
    · rw [upd_ne ha] at e ⊢
      exact A.sub a u e
  · obtain ⟨a, u, h1, h2, h3, h4, h5⟩ := A.live n c e
    have na : a ≠ p := ne_of_none h4 h
    exact ⟨a, u, h1, by dsimp only; rw [upd_ne na]; exact h2, h3, by rw [upd_ne na]; exact h4, RepC.mono ex c u h5⟩
  · have na : a ≠ p := ne_of_none (A.frm a u e).1 h
    exact ⟨by rw [upd_ne na]; exact (A.frm a u e).1, by show upd s.G p o a = none; rw [upd_ne na]; exact (A.frm a u e).2⟩
  · exact A.lk.to ex (fun n c e => e)
/-- a new thing that nobody looks at again -/
theorem AtS.keep (A : AtS C F s H) (e : Same H H') : AtS C F s H' :=
  ⟨A.sub.trans e, A.len, A.fzn, fun n c q => by
    obtain ⟨a, u, h1, h2, h3, h4, h5⟩ := A.live n c q
    exact ⟨a, u, h1, h2, h3, e _ _ h4, h5⟩, A.inj, fun a o q => ⟨e _ _ (A.frm a o q).1, (A.frm a o q).2⟩, A.lk⟩
/-- behind a call that changes nothing: what was ours stays, what was not ours stays not ours -/
theorem AtS.call (A : AtS C F s H) (h1 : Same s.G G') (h2 : Same G' H') (h3 : ∀ a o, H a = some o → s.G a = none → H' a = some o ∧ G' a = none) : AtS C F { s with G := G' } H' ∧ ExtS s { s with G := G' } := by
  have ex : ExtS s { s with G := G' } := ⟨h1, List.prefix_refl _⟩
  refine ⟨⟨h2, A.len, A.fzM ex, fun n c e => ?_, A.inj, fun a u e => ?_, A.lk.to ex (fun n c e => e)⟩, ex⟩
  · obtain ⟨a, u, k1, k2, k3, k4, k5⟩ := A.live n c e
    exact ⟨a, u, k1, (h3 a u k4 k2).2, k3, (h3 a u k4 k2).1, RepC.mono ex c u k5⟩
  · exact h3 a u (A.frm a u e).1 (A.frm a u e).2
theorem get_snoc {α : Type} {l : List α} {x y : α} {n : Nat} (h : (l ++ [x])[n]? = some y) : l[n]? = some y ∨ (n = l.length ∧ y = x) := by
  rcases Nat.lt_or_ge n l.length with q | q
  · rw [List.getElem?_append_left q] at h
    exact Or.inl h
  · rw [List.getElem?_append_right q] at h
    have hn : n - l.length = 0 := by
      rcases Nat.eq_zero_or_pos (n - l.length) with z | z
      · exact z
      · rw [List.getElem?_eq_none (by simp only [List.length_singleton]; omega)] at h
        cases h
    rw [hn] at h
    have hx : x = y := Option.some.inj h
    exact Or.inr ⟨by omega, hx.symm⟩
/-- a new cell -/
theorem AtS.alloc (A : AtS C F s H) {p : Addr} {o : HO} {c : Cell} (h : H p = none) (r : RepC C s c o) :
    AtS C F ⟨s.G, s.μ ++ [p], s.S ++ [.live c]⟩ (upd H p o) ∧ ExtS s ⟨s.G, s.μ ++ [p], s.S ++ [.live c]⟩ ∧ RepD C ⟨s.G, s.μ ++ [p], s.S ++ [.live c]⟩ (.loc s.S.length) (.ref p) := by
  have ex : ExtS s ⟨s.G, s.μ ++ [p], s.S ++ [.live c]⟩ := ⟨Same.refl _, List.prefix_append _ _⟩
  have hp : (s.μ ++ [p])[s.S.length]? = some p := by rw [← A.len]; simp
  have old : ∀ {n : Nat} {c' : Cell} {a : Addr}, s.S[n]? = some (.live c') → (s.μ ++ [p])[n]? = some a → s.μ[n]? = some a := fun {n c' a} e q => by
    have hn : n < s.μ.length := by rw [A.len]; exact (List.getElem?_eq_some_iff.mp e).1
    rw [List.getElem?_append_left hn] at q
    exact q
  refine ⟨⟨fun a u e => ?_, ?_, fun n x e => ?_, fun n c' e => ?_, fun n m c1 c2 a e1 e2 q1 q2 => ?_, fun a u e => ?_, A.lk.to ex (fun n c e => (get_snoc e).elim id fun z => by cases z.2)⟩, ex, p, hp, rfl⟩
  · show upd H p o a = some u
    rw [upd_ne (ne_of_none (A.sub a u e) h)]
    exact A.sub a u e
  · show (s.μ ++ [p]).length = (s.S ++ [Slot.live c]).length
    rw [List.length_append, List.length_append, A.len]
    rfl
  · rcases get_snoc e with e | ⟨hn, e⟩
    · obtain ⟨a, k1, k2⟩ := A.fzn n x e
      exact ⟨a, pre_get ex.μ k1, k2⟩
    · cases e
  · rcases get_snoc e with e | ⟨hn, e⟩
    · obtain ⟨a, u, k1, k2, k3, k4, k5⟩ := A.live n c' e
      exact ⟨a, u, pre_get ex.μ k1, k2, k3, by rw [upd_ne (ne_of_none k4 h)]; exact k4, RepC.mono ex c' u k5⟩
    · cases e
      subst hn
      exact ⟨p, o, hp, A.none_of h, A.fnone h, upd_same, RepC.mono ex c o r⟩
  · rcases get_snoc e1 with e1 | ⟨n1, e1⟩
    · rcases get_snoc e2 with e2 | ⟨n2, e2⟩
      · exact A.inj n m c1 c2 a e1 e2 (old e1 q1) (old e2 q2)
      · subst n2
        change (s.μ ++ [p])[s.S.length]? = some a at q2
        rw [hp] at q2
        cases q2
        exact absurd (old e1 q1) (A.live_ne h e1)
    · rcases get_snoc e2 with e2 | ⟨n2, e2⟩
      · subst n1
        change (s.μ ++ [p])[s.S.length]? = some a at q1
        rw [hp] at q1
        cases q1
        exact absurd (old e2 q2) (A.live_ne h e2)
      · rw [n1, n2]
  · have na : a ≠ p := ne_of_none (A.frm a u e).1 h
    exact ⟨by rw [upd_ne na]; exact (A.frm a u e).1, (A.frm a u e).2⟩
/-- what is at a set place -/
theorem get_set {α : Type} {l : List α} {x y : α} {n m : Nat} (h : (l.set n x)[m]? = some y) : (m = n ∧ y = x) ∨ (m ≠ n ∧ l[m]? = some y) := by
  by_cases e : m = n
  · subst e
    have hm : m < l.length := by
      have := (List.getElem?_eq_some_iff.mp h).1
      rw [List.length_set] at this
      exact this
    rw [List.getElem?_set_self hm] at h
    exact Or.inl ⟨rfl, (Option.some.inj h).symm⟩
  · rw [List.getElem?_set_ne (fun z => e z.symm)] at h
    exact Or.inr ⟨e, h⟩
/-- a cell is written -/
theorem AtS.write (A : AtS C F s H) {n : Nat} {c c' : Cell} {a : Addr} {o : HO} (e : s.S[n]? = some (.live c)) (ha : s.μ[n]? = some a) (r : RepC C s c' o) :
    AtS C F { s with S := s.S.set n (.live c') } (upd H a o) ∧ ExtS s { s with S := s.S.set n (.live c') } := by
  obtain ⟨b, u, k1, k2, k3, k4, k5⟩ := A.live n c e
  rw [ha] at k1
  cases k1
  have ex : ExtS s { s with S := s.S.set n (.live c') } := ⟨Same.refl _, List.prefix_refl _⟩
  refine ⟨⟨fun x y q => ?_, ?_, fun m x q => ?_, fun m d q => ?_, fun m m' d d' x q1 q2 p1 p2 => ?_, fun x y q => ?_, A.lk.to ex (fun m d q => (get_set q).elim (fun z => by cases z.2) fun z => z.2)⟩, ex⟩
  · have nx : x ≠ a := ne_of_none q k2
    show upd H a o x = some y
    rw [upd_ne nx]
    exact A.sub x y q
  · show s.μ.length = (s.S.set n (.live c')).length
    rw [List.length_set, A.len]
  · rcases get_set q with ⟨hm, hd⟩ | ⟨hm, hd⟩
    · cases hd
    · exact A.fzn m x hd
  · rcases get_set q with ⟨hm, hd⟩ | ⟨hm, hd⟩
    · cases hd
      subst hm
      exact ⟨a, o, ha, k2, k3, upd_same, RepC.mono ex c' o r⟩
    · obtain ⟨b', u', j1, j2, j3, j4, j5⟩ := A.live m d hd
      have nb : b' ≠ a := fun z => hm (A.inj m n d c b' hd e j1 (by rw [z]; exact ha))
      exact ⟨b', u', j1, j2, j3, by rw [upd_ne nb]; exact j4, RepC.mono ex d u' j5⟩
  · have f : ∀ {k : Nat} {dd : Cell}, (s.S.set n (.live c'))[k]? = some (.live dd) → ∃ d0, s.S[k]? = some (.live d0) := fun {k dd} z => by
      rcases get_set z with ⟨hk, _⟩ | ⟨_, hk⟩
      · exact ⟨c, by rw [hk]; exact e⟩
      · exact ⟨dd, hk⟩
    obtain ⟨d0, e0⟩ := f q1
    obtain ⟨d1, e1⟩ := f q2
    exact A.inj m m' d0 d1 x e0 e1 p1 p2
  · have nx : x ≠ a := fun z => by rw [z, k3] at q; cases q
    exact ⟨by rw [upd_ne nx]; exact (A.frm x y q).1, (A.frm x y q).2⟩
/-- a cell's thing is given away: from now on it stays as it is -/
theorem AtS.freeze (A : AtS C F s H) {n : Nat} {c : Cell} {z : P} (e : s.S[n]? = some (.live c)) (hz : ∀ a o, s.G a = none → RepC C s c o → RepP C (upd s.G a o) z (.ref a)) :
    ∃ a o, s.μ[n]? = some a ∧ RepC C s c o ∧ H a = some o ∧ AtS C F ⟨upd s.G a o, s.μ, s.S.set n (.fz z)⟩ H ∧ ExtS s ⟨upd s.G a o, s.μ, s.S.set n (.fz z)⟩ := by
  obtain ⟨a, o, k1, k2, k3, k4, k5⟩ := A.live n c e
  have ex : ExtS s ⟨upd s.G a o, s.μ, s.S.set n (.fz z)⟩ := ⟨Same.new k2, List.prefix_refl _⟩
  refine ⟨a, o, k1, k5, k4, ⟨fun x y q => ?_, ?_, fun m x q => ?_, fun m d q => ?_, fun m m' d d' x q1 q2 p1 p2 => ?_, fun x y q => ?_, A.lk.to ex (fun m d q => (get_set q).elim (fun z => by cases z.2) fun z => z.2)⟩, ex⟩
  · dsimp only at q
    by_cases hx : x = a
    · subst hx
      rw [upd_same] at q
      cases q
      exact k4
    · rw [upd_ne hx] at q
      exact A.sub x y q
  · show s.μ.length = (s.S.set n (.fz z)).length
    rw [List.length_set, A.len]
  · rcases get_set q with ⟨hm, hd⟩ | ⟨hm, hd⟩
    · cases hd
      subst hm
      exact ⟨a, k1, hz a o k2 k5⟩
    · obtain ⟨b', j1, j2⟩ := A.fzn m x hd
      exact ⟨b', j1, RepP.mono ex.G x _ j2⟩
  · rcases get_set q with ⟨_, hd⟩ | ⟨hm, hd⟩
    · cases hd
    · obtain ⟨b', u', j1, j2, j3, j4, j5⟩ := A.live m d hd
      have nb : b' ≠ a := fun z => hm (A.inj m n d c b' hd e j1 (by rw [z]; exact k1))
      exact ⟨b', u', j1, by dsimp only; rw [upd_ne nb]; exact j2, j3, j4, RepC.mono ex d u' j5⟩
  · rcases get_set q1 with ⟨_, hd⟩ | ⟨_, h1⟩
    · cases hd
    · rcases get_set q2 with ⟨_, hd⟩ | ⟨_, h2⟩
      · cases hd
      · exact A.inj m m' d d' x h1 h2 p1 p2
  · have nx : x ≠ a := fun z => by rw [z, k3] at q; cases q
    exact ⟨(A.frm x y q).1, by show upd s.G a o x = none; rw [upd_ne nx]; exact (A.frm x y q).2⟩
/-- a live thing is locked -/
theorem AtS.lock (A : AtS C F s H) {n : Nat} {c : Cell} (e : s.S[n]? = some (.live c)) (hm : ∀ u, RepC C s c u → Mut (some u)) :
    ∃ a u, s.μ[n]? = some a ∧ H a = some u ∧ Mut (some u) ∧ F a = none ∧ s.G a = none ∧ RepC C s c u ∧ ∀ od, AtS C (upd F a (.frz od u)) { s with S := s.S.set n (.lk c) } (upd H a (.frz od u)) := by
  obtain ⟨a, u, k1, k2, k3, k4, k5⟩ := A.live n c e
  have mu := hm u k5
  have hn : n < s.S.length := (List.getElem?_eq_some_iff.mp e).1
  refine ⟨a, u, k1, k4, mu, k3, k2, k5, fun od => ?_⟩
  have ex : ExtS s { s with S := s.S.set n (.lk c) } := ⟨Same.refl _, List.prefix_refl _⟩
  refine ⟨fun x y q => ?_, ?_, fun m x q => ?_, fun m d q => ?_, fun m m' d d' x q1 q2 p1 p2 => ?_, fun x y q => ?_, fun m d q => ?_, fun m m' d d' x q1 q2 p1 p2 => ?_⟩
  · rw [upd_ne (ne_of_none q k2)]
    exact A.sub x y q
  · show s.μ.length = (s.S.set n _).length
    rw [List.length_set, A.len]
  · rcases get_set q with ⟨_, hd⟩ | ⟨_, hd⟩
    · cases hd
    · exact A.fzn m x hd
  · rcases get_set q with ⟨_, hd⟩ | ⟨hm, hd⟩
    · cases hd
    · obtain ⟨b, w, j1, j2, j3, j4, j5⟩ := A.live m d hd
      have nb : b ≠ a := fun z => hm (A.inj m n d c b hd e j1 (by rw [z]; exact k1))
      exact ⟨b, w, j1, j2, by rw [upd_ne nb]; exact j3, by rw [upd_ne nb]; exact j4, RepC.mono ex d w j5⟩
  · rcases get_set q1 with ⟨_, hd⟩ | ⟨_, h1⟩
    · cases hd
    · rcases get_set q2 with ⟨_, hd⟩ | ⟨_, h2⟩
      · cases hd
      · exact A.inj m m' d d' x h1 h2 p1 p2
  · by_cases hx : x = a
    · subst hx
      rw [upd_same] at q ⊢
      exact ⟨q, k2⟩
    · rw [upd_ne hx] at q ⊢
      exact A.frm x y q
  · rcases get_set q with ⟨hm, hd⟩ | ⟨hm, hd⟩
    · cases hd
      subst hm
      exact ⟨a, od, u, k1, upd_same, mu, RepC.mono ex c u k5⟩
    · obtain ⟨b, od', u', j1, j2, j3, j4⟩ := A.lk.at_ m d hd
      have nb : b ≠ a := fun z => by rw [z, k3] at j2; cases j2
      exact ⟨b, od', u', j1, by rw [upd_ne nb]; exact j2, j3, RepC.mono ex d u' j4⟩
  · have far : ∀ {k : Nat} {dd : Cell}, s.S[k]? = some (.lk dd) → s.μ[k]? ≠ some a := fun {k dd} z w => by
      obtain ⟨b, od', u', j1, j2, _⟩ := A.lk.at_ k dd z
      rw [w] at j1
      cases j1
      rw [k3] at j2
      cases j2
    rcases get_set q1 with ⟨h1, _⟩ | ⟨_, h1⟩
    · rcases get_set q2 with ⟨h2, _⟩ | ⟨_, h2⟩
      · rw [h1, h2]
      · exfalso
        have p1 : s.μ[m]? = some x := p1
        rw [h1, k1] at p1
        cases p1
        exact far h2 p2
    · rcases get_set q2 with ⟨h2, _⟩ | ⟨_, h2⟩
      · exfalso
        have p2 : s.μ[m']? = some x := p2
        rw [h2, k1] at p2
        cases p2
        exact far h1 p1
      · exact A.lk.inj m m' d d' x h1 h2 p1 p2
/-- .. and set free -/
theorem AtS.unlock {a : Addr} {od : Obj} {u : HO} (A : AtS C (upd F a (.frz od u)) s H) (hF : F a = none) {n : Nat} {c : Cell} (e : s.S[n]? = some (.lk c)) (ha : s.μ[n]? = some a) :
    H a = some (.frz od u) ∧ RepC C s c u ∧ Mut (some u) ∧ AtS C F { s with S := s.S.set n (.live c) } (upd H a u) ∧ ExtS s { s with S := s.S.set n (.live c) } := by
  obtain ⟨b, od', u', k1, k2, mu, k4⟩ := A.lk.at_ n c e
  rw [ha] at k1
  cases k1
  rw [upd_same] at k2
  cases k2
  have hHa := A.frm a _ upd_same
  have hn : n < s.S.length := (List.getElem?_eq_some_iff.mp e).1
  have ex : ExtS s { s with S := s.S.set n (.live c) } := ⟨Same.refl _, List.prefix_refl _⟩
  refine ⟨hHa.1, k4, mu, ⟨fun x y q => ?_, ?_, fun m x q => ?_, fun m d q => ?_, fun m m' d d' x q1 q2 p1 p2 => ?_, fun x y q => ?_, fun m d q => ?_, fun m m' d d' x q1 q2 p1 p2 => ?_⟩, ex⟩
  · rw [upd_ne (ne_of_none q hHa.2)]
    exact A.sub x y q
  · show s.μ.length = (s.S.set n _).length
    rw [List.length_set, A.len]
  · rcases get_set q with ⟨_, hd⟩ | ⟨_, hd⟩
    · cases hd
    · exact A.fzn m x hd
  · rcases get_set q with ⟨hm, hd⟩ | ⟨hm, hd⟩
    · cases hd
      subst hm
      exact ⟨a, u, ha, hHa.2, hF, upd_same, RepC.mono ex c u k4⟩
    · obtain ⟨b, w, j1, j2, j3, j4, j5⟩ := A.live m d hd
      have nb : b ≠ a := fun z => by rw [z, upd_same] at j3; cases j3
      rw [upd_ne nb] at j3
      exact ⟨b, w, j1, j2, j3, by rw [upd_ne nb]; exact j4, RepC.mono ex d w j5⟩
  · have far : ∀ {k : Nat} {dd : Cell}, s.S[k]? = some (.live dd) → s.μ[k]? ≠ some a := fun {k dd} z w => by
      obtain ⟨b, u', j1, _, j3, _⟩ := A.live k dd z
      rw [w] at j1
      cases j1
      rw [upd_same] at j3
      cases j3
    rcases get_set q1 with ⟨h1, _⟩ | ⟨_, h1⟩
    · rcases get_set q2 with ⟨h2, _⟩ | ⟨_, h2⟩
      · rw [h1, h2]
      · exfalso
        have p1 : s.μ[m]? = some x := p1
        rw [h1, ha] at p1
        cases p1
        exact far h2 p2
    · rcases get_set q2 with ⟨h2, _⟩ | ⟨_, h2⟩
      · exfalso
        have p2 : s.μ[m']? = some x := p2
        rw [h2, ha] at p2
        cases p2
        exact far h1 p1
      · exact A.inj m m' d d' x h1 h2 p1 p2
  · have hx : x ≠ a := fun z => by rw [z, hF] at q; cases q
    have z := A.frm x y (by rw [upd_ne hx]; exact q)
    rw [upd_ne hx]
    exact z
  · rcases get_set q with ⟨_, hd⟩ | ⟨hm, hd⟩
    · cases hd
    · obtain ⟨b, od', u', j1, j2, j3, j4⟩ := A.lk.at_ m d hd
      have nb : b ≠ a := fun z => hm (A.lk.inj m n d c b hd e j1 (by rw [z]; exact ha))
      rw [upd_ne nb] at j2
      exact ⟨b, od', u', j1, j2, j3, RepC.mono ex d u' j4⟩
  · rcases get_set q1 with ⟨_, hd⟩ | ⟨_, h1⟩
    · cases hd
    · rcases get_set q2 with ⟨_, hd⟩ | ⟨_, h2⟩
      · cases hd
      · exact A.lk.inj m m' d d' x h1 h2 p1 p2
/-- purify, seen in the heap: nothing happens there -/
theorem purify_ok (A : AtS C F s H) {d : D} {v : V} (r : RepD C s d v) {x : P} {S' : Sto} (e : purify d s.S = .ok x S') :
    ∃ s', s'.S = S' ∧ AtS C F s' H ∧ ExtS s s' ∧ RepP C s'.G x v := by
  cases d with
  | p y =>
    simp only [purify, RE.ok.injEq] at e
    obtain ⟨rfl, rfl⟩ := e
    exact ⟨s, rfl, A, ExtS.refl s, r⟩
  | loc n =>
    obtain ⟨b, hb, hv⟩ := r
    simp only [purify] at e
    split at e
    · rename_i xs q
      simp only [RE.ok.injEq] at e
      obtain ⟨rfl, rfl⟩ := e
      have hz : ∀ a o, s.G a = none → RepC C s (.lst xs) o → RepP C (upd s.G a o) (.lst xs) (.ref a) := fun a o hn ⟨vs, ho, k2⟩ => by
        simp only [RepP]
        exact ⟨a, vs, rfl, by rw [upd_same, ho], RepPs.mono (Same.new hn) xs vs k2⟩
      obtain ⟨a, o, k1, k2, k3, A', ex⟩ := A.freeze (z := .lst xs) q hz
      rw [k1] at hb
      cases hb
      subst hv
      obtain ⟨a', k4, k5⟩ := A'.fzn n (.lst xs) (by show (s.S.set n _)[n]? = _; rw [List.getElem?_set_self (List.getElem?_eq_some_iff.mp q).1])
      rw [show s.μ[n]? = some a' from k4] at k1
      cases k1
      exact ⟨_, rfl, A', ex, k5⟩
    · rename_i x' q
      simp only [RE.ok.injEq] at e
      obtain ⟨rfl, rfl⟩ := e
      obtain ⟨a, k1, k2⟩ := A.fzn n _ q
      rw [k1] at hb
      cases hb
      subst hv
      exact ⟨s, rfl, A, ExtS.refl s, k2⟩
    · cases e
  | cls c => cases e
theorem purify_not {d : D} {S : Sto} {c : Nat} {x : Option P} {S' : Sto} (e : purify d S = .exc c x S') : False := by
  cases d with
  | p y => simp [purify] at e
  | loc n =>
    simp only [purify] at e
    split at e <;> cases e
  | cls c => cases e
/-- peek: what stands there now -/
theorem peek_ok (A : AtS C F s H) {d : D} {v : V} (r : RepD C s d v) {x : P} (e : peek d s.S = some x) : RepP C s.G x v ∨ (∃ xs a vs, x = .lst xs ∧ v = .ref a ∧ H a = some (.lst vs) ∧ RepPs C s.G xs vs) := by
  cases d with
  | p y =>
    simp only [peek, Option.some.injEq] at e
    subst e
    exact Or.inl r
  | loc n =>
    simp only [peek] at e
    split at e
    · rename_i xs q
      simp only [Option.some.injEq] at e
      obtain ⟨a, o, k1, _, _, k4, vs, ho, k5⟩ := A.live n _ q
      obtain ⟨b, hb, hv⟩ := r
      rw [k1] at hb
      cases hb
      exact Or.inr ⟨xs, a, vs, e.symm, hv, by rw [k4, ho], k5⟩
    · rename_i x' q
      simp only [Option.some.injEq] at e
      subst e
      obtain ⟨a, k1, k2⟩ := A.fzn n _ q
      obtain ⟨b, hb, hv⟩ := r
      rw [k1] at hb
      cases hb
      subst hv
      exact Or.inl k2
    · cases e
  | cls c => cases e
theorem peek_lst (A : AtS C F s H) {d : D} {v : V} (r : RepD C s d v) {xs : List P} (e : peek d s.S = some (.lst xs)) : ∃ a vs, v = .ref a ∧ H a = some (.lst vs) ∧ RepPs C s.G xs vs := by
  rcases peek_ok A r e with h | ⟨ys, a, vs, h1, h2, h3, h4⟩
  · simp only [RepP] at h
    obtain ⟨a, vs, h1, h2, h3⟩ := h
    exact ⟨a, vs, h1, A.sub _ _ h2, h3⟩
  · cases h1
    exact ⟨a, vs, h2, h3, h4⟩
/-- what is no list is looked at as it is -/
theorem peek_pure (A : AtS C F s H) {d : D} {v : V} (r : RepD C s d v) {x : P} (e : peek d s.S = some x) (hx : ∀ xs, x ≠ .lst xs) : RepP C s.G x v := by
  rcases peek_ok A r e with h | ⟨ys, a, vs, h1, _⟩
  · exact h
  · exact absurd h1 (hx ys)
end
end RP
end

section
set_option Elab.async false
set_option linter.all false
set_option maxRecDepth 100000
/-! The readings that the evaluator gives. -/
namespace RP
open PySem L2
section
variable (C : CC) (W : WX) (F : Hp)
/-- an exception's own dict -/
def RepX (G : Hp) (c : Nat) : Option P → Option Addr → Prop
  | none, dx => dx = none
  | some x, dx => ∃ d v, dx = some d ∧ G d = some (.xd (((C.FT c).map C.NM).zip [v])) ∧ RepP C G x v
/-- what is wanted of an outcome: of its value, or of the exception -/
def Wt {α : Type} (σ : St) (s : Sit) (r : RE α) (K : α → Sit → Hp → Prop) : Prop := match r with
  | .ok a S' => ∀ s' H', s'.S = S' → ExtS s s' → AtS C F s' H' → K a s' H'
  | .exc c x S' => ∀ dx s' H', s'.S = S' → ExtS s s' → AtS C F s' H' → RepX C s'.G c x dx → W (.ref (C.CA c)) dx σ H'
  | .stuck => False
abbrev WantE {α : Type} (Rel : Sit → α → V → Prop) (σ : St) (s : Sit) (r : RE α) (Q : VK) : Prop := Wt C W F σ s r fun d s' H' => ∀ v, Rel s' d v → Q v H'
def tE (f : DEnv → Sto → RE D) : TE := fun σ H Q => ∃ δ s, AtS C F s H ∧ RepS C s δ σ ∧ WantE C W F (RepD C) σ s (f δ s.S) Q
abbrev WantA {α : Type} (Rel : Sit → α → List V → Prop) (σ : St) (s : Sit) (r : RE α) (Q : List V → Hp → Prop) : Prop := Wt C W F σ s r fun d s' H' => ∀ vs, Rel s' d vs → Q vs H'
def tAP (f : DEnv → Sto → RE (List P)) : TA := fun σ H Q => ∃ δ s, AtS C F s H ∧ RepS C s δ σ ∧ WantA C W F (fun s => RepPs C s.G) σ s (f δ s.S) Q
def tAD (f : DEnv → Sto → RE (List D)) : TA := fun σ H Q => ∃ δ s, AtS C F s H ∧ RepS C s δ σ ∧ WantA C W F (RepDs C) σ s (f δ s.S) Q
abbrev WantT (σ : St) (s : Sit) (r : RE D) (Q : Bool → Hp → Prop) : Prop := Wt C W F σ s r fun d _ H' => match d with
  | .p (.bl b) => Q b H'
  | _ => False
def tT (f : DEnv → Sto → RE D) : TT := fun σ H Q => ∃ δ s, AtS C F s H ∧ RepS C s δ σ ∧ WantT C W F σ s (f δ s.S) Q
def WantS (s : Sit) (r : RS) (D : Ends) : Prop := match r with
  | .next δ S' => ∀ σ s' H', s'.S = S' → ExtS s s' → AtS C F s' H' → RepS C s' δ σ → D.nx σ H'
  | .ret d S' => ∀ v s' H', s'.S = S' → ExtS s s' → AtS C F s' H' → RepD C s' d v → D.rt v H'
  | .brk δ S' => ∀ σ s' H', s'.S = S' → ExtS s s' → AtS C F s' H' → RepS C s' δ σ → D.bk σ H'
  | .cnt δ S' => ∀ σ s' H', s'.S = S' → ExtS s s' → AtS C F s' H' → RepS C s' δ σ → D.ct σ H'
  | .exc c x δ S' => ∀ dx σ s' H', s'.S = S' → ExtS s s' → AtS C F s' H' → RepS C s' δ σ → RepX C s'.G c x dx → W (.ref (C.CA c)) dx σ H'
  | .stuck => False
def tS (f : DEnv → Sto → RS) : TS := fun D σ H => ∃ δ s, AtS C F s H ∧ RepS C s δ σ ∧ WantS C W F s (f δ s.S) D
end
/-! ### a judgement with a stronger reading -/
section
variable {X : Cx} {C : CC} {W : WX} {F : Hp} {s s1 : Sit} {σ : St} {H : Hp} {δ : DEnv}
theorem PE.imp {e : Expr} {t u : TE} (h : PE X e t) (k : ∀ σ H Q, u σ H Q → t σ H Q) : PE X e u := ⟨fun pins s σ H Q I hu => h.run pins s σ H Q I (k σ H Q hu)⟩
theorem PT.imp {e : Expr} {t u : TT} (h : PT X e t) (k : ∀ σ H Q, u σ H Q → t σ H Q) : PT X e u := ⟨fun pins s σ H Q I hu => h.run pins s σ H Q I (k σ H Q hu)⟩
theorem PW.imp {e : Expr} {t u : TT} (h : PW X e t) (k : ∀ σ H Q, u σ H Q → t σ H Q) : PW X e u := ⟨fun wh pins s σ H Q I hu => h.run wh pins s σ H Q I (k σ H Q hu)⟩
theorem PA.imp {e : List Expr} {t u : TA} (h : PA X e t) (k : ∀ σ H Q, u σ H Q → t σ H Q) : PA X e u := ⟨fun pos pins s σ H Q I hu => h.run pos pins s σ H Q I (k σ H Q hu)⟩
theorem PS.imp {st : Stmt} {t u : TS} (h : PS X st t) (k : ∀ D σ H, u D σ H → t D σ H) : PS X st u := ⟨fun pins s σ H D I hu => h.run pins s σ H D I (k D σ H hu)⟩
theorem PSs.imp {st : List Stmt} {t u : TS} (h : PSs X st t) (k : ∀ D σ H, u D σ H → t D σ H) : PSs X st u := ⟨fun pins s σ H D I hu => h.run pins s σ H D I (k D σ H hu)⟩
theorem Wt.ext {α : Type} {r : RE α} {K : α → Sit → Hp → Prop} (ex : ExtS s s1) (h : Wt C W F σ s r K) : Wt C W F σ s1 r K := by
  cases r with
  | ok a S' => exact fun s' H' h1 e2 => h s' H' h1 (ex.trans e2)
  | exc c x S' => exact fun dx s' H' h1 e2 => h dx s' H' h1 (ex.trans e2)
  | stuck => exact h
/-- an outcome, then what hangs on its value -/
theorem Wt.bind {α β : Type} {r : RE α} {g : α → Sto → RE β} {K : β → Sit → Hp → Prop} (h : Wt C W F σ s (r.bind g) K) : Wt C W F σ s r fun a s' _ => Wt C W F σ s' (g a s'.S) K := by
  cases r with
  | ok a S' =>
    intro s' H' hS ex A'
    subst hS
    exact Wt.ext ex h
  | exc c x S' => exact h
  | stuck => exact h
theorem Wt.imp {α : Type} {r : RE α} {K K' : α → Sit → Hp → Prop} (h : Wt C W F σ s r K) (k : ∀ a s' H', r = .ok a s'.S → ExtS s s' → AtS C F s' H' → K a s' H' → K' a s' H') : Wt C W F σ s r K' := by
  cases r with
  | ok a S' =>
    intro s' H' hS ex A'
    exact k a s' H' (by rw [hS]) ex A' (h s' H' hS ex A')
  | exc c x S' => exact h
  | stuck => exact h
theorem Wt.now {α : Type} {a : α} {K : α → Sit → Hp → Prop} (A : AtS C F s H) (h : Wt C W F σ s (.ok a s.S) K) : K a s H := h s H rfl (ExtS.refl s) A
theorem Wt.at_ {α : Type} {a : α} {K : α → Sit → Hp → Prop} {S' : Sto} {H' : Hp} (h : Wt C W F σ s (.ok a S') K) (A : AtS C F s1 H') (hS : s1.S = S') (ex : ExtS s s1) : K a s1 H' := h s1 H' hS ex A
/-- THE STEP: an expression first, then what hangs on its value -/
def Then {β : Type} (C : CC) (W : WX) (F : Hp) (s : Sit) (σ : St) (δ : DEnv) (g : D → Sto → RE β) (K : β → Sit → Hp → Prop) : VK := fun v H1 => ∃ d s1, ExtS s s1 ∧ AtS C F s1 H1 ∧ RepS C s1 δ σ ∧ RepD C s1 d v ∧ Wt C W F σ s1 (g d s1.S) K
theorem tE.then {β : Type} {f : DEnv → Sto → RE D} {g : D → Sto → RE β} {K : β → Sit → Hp → Prop} (A : AtS C F s H) (R : RepS C s δ σ) (h : Wt C W F σ s ((f δ s.S).bind g) K) : tE C W F f σ H (Then C W F s σ δ g K) :=
  ⟨δ, s, A, R, Wt.imp (Wt.bind h) fun d s' H' _ ex A' hk v r => ⟨d, s', ex, A', R.mono ex, r, hk⟩⟩
theorem Wt.ok {α : Type} {Rel : Sit → α → V → Prop} {d : α} {Q : VK} {v : V} (A : AtS C F s H) (h : WantE C W F Rel σ s (.ok d s.S) Q) (r : Rel s d v) : Q v H := h s H rfl (ExtS.refl s) A v r
theorem Wt.to {α : Type} {Rel : Sit → α → V → Prop} {d : α} {Q : VK} {v : V} {S' : Sto} {H' : Hp} (h : WantE C W F Rel σ s (.ok d S') Q) (A : AtS C F s1 H') (hS : s1.S = S') (ex : ExtS s s1) (r : Rel s1 d v) : Q v H' := h s1 H' hS ex A v r
theorem Wt.thenA {α β : Type} {Rel : Sit → α → List V → Prop} {r : RE α} {g : α → Sto → RE β} {K : β → Sit → Hp → Prop} (R : RepS C s δ σ) (h : Wt C W F σ s (r.bind g) K) :
    WantA C W F Rel σ s r fun vs H1 => ∃ d s1, ExtS s s1 ∧ AtS C F s1 H1 ∧ RepS C s1 δ σ ∧ Rel s1 d vs ∧ Wt C W F σ s1 (g d s1.S) K :=
  Wt.imp (Wt.bind h) fun d s' H' _ ex A' hk v rl => ⟨d, s', ex, A', R.mono ex, rl, hk⟩
end
end RP
end

section
set_option Elab.async false
set_option linter.all false
set_option maxRecDepth 100000
/-! What a pure def promises, and its call. -/
namespace RP
open PySem L2
section
variable (C : CC)
/-- what was not frozen stays, and stays unfrozen -/
def Frz (G H G' H' : Hp) : Prop := ∀ a o, H a = some o → G a = none → H' a = some o ∧ G' a = none
def spP (g : PFn) : Sp := fun vs H Q E => ∃ G xs, Same G H ∧ RepPs C G xs vs ∧ match g xs with
  | .ok x => ∀ v G' H', Same G G' → Same G' H' → Frz G H G' H' → RepP C G' x v → Q v H'
  | .exc c x => ∀ dx G' H', Same G G' → Same G' H' → Frz G H G' H' → RepX C G' c x dx → E (.ref (C.CA c)) dx H'
  | .stuck => False
/-- a thing that may be called with pure data, at level k, from any place of the program -/
def Cal (Pr : Program) (w : World) (K : PySem.W.Frag) (mg : Str → Option Value) (base : Heap) (k : Nat) (u : Value) (g : PFn) : Prop :=
  ∀ (X : Cx) (W : WX) (A : Around) (pins : List (Addr × Obj)) (s : Shared) (σ : St) (H : Hp) (us : List Value) (vs : List V) (Q : VK),
    X.prog = Pr → X.w = w → X.K = K → X.mg = mg → X.base = base → Takes X W → Room k A → A.frames = X.A.frames → Inv X pins σ H s → Vals vs us → spP C g vs H Q (WE W σ) →
    codeAny (model Pr w) A (.call u ⟨us, []⟩) (wants (EP X pins σ Q) X.xe) s
end
section
variable {C : CC} {Pr : Program} {w : World} {K : PySem.W.Frag} {mg : Str → Option Value} {base : Heap} {k j : Nat} {u : Value} {g : PFn}
theorem Cal.mono (h : Cal C Pr w K mg base k u g) (hk : k ≤ j) : Cal C Pr w K mg base j u g := fun X W A pins s σ H us vs Q e1 e2 e3 e4 e5 tk r => h X W A pins s σ H us vs Q e1 e2 e3 e4 e5 tk (r.mono hk)
/-- from a situation of ours to the promise, and back -/
theorem spP_of {W : WX} {F : Hp} {s : Sit} {σ : St} {H : Hp} {xs : List P} {vs : List V} {Q : VK} (A : AtS C F s H) (r : RepPs C s.G xs vs) (h : WantE C W F (RepD C) σ s ((g xs).lift s.S) Q) : spP C g vs H Q (WE W σ) := by
  refine ⟨s.G, xs, A.sub, r, ?_⟩
  cases e : g xs with
  | ok x =>
    rw [e] at h
    intro v G' H' h1 h2 h3 hr
    obtain ⟨A', ex⟩ := A.call h1 h2 h3
    exact h ⟨G', s.μ, s.S⟩ H' rfl ex A' v hr
  | exc c x =>
    rw [e] at h
    intro dx G' H' h1 h2 h3 hr
    obtain ⟨A', ex⟩ := A.call h1 h2 h3
    exact h dx ⟨G', s.μ, s.S⟩ H' rfl ex A' hr
  | stuck =>
    rw [e] at h
    exact h
end
end RP
end

section
set_option Elab.async false
set_option linter.all false
set_option maxRecDepth 100000
/-! Classes and types of data. -/
namespace RP
open PySem L2
structure ClsF (K : PySem.W.Frag) (c : Addr) : Prop where
  cl : L2.Cls K c
  ha : PySem.W.findIn K (.ref c) "__class__" = some (some (.builtin "object.__class__"))
  hn : PySem.W.specialIn K (.builtin "object.__class__") "__get__" =
    some (some (.builtin "getset_descriptor.__get__"))
  tk : PySem.W.takesIn K (.builtin "object.__class__") = some true
  hm : PySem.W.mroIn K c (.type "object") = some true
  sf : PySem.W.selfFirst K c = true
  ne : PySem.W.findIn K (.ref c) "__ne__" = some (some (.builtin "object.__ne__"))
/-- the classes that data may have -/
structure ClsFs (C : CC) : Prop where
  one : ∀ c, C.kn c = true → ClsF C.K (C.CA c)
  two : ∀ c c', C.kn c = true → C.kn c' = true → c ≠ c' → PySem.W.subIn C.K (.ref (C.CA c)) (.ref (C.CA c')) = some false ∧ C.CA c ≠ C.CA c'
def tyP (C : CC) : P → Value
  | .non => .type "NoneType"
  | .bl _ => .type "bool"
  | .int _ => .type "int"
  | .str _ => .type "str"
  | .tup _ => .type "tuple"
  | .lst _ => .type "list"
  | .scr _ => .type "list"
  | .dic _ _ => .type "dict"
  | .exn c _ => .ref (C.CA c)
  | .ob c _ => .ref (C.CA c)
section
variable {C : CC} {X : Cx} {pins : List (Addr × Obj)} {σ : L2.St} {G H : Hp} {s : Shared}
def isXn : P → Bool
  | .exn _ _ => true
  | _ => false
theorem tyX_of (cf : ClsFs C) (hk : C.K = X.K) (e : Same G H) : ∀ {x : P} {v : V}, RepP C G x v → isXn x = false → TyX X.K H v (tyP C x)
  | .non, v, h, _ => by
    simp only [RepP] at h
    subst h
    exact .base .non
  | .bl b, v, h, _ => by
    simp only [RepP] at h
    subst h
    exact .base (.bl b)
  | .int i, v, h, _ => by
    simp only [RepP] at h
    subst h
    exact .base (.int i)
  | .str i, v, h, _ => by
    simp only [RepP] at h
    subst h
    exact .base (.str i)
  | .tup xs, v, h, _ => by
    simp only [RepP] at h
    obtain ⟨a, vs, rfl, h1, _⟩ := h
    rw [hk] at h1
    rcases sqT_mono e h1 with (h | ⟨o, h⟩) | ⟨o, its, n, h, hc, _⟩
    · exact .base (.tup h)
    · exact .fTuple h
    · exact .kTuple h hc
  | .lst xs, v, h, _ => by
    simp only [RepP] at h
    obtain ⟨a, vs, rfl, h1, _⟩ := h
    exact .base (.lst (e _ _ h1))
  | .dic ks xs, v, h, _ => by
    simp only [RepP] at h
    obtain ⟨a, vs, rfl, h1, _⟩ := h
    exact .base (.dK (e _ _ h1))
  | .scr xs, v, h, _ => by
    simp only [RepP] at h
    obtain ⟨a, rfl, h1⟩ := h
    rw [hk] at h1
    rcases e.seq h1.sq with (h | ⟨o, h⟩) | ⟨o, its, n, h, hc, _⟩
    · exact .base (.lst h)
    · exact .base (.frz h)
    · exact .kList h hc
  | .ob c xs, v, h, _ => by
    simp only [RepP] at h
    obtain ⟨hc, a, dx, vs, rfl, h1, _⟩ := h
    have f := cf.one c hc
    rw [hk] at f
    exact .base (.ins (e _ _ h1) f.cl f.ha f.hn f.tk f.hm)
  | .exn _ _, _, _, z => nomatch z
theorem looks_at {M : Model} {a : Addr} {o : Obj} {t : Value} (h : s.heap.get? a = some o) (e : o.cls = t) : PySem.W.Looks M s.heap (typeOf (.ref a)) t := e ▸ (PySem.W.Looks.ld h).andThen .now
theorem looks_ty {M : Model} (hk : C.K = X.K) (e : Same G H) (I : Inv X pins σ H s) : ∀ {x : P} {v : V} {u : Value}, RepP C G x v → RelV v u → PySem.W.Looks M s.heap (typeOf u) (tyP C x)
  | .non, v, u, h, r => by
    simp only [RepP] at h
    subst h
    cases r
    exact .of_pure rfl
  | .bl b, v, u, h, r => by
    simp only [RepP] at h
    subst h
    cases r
    exact .of_pure rfl
  | .int i, v, u, h, r => by
    simp only [RepP] at h
    subst h
    obtain ⟨t, rfl⟩ := r
    exact .of_pure rfl
  | .str i, v, u, h, r => by
    simp only [RepP] at h
    subst h
    obtain ⟨t, rfl⟩ := r
    exact .of_pure rfl
  | .tup xs, v, u, h, r => by
    simp only [RepP] at h
    obtain ⟨a, vs, rfl, h1, _⟩ := h
    cases r
    rw [hk] at h1
    obtain ⟨its, _, ⟨o, q1, q2, _⟩, _⟩ := I.tuple (sqT_mono e h1)
    exact looks_at q1 q2
  | .lst xs, v, u, h, r => by
    simp only [RepP] at h
    obtain ⟨a, vs, rfl, h1, _⟩ := h
    cases r
    obtain ⟨its, _, ⟨o, n, q1, q2, _⟩, _⟩ := I.list (SqL.of (e _ _ h1))
    exact looks_at q1 q2
  | .dic ks xs, v, u, h, r => by
    simp only [RepP] at h
    obtain ⟨a, vs, rfl, h1, _⟩ := h
    cases r
    obtain ⟨_, _, ws, _, ⟨ob, es, n, q1, q2, q3⟩⟩ := dk_of I.hok (e _ _ h1)
    exact looks_at q1 q2.1
  | .exn c xs, v, u, h, r => by
    simp only [RepP] at h
    obtain ⟨_, a, vs, rfl, h1, _⟩ := h
    cases r
    rcases h1 with ⟨_, h2⟩ | ⟨dx, f, v, _, _, h2, _⟩
    · obtain ⟨t, q⟩ := exo_at I.hok (e _ _ h2)
      exact looks_at q rfl
    · obtain ⟨t, q⟩ := exo_at I.hok (e _ _ h2)
      exact looks_at q rfl
  | .scr xs, v, u, h, r => by
    simp only [RepP] at h
    obtain ⟨a, rfl, h1⟩ := h
    cases r
    rw [hk] at h1
    obtain ⟨its, _, ⟨o, n, q1, q2, _⟩, _⟩ := I.list (e.seq h1.sq)
    exact looks_at q1 q2
  | .ob c xs, v, u, h, r => by
    simp only [RepP] at h
    obtain ⟨hc, a, dx, vs, rfl, h1, _⟩ := h
    cases r
    obtain ⟨mA, O, _⟩ := ins_get (P := X.prog) (w := X.w) I.hok (e _ _ h1)
    exact looks_at O.obj rfl
/-- no built-in type lies below a class of the text -/
theorem sub_none (K : PySem.W.Frag) (a : Addr) : PySem.W.subIn K (.type "NoneType") (.ref a) = some false := by
  have e : PySem.fastBuiltinMro "NoneType" = some [.type "NoneType", .type "object"] := by decide +kernel
  simp [PySem.W.subIn, e]
theorem sub_bool (K : PySem.W.Frag) (a : Addr) : PySem.W.subIn K (.type "bool") (.ref a) = some false := by
  have e : PySem.fastBuiltinMro "bool" = some [.type "bool", .type "int", .type "object"] := by decide +kernel
  simp [PySem.W.subIn, e]
theorem sub_int (K : PySem.W.Frag) (a : Addr) : PySem.W.subIn K (.type "int") (.ref a) = some false := by
  have e : PySem.fastBuiltinMro "int" = some [.type "int", .type "object"] := by decide +kernel
  simp [PySem.W.subIn, e]
theorem sub_str (K : PySem.W.Frag) (a : Addr) : PySem.W.subIn K (.type "str") (.ref a) = some false := by
  have e : PySem.fastBuiltinMro "str" = some [.type "str", .type "object"] := by decide +kernel
  simp [PySem.W.subIn, e]
theorem sub_tup (K : PySem.W.Frag) (a : Addr) : PySem.W.subIn K (.type "tuple") (.ref a) = some false := by
  have e : PySem.fastBuiltinMro "tuple" = some [.type "tuple", .type "object"] := by decide +kernel
  simp [PySem.W.subIn, e]
theorem sub_lst (K : PySem.W.Frag) (a : Addr) : PySem.W.subIn K (.type "list") (.ref a) = some false := by
  have e : PySem.fastBuiltinMro "list" = some [.type "list", .type "object"] := by decide +kernel
  simp [PySem.W.subIn, e]
theorem sub_dic (K : PySem.W.Frag) (a : Addr) : PySem.W.subIn K (.type "dict") (.ref a) = some false := by
  have e : PySem.fastBuiltinMro "dict" = some [.type "dict", .type "object"] := by decide +kernel
  simp [PySem.W.subIn, e]
theorem notFirst_of (cf : ClsFs C) {c : Nat} (hc : C.kn c = true) : ∀ {y : P} {v : V}, RepP C G y v → PySem.W.notFirst C.K (C.CA c) (tyP C y) = true := by
  have f : ∀ {t : Value}, PySem.W.subIn C.K t (.ref (C.CA c)) = some false → PySem.W.notFirst C.K (C.CA c) t = true := fun {t} h => by
    unfold PySem.W.notFirst
    rw [h]
    simp
  intro y v r
  cases y with
  | non => exact f (sub_none _ _)
  | bl b => exact f (sub_bool _ _)
  | int b => exact f (sub_int _ _)
  | str b => exact f (sub_str _ _)
  | tup b => exact f (sub_tup _ _)
  | lst b => exact f (sub_lst _ _)
  | scr b => exact f (sub_lst _ _)
  | dic a b => exact f (sub_dic _ _)
  | exn c' b =>
    simp only [RepP] at r
    exact f (r.1.nf c hc)
  | ob c' b =>
    simp only [RepP] at r
    by_cases e : c' = c
    · subst e
      unfold PySem.W.notFirst
      simp [tyP]
    · exact f (cf.two c' c r.1 hc e).1
end
end RP
end

section
set_option Elab.async false
set_option linter.all false
set_option maxRecDepth 100000
set_option maxHeartbeats 1000000
/-! Operators on data. -/
namespace RP
open PySem L2
/-- the numbers of the names that operators go by -/
structure NmOk (C : CC) : Prop where
  add : C.NM mAdd = "__add__"
  sub : C.NM mSub = "__sub__"
  mul : C.NM mMul = "__mul__"
  neg : C.NM mNeg = "__neg__"
  eq : C.NM mEq = "__eq__"
  lt : C.NM mLt = "__lt__"
  le : C.NM mLe = "__le__"
  app : C.NM mAppend = "append"
/-- the methods and properties of a table are those of the text -/
structure GoodM (C : CC) (Pr : Program) (w : World) (K : PySem.W.Frag) (mg : Str → Option Value) (base : Heap) (k : Nat) (Γ : Tab) : Prop where
  mts : ∀ c m g, Γ.meth c m = some g → ∃ f, Meth K (C.CA c) (C.NM m) f ∧ (∀ f ∈ C.FT c, C.NM f ≠ C.NM m) ∧ Cal C Pr w K mg base k (.ref f) g
  prs : ∀ c m g, Γ.prop c m = some g → ∃ p f, PropOf K (C.CA c) (C.NM m) p f ∧ Cal C Pr w K mg base k (.ref f) g
  noR : ∀ c g op m, opM op = some m → Γ.meth c m = some g → PySem.W.findIn K (.ref (C.CA c)) (PySem.dunderR op.info.2) = some none
/-- the fields of the classes are no attributes of the class -/
structure FldOk (C : CC) : Prop where
  inj : ∀ c, C.kn c = true → ∀ g ∈ C.FT c, ∀ f, C.NM f = C.NM g → f = g
  na : ∀ c, C.kn c = true → ∀ g ∈ C.FT c, NoAttr C.K (C.CA c) (C.NM g)
/-- a place of the program where data is reckoned -/
structure Spot (C : CC) (W : WX) (X : Cx) (k : Nat) : Prop where
  nd : X.base.NoDigits
  cf : ClsFs C
  nm : NmOk C
  fl : FldOk C
  hk : C.K = X.K
  tk : Takes X W
  hr : Room (k + eqDeep) X.A
  py : X.A.frames = some X.stack → ∀ s : Shared, (∀ b o, X.base.get? b = some o → s.heap.get? b = some o) → PySem.PylongRoom (model X.prog X.w) X.A s
theorem sizeLine_big : 200000 ≤ sizeLine := by decide
section
variable {C : CC} {W : WX} {X : Cx} {k : Nat} {Γ : Tab} {F : Hp} {s0 : Sit} {pins : List (Addr × Obj)} {σ : L2.St} {H : Hp} {s : Shared} {Q : VK}
/-- a call of an own def with pure data -/
theorem cal_run {u : Value} {g : PFn} {us : List Value} {vs : List V} {xs : List P} {A' : Around} (sp : Spot C W X k) (c : Cal C X.prog X.w X.K X.mg X.base k u g) (hr : Room k A') (hA : A'.frames = X.A.frames) (I : Inv X pins σ H s) (A : AtS C F s0 H) (r : RepPs C s0.G xs vs) (rv : Vals vs us)
    (h : WantE C W F (RepD C) σ s0 ((g xs).lift s0.S) Q) : wpAny (model X.prog X.w) A' (call u us) (EP X pins σ Q) X.xe s :=
  wpAny_call (c X W A' pins s σ H us vs Q rfl rfl rfl rfl rfl sp.tk hr hA I rv (spP_of A r h))
theorem reps1 {x : P} {v : V} (r : RepP C s0.G x v) : RepPs C s0.G [x] [v] := by
  simp only [RepPs]
  exact ⟨v, [], rfl, r, rfl⟩
theorem reps2 {x y : P} {v u : V} (r : RepP C s0.G x v) (q : RepP C s0.G y u) : RepPs C s0.G [x, y] [v, u] := by
  simp only [RepPs]
  exact ⟨v, [u], rfl, r, u, [], rfl, q, rfl⟩
/-- an int, a bool, a text, None as the answer -/
theorem want_int {i : Int} (A : AtS C F s0 H) (h : WantE C W F (RepD C) σ s0 (.ok (.p (.int i)) s0.S) Q) : Q (.int i) H := h.ok A (by simp only [RepD, RepP])
theorem want_bl {i : Bool} (A : AtS C F s0 H) (h : WantE C W F (RepD C) σ s0 (.ok (.p (.bl i)) s0.S) Q) : Q (.bl i) H := h.ok A (by simp only [RepD, RepP])
theorem want_str {i : Str} (A : AtS C F s0 H) (h : WantE C W F (RepD C) σ s0 (.ok (.p (.str i)) s0.S) Q) : Q (.str i) H := h.ok A (by simp only [RepD, RepP])
/-- a new list that is not live -/
theorem want_lst {xs : List P} {vs : List V} (A : AtS C F s0 H) (r : RepPs C s0.G xs vs) (h : WantE C W F (RepD C) σ s0 (.ok (.p (.lst xs)) s0.S) Q) (p : Addr) (hp : H p = none) : Q (.ref p) (upd H p (.lst vs)) := by
  obtain ⟨A', ex⟩ := A.grow (o := .lst vs) hp
  refine h.to A' rfl ex ?_
  simp only [RepD, RepP]
  exact ⟨p, vs, rfl, upd_same, RepPs.mono ex.G xs vs r⟩
theorem want_tup {xs : List P} {vs : List V} (A : AtS C F s0 H) (r : RepPs C s0.G xs vs) (h : WantE C W F (RepD C) σ s0 (.ok (.p (.tup xs)) s0.S) Q) (p : Addr) (hp : H p = none) : Q (.ref p) (upd H p (.tup vs)) := by
  obtain ⟨A', ex⟩ := A.grow (o := .tup vs) hp
  refine h.to A' rfl ex ?_
  simp only [RepD, RepP]
  exact ⟨p, vs, rfl, SqT.of upd_same, RepPs.mono ex.G xs vs r⟩
theorem reps_app : ∀ (xs : List P) {ys : List P} (vs : List V) {ws : List V} {G : Hp}, RepPs C G xs vs → RepPs C G ys ws → RepPs C G (xs ++ ys) (vs ++ ws)
  | [], ys, vs, ws, G, h, q => by
    simp only [RepPs] at h
    subst h
    exact q
  | x :: xs, ys, vs, ws, G, h, q => by
    simp only [RepPs] at h
    obtain ⟨v, vs', rfl, h1, h2⟩ := h
    simp only [List.cons_append, RepPs]
    exact ⟨v, vs' ++ ws, rfl, h1, reps_app xs vs' h2 q⟩
theorem reps_rep {xs : List P} {vs : List V} {G : Hp} (h : RepPs C G xs vs) : ∀ n : Nat, RepPs C G (List.replicate n xs).flatten (List.replicate n vs).flatten
  | 0 => by simp only [List.replicate_zero, List.flatten_nil, RepPs]
  | n + 1 => by
    rw [List.replicate_succ, List.replicate_succ, List.flatten_cons, List.flatten_cons]
    exact reps_app xs vs h (reps_rep h n)
theorem mulOk_of {i j : Int} (h : mulOk i j = true) : PySem.IntMulOk i j := by
  unfold mulOk at h
  have h3 := of_decide_eq_true h
  have b : ∀ x : Int, Builtin.Int.intBits x ≤ x.natAbs.log2 + 1 := fun x => by
    unfold Builtin.Int.intBits
    split <;> omega
  have h1 := b i
  have h2 := b j
  have e : bitsLine = 134217728 := by decide
  unfold PySem.IntMulOk
  intro z
  rw [Bool.and_eq_true] at z
  have z2 := z.2
  unfold Builtin.Int.intTooBig at z2
  have z3 := of_decide_eq_true z2
  rw [e] at z3
  omega
theorem op_mulX : OpR X (binaryOp .Mult) (rI (fun i j => mulOk i j = true) fun i j => .int (i * j)) := opI fun _ _ _ _ _ _ _ hc q => PyProof.Rows.mul_int q (mulOk_of hc)
theorem op_powW : OpR X (binaryOp .Pow) (rI (fun i j => powOk i j = true) fun i j => .int (i ^ j.toNat)) := opI fun i j _ _ _ _ _ hc q => by
  unfold powOk at hc
  simp only [Bool.and_eq_true, decide_eq_true_eq] at hc
  refine PyProof.Rows.pow_int hc.1.1 ?_ q
  have h1 : Builtin.Int.intBits i ≤ i.natAbs.log2 + 1 := by
    unfold Builtin.Int.intBits
    split <;> omega
  have h2 : (Builtin.Int.intBits i : Int) ≤ 10000 := by omega
  have h3 : (Builtin.Int.intBits i : Int) * j ≤ 10000 * 1000 := Int.mul_le_mul h2 hc.1.2 hc.1.1 (by decide)
  exact Int.le_trans h3 (by decide)
theorem mul_fits {a : Str} {n : Int} (h1 : n ≤ 1000) (h2 : 0 ≤ n) (h3 : a.length ≤ 100) : PySem.MulOk a n := by
  refine ⟨?_, fun hn _ => ?_, fun hn _ => ?_⟩
  · simp only [Bool.or_eq_false_iff, decide_eq_false_iff_not]
    omega
  · have hp : 0 < n := by omega
    intro hc
    have : (2 ^ 63 - 1) / n < 1000 + 1 := by omega
    rw [Int.ediv_lt_iff_lt_mul hp] at this
    have h5 : (1000 + 1) * n ≤ (1000 + 1) * 1000 := Int.mul_le_mul_of_nonneg_left h1 (by decide)
    omega
  · unfold PySem.Builtin.Str.tooLong
    have h5 : a.length * n.toNat ≤ 100 * 1000 := Nat.mul_le_mul h3 (by omega)
    show decide (_ > sizeLine) = false
    rw [decide_eq_false_iff_not]
    have := sizeLine_big
    omega
theorem opM_name (nm : NmOk C) {op : Operator} {m : Nat} (h : opM op = some m) : PySem.dunder op.info.2 = C.NM m := by
  cases op <;> cases h
  · rw [nm.add]; decide +kernel
  · rw [nm.sub]; decide +kernel
  · rw [nm.mul]; decide +kernel
theorem int_has (K : PySem.W.Frag) {op : Operator} {m : Nat} (h : opM op = some m) : ∃ fo ro, PySem.W.findIn K (.type "int") (PySem.dunder op.info.2) = some fo ∧ PySem.W.findIn K (.type "int") (PySem.dunderR op.info.2) = some ro := by
  have f : ∀ n : Str, (PySem.fastLookup "int" n).isSome = true → ∃ x, PySem.W.findIn K (.type "int") n = some x := fun n h => Option.isSome_iff_exists.mp h
  obtain ⟨a, ha⟩ := f (PySem.dunder op.info.2) (by cases op <;> cases h <;> decide +kernel)
  obtain ⟨b, hb⟩ := f (PySem.dunderR op.info.2) (by cases op <;> cases h <;> decide +kernel)
  exact ⟨a, b, ha, hb⟩
/-- an answer of an own def is never NotImplemented -/
theorem ep_back {u : Value} {s' : Shared} (h : EP X pins σ Q u s') : PySem.W.CmpBack (EP X pins σ Q) u s' := by
  obtain ⟨v, H', I', r, q⟩ := h
  cases u <;> first
    | exact ⟨v, H', I', r, q⟩
    | (cases v <;> first | (cases r; done) | (obtain ⟨_, r⟩ := r; cases r))
theorem inst_of {c : Nat} {xs : List P} {v : V} {u : Value} (I : Inv X pins σ H s) (A : AtS C F s0 H) (r : RepP C s0.G (.ob c xs) v) (rv : RelV v u) :
    ∃ a dx od, u = .ref a ∧ v = .ref a ∧ C.kn c = true ∧ PySem.W.InstAt s.heap a (PySem.W.instObj (C.CA c) dx) (C.CA c) (some od) := by
  simp only [RepP] at r
  obtain ⟨hc, a, dx, vs, rfl, h1, _⟩ := r
  cases rv
  obtain ⟨mA, O, _⟩ := ins_get (P := X.prog) (w := X.w) I.hok (A.sub _ _ h1)
  obtain ⟨od, J, _⟩ := O.look
  exact ⟨a, dx, od, rfl, rfl, hc, J⟩
theorem bin_ob (sp : Spot C W X k) (gm : GoodM C X.prog X.w X.K X.mg X.base k Γ) {op : Operator} {c m : Nat} {xs : List P} {g : PFn} {y : P} {x1 y1 : V} {v u : Value} (hop : opM op = some m) (hg : Γ.meth c m = some g)
    (hy : (∃ i, y = .int i) ∨ ∃ ys, y = .ob c ys)
    (I : Inv X pins σ H s) (A : AtS C F s0 H) (r1 : RepP C s0.G (.ob c xs) x1) (r2 : RepP C s0.G y y1) (rx : RelV x1 v) (ry : RelV y1 u)
    (h : WantE C W F (RepD C) σ s0 ((g [.ob c xs, y]).lift s0.S) Q) : wpAny (model X.prog X.w) X.A (binaryOp op v u) (EP X pins σ Q) X.xe s := by
  obtain ⟨a, dx, od, rfl, rfl, hc, J⟩ := inst_of I A r1 rx
  obtain ⟨f, M, _, cal⟩ := gm.mts c m g hg
  obtain ⟨mm, hF⟩ := I.fr
  have cf := sp.cf.one c hc
  rw [sp.hk] at cf
  have hn := M.at_
  rw [← opM_name sp.nm hop] at hn
  have go : wpAny (model X.prog X.w) X.A (call (.ref f) [.ref a, u]) (PySem.W.CmpBack (EP X pins σ Q)) X.xe s :=
    wpAny_mono (cal_run sp cal (sp.hr.mono (Nat.le_add_right _ _)) rfl I A (reps2 r1 r2) (.cons rfl (.cons ry .nil)) h) (fun _ _ z => ep_back z) fun _ _ z => z
  rcases hy with ⟨i, rfl⟩ | ⟨ys, rfl⟩
  · simp only [RepP] at r2
    subst r2
    obtain ⟨t, rfl⟩ := ry
    obtain ⟨fo, ro, q1, q2⟩ := int_has X.K hop
    exact PySem.W.ksp_binT (T := "int") hF I.ok.mod.kin J rfl cf.sf hn M.fn (gm.noR c g op m hop hg) (Or.inl rfl) q1 q2 (sub_int _ _) go
  · obtain ⟨b, dy, od', rfl, rfl, _, J'⟩ := inst_of I A r2 ry
    exact PySem.W.binop_K hF I.ok.mod.kin J J'.type cf.sf hn M.fn go
theorem bin_ok (sp : Spot C W X k) (gm : GoodM C X.prog X.w X.K X.mg X.base k Γ) {op : Operator} {d1 d2 : D} {p1 p2 : P} {x y : V} {v u : Value} (I : Inv X pins σ H s) (A : AtS C F s0 H) (r1 : RepD C s0 d1 x) (r2 : RepD C s0 d2 y)
    (e1 : peek d1 s0.S = some p1) (e2 : peek d2 s0.S = some p2) (rx : RelV x v) (ry : RelV y u) (h : WantE C W F (RepD C) σ s0 ((Γ.bin op p1 p2).lift s0.S) Q) : wpAny (model X.prog X.w) X.A (binaryOp op v u) (EP X pins σ Q) X.xe s := by
  cases p1 with
  | int i =>
    have q1 := peek_pure A r1 e1 (fun _ z => nomatch z)
    cases p2 with
    | int j =>
      have q2 := peek_pure A r2 e2 (fun _ z => nomatch z)
      simp only [RepP] at q1 q2
      subst q1 q2
      cases op with
      | Add => exact op_add pins s σ H _ _ v u Q I rx ry ⟨i, j, rfl, rfl, want_int A h⟩
      | Sub => exact op_sub pins s σ H _ _ v u Q I rx ry ⟨i, j, rfl, rfl, want_int A h⟩
      | Mult =>
        simp only [Tab.bin] at h
        split at h
        · rename_i hm
          exact op_mulX pins s σ H _ _ v u Q I rx ry ⟨i, j, rfl, rfl, hm, want_int A h⟩
        · exact h.elim
      | FloorDiv =>
        simp only [Tab.bin] at h
        split at h
        · rename_i hm
          unfold divOk at hm
          obtain ⟨t, rfl⟩ := rx
          obtain ⟨t', rfl⟩ := ry
          exact PyProof.Rows.floordiv_int (of_decide_eq_true hm) ⟨.int (i.fdiv j), H, I.tok _, ⟨_, rfl⟩, want_int A h⟩ (.inr (sp.py I.ok.frames s I.bk))
        · exact h.elim
      | Mod =>
        simp only [Tab.bin] at h
        split at h
        · exact h.elim
        · rename_i hm
          exact op_modN pins s σ H _ _ v u Q I rx ry ⟨i, j, rfl, rfl, (fun z => hm (by rw [z]; rfl)), want_int A h⟩
      | Pow =>
        simp only [Tab.bin] at h
        split at h
        · rename_i hm
          exact op_powW pins s σ H _ _ v u Q I rx ry ⟨i, j, rfl, rfl, hm, want_int A h⟩
        · exact h.elim
      | _ => exact h.elim
    | _ => exact h.elim
  | str a =>
    have q1 := peek_pure A r1 e1 (fun _ z => nomatch z)
    cases p2 with
    | str b =>
      have q2 := peek_pure A r2 e2 (fun _ z => nomatch z)
      simp only [RepP] at q1 q2
      subst q1 q2
      cases op with
      | Add =>
        simp only [Tab.bin] at h
        split at h
        · rename_i hm
          unfold lineOk at hm
          have hm' := of_decide_eq_true hm
          exact op_add_str pins s σ H _ _ v u Q I rx ry ⟨a, b, rfl, rfl, Nat.le_trans hm' (Nat.le_trans (by decide) sizeLine_big), want_str A h⟩
        · exact h.elim
      | _ => exact h.elim
    | int n =>
      have q2 := peek_pure A r2 e2 (fun _ z => nomatch z)
      simp only [RepP] at q1 q2
      subst q1 q2
      cases op with
      | Mult =>
        simp only [Tab.bin] at h
        split at h
        · rename_i hm
          simp only [Bool.and_eq_true, decide_eq_true_eq] at hm
          obtain ⟨⟨h1, h2⟩, h3⟩ := hm
          obtain ⟨t, rfl⟩ := rx
          obtain ⟨t', rfl⟩ := ry
          exact PySem.SB.mul (mul_fits h1 h2 h3) fun t2 k => ⟨.str _, H, I.tok _, ⟨_, rfl⟩, want_str A h⟩
        · exact h.elim
      | _ => exact h.elim
    | _ => cases op <;> exact h.elim
  | lst xs =>
    cases p2 with
    | lst ys =>
      cases op with
      | Add =>
        simp only [Tab.bin] at h
        split at h
        · rename_i hm
          unfold lineOk at hm
          simp only [Bool.and_eq_true, decide_eq_true_eq] at hm
          obtain ⟨a, vs, rfl, h1, k1⟩ := peek_lst A r1 e1
          obtain ⟨b, ws, rfl, h2, k2⟩ := peek_lst A r2 e2
          have l1 := RepPs.len xs vs k1
          have l2 := RepPs.len ys ws k2
          exact op_cat pins s σ H _ _ v u Q I rx ry ⟨a, b, vs, ws, rfl, rfl, h1, h2, Nat.le_trans (by omega) sizeLine_big, fun p hp => want_lst A (reps_app xs vs k1 k2) h p hp⟩
        · exact h.elim
      | _ => exact h.elim
    | int k =>
      cases op with
      | Mult =>
        simp only [Tab.bin] at h
        split at h
        · rename_i hm
          unfold lineOk at hm
          simp only [Bool.and_eq_true, decide_eq_true_eq] at hm
          obtain ⟨a, vs, rfl, h1, k1⟩ := peek_lst A r1 e1
          have q2 := peek_pure A r2 e2 (fun _ z => nomatch z)
          simp only [RepP] at q2
          subst q2
          have l1 := RepPs.len xs vs k1
          exact op_rep pins s σ H _ _ v u Q I rx ry ⟨a, k, vs, rfl, rfl, h1, by omega, by omega, Nat.le_trans (by rw [← l1]; exact hm.2) (Nat.le_trans (by decide) sizeLine_big), fun p hp => want_lst A (reps_rep k1 k.toNat) h p hp⟩
        · exact h.elim
      | _ => exact h.elim
    | _ => cases op <;> exact h.elim
  | tup xs =>
    have q1 := peek_pure A r1 e1 (fun _ z => nomatch z)
    cases p2 with
    | tup ys =>
      have q2 := peek_pure A r2 e2 (fun _ z => nomatch z)
      cases op with
      | Add =>
        simp only [Tab.bin] at h
        split at h
        · rename_i hm
          unfold lineOk at hm
          simp only [Bool.and_eq_true, decide_eq_true_eq, Bool.not_eq_true', List.isEmpty_eq_false_iff] at hm
          simp only [RepP] at q1 q2
          obtain ⟨a, vs, rfl, h1, k1⟩ := q1
          obtain ⟨b, ws, rfl, h2, k2⟩ := q2
          have l1 := RepPs.len xs vs k1
          have l2 := RepPs.len ys ws k2
          have n1 : vs ≠ [] := fun z => hm.1.1.1 (List.length_eq_zero_iff.mp (by rw [l1, z]; rfl))
          have n2 : ws ≠ [] := fun z => hm.1.1.2 (List.length_eq_zero_iff.mp (by rw [l2, z]; rfl))
          exact op_catT pins s σ H _ _ v u Q I rx ry ⟨a, b, vs, ws, rfl, rfl, sp.hk ▸ sqT_mono A.sub h1, sp.hk ▸ sqT_mono A.sub h2, n1, Nat.le_trans (by omega) sizeLine_big, fun z => absurd z n2, fun _ p hp => want_tup A (reps_app xs vs k1 k2) h p hp⟩
        · exact h.elim
      | _ => exact h.elim
    | _ => cases op <;> exact h.elim
  | ob c xs =>
    have q1 := peek_pure A r1 e1 (fun _ z => nomatch z)
    simp only [Tab.bin] at h
    split at h
    · rename_i m hop
      split at h
      · rename_i g hg
        split at h
        · rename_i i
          exact bin_ob sp gm hop hg (Or.inl ⟨i, rfl⟩) I A q1 (peek_pure A r2 e2 (fun _ z => nomatch z)) rx ry h
        · rename_i c' ys
          split at h
          · rename_i hc
            have hc' := beq_iff_eq.mp hc
            subst hc'
            exact bin_ob sp gm hop hg (Or.inr ⟨ys, rfl⟩) I A q1 (peek_pure A r2 e2 (fun _ z => nomatch z)) rx ry h
          · exact h.elim
        · exact h.elim
      · exact h.elim
    · exact h.elim
  | _ => exact h.elim
end
end RP
end

section
set_option Elab.async false
set_option linter.all false
set_option maxRecDepth 100000
set_option maxHeartbeats 2000000
/-! == and != of lists and tuples whose items may be anything: both answers. -/
namespace RP
open PySem PySem.SeqAt
open AutoSeq1 (wpAny_loadPart')
open MeetsSeq MeetsSeq2 MeetsSeq3 SeqRoads2
section
variable {prog : Program} {w : World} {A : Around} {E : Value → Shared → Prop} {R : Result → Shared → Prop}
/-- the two lists as they stand before turn i; the turn goes on to the next, or out -/
def Two (prog : Program) (w : World) (A : Around) (E : Value → Shared → Prop) (l b : Addr) (N : Nat) (I : Nat → Shared → Prop) (J : Shared → Prop) : Prop :=
  ∀ (i : Nat) (s : Shared), I i s → ∃ (xs ys : Array Value) (n m : Nat), s.heap.get? l = some { cls := .type "list", data := .seq xs n } ∧ s.heap.get? b = some { cls := .type "list", data := .seq ys m } ∧ xs.size = N ∧ ys.size = N ∧
    ∀ (h1 : i < xs.size) (h2 : i < ys.size), wpAny (model prog w) A.in1 (eqBool xs[i] ys[i]) (fun r s' => (r = true ∧ I (i + 1) s') ∨ (r = false ∧ J s')) E s
/-- .. and behind it they still stand -/
def Still (l b : Addr) (N : Nat) (J : Shared → Prop) : Prop :=
  ∀ s : Shared, J s → ∃ (xs ys : Array Value) (n m : Nat), s.heap.get? l = some { cls := .type "list", data := .seq xs n } ∧ s.heap.get? b = some { cls := .type "list", data := .seq ys m } ∧ xs.size = N ∧ ys.size = N
abbrev Ends' (prog : Program) (w : World) (A : Around) (R : Result → Shared → Prop) : Fin → Shared → Prop := GQ.FinOf prog w A R
theorem loop_eq (l b : Addr) (N : Nat) (I : Nat → Shared → Prop) (J : Shared → Prop) (hT : Two prog w A (fun e s' => R (.error e) s') l b N I J) (hJ : Still l b N J)
    (fin : ∀ s, I N s → R (.ok (.ret (.bool true))) s) (out : ∀ s, J s → R (.ok (.ret (.bool false))) s) (k : Nat) :
    ∀ i : Nat, N - i = k → i ≤ N → ∀ s, I i s → wpAny (model prog w) A.in1 (Builtin.«list.__eq__.loop» ⟨[.ref l, .ref b, rawInt i, rawInt 2], []⟩) (Ends' prog w A R) (fun e s' => R (.error e) s') s := by
  induction k with
  | zero =>
    intro i hk hi s hI
    obtain ⟨xs, ys, n, m, q1, q2, z1, z2, _⟩ := hT i s hI
    have ei : i = N := by omega
    have hR := fin s (ei ▸ hI)
    obtain ⟨hp, g, d, tk, os⟩ := s
    wp_walk using wpAny_loadPart' q1, wpAny_loadPart' q2
    have n1 : xs[((i : Nat) : Int).toNat]? = none := by simp; omega
    have n2 : ys[((i : Nat) : Int).toNat]? = none := by simp; omega
    rw [n1, n2]
    wp_walk using wpAny_loadPart' q1, wpAny_loadPart' q2
    show R (.ok (.ret (.bool (xs.size == ys.size)))) _
    rw [z1, z2]
    simpa using hR
  | succ k ih =>
    intro i hk hi s hI
    obtain ⟨xs, ys, n, m, q1, q2, z1, z2, turn⟩ := hT i s hI
    have l1 : i < xs.size := by omega
    have l2 : i < ys.size := by omega
    have ht := turn l1 l2
    obtain ⟨hp, g, d, tk, os⟩ := s
    wp_walk using wpAny_loadPart' q1, wpAny_loadPart' q2
    have g1 : xs[((i : Nat) : Int).toNat]? = some xs[i] := by simp [l1]
    have g2 : ys[((i : Nat) : Int).toNat]? = some ys[i] := by simp [l2]
    have hc : ((i : Int) + 1) = ((i + 1 : Nat) : Int) := by omega
    rw [g1, g2]
    refine wpAny_bind (wpAny_mono ht (fun r s2 h2 => ?_) fun _ _ x => x)
    rcases h2 with ⟨rfl, h2⟩ | ⟨rfl, h2⟩
    · have hrec := ih (i + 1) (by omega) (by omega) s2 h2
      obtain ⟨hp2, g2', d2, tk2, os2⟩ := s2
      wp_walk
      rw [hc]
      refine ⟨plainId_quiet plain_eq_loop _, codeAny_builtin entry_eq_loop ?_⟩
      rw [Around.under_plainId plain_eq_loop _]
      exact hrec
    · obtain ⟨xs', ys', n', m', p1, p2, y1, y2⟩ := hJ s2 h2
      have hR := out s2 h2
      obtain ⟨hp2, g2', d2, tk2, os2⟩ := s2
      wp_walk using wpAny_loadPart' p1, wpAny_loadPart' p2
      have g3 : xs'[((i : Nat) : Int).toNat]? = some xs'[i] := by simp
      have g4 : ys'[((i : Nat) : Int).toNat]? = some ys'[i] := by simp
      rw [g3, g4]
      wp_walk
      simpa using hR
theorem loop_ne (l b : Addr) (N : Nat) (I : Nat → Shared → Prop) (J : Shared → Prop) (hT : Two prog w A (fun e s' => R (.error e) s') l b N I J) (hJ : Still l b N J)
    (fin : ∀ s, I N s → R (.ok (.ret (.bool false))) s) (out : ∀ s, J s → R (.ok (.ret (.bool true))) s) (k : Nat) :
    ∀ i : Nat, N - i = k → i ≤ N → ∀ s, I i s → wpAny (model prog w) A.in1 (Builtin.«list.__eq__.loop» ⟨[.ref l, .ref b, rawInt i, rawInt 3], []⟩) (Ends' prog w A R) (fun e s' => R (.error e) s') s := by
  induction k with
  | zero =>
    intro i hk hi s hI
    obtain ⟨xs, ys, n, m, q1, q2, z1, z2, _⟩ := hT i s hI
    have ei : i = N := by omega
    have hR := fin s (ei ▸ hI)
    obtain ⟨hp, g, d, tk, os⟩ := s
    wp_walk using wpAny_loadPart' q1, wpAny_loadPart' q2
    have n1 : xs[((i : Nat) : Int).toNat]? = none := by simp; omega
    have n2 : ys[((i : Nat) : Int).toNat]? = none := by simp; omega
    rw [n1, n2]
    wp_walk using wpAny_loadPart' q1, wpAny_loadPart' q2
    show R (.ok (.ret (.bool (xs.size != ys.size)))) _
    rw [z1, z2]
    simpa using hR
  | succ k ih =>
    intro i hk hi s hI
    obtain ⟨xs, ys, n, m, q1, q2, z1, z2, turn⟩ := hT i s hI
    have l1 : i < xs.size := by omega
    have l2 : i < ys.size := by omega
    have ht := turn l1 l2
    obtain ⟨hp, g, d, tk, os⟩ := s
    wp_walk using wpAny_loadPart' q1, wpAny_loadPart' q2
    have g1 : xs[((i : Nat) : Int).toNat]? = some xs[i] := by simp [l1]
    have g2 : ys[((i : Nat) : Int).toNat]? = some ys[i] := by simp [l2]
    have hc : ((i : Int) + 1) = ((i + 1 : Nat) : Int) := by omega
    rw [g1, g2]
    refine wpAny_bind (wpAny_mono ht (fun r s2 h2 => ?_) fun _ _ x => x)
    rcases h2 with ⟨rfl, h2⟩ | ⟨rfl, h2⟩
    · have hrec := ih (i + 1) (by omega) (by omega) s2 h2
      obtain ⟨hp2, g2', d2, tk2, os2⟩ := s2
      wp_walk
      rw [hc]
      refine ⟨plainId_quiet plain_eq_loop _, codeAny_builtin entry_eq_loop ?_⟩
      rw [Around.under_plainId plain_eq_loop _]
      exact hrec
    · obtain ⟨xs', ys', n', m', p1, p2, y1, y2⟩ := hJ s2 h2
      have hR := out s2 h2
      obtain ⟨hp2, g2', d2, tk2, os2⟩ := s2
      wp_walk using wpAny_loadPart' p1, wpAny_loadPart' p2
      have g3 : xs'[((i : Nat) : Int).toNat]? = some xs'[i] := by simp
      have g4 : ys'[((i : Nat) : Int).toNat]? = some ys'[i] := by simp
      rw [g3, g4]
      wp_walk
      simpa using hR

theorem lists_eq (l b : Addr) (N : Nat) (I : Nat → Shared → Prop) (J : Shared → Prop) (hT : Two prog w A (fun e s' => R (.error e) s') l b N I J) (hJ : Still l b N J)
    (fin : ∀ s, I N s → R (.ok (.ret (.bool true))) s) (out : ∀ s, J s → R (.ok (.ret (.bool false))) s) {s : Shared} (h : I 0 s) :
    wpAny (model prog w) A.in1 (Builtin.«list.__eq__» ⟨[.ref l, .ref b], []⟩) (Ends' prog w A R) (fun e s' => R (.error e) s') s := by
  obtain ⟨xs, ys, n, m, q1, q2, z1, z2, _⟩ := hT _ _ h
  have hrec := loop_eq (A := A) (R := R) l b N I J hT hJ fin out _ 0 rfl (Nat.zero_le _) s h
  obtain ⟨hp, g, d, tk, os⟩ := s
  have f3 := AutoSeq1.sub_list_list
  have same : ¬ (xs.size != ys.size) = true := by simp [z1, z2]
  wp_walk using wpAny_loadPart' q1, wpAny_loadPart' q2
  refine ⟨plainId_quiet plain_eq_loop _, codeAny_builtin entry_eq_loop ?_⟩
  rw [Around.under_plainId plain_eq_loop _]
  exact hrec
/-- lists of unlike length -/
theorem lists_eq_len (l b : Addr) {s : Shared} {xs ys : Array Value} {n m : Nat} (q1 : s.heap.get? l = some { cls := .type "list", data := .seq xs n }) (q2 : s.heap.get? b = some { cls := .type "list", data := .seq ys m })
    (hne : xs.size ≠ ys.size) (out : R (.ok (.ret (.bool false))) s) :
    wpAny (model prog w) A.in1 (Builtin.«list.__eq__» ⟨[.ref l, .ref b], []⟩) (Ends' prog w A R) (fun e s' => R (.error e) s') s := by
  obtain ⟨hp, g, d, tk, os⟩ := s
  have f3 := AutoSeq1.sub_list_list
  have diff : (xs.size != ys.size) = true := by simpa using hne
  wp_walk using wpAny_loadPart' q1, wpAny_loadPart' q2
  exact out
theorem tups_eq (l b : Addr) (xs ys : Array Value) (n n2 : Nat) (dd dd2 : Option Addr) (sl sl2 : Array (Option Value)) (hsz : xs.size = ys.size) (I : Nat → Shared → Prop) (J : Shared → Prop)
    (turn : ∀ (i : Nat) (h1 : i < xs.size) (h2 : i < ys.size) (s : Shared), I i s → wpAny (model prog w) A.in1 (eqBool xs[i] ys[i]) (fun r s' => (r = true ∧ I (i + 1) s') ∨ (r = false ∧ J s')) (fun e s' => R (.error e) s') s)
    (fin : ∀ s, I xs.size s → R (.ok (.ret (.bool true))) s) (out : ∀ s, J s → R (.ok (.ret (.bool false))) s) {s : Shared} (q1 : s.heap.get? l = some { cls := .type "tuple", dict := dd, data := .seq xs n, slots := sl })
    (q2 : s.heap.get? b = some { cls := .type "tuple", dict := dd2, data := .seq ys n2, slots := sl2 }) (h : I 0 s) :
    wpAny (model prog w) A.in1 (Builtin.«tuple.__eq__» ⟨[.ref l, .ref b], []⟩) (Ends' prog w A R) (fun e s' => R (.error e) s') s := by
  have f2 := AutoSeq1.sub_tuple_tuple
  have hZ : (xs.toList.zip ys.toList).length = xs.size := by simp [hsz]
  have h0 := h
  obtain ⟨hp, g, d, tk, os⟩ := s
  wp_walk using wpAny_loadPart' q1, wpAny_loadPart' q2, wpAny_forIn_list _ (fun rest b s' => b.1 = none ∧ ∃ i, rest = (xs.toList.zip ys.toList).drop i ∧ i ≤ xs.size ∧ I i s') _
  case turn =>
    rintro ⟨y, x⟩ rest b s' ⟨hb', i, hz, hi, hI⟩
    · have hlt : i < (xs.toList.zip ys.toList).length := by
        rcases Nat.lt_or_ge i (xs.toList.zip ys.toList).length with h' | h'
        · exact h'
        · rw [List.drop_of_length_le h'] at hz
          cases hz
      have h1 : i < xs.size := hZ ▸ hlt
      have h2 : i < ys.size := hsz ▸ h1
      rw [List.drop_eq_getElem_cons hlt] at hz
      injection hz with hyx hrest
      have hy : y = xs[i] := by
        have e := congrArg Prod.fst hyx
        simpa using e
      have hx : x = ys[i] := by
        have e := congrArg Prod.snd hyx
        simpa using e
      subst hy hx
      refine wpAny_bind (wpAny_mono (turn i h1 h2 s' hI) (fun r s2 q => ?_) fun _ _ z => z)
      rcases q with ⟨rfl, q⟩ | ⟨rfl, q⟩
      · wp_walk
        exact ⟨rfl, i + 1, hrest, h1, q⟩
      · have hR := out _ q
        wp_walk
        exact hR
  case fin =>
    rintro ⟨b1, b2⟩ s' ⟨hb', i, hz, hi, hI⟩
    · simp only at hb'
      subst hb'
      have hge : xs.size ≤ i := by
        rcases Nat.lt_or_ge i (xs.toList.zip ys.toList).length with h' | h'
        · rw [List.drop_eq_getElem_cons h'] at hz
          cases hz
        · exact hZ ▸ h'
      have ei : i = xs.size := by omega
      have hR : R (.ok (.ret (.bool true))) s' := fin s' (ei ▸ hI)
      wp_walk
      simpa [Builtin.Tuple.tupleCompareSizes, hsz] using hR
  case h =>
    exact ⟨rfl, 0, rfl, Nat.zero_le _, h0⟩

theorem lists_ne (l b : Addr) (N : Nat) (I : Nat → Shared → Prop) (J : Shared → Prop) (hT : Two prog w A (fun e s' => R (.error e) s') l b N I J) (hJ : Still l b N J)
    (fin : ∀ s, I N s → R (.ok (.ret (.bool false))) s) (out : ∀ s, J s → R (.ok (.ret (.bool true))) s) {s : Shared} (h : I 0 s) :
    wpAny (model prog w) A.in1 (Builtin.«list.__ne__» ⟨[.ref l, .ref b], []⟩) (Ends' prog w A R) (fun e s' => R (.error e) s') s := by
  obtain ⟨xs, ys, n, m, q1, q2, z1, z2, _⟩ := hT _ _ h
  have hrec := loop_ne (A := A) (R := R) l b N I J hT hJ fin out _ 0 rfl (Nat.zero_le _) s h
  obtain ⟨hp, g, d, tk, os⟩ := s
  have f3 := AutoSeq1.sub_list_list
  have same : ¬ (xs.size != ys.size) = true := by simp [z1, z2]
  wp_walk using wpAny_loadPart' q1, wpAny_loadPart' q2
  refine ⟨plainId_quiet plain_eq_loop _, codeAny_builtin entry_eq_loop ?_⟩
  rw [Around.under_plainId plain_eq_loop _]
  exact hrec
/-- lists of unlike length -/
theorem lists_ne_len (l b : Addr) {s : Shared} {xs ys : Array Value} {n m : Nat} (q1 : s.heap.get? l = some { cls := .type "list", data := .seq xs n }) (q2 : s.heap.get? b = some { cls := .type "list", data := .seq ys m })
    (hne : xs.size ≠ ys.size) (out : R (.ok (.ret (.bool true))) s) :
    wpAny (model prog w) A.in1 (Builtin.«list.__ne__» ⟨[.ref l, .ref b], []⟩) (Ends' prog w A R) (fun e s' => R (.error e) s') s := by
  obtain ⟨hp, g, d, tk, os⟩ := s
  have f3 := AutoSeq1.sub_list_list
  have diff : (xs.size != ys.size) = true := by simpa using hne
  wp_walk using wpAny_loadPart' q1, wpAny_loadPart' q2
  exact out
theorem tups_ne (l b : Addr) (xs ys : Array Value) (n n2 : Nat) (dd dd2 : Option Addr) (sl sl2 : Array (Option Value)) (hsz : xs.size = ys.size) (I : Nat → Shared → Prop) (J : Shared → Prop)
    (turn : ∀ (i : Nat) (h1 : i < xs.size) (h2 : i < ys.size) (s : Shared), I i s → wpAny (model prog w) A.in1 (eqBool xs[i] ys[i]) (fun r s' => (r = true ∧ I (i + 1) s') ∨ (r = false ∧ J s')) (fun e s' => R (.error e) s') s)
    (fin : ∀ s, I xs.size s → R (.ok (.ret (.bool false))) s) (out : ∀ s, J s → R (.ok (.ret (.bool true))) s) {s : Shared} (q1 : s.heap.get? l = some { cls := .type "tuple", dict := dd, data := .seq xs n, slots := sl })
    (q2 : s.heap.get? b = some { cls := .type "tuple", dict := dd2, data := .seq ys n2, slots := sl2 }) (h : I 0 s) :
    wpAny (model prog w) A.in1 (Builtin.«tuple.__ne__» ⟨[.ref l, .ref b], []⟩) (Ends' prog w A R) (fun e s' => R (.error e) s') s := by
  have f2 := AutoSeq1.sub_tuple_tuple
  have hZ : (xs.toList.zip ys.toList).length = xs.size := by simp [hsz]
  have h0 := h
  obtain ⟨hp, g, d, tk, os⟩ := s
  wp_walk using wpAny_loadPart' q1, wpAny_loadPart' q2, wpAny_forIn_list _ (fun rest b s' => b.1 = none ∧ ∃ i, rest = (xs.toList.zip ys.toList).drop i ∧ i ≤ xs.size ∧ I i s') _
  case turn =>
    rintro ⟨y, x⟩ rest b s' ⟨hb', i, hz, hi, hI⟩
    · have hlt : i < (xs.toList.zip ys.toList).length := by
        rcases Nat.lt_or_ge i (xs.toList.zip ys.toList).length with h' | h'
        · exact h'
        · rw [List.drop_of_length_le h'] at hz
          cases hz
      have h1 : i < xs.size := hZ ▸ hlt
      have h2 : i < ys.size := hsz ▸ h1
      rw [List.drop_eq_getElem_cons hlt] at hz
      injection hz with hyx hrest
      have hy : y = xs[i] := by
        have e := congrArg Prod.fst hyx
        simpa using e
      have hx : x = ys[i] := by
        have e := congrArg Prod.snd hyx
        simpa using e
      subst hy hx
      refine wpAny_bind (wpAny_mono (turn i h1 h2 s' hI) (fun r s2 q => ?_) fun _ _ z => z)
      rcases q with ⟨rfl, q⟩ | ⟨rfl, q⟩
      · wp_walk
        exact ⟨rfl, i + 1, hrest, h1, q⟩
      · have hR := out _ q
        wp_walk
        exact hR
  case fin =>
    rintro ⟨b1, b2⟩ s' ⟨hb', i, hz, hi, hI⟩
    · simp only at hb'
      subst hb'
      have hge : xs.size ≤ i := by
        rcases Nat.lt_or_ge i (xs.toList.zip ys.toList).length with h' | h'
        · rw [List.drop_eq_getElem_cons h'] at hz
          cases hz
        · exact hZ ▸ h'
      have ei : i = xs.size := by omega
      have hR : R (.ok (.ret (.bool false))) s' := fin s' (ei ▸ hI)
      wp_walk
      simpa [Builtin.Tuple.tupleCompareSizes, hsz] using hR
  case h =>
    exact ⟨rfl, 0, rfl, Nat.zero_le _, h0⟩
end
end RP
end

section
set_option Elab.async false
set_option linter.all false
set_option maxRecDepth 100000
set_option maxHeartbeats 2000000
namespace RP
open PySem PySem.SeqAt
section
variable {prog : Program} {w : World} {A : Around} {E : Value → Shared → Prop} {s : Shared} {Q : Value → Shared → Prop}
theorem nn {b : Bool} : Value.bool b ≠ Value.notImplemented := fun z => nomatch z
theorem rcl_eq {l b : Addr} {N : Nat} (hu : A.units < cLine) (I : Nat → Shared → Prop) (J : Shared → Prop) (hT : Two prog w A E l b N I J) (hJ : Still l b N J)
    (fin : ∀ s, I N s → Q (.bool true) s) (out : ∀ s, J s → Q (.bool false) s) (h : I 0 s) : wpAny (model prog w) A (richCompare .Eq (.ref l) (.ref b)) Q E s := by
  obtain ⟨_, _, _, _, q1, q2, _⟩ := hT _ _ h
  refine wpAny_richCompare_same_room (op := .Eq) ⟨_, q1, rfl⟩ ⟨_, q2, rfl⟩ F.slot_list_eq (GQ.call_here F.slot_list_eq ⟨_, q1, rfl⟩ F.entry_list_eq (F.args_list_eq_2 _ _) ?_) hu
  exact lists_eq (R := wants (fun v s' => v ≠ .notImplemented ∧ Q v s') E) l b N I J hT hJ (fun s' q => ⟨nn, fin s' q⟩) (fun s' q => ⟨nn, out s' q⟩) h
theorem rcl_ne {l b : Addr} {N : Nat} (hu : A.units < cLine) (I : Nat → Shared → Prop) (J : Shared → Prop) (hT : Two prog w A E l b N I J) (hJ : Still l b N J)
    (fin : ∀ s, I N s → Q (.bool false) s) (out : ∀ s, J s → Q (.bool true) s) (h : I 0 s) : wpAny (model prog w) A (richCompare .NotEq (.ref l) (.ref b)) Q E s := by
  obtain ⟨_, _, _, _, q1, q2, _⟩ := hT _ _ h
  refine wpAny_richCompare_same_room (op := .NotEq) ⟨_, q1, rfl⟩ ⟨_, q2, rfl⟩ F.slot_list_ne (GQ.call_here F.slot_list_ne ⟨_, q1, rfl⟩ F.entry_list_ne (F.args_list_ne_2 _ _) ?_) hu
  exact lists_ne (R := wants (fun v s' => v ≠ .notImplemented ∧ Q v s') E) l b N I J hT hJ (fun s' q => ⟨nn, fin s' q⟩) (fun s' q => ⟨nn, out s' q⟩) h
theorem rcl_eq_len {l b : Addr} {xs ys : Array Value} {n m : Nat} (hu : A.units < cLine) (q1 : s.heap.get? l = some { cls := .type "list", data := .seq xs n }) (q2 : s.heap.get? b = some { cls := .type "list", data := .seq ys m })
    (hne : xs.size ≠ ys.size) (out : Q (.bool false) s) : wpAny (model prog w) A (richCompare .Eq (.ref l) (.ref b)) Q E s := by
  refine wpAny_richCompare_same_room (op := .Eq) ⟨_, q1, rfl⟩ ⟨_, q2, rfl⟩ F.slot_list_eq (GQ.call_here F.slot_list_eq ⟨_, q1, rfl⟩ F.entry_list_eq (F.args_list_eq_2 _ _) ?_) hu
  exact lists_eq_len (R := wants (fun v s' => v ≠ .notImplemented ∧ Q v s') E) l b q1 q2 hne ⟨nn, out⟩
theorem rcl_ne_len {l b : Addr} {xs ys : Array Value} {n m : Nat} (hu : A.units < cLine) (q1 : s.heap.get? l = some { cls := .type "list", data := .seq xs n }) (q2 : s.heap.get? b = some { cls := .type "list", data := .seq ys m })
    (hne : xs.size ≠ ys.size) (out : Q (.bool true) s) : wpAny (model prog w) A (richCompare .NotEq (.ref l) (.ref b)) Q E s := by
  refine wpAny_richCompare_same_room (op := .NotEq) ⟨_, q1, rfl⟩ ⟨_, q2, rfl⟩ F.slot_list_ne (GQ.call_here F.slot_list_ne ⟨_, q1, rfl⟩ F.entry_list_ne (F.args_list_ne_2 _ _) ?_) hu
  exact lists_ne_len (R := wants (fun v s' => v ≠ .notImplemented ∧ Q v s') E) l b q1 q2 hne ⟨nn, out⟩
theorem rct_eq {l b : Addr} {xs ys : Array Value} (hsz : xs.size = ys.size) (hu : A.units < cLine) (I : Nat → Shared → Prop) (J : Shared → Prop) (hl : s.heap.IsTuple l xs) (hb : s.heap.IsTuple b ys)
    (turn : ∀ (i : Nat) (h1 : i < xs.size) (h2 : i < ys.size) (s : Shared), I i s → wpAny (model prog w) A.in1 (eqBool xs[i] ys[i]) (fun r s' => (r = true ∧ I (i + 1) s') ∨ (r = false ∧ J s')) E s)
    (fin : ∀ s, I xs.size s → Q (.bool true) s) (out : ∀ s, J s → Q (.bool false) s) (h : I 0 s) : wpAny (model prog w) A (richCompare .Eq (.ref l) (.ref b)) Q E s := by
  obtain ⟨⟨c1, d1, t1, e1⟩, g1, k1, n1, m1⟩ := id hl
  obtain ⟨⟨c2, d2, t2, e2⟩, g2, k2, n2, m2⟩ := id hb
  dsimp only at k1 m1 k2 m2
  subst k1 m1 k2 m2
  refine wpAny_richCompare_same_room (op := .Eq) ⟨_, g1, rfl⟩ ⟨_, g2, rfl⟩ F.slot_tuple_eq (GQ.call_here F.slot_tuple_eq ⟨_, g1, rfl⟩ F.entry_tuple_eq (F.args_tuple_eq_2 _ _) ?_) hu
  exact tups_eq (R := wants (fun v s' => v ≠ .notImplemented ∧ Q v s') E) l b xs ys n1 n2 d1 d2 e1 e2 hsz I J turn (fun s' q => ⟨nn, fin s' q⟩) (fun s' q => ⟨nn, out s' q⟩) g1 g2 h
theorem rct_ne {l b : Addr} {xs ys : Array Value} (hsz : xs.size = ys.size) (hu : A.units < cLine) (I : Nat → Shared → Prop) (J : Shared → Prop) (hl : s.heap.IsTuple l xs) (hb : s.heap.IsTuple b ys)
    (turn : ∀ (i : Nat) (h1 : i < xs.size) (h2 : i < ys.size) (s : Shared), I i s → wpAny (model prog w) A.in1 (eqBool xs[i] ys[i]) (fun r s' => (r = true ∧ I (i + 1) s') ∨ (r = false ∧ J s')) E s)
    (fin : ∀ s, I xs.size s → Q (.bool false) s) (out : ∀ s, J s → Q (.bool true) s) (h : I 0 s) : wpAny (model prog w) A (richCompare .NotEq (.ref l) (.ref b)) Q E s := by
  obtain ⟨⟨c1, d1, t1, e1⟩, g1, k1, n1, m1⟩ := id hl
  obtain ⟨⟨c2, d2, t2, e2⟩, g2, k2, n2, m2⟩ := id hb
  dsimp only at k1 m1 k2 m2
  subst k1 m1 k2 m2
  refine wpAny_richCompare_same_room (op := .NotEq) ⟨_, g1, rfl⟩ ⟨_, g2, rfl⟩ F.slot_tuple_ne (GQ.call_here F.slot_tuple_ne ⟨_, g1, rfl⟩ F.entry_tuple_ne (F.args_tuple_ne_2 _ _) ?_) hu
  exact tups_ne (R := wants (fun v s' => v ≠ .notImplemented ∧ Q v s') E) l b xs ys n1 n2 d1 d2 e1 e2 hsz I J turn (fun s' q => ⟨nn, fin s' q⟩) (fun s' q => ⟨nn, out s' q⟩) g1 g2 h
end
end RP
end

section
set_option Elab.async false
set_option linter.all false
set_option maxRecDepth 100000
set_option maxHeartbeats 2000000
/-! != of an instance whose class has its own == and no own !=. -/
namespace RP
open PySem PySem.W
section
variable {prog : Program} {w : World} {A : Around} {E : Value → Shared → Prop} {s : Shared} {K : Frag} {x C L f : Addr} {h₀ : Heap} {m : Str → Option Value} {ox : Obj} {od : Option Obj} {b tb : Value}
theorem bound_blt {M : Model} {id : String} {name : Str} {args : List Value} {Q : Option Value → Shared → Prop} (X : K.In s.heap) (I : InstAt s.heap x ox C od) (hs : findIn K (.ref C) name = some (some (.builtin id)))
    (hb : ∀ self, bindSpecial (.builtin id) self = pure (.builtin id, [self])) (h : wpAny M A (call (.builtin id) (.ref x :: args)) (fun v => Q (some v)) E s) : wpAny M A (callSpecialIfBound? (.ref x) name args) Q E s := by
  simp only [callSpecialIfBound?, bindSpecialIfBound?]
  refine wpAny_holding (wpAny_bind (wpAny_bind (wpAny_bind (I.type.here ((looks_findIn X hs).here ?_)))))
  refine wpAny_bind (wpAny_askSetting (wpAny_ite ?_))
  have fin : wpAny M A (call (.builtin id) ([.ref x] ++ args) >>= fun v => pure (some v)) Q E s := wpAny_bind (wpAny_mono h (fun v s' q => wpAny_pure q) fun _ _ q => q)
  split
  · exact wpAny_bind ((Looks.of_pure (hb _)).here (wpAny_pure (by exact fin)))
  · exact wpAny_tryCatch (wpAny_bind ((Looks.of_pure (hb _)).here (wpAny_pure (by exact fin))))
theorem ne_bind (self : Value) : bindSpecial (.builtin "object.__ne__") self = pure (.builtin "object.__ne__", [self]) := F.cmp_object.ne.bind self
theorem own_ne {Q : Value → Shared → Prop} (hu : A.units + 1 < cLine) (Fh : PyProof.Rows.Fr h₀ L s.heap m) (X₀ : K.In h₀) (I : InstAt s.heap x ox C od) (hb : Looks (model prog w) s.heap (typeOf b) tb) (hn : notFirst K C tb = true)
    (hne : findIn K (.ref C) "__ne__" = some (some (.builtin "object.__ne__"))) (hob : mroIn K C (.type "object") = some true)
    (hs : findIn K (.ref C) "__eq__" = some (some (.ref f))) (hf : isFn K (.ref f) = true)
    (h : wpAny (model prog w) A.in1 (call (.ref f) [.ref x, b]) (fun v s' => ∃ r, v = .bool r ∧ Q (.bool (!r)) s') E s) : wpAny (model prog w) A (richCompare .NotEq (.ref x) b) Q E s := by
  have X := X₀.keeps Fh.keep
  have inst : Looks (model prog w) s.heap (isInstance (.ref x) (.type "object")) true := I.type.andThen (looks_mroIn X hob)
  have body : wpAny (model prog w) A.in1 (Builtin.«object.__ne__» ⟨[.ref x, b], []⟩) (fun fin s' => match fin with
      | .done f => wants (fun v s' => ∃ r, v = .bool r ∧ Q (.bool r) s') E (.ok f) s'
      | .again c' => c'.quiet = true ∧ codeAny (model prog w) A c' (wants (fun v s' => ∃ r, v = .bool r ∧ Q (.bool r) s') E) s') (fun e s' => wants (fun v s' => ∃ r, v = .bool r ∧ Q (.bool r) s') E (.error e) s') s := by
    unfold Builtin.«object.__ne__»
    obtain ⟨hh, g, d, tt, os⟩ := s
    repeat (first
      | with_reducible refine wpAny_cRoomFor hu ?_
      | (refine wpAny_bind (m := callSpecialIfBound? (.ref x) (Str.ofString "__eq__") [b])
          (ifBound_K X I hs hf (wpAny_mono h (fun r s' hr => ?_) fun _ _ e => e)))
      | wp_step)
    obtain ⟨r', rfl, hq⟩ := hr
    repeat (first | exact ⟨_, rfl, hq⟩ | exact wpAny_pure ⟨_, rfl, hq⟩ | (refine wpAny_bind (m := truthy (.bool _)) (wpAny_truthy_bool ?_)) | wp_step)
  have one : wpAny (model prog w) A (tryCompare (.ref x) (cmpInfo .NotEq).2.1 b) (fun r s' => ∃ v, r = some v ∧ Q v s') E s := by
    unfold tryCompare
    refine wpAny_bind (bound_blt X I hne ne_bind ?_)
    refine wpAny_mono (wpAny_call (codeAny_call_builtin F.cmp_object.ne.plain F.cmpEntry_ne (check_slot F.cmpKind_ne F.cmpSplit_ne inst (F.cmpArgs_ne _ _) body))) (fun v s' hv => ?_) fun _ _ e => e
    obtain ⟨r, rfl, q⟩ := hv
    exact wpAny_pure ⟨_, rfl, q⟩
  unfold richCompare
  simp only [oneThing_ref]
  refine wpAny_holding (wpAny_bind (wpAny_cRoomFor (Nat.lt_of_succ_lt hu) ?_))
  refine wpAny_bind (I.type.here (wpAny_bind (hb.here ?_)))
  split
  · rename_i q
    have e : subIn K tb (.ref C) = some false := by
      rcases Bool.or_eq_true_iff.mp hn with z | z
      · rw [beq_iff_eq.mp z] at q
        simp at q
      · exact beq_iff_eq.mp z
    refine wpAny_bind ((looks_subIn X e).here ?_)
    simp only [Bool.false_eq_true, if_false]
    refine wpAny_bind (wpAny_mono one (fun r s' z => ?_) fun _ _ e => e)
    obtain ⟨v, rfl, hq⟩ := z
    exact wpAny_pure hq
  · refine wpAny_bind (wpAny_pure ?_)
    simp only [Bool.false_eq_true, if_false]
    refine wpAny_bind (wpAny_mono one (fun r s' z => ?_) fun _ _ e => e)
    obtain ⟨v, rfl, hq⟩ := z
    exact wpAny_pure hq
end
end RP
end

section
set_option Elab.async false
set_option linter.all false
set_option maxRecDepth 100000
set_option maxHeartbeats 2000000
/-! == and != of flat data and of data of unlike kinds. -/
namespace RP
open PySem L2 PySem.SeqAt
section
variable {C : CC} {X : Cx} {pins : List (Addr × Obj)} {σ : L2.St} {G H : Hp} {s : Shared} {A : Around}
/-- all three: ==, != and the test inside lists -/
structure Cmp3 (A : Around) (s : Shared) (u v : Value) (b : Bool) : Prop where
  eq : RcAt A s u v b
  ne : RcNeAt A s u v (!b)
  at_ : EqAt A s u v b
theorem isL (I : Inv X pins σ H s) {a : Addr} {vs : List V} (h : H a = some (.lst vs)) : ∃ its : Array Value, s.heap.IsList a its := by
  obtain ⟨its, _, ⟨o, n, q1, q2, q3, q4⟩, _⟩ := I.list (SqL.of h)
  exact ⟨its.toArray, o, q1, q2, n, q4⟩
theorem isT (I : Inv X pins σ H s) {a : Addr} {vs : List V} (h : SqT X.K H a vs) : ∃ its : Array Value, s.heap.IsTuple a its := by
  obtain ⟨its, _, q, _⟩ := I.tuple h
  exact ⟨its.toArray, q⟩
theorem eq0_ok (hk : C.K = X.K) (e : Same G H) (I : Inv X pins σ H s) (hu : A.units < cLine) : ∀ (x y : P) {v1 v2 : V} {u1 u2 : Value} {b : Bool}, eq0 x y = some b → RepP C G x v1 → RepP C G y v2 → RelV v1 u1 → RelV v2 u2 → Cmp3 A s u1 u2 b
  | .non, .non, _, _, _, _, _, hb, h1, h2, r1, r2 => by
    cases hb
    simp only [RepP] at h1
    subst h1
    cases r1
    simp only [RepP] at h2
    subst h2
    cases r2
    exact ⟨fun prog w E Q h => RcAt.none_none prog w E Q h, RcNeAt.none_none, EqAt.same _⟩
  | .non, .bl y, _, _, _, _, _, hb, h1, h2, r1, r2 => by
    cases hb
    simp only [RepP] at h1
    subst h1
    cases r1
    simp only [RepP] at h2
    subst h2
    cases r2
    exact ⟨RcAt.none_bool y, RcNeAt.none_bool y, EqAt.none_bool y⟩
  | .non, .int y, _, _, _, _, _, hb, h1, h2, r1, r2 => by
    cases hb
    simp only [RepP] at h1
    subst h1
    cases r1
    simp only [RepP] at h2
    subst h2
    obtain ⟨t2, rfl⟩ := r2
    exact ⟨RcAt.none_int y t2, RcNeAt.none_int y t2, EqAt.none_int y t2⟩
  | .non, .str y, _, _, _, _, _, hb, h1, h2, r1, r2 => by
    cases hb
    simp only [RepP] at h1
    subst h1
    cases r1
    simp only [RepP] at h2
    subst h2
    obtain ⟨t2, rfl⟩ := r2
    exact ⟨RcAt.none_str y t2, RcNeAt.none_str y t2, EqAt.none_str y t2⟩
  | .non, .tup _, _, _, _, _, _, hb, h1, h2, r1, r2 => by
    cases hb
    simp only [RepP] at h1
    subst h1
    cases r1
    simp only [RepP] at h2
    obtain ⟨a2, w2, rfl, k2, _⟩ := h2
    cases r2
    rw [hk] at k2
    obtain ⟨i2, q2⟩ := isT I (sqT_mono e k2)
    exact ⟨RcAt.none_tuple q2 hu, RcNeAt.none_tuple q2 hu, EqAt.none_tuple q2 hu⟩
  | .non, .lst _, _, _, _, _, _, hb, h1, h2, r1, r2 => by
    cases hb
    simp only [RepP] at h1
    subst h1
    cases r1
    simp only [RepP] at h2
    obtain ⟨a2, w2, rfl, k2, _⟩ := h2
    cases r2
    obtain ⟨i2, q2⟩ := isL I (e _ _ k2)
    exact ⟨RcAt.none_list q2 hu, RcNeAt.none_list q2 hu, EqAt.none_list q2 hu⟩
  | .bl x, .non, _, _, _, _, _, hb, h1, h2, r1, r2 => by
    cases hb
    simp only [RepP] at h1
    subst h1
    cases r1
    simp only [RepP] at h2
    subst h2
    cases r2
    exact ⟨RcAt.bool_none x, RcNeAt.bool_none x, EqAt.bool_none x⟩
  | .bl x, .bl y, _, _, _, _, _, hb, h1, h2, r1, r2 => by
    cases hb
    simp only [RepP] at h1
    subst h1
    cases r1
    simp only [RepP] at h2
    subst h2
    cases r2
    exact ⟨RcAt.bool_bool x y, RcNeAt.bool_bool x y, EqAt.bool_bool x y⟩
  | .bl x, .int y, _, _, _, _, _, hb, h1, h2, r1, r2 => by
    cases hb
    simp only [RepP] at h1
    subst h1
    cases r1
    simp only [RepP] at h2
    subst h2
    obtain ⟨t2, rfl⟩ := r2
    exact ⟨RcAt.bool_int x y t2, RcNeAt.bool_int x y t2, EqAt.bool_int x y t2⟩
  | .bl x, .str y, _, _, _, _, _, hb, h1, h2, r1, r2 => by
    cases hb
    simp only [RepP] at h1
    subst h1
    cases r1
    simp only [RepP] at h2
    subst h2
    obtain ⟨t2, rfl⟩ := r2
    exact ⟨RcAt.bool_str x y t2, RcNeAt.bool_str x y t2, EqAt.bool_str x y t2⟩
  | .bl x, .tup _, _, _, _, _, _, hb, h1, h2, r1, r2 => by
    cases hb
    simp only [RepP] at h1
    subst h1
    cases r1
    simp only [RepP] at h2
    obtain ⟨a2, w2, rfl, k2, _⟩ := h2
    cases r2
    rw [hk] at k2
    obtain ⟨i2, q2⟩ := isT I (sqT_mono e k2)
    exact ⟨RcAt.bool_tuple x q2 hu, RcNeAt.bool_tuple x q2 hu, EqAt.bool_tuple x q2 hu⟩
  | .bl x, .lst _, _, _, _, _, _, hb, h1, h2, r1, r2 => by
    cases hb
    simp only [RepP] at h1
    subst h1
    cases r1
    simp only [RepP] at h2
    obtain ⟨a2, w2, rfl, k2, _⟩ := h2
    cases r2
    obtain ⟨i2, q2⟩ := isL I (e _ _ k2)
    exact ⟨RcAt.bool_list x q2 hu, RcNeAt.bool_list x q2 hu, EqAt.bool_list x q2 hu⟩
  | .int x, .non, _, _, _, _, _, hb, h1, h2, r1, r2 => by
    cases hb
    simp only [RepP] at h1
    subst h1
    obtain ⟨t1, rfl⟩ := r1
    simp only [RepP] at h2
    subst h2
    cases r2
    exact ⟨RcAt.int_none x t1, RcNeAt.int_none x t1, EqAt.int_none x t1⟩
  | .int x, .bl y, _, _, _, _, _, hb, h1, h2, r1, r2 => by
    cases hb
    simp only [RepP] at h1
    subst h1
    obtain ⟨t1, rfl⟩ := r1
    simp only [RepP] at h2
    subst h2
    cases r2
    exact ⟨RcAt.int_bool x t1 y, RcNeAt.int_bool x t1 y, EqAt.int_bool x t1 y⟩
  | .int x, .int y, _, _, _, _, _, hb, h1, h2, r1, r2 => by
    cases hb
    simp only [RepP] at h1
    subst h1
    obtain ⟨t1, rfl⟩ := r1
    simp only [RepP] at h2
    subst h2
    obtain ⟨t2, rfl⟩ := r2
    exact ⟨RcAt.int_int x t1 y t2, RcNeAt.int_int x t1 y t2, EqAt.int_int x t1 y t2⟩
  | .int x, .str y, _, _, _, _, _, hb, h1, h2, r1, r2 => by
    cases hb
    simp only [RepP] at h1
    subst h1
    obtain ⟨t1, rfl⟩ := r1
    simp only [RepP] at h2
    subst h2
    obtain ⟨t2, rfl⟩ := r2
    exact ⟨RcAt.int_str x t1 y t2, RcNeAt.int_str x t1 y t2, EqAt.int_str x t1 y t2⟩
  | .int x, .tup _, _, _, _, _, _, hb, h1, h2, r1, r2 => by
    cases hb
    simp only [RepP] at h1
    subst h1
    obtain ⟨t1, rfl⟩ := r1
    simp only [RepP] at h2
    obtain ⟨a2, w2, rfl, k2, _⟩ := h2
    cases r2
    rw [hk] at k2
    obtain ⟨i2, q2⟩ := isT I (sqT_mono e k2)
    exact ⟨RcAt.int_tuple x t1 q2 hu, RcNeAt.int_tuple x t1 q2 hu, EqAt.int_tuple x t1 q2 hu⟩
  | .int x, .lst _, _, _, _, _, _, hb, h1, h2, r1, r2 => by
    cases hb
    simp only [RepP] at h1
    subst h1
    obtain ⟨t1, rfl⟩ := r1
    simp only [RepP] at h2
    obtain ⟨a2, w2, rfl, k2, _⟩ := h2
    cases r2
    obtain ⟨i2, q2⟩ := isL I (e _ _ k2)
    exact ⟨RcAt.int_list x t1 q2 hu, RcNeAt.int_list x t1 q2 hu, EqAt.int_list x t1 q2 hu⟩
  | .str x, .non, _, _, _, _, _, hb, h1, h2, r1, r2 => by
    cases hb
    simp only [RepP] at h1
    subst h1
    obtain ⟨t1, rfl⟩ := r1
    simp only [RepP] at h2
    subst h2
    cases r2
    exact ⟨RcAt.str_none x t1, RcNeAt.str_none x t1, EqAt.str_none x t1⟩
  | .str x, .bl y, _, _, _, _, _, hb, h1, h2, r1, r2 => by
    cases hb
    simp only [RepP] at h1
    subst h1
    obtain ⟨t1, rfl⟩ := r1
    simp only [RepP] at h2
    subst h2
    cases r2
    exact ⟨RcAt.str_bool x t1 y, RcNeAt.str_bool x t1 y, EqAt.str_bool x t1 y⟩
  | .str x, .int y, _, _, _, _, _, hb, h1, h2, r1, r2 => by
    cases hb
    simp only [RepP] at h1
    subst h1
    obtain ⟨t1, rfl⟩ := r1
    simp only [RepP] at h2
    subst h2
    obtain ⟨t2, rfl⟩ := r2
    exact ⟨RcAt.str_int x t1 y t2, RcNeAt.str_int x t1 y t2, EqAt.str_int x t1 y t2⟩
  | .str x, .str y, _, _, _, _, _, hb, h1, h2, r1, r2 => by
    cases hb
    simp only [RepP] at h1
    subst h1
    obtain ⟨t1, rfl⟩ := r1
    simp only [RepP] at h2
    subst h2
    obtain ⟨t2, rfl⟩ := r2
    exact ⟨RcAt.str_str x t1 y t2, RcNeAt.str_str x t1 y t2, EqAt.str_str x t1 y t2⟩
  | .str x, .tup _, _, _, _, _, _, hb, h1, h2, r1, r2 => by
    cases hb
    simp only [RepP] at h1
    subst h1
    obtain ⟨t1, rfl⟩ := r1
    simp only [RepP] at h2
    obtain ⟨a2, w2, rfl, k2, _⟩ := h2
    cases r2
    rw [hk] at k2
    obtain ⟨i2, q2⟩ := isT I (sqT_mono e k2)
    exact ⟨RcAt.str_tuple x t1 q2 hu, RcNeAt.str_tuple x t1 q2 hu, EqAt.str_tuple x t1 q2 hu⟩
  | .str x, .lst _, _, _, _, _, _, hb, h1, h2, r1, r2 => by
    cases hb
    simp only [RepP] at h1
    subst h1
    obtain ⟨t1, rfl⟩ := r1
    simp only [RepP] at h2
    obtain ⟨a2, w2, rfl, k2, _⟩ := h2
    cases r2
    obtain ⟨i2, q2⟩ := isL I (e _ _ k2)
    exact ⟨RcAt.str_list x t1 q2 hu, RcNeAt.str_list x t1 q2 hu, EqAt.str_list x t1 q2 hu⟩
  | .tup _, .non, _, _, _, _, _, hb, h1, h2, r1, r2 => by
    cases hb
    simp only [RepP] at h1
    obtain ⟨a1, w1, rfl, k1, _⟩ := h1
    cases r1
    rw [hk] at k1
    obtain ⟨i1, q1⟩ := isT I (sqT_mono e k1)
    simp only [RepP] at h2
    subst h2
    cases r2
    exact ⟨RcAt.tuple_none q1 hu, RcNeAt.tuple_none q1 hu, EqAt.tuple_none q1 hu⟩
  | .tup _, .bl y, _, _, _, _, _, hb, h1, h2, r1, r2 => by
    cases hb
    simp only [RepP] at h1
    obtain ⟨a1, w1, rfl, k1, _⟩ := h1
    cases r1
    rw [hk] at k1
    obtain ⟨i1, q1⟩ := isT I (sqT_mono e k1)
    simp only [RepP] at h2
    subst h2
    cases r2
    exact ⟨RcAt.tuple_bool y q1 hu, RcNeAt.tuple_bool y q1 hu, EqAt.tuple_bool y q1 hu⟩
  | .tup _, .int y, _, _, _, _, _, hb, h1, h2, r1, r2 => by
    cases hb
    simp only [RepP] at h1
    obtain ⟨a1, w1, rfl, k1, _⟩ := h1
    cases r1
    rw [hk] at k1
    obtain ⟨i1, q1⟩ := isT I (sqT_mono e k1)
    simp only [RepP] at h2
    subst h2
    obtain ⟨t2, rfl⟩ := r2
    exact ⟨RcAt.tuple_int y t2 q1 hu, RcNeAt.tuple_int y t2 q1 hu, EqAt.tuple_int y t2 q1 hu⟩
  | .tup _, .str y, _, _, _, _, _, hb, h1, h2, r1, r2 => by
    cases hb
    simp only [RepP] at h1
    obtain ⟨a1, w1, rfl, k1, _⟩ := h1
    cases r1
    rw [hk] at k1
    obtain ⟨i1, q1⟩ := isT I (sqT_mono e k1)
    simp only [RepP] at h2
    subst h2
    obtain ⟨t2, rfl⟩ := r2
    exact ⟨RcAt.tuple_str y t2 q1 hu, RcNeAt.tuple_str y t2 q1 hu, EqAt.tuple_str y t2 q1 hu⟩
  | .tup _, .lst _, _, _, _, _, _, hb, h1, h2, r1, r2 => by
    cases hb
    simp only [RepP] at h1
    obtain ⟨a1, w1, rfl, k1, _⟩ := h1
    cases r1
    rw [hk] at k1
    obtain ⟨i1, q1⟩ := isT I (sqT_mono e k1)
    simp only [RepP] at h2
    obtain ⟨a2, w2, rfl, k2, _⟩ := h2
    cases r2
    obtain ⟨i2, q2⟩ := isL I (e _ _ k2)
    exact ⟨RcAt.tuple_list q1 q2 hu, RcNeAt.tuple_list q1 q2 hu, EqAt.tuple_list q1 q2 hu⟩
  | .lst _, .non, _, _, _, _, _, hb, h1, h2, r1, r2 => by
    cases hb
    simp only [RepP] at h1
    obtain ⟨a1, w1, rfl, k1, _⟩ := h1
    cases r1
    obtain ⟨i1, q1⟩ := isL I (e _ _ k1)
    simp only [RepP] at h2
    subst h2
    cases r2
    exact ⟨RcAt.list_none q1 hu, RcNeAt.list_none q1 hu, EqAt.list_none q1 hu⟩
  | .lst _, .bl y, _, _, _, _, _, hb, h1, h2, r1, r2 => by
    cases hb
    simp only [RepP] at h1
    obtain ⟨a1, w1, rfl, k1, _⟩ := h1
    cases r1
    obtain ⟨i1, q1⟩ := isL I (e _ _ k1)
    simp only [RepP] at h2
    subst h2
    cases r2
    exact ⟨RcAt.list_bool y q1 hu, RcNeAt.list_bool y q1 hu, EqAt.list_bool y q1 hu⟩
  | .lst _, .int y, _, _, _, _, _, hb, h1, h2, r1, r2 => by
    cases hb
    simp only [RepP] at h1
    obtain ⟨a1, w1, rfl, k1, _⟩ := h1
    cases r1
    obtain ⟨i1, q1⟩ := isL I (e _ _ k1)
    simp only [RepP] at h2
    subst h2
    obtain ⟨t2, rfl⟩ := r2
    exact ⟨RcAt.list_int y t2 q1 hu, RcNeAt.list_int y t2 q1 hu, EqAt.list_int y t2 q1 hu⟩
  | .lst _, .str y, _, _, _, _, _, hb, h1, h2, r1, r2 => by
    cases hb
    simp only [RepP] at h1
    obtain ⟨a1, w1, rfl, k1, _⟩ := h1
    cases r1
    obtain ⟨i1, q1⟩ := isL I (e _ _ k1)
    simp only [RepP] at h2
    subst h2
    obtain ⟨t2, rfl⟩ := r2
    exact ⟨RcAt.list_str y t2 q1 hu, RcNeAt.list_str y t2 q1 hu, EqAt.list_str y t2 q1 hu⟩
  | .lst _, .tup _, _, _, _, _, _, hb, h1, h2, r1, r2 => by
    cases hb
    simp only [RepP] at h1
    obtain ⟨a1, w1, rfl, k1, _⟩ := h1
    cases r1
    obtain ⟨i1, q1⟩ := isL I (e _ _ k1)
    simp only [RepP] at h2
    obtain ⟨a2, w2, rfl, k2, _⟩ := h2
    cases r2
    rw [hk] at k2
    obtain ⟨i2, q2⟩ := isT I (sqT_mono e k2)
    exact ⟨RcAt.list_tuple q1 q2 hu, RcNeAt.list_tuple q1 q2 hu, EqAt.list_tuple q1 q2 hu⟩
  | .ob _ _, y, _, _, _, _, _, hb, _, _, _, _ => by cases y <;> cases hb
  | .scr _, y, _, _, _, _, _, hb, _, _, _, _ => by cases y <;> cases hb
  | .dic _ _, y, _, _, _, _, _, hb, _, _, _, _ => by cases y <;> cases hb
  | .exn _ _, y, _, _, _, _, _, hb, _, _, _, _ => by cases y <;> cases hb
  | .non, .ob _ _, _, _, _, _, _, hb, _, _, _, _ => by cases hb
  | .bl _, .ob _ _, _, _, _, _, _, hb, _, _, _, _ => by cases hb
  | .int _, .ob _ _, _, _, _, _, _, hb, _, _, _, _ => by cases hb
  | .str _, .ob _ _, _, _, _, _, _, hb, _, _, _, _ => by cases hb
  | .tup _, .ob _ _, _, _, _, _, _, hb, _, _, _, _ => by cases hb
  | .lst _, .ob _ _, _, _, _, _, _, hb, _, _, _, _ => by cases hb
  | .non, .scr _, _, _, _, _, _, hb, _, _, _, _ => by cases hb
  | .bl _, .scr _, _, _, _, _, _, hb, _, _, _, _ => by cases hb
  | .int _, .scr _, _, _, _, _, _, hb, _, _, _, _ => by cases hb
  | .str _, .scr _, _, _, _, _, _, hb, _, _, _, _ => by cases hb
  | .tup _, .scr _, _, _, _, _, _, hb, _, _, _, _ => by cases hb
  | .lst _, .scr _, _, _, _, _, _, hb, _, _, _, _ => by cases hb
  | .non, .dic _ _, _, _, _, _, _, hb, _, _, _, _ => by cases hb
  | .non, .exn _ _, _, _, _, _, _, hb, _, _, _, _ => by cases hb
  | .bl _, .dic _ _, _, _, _, _, _, hb, _, _, _, _ => by cases hb
  | .bl _, .exn _ _, _, _, _, _, _, hb, _, _, _, _ => by cases hb
  | .int _, .dic _ _, _, _, _, _, _, hb, _, _, _, _ => by cases hb
  | .int _, .exn _ _, _, _, _, _, _, hb, _, _, _, _ => by cases hb
  | .str _, .dic _ _, _, _, _, _, _, hb, _, _, _, _ => by cases hb
  | .str _, .exn _ _, _, _, _, _, _, hb, _, _, _, _ => by cases hb
  | .tup _, .dic _ _, _, _, _, _, _, hb, _, _, _, _ => by cases hb
  | .tup _, .exn _ _, _, _, _, _, _, hb, _, _, _, _ => by cases hb
  | .lst _, .dic _ _, _, _, _, _, _, hb, _, _, _, _ => by cases hb
  | .lst _, .exn _ _, _, _, _, _, _, hb, _, _, _, _ => by cases hb
  | .tup _, .tup _, _, _, _, _, _, hb, _, _, _, _ => by cases hb
  | .lst _, .lst _, _, _, _, _, _, hb, _, _, _, _ => by cases hb
end
end RP
end

section
set_option Elab.async false
set_option linter.all false
set_option maxRecDepth 100000
set_option maxHeartbeats 2000000
/-! == and != of all data, by the own == of their classes. -/
namespace RP
open PySem L2
structure Grow (G H G' H' : Hp) : Prop where
  g : Same G G'
  h : Same G' H'
  f : Frz G H G' H'
theorem Grow.refl {G H : Hp} (e : Same G H) : Grow G H G H := ⟨Same.refl _, e, fun a o h n => ⟨h, n⟩⟩
theorem Grow.trans {G H G1 H1 G2 H2 : Hp} (a : Grow G H G1 H1) (b : Grow G1 H1 G2 H2) : Grow G H G2 H2 :=
  ⟨a.g.trans b.g, b.h, fun x o h n => by
    obtain ⟨h1, n1⟩ := a.f x o h n
    exact b.f x o h1 n1⟩
section
variable {C : CC} {W : WX} {X : Cx} {k : Nat} {Γ : Tab} {pins : List (Addr × Obj)} {σ : L2.St} {G H : Hp} {s : Shared}
def Out (X : Cx) (pins : List (Addr × Obj)) (σ : L2.St) (G H : Hp) (s' : Shared) : Prop := ∃ G' H', Inv X pins σ H' s' ∧ Grow G H G' H'
/-! ### a value stands for one datum alone -/
theorem obj_at (hk : C.K = X.K) (e : Same G H) (I : Inv X pins σ H s) : ∀ {x : P} {a : Addr}, RepP C G x (.ref a) → ∃ o, s.heap.get? a = some o ∧ o.cls = tyP C x
  | .non, _, h => by simp only [RepP] at h; cases h
  | .bl _, _, h => by simp only [RepP] at h; cases h
  | .int _, _, h => by simp only [RepP] at h; cases h
  | .str _, _, h => by simp only [RepP] at h; cases h
  | .tup xs, a, h => by
    simp only [RepP] at h
    obtain ⟨b, vs, hb, h1, _⟩ := h
    cases hb
    rw [hk] at h1
    obtain ⟨its, _, ⟨o, q1, q2, _⟩, _⟩ := I.tuple (sqT_mono e h1)
    exact ⟨o, q1, q2⟩
  | .lst xs, a, h => by
    simp only [RepP] at h
    obtain ⟨b, vs, hb, h1, _⟩ := h
    cases hb
    obtain ⟨its, _, ⟨o, n, q1, q2, _⟩, _⟩ := I.list (SqL.of (e _ _ h1))
    exact ⟨o, q1, q2⟩
  | .dic ks xs, a, h => by
    simp only [RepP] at h
    obtain ⟨b, vs, hb, h1, _⟩ := h
    cases hb
    obtain ⟨_, _, ws, _, ⟨ob, es, n, q1, q2, q3⟩⟩ := dk_of I.hok (e _ _ h1)
    exact ⟨ob, q1, q2.1⟩
  | .exn c xs, a, h => by
    simp only [RepP] at h
    obtain ⟨_, b, vs, hb, h1, _⟩ := h
    cases hb
    rcases h1 with ⟨_, h2⟩ | ⟨dx, f, v, _, _, h2, _⟩
    · obtain ⟨t, q⟩ := exo_at I.hok (e _ _ h2)
      exact ⟨_, q, rfl⟩
    · obtain ⟨t, q⟩ := exo_at I.hok (e _ _ h2)
      exact ⟨_, q, rfl⟩
  | .scr xs, a, h => by
    simp only [RepP] at h
    obtain ⟨b, hb, h1⟩ := h
    cases hb
    rw [hk] at h1
    obtain ⟨its, _, ⟨o, n, q1, q2, _⟩, _⟩ := I.list (e.seq h1.sq)
    exact ⟨o, q1, q2⟩
  | .ob c xs, a, h => by
    simp only [RepP] at h
    obtain ⟨hc, b, dx, vs, hb, h1, _⟩ := h
    cases hb
    obtain ⟨mA, O, _⟩ := ins_get (P := X.prog) (w := X.w) I.hok (e _ _ h1)
    exact ⟨_, O.obj, rfl⟩
theorem not_base (e : Same G H) (I : Inv X pins σ H s) {a : Addr} {o : HO} {ob : Obj} (h : G a = some o) (hk : X.K.lookup a = some ob) : False := by
  have z := (I.bs a ob (I.ok.mod.kin a ob hk)).2
  rw [e _ _ h] at z
  cases z
theorem ref_tup {xs : List P} {v : V} (h : RepP C G (.tup xs) v) : ∃ a, v = .ref a := by
  simp only [RepP] at h
  obtain ⟨a, _, z, _⟩ := h
  exact ⟨a, z⟩
theorem ref_lst {xs : List P} {v : V} (h : RepP C G (.lst xs) v) : ∃ a, v = .ref a := by
  simp only [RepP] at h
  obtain ⟨a, _, z, _⟩ := h
  exact ⟨a, z⟩
theorem ref_scr {xs : List Int} {v : V} (h : RepP C G (.scr xs) v) : ∃ a, v = .ref a := by
  simp only [RepP] at h
  obtain ⟨a, z, _⟩ := h
  exact ⟨a, z⟩
theorem ref_dic {ks : List Str} {xs : List P} {v : V} (h : RepP C G (.dic ks xs) v) : ∃ a, v = .ref a := by
  simp only [RepP] at h
  obtain ⟨a, _, z, _⟩ := h
  exact ⟨a, z⟩
theorem ref_exn {c : Nat} {xs : List P} {v : V} (h : RepP C G (.exn c xs) v) : ∃ a, v = .ref a := by
  simp only [RepP] at h
  obtain ⟨_, a, _, z, _⟩ := h
  exact ⟨a, z⟩
theorem ref_ob {c : Nat} {xs : List P} {v : V} (h : RepP C G (.ob c xs) v) : ∃ a, v = .ref a := by
  simp only [RepP] at h
  obtain ⟨_, a, _, _, z, _⟩ := h
  exact ⟨a, z⟩
theorem zip_two : ∀ (l m : List Str) (p q : List V), l.length = p.length → m.length = q.length → (l.map (Sum.inr : Str → Key)).zip p = (m.map Sum.inr).zip q → l = m ∧ p = q
  | [], [], [], [], _, _, _ => ⟨rfl, rfl⟩
  | [], m, _ :: _, q, h, _, _ => by cases h
  | _ :: _, m, [], q, h, _, _ => by cases h
  | l, [], p, _ :: _, _, h, _ => by cases h
  | l, _ :: _, p, [], _, h, _ => by cases h
  | [], _ :: _, [], _ :: _, _, _, h => by simp at h
  | _ :: _, [], _ :: _, [], _, _, h => by simp at h
  | a :: l, b :: m, x :: p, y :: q, h1, h2, h => by
    simp only [List.map_cons, List.zip_cons_cons, List.cons.injEq, Prod.mk.injEq, Sum.inr.injEq] at h
    obtain ⟨⟨e1, e2⟩, h⟩ := h
    obtain ⟨e3, e4⟩ := zip_two l m p q (by simpa using h1) (by simpa using h2) h
    exact ⟨by rw [e1, e3], by rw [e2, e4]⟩
mutual
theorem rep_inj (cf : ClsFs C) (hk : C.K = X.K) (e : Same G H) (I : Inv X pins σ H s) : ∀ (x y : P) (v : V), RepP C G x v → RepP C G y v → x = y
  | .non, y, v, h1, h2 => by
    simp only [RepP] at h1
    subst h1
    cases y with
    | non =>
      simp only [RepP] at h2
      first | rfl | (cases h2; rfl) | cases h2
    | bl d =>
      simp only [RepP] at h2
      first | rfl | (cases h2; rfl) | cases h2
    | int d =>
      simp only [RepP] at h2
      first | rfl | (cases h2; rfl) | cases h2
    | str d =>
      simp only [RepP] at h2
      first | rfl | (cases h2; rfl) | cases h2
    | tup ys =>
      obtain ⟨a, z⟩ := ref_tup h2
      cases z
    | lst ys =>
      obtain ⟨a, z⟩ := ref_lst h2
      cases z
    | scr ys =>
      obtain ⟨a, z⟩ := ref_scr h2
      cases z
    | dic ks ys =>
      obtain ⟨a, z⟩ := ref_dic h2
      cases z
    | exn c ys =>
      obtain ⟨a, z⟩ := ref_exn h2
      cases z
    | ob c ys =>
      obtain ⟨a, z⟩ := ref_ob h2
      cases z
  | .bl b, y, v, h1, h2 => by
    simp only [RepP] at h1
    subst h1
    cases y with
    | non =>
      simp only [RepP] at h2
      first | rfl | (cases h2; rfl) | cases h2
    | bl d =>
      simp only [RepP] at h2
      first | rfl | (cases h2; rfl) | cases h2
    | int d =>
      simp only [RepP] at h2
      first | rfl | (cases h2; rfl) | cases h2
    | str d =>
      simp only [RepP] at h2
      first | rfl | (cases h2; rfl) | cases h2
    | tup ys =>
      obtain ⟨a, z⟩ := ref_tup h2
      cases z
    | lst ys =>
      obtain ⟨a, z⟩ := ref_lst h2
      cases z
    | scr ys =>
      obtain ⟨a, z⟩ := ref_scr h2
      cases z
    | dic ks ys =>
      obtain ⟨a, z⟩ := ref_dic h2
      cases z
    | exn c ys =>
      obtain ⟨a, z⟩ := ref_exn h2
      cases z
    | ob c ys =>
      obtain ⟨a, z⟩ := ref_ob h2
      cases z
  | .int b, y, v, h1, h2 => by
    simp only [RepP] at h1
    subst h1
    cases y with
    | non =>
      simp only [RepP] at h2
      first | rfl | (cases h2; rfl) | cases h2
    | bl d =>
      simp only [RepP] at h2
      first | rfl | (cases h2; rfl) | cases h2
    | int d =>
      simp only [RepP] at h2
      first | rfl | (cases h2; rfl) | cases h2
    | str d =>
      simp only [RepP] at h2
      first | rfl | (cases h2; rfl) | cases h2
    | tup ys =>
      obtain ⟨a, z⟩ := ref_tup h2
      cases z
    | lst ys =>
      obtain ⟨a, z⟩ := ref_lst h2
      cases z
    | scr ys =>
      obtain ⟨a, z⟩ := ref_scr h2
      cases z
    | dic ks ys =>
      obtain ⟨a, z⟩ := ref_dic h2
      cases z
    | exn c ys =>
      obtain ⟨a, z⟩ := ref_exn h2
      cases z
    | ob c ys =>
      obtain ⟨a, z⟩ := ref_ob h2
      cases z
  | .str b, y, v, h1, h2 => by
    simp only [RepP] at h1
    subst h1
    cases y with
    | non =>
      simp only [RepP] at h2
      first | rfl | (cases h2; rfl) | cases h2
    | bl d =>
      simp only [RepP] at h2
      first | rfl | (cases h2; rfl) | cases h2
    | int d =>
      simp only [RepP] at h2
      first | rfl | (cases h2; rfl) | cases h2
    | str d =>
      simp only [RepP] at h2
      first | rfl | (cases h2; rfl) | cases h2
    | tup ys =>
      obtain ⟨a, z⟩ := ref_tup h2
      cases z
    | lst ys =>
      obtain ⟨a, z⟩ := ref_lst h2
      cases z
    | scr ys =>
      obtain ⟨a, z⟩ := ref_scr h2
      cases z
    | dic ks ys =>
      obtain ⟨a, z⟩ := ref_dic h2
      cases z
    | exn c ys =>
      obtain ⟨a, z⟩ := ref_exn h2
      cases z
    | ob c ys =>
      obtain ⟨a, z⟩ := ref_ob h2
      cases z
  | .tup xs, y, v, h1, h2 => by
    have g1 := h1
    simp only [RepP] at h1
    obtain ⟨a, vs, rfl, s1, r1⟩ := h1
    obtain ⟨o, q1, q2⟩ := obj_at hk e I g1
    cases y with
    | tup ys =>
      simp only [RepP] at h2
      obtain ⟨b, ws, hb, s2, r2⟩ := h2
      cases hb
      rw [hk] at s1 s2
      have ew := I.tuple_inj (sqT_mono e s1) (sqT_mono e s2)
      subst ew
      rw [reps_inj cf hk e I xs ys vs r1 r2]
    | lst ys =>
      obtain ⟨o', p1, p2⟩ := obj_at hk e I h2
      rw [q1] at p1
      cases p1
      rw [q2] at p2
      exact absurd p2 (by simp [tyP])
    | scr ys =>
      obtain ⟨o', p1, p2⟩ := obj_at hk e I h2
      rw [q1] at p1
      cases p1
      rw [q2] at p2
      exact absurd p2 (by simp [tyP])
    | ob c ys =>
      obtain ⟨o', p1, p2⟩ := obj_at hk e I h2
      rw [q1] at p1
      cases p1
      rw [q2] at p2
      cases p2
    | dic ks ys =>
      obtain ⟨o', p1, p2⟩ := obj_at hk e I h2
      rw [q1] at p1
      cases p1
      rw [q2] at p2
      first | cases p2 | exact absurd p2 (by simp [tyP])
    | exn c' ys =>
      obtain ⟨o', p1, p2⟩ := obj_at hk e I h2
      rw [q1] at p1
      cases p1
      rw [q2] at p2
      first | cases p2 | exact absurd p2 (by simp [tyP])
    | _ =>
      simp only [RepP] at h2
      cases h2
  | .lst xs, y, v, h1, h2 => by
    have g1 := h1
    simp only [RepP] at h1
    obtain ⟨a, vs, rfl, s1, r1⟩ := h1
    obtain ⟨o, q1, q2⟩ := obj_at hk e I g1
    cases y with
    | lst ys =>
      simp only [RepP] at h2
      obtain ⟨b, ws, hb, s2, r2⟩ := h2
      cases hb
      rw [s1] at s2
      cases s2
      rw [reps_inj cf hk e I xs ys vs r1 r2]
    | tup ys =>
      obtain ⟨o', p1, p2⟩ := obj_at hk e I h2
      rw [q1] at p1
      cases p1
      rw [q2] at p2
      exact absurd p2 (by simp [tyP])
    | scr ys =>
      simp only [RepP] at h2
      obtain ⟨b, hb, s2⟩ := h2
      cases hb
      rcases s2 with ⟨o, s2⟩ | ⟨o, _, _, s2, _⟩
      · rw [s1] at s2
        cases s2
      · rw [hk] at s2
        exact (not_base e I s1 s2).elim
    | ob c ys =>
      obtain ⟨o', p1, p2⟩ := obj_at hk e I h2
      rw [q1] at p1
      cases p1
      rw [q2] at p2
      cases p2
    | dic ks ys =>
      obtain ⟨o', p1, p2⟩ := obj_at hk e I h2
      rw [q1] at p1
      cases p1
      rw [q2] at p2
      first | cases p2 | exact absurd p2 (by simp [tyP])
    | exn c' ys =>
      obtain ⟨o', p1, p2⟩ := obj_at hk e I h2
      rw [q1] at p1
      cases p1
      rw [q2] at p2
      first | cases p2 | exact absurd p2 (by simp [tyP])
    | _ =>
      simp only [RepP] at h2
      cases h2
  | .scr xs, y, v, h1, h2 => by
    have g1 := h1
    simp only [RepP] at h1
    obtain ⟨a, rfl, s1⟩ := h1
    obtain ⟨o, q1, q2⟩ := obj_at hk e I g1
    cases y with
    | lst ys =>
      simp only [RepP] at h2
      obtain ⟨b, ws, hb, s2, r2⟩ := h2
      cases hb
      rcases s1 with ⟨o, s1⟩ | ⟨o, _, _, s1, _⟩
      · rw [s1] at s2
        cases s2
      · rw [hk] at s1
        exact (not_base e I s2 s1).elim
    | tup ys =>
      obtain ⟨o', p1, p2⟩ := obj_at hk e I h2
      rw [q1] at p1
      cases p1
      rw [q2] at p2
      exact absurd p2 (by simp [tyP])
    | scr ys =>
      simp only [RepP] at h2
      obtain ⟨b, hb, s2⟩ := h2
      cases hb
      rw [hk] at s1 s2
      have ew := I.list_inj (e.seq s1.sq) (e.seq s2.sq)
      have inj : ∀ (l m : List Int), l.map V.int = m.map V.int → l = m := by
        intro l
        induction l with
        | nil =>
          intro m hm
          cases m with
          | nil => rfl
          | cons _ _ => cases hm
        | cons i l ih =>
          intro m hm
          cases m with
          | nil => cases hm
          | cons j m =>
            simp only [List.map_cons, List.cons.injEq, V.int.injEq] at hm
            rw [hm.1, ih m hm.2]
      rw [inj xs ys ew]
    | ob c ys =>
      obtain ⟨o', p1, p2⟩ := obj_at hk e I h2
      rw [q1] at p1
      cases p1
      rw [q2] at p2
      cases p2
    | dic ks ys =>
      obtain ⟨o', p1, p2⟩ := obj_at hk e I h2
      rw [q1] at p1
      cases p1
      rw [q2] at p2
      first | cases p2 | exact absurd p2 (by simp [tyP])
    | exn c' ys =>
      obtain ⟨o', p1, p2⟩ := obj_at hk e I h2
      rw [q1] at p1
      cases p1
      rw [q2] at p2
      first | cases p2 | exact absurd p2 (by simp [tyP])
    | _ =>
      simp only [RepP] at h2
      cases h2
  | .ob c xs, y, v, h1, h2 => by
    have g1 := h1
    simp only [RepP] at h1
    obtain ⟨hc, a, dx, vs, rfl, s1, l1, r1⟩ := h1
    obtain ⟨o, q1, q2⟩ := obj_at hk e I g1
    cases y with
    | ob c' ys =>
      simp only [RepP] at h2
      obtain ⟨hc', b, dy, ws, hb, s2, l2, r2⟩ := h2
      cases hb
      rw [s1] at s2
      have ec : C.CA c = C.CA c' := by
        have z := Option.some.inj s2
        injection z
      have ecc : c = c' := by
        rcases Nat.decEq c c' with z | z
        · exact absurd ec (cf.two c c' hc hc' z).2
        · exact z
      subst ecc
      have ez : ((C.FT c).map C.NM).zip vs = ((C.FT c).map C.NM).zip ws := by
        have z := Option.some.inj s2
        injection z
      have zi : ∀ (l : List Str) (p q : List V), l.length = p.length → l.length = q.length → l.zip p = l.zip q → p = q := by
        intro l
        induction l with
        | nil =>
          intro p q hp hq _
          cases p with
          | nil => cases q with
            | nil => rfl
            | cons _ _ => cases hq
          | cons _ _ => cases hp
        | cons i l ih =>
          intro p q hp hq hz
          cases p with
          | nil => cases hp
          | cons p0 p => cases q with
            | nil => cases hq
            | cons q0 q =>
              simp only [List.zip_cons_cons, List.cons.injEq, Prod.mk.injEq] at hz
              rw [hz.1.2, ih p q (by simpa using hp) (by simpa using hq) hz.2]
      have ew := zi _ vs ws (by rw [List.length_map]; exact l1) (by rw [List.length_map]; exact l2) ez
      subst ew
      rw [reps_inj cf hk e I xs ys vs r1 r2]
    | tup ys =>
      obtain ⟨o', p1, p2⟩ := obj_at hk e I h2
      rw [q1] at p1
      cases p1
      rw [q2] at p2
      cases p2
    | lst ys =>
      obtain ⟨o', p1, p2⟩ := obj_at hk e I h2
      rw [q1] at p1
      cases p1
      rw [q2] at p2
      cases p2
    | scr ys =>
      obtain ⟨o', p1, p2⟩ := obj_at hk e I h2
      rw [q1] at p1
      cases p1
      rw [q2] at p2
      cases p2
    | dic ks ys =>
      obtain ⟨o', p1, p2⟩ := obj_at hk e I h2
      rw [q1] at p1
      cases p1
      rw [q2] at p2
      first | cases p2 | exact absurd p2 (by simp [tyP])
    | exn c' ys =>
      simp only [RepP] at h2
      obtain ⟨t, b, ws, hb, s2, r2⟩ := h2
      cases hb
      rcases s2 with ⟨_, s2⟩ | ⟨dz, f, v', _, _, s2, _⟩
      · exact absurd (Option.some.inj (s1.symm.trans s2)) (by unfold exo; intro z; cases z)
      · exact absurd (Option.some.inj (s1.symm.trans s2)) (by unfold exo; intro z; cases z)
    | _ =>
      simp only [RepP] at h2
      cases h2
  | .dic ks xs, y, v, h1, h2 => by
    have g1 := h1
    simp only [RepP] at h1
    obtain ⟨a, vs, rfl, s1, l1, r1⟩ := h1
    obtain ⟨o, q1, q2⟩ := obj_at hk e I g1
    cases y with
    | dic kt ys =>
      simp only [RepP] at h2
      obtain ⟨b, ws, hb, s2, l2, r2⟩ := h2
      cases hb
      rw [s1] at s2
      have ez : (ks.map (Sum.inr : Str → Key)).zip vs = (kt.map Sum.inr).zip ws := by
        have z := Option.some.inj s2
        injection z
      obtain ⟨rfl, rfl⟩ := zip_two ks kt vs ws l1 l2 ez
      rw [reps_inj cf hk e I xs ys vs r1 r2]
    | tup ys =>
      obtain ⟨o', p1, p2⟩ := obj_at hk e I h2
      rw [q1] at p1
      cases p1
      rw [q2] at p2
      first | cases p2 | exact absurd p2 (by simp [tyP])
    | lst ys =>
      obtain ⟨o', p1, p2⟩ := obj_at hk e I h2
      rw [q1] at p1
      cases p1
      rw [q2] at p2
      first | cases p2 | exact absurd p2 (by simp [tyP])
    | scr ys =>
      obtain ⟨o', p1, p2⟩ := obj_at hk e I h2
      rw [q1] at p1
      cases p1
      rw [q2] at p2
      first | cases p2 | exact absurd p2 (by simp [tyP])
    | ob c ys =>
      obtain ⟨o', p1, p2⟩ := obj_at hk e I h2
      rw [q1] at p1
      cases p1
      rw [q2] at p2
      first | cases p2 | exact absurd p2 (by simp [tyP])
    | exn c' ys =>
      obtain ⟨o', p1, p2⟩ := obj_at hk e I h2
      rw [q1] at p1
      cases p1
      rw [q2] at p2
      first | cases p2 | exact absurd p2 (by simp [tyP])
    | _ =>
      simp only [RepP] at h2
      cases h2
  | .exn c xs, y, v, h1, h2 => by
    have g1 := h1
    simp only [RepP] at h1
    obtain ⟨t, a, vs, rfl, s1, r1⟩ := h1
    obtain ⟨o, q1, q2⟩ := obj_at hk e I g1
    have ob1 : ∃ d, G a = some (exo a (C.CA c) d) := by
      rcases s1 with ⟨_, s1⟩ | ⟨dz, f, v', _, _, s1, _⟩
      · exact ⟨_, s1⟩
      · exact ⟨_, s1⟩
    obtain ⟨d1, ob1⟩ := ob1
    cases y with
    | exn c' ys =>
      obtain ⟨o', p1, p2⟩ := obj_at hk e I h2
      rw [q1] at p1
      cases p1
      rw [q2] at p2
      have ec : c' = c := t.uq c' (Value.ref.inj p2).symm
      subst ec
      simp only [RepP] at h2
      obtain ⟨_, b, ws, hb, s2, r2⟩ := h2
      cases hb
      have two : ∀ {d e' : Option Addr}, G a = some (exo a (C.CA c') d) → G a = some (exo a (C.CA c') e') → d = e' := fun {d e'} z1 z2 => by
        obtain ⟨_, k1⟩ := exo_at I.hok (e _ _ z1)
        obtain ⟨_, k2⟩ := exo_at I.hok (e _ _ z2)
        rw [k1] at k2
        injection (Option.some.inj k2)
      have ev : vs = ws := by
        rcases s1 with ⟨n1, s1⟩ | ⟨dz, f, v1, n1, f1, s1, x1⟩
        · rcases s2 with ⟨n2, s2⟩ | ⟨dy, g, v2, n2, f2, s2, x2⟩
          · rw [n1, n2]
          · cases two s1 s2
        · rcases s2 with ⟨n2, s2⟩ | ⟨dy, g, v2, n2, f2, s2, x2⟩
          · cases two s1 s2
          · cases two s1 s2
            rw [x1] at x2
            have z := Option.some.inj x2
            injection z with z
            simp only [List.cons.injEq, Prod.mk.injEq, and_true] at z
            rw [n1, n2, z.2]
      subst ev
      rw [reps_inj cf hk e I xs ys vs r1 r2]
    | ob c' ys =>
      simp only [RepP] at h2
      obtain ⟨_, b, _, ws, hb, s2, _⟩ := h2
      cases hb
      exact absurd (Option.some.inj (s2.symm.trans ob1)) (by unfold exo; intro z; cases z)
    | tup ys =>
      obtain ⟨o', p1, p2⟩ := obj_at hk e I h2
      rw [q1] at p1
      cases p1
      rw [q2] at p2
      cases p2
    | lst ys =>
      obtain ⟨o', p1, p2⟩ := obj_at hk e I h2
      rw [q1] at p1
      cases p1
      rw [q2] at p2
      cases p2
    | scr ys =>
      obtain ⟨o', p1, p2⟩ := obj_at hk e I h2
      rw [q1] at p1
      cases p1
      rw [q2] at p2
      cases p2
    | dic ks ys =>
      obtain ⟨o', p1, p2⟩ := obj_at hk e I h2
      rw [q1] at p1
      cases p1
      rw [q2] at p2
      cases p2
    | _ =>
      simp only [RepP] at h2
      cases h2
theorem reps_inj (cf : ClsFs C) (hk : C.K = X.K) (e : Same G H) (I : Inv X pins σ H s) : ∀ (xs ys : List P) (vs : List V), RepPs C G xs vs → RepPs C G ys vs → xs = ys
  | [], ys, vs, h1, h2 => by
    simp only [RepPs] at h1
    subst h1
    cases ys with
    | nil => rfl
    | cons y ys =>
      simp only [RepPs] at h2
      obtain ⟨_, _, z, _⟩ := h2
      cases z
  | x :: xs, ys, vs, h1, h2 => by
    simp only [RepPs] at h1
    obtain ⟨v, ws, rfl, r1, rs1⟩ := h1
    cases ys with
    | nil =>
      simp only [RepPs] at h2
      cases h2
    | cons y ys =>
      simp only [RepPs] at h2
      obtain ⟨v', ws', z, r2, rs2⟩ := h2
      cases z
      rw [rep_inj cf hk e I x y v r1 r2, reps_inj cf hk e I xs ys ws rs1 rs2]
end
/-! ### == -/
theorem out_trans {G1 H1 : Hp} {s' : Shared} (g : Grow G H G1 H1) (h : Out X pins σ G1 H1 s') : Out X pins σ G H s' := by
  obtain ⟨G2, H2, I2, g2⟩ := h
  exact ⟨G2, H2, I2, g.trans g2⟩
/-- the three tests of two values -/
structure Tst (X : Cx) (pins : List (Addr × Obj)) (σ : L2.St) (G H : Hp) (A : Around) (s : Shared) (u v : Value) (b : Bool) : Prop where
  eq : wpAny (model X.prog X.w) A (richCompare .Eq u v) (fun r s' => r = .bool b ∧ Out X pins σ G H s') X.xe s
  ne : wpAny (model X.prog X.w) A (richCompare .NotEq u v) (fun r s' => r = .bool (!b) ∧ Out X pins σ G H s') X.xe s
  at_ : wpAny (model X.prog X.w) A (eqBool u v) (fun r s' => r = b ∧ Out X pins σ G H s') X.xe s
theorem Cmp3.tst {A : Around} {u v : Value} {b : Bool} (I : Inv X pins σ H s) (e : Same G H) (h : Cmp3 A s u v b) : Tst X pins σ G H A s u v b :=
  ⟨h.eq X.prog X.w X.xe _ ⟨rfl, G, H, I, Grow.refl e⟩, h.ne X.prog X.w X.xe _ ⟨rfl, G, H, I, Grow.refl e⟩, h.at_ X.prog X.w X.xe _ ⟨rfl, G, H, I, Grow.refl e⟩⟩
/-- two references: the same, or by the rich comparison -/
theorem tst_ref {A : Around} {a c : Addr} {b : Bool} (I : Inv X pins σ H s) (e : Same G H) (hs : a = c → b = true)
    (h1 : wpAny (model X.prog X.w) A (richCompare .Eq (.ref a) (.ref c)) (fun r s' => r = .bool b ∧ Out X pins σ G H s') X.xe s)
    (h2 : wpAny (model X.prog X.w) A (richCompare .NotEq (.ref a) (.ref c)) (fun r s' => r = .bool (!b) ∧ Out X pins σ G H s') X.xe s) : Tst X pins σ G H A s (.ref a) (.ref c) b := by
  refine ⟨h1, h2, ?_⟩
  by_cases hac : a = c
  · subst hac
    rw [hs rfl]
    exact SeqAt.EqAt.same (A := A) (s := s) (.ref a) X.prog X.w X.xe _ ⟨rfl, G, H, I, Grow.refl e⟩
  · refine GQ.eqBool_refG hac (wpAny_mono h1 (fun r s' q => ?_) fun _ _ z => z)
    obtain ⟨rfl, q⟩ := q
    exact ⟨b, rfl, rfl, q⟩
theorem rm {n : Nat} {A : Around} (h : Room (k + (n + 1)) A) : Room (k + n) A.in1 := Room.in1 (k := k + n) h
/-- item by item: what is asked of the turns -/
theorem items_turn {n : Nat} {A : Around} (ih : ∀ (x y : P) (b : Bool), eqN Γ.feq n x y = some b → ∀ (A : Around) (s : Shared) (G H : Hp) (v1 v2 : V) (u1 u2 : Value), Room (k + n) A → A.frames = X.A.frames → Inv X pins σ H s → Same G H →
      RepP C G x v1 → RepP C G y v2 → RelV v1 u1 → RelV v2 u2 → Tst X pins σ G H A s u1 u2 b)
    (hr : Room (k + (n + 1)) A) (hA : A.frames = X.A.frames) :
    ∀ (xs ys : List P) (b : Bool), eqL (eqN Γ.feq n) xs ys = some b → xs.length = ys.length → ∀ (i : Nat) (x y : P), xs[i]? = some x → ys[i]? = some y → (∀ j, j < i → ∀ x y, xs[j]? = some x → ys[j]? = some y → eqN Γ.feq n x y = some true) →
      ∃ c, eqN Γ.feq n x y = some c ∧ (c = false → b = false)
  | x0 :: xs, y0 :: ys, b, h, hl, 0, x, y, hx, hy, _ => by
    simp only [List.getElem?_cons_zero, Option.some.injEq] at hx hy
    subst hx hy
    simp only [eqL] at h
    cases e : eqN Γ.feq n x0 y0 with
    | none =>
      rw [e] at h
      cases h
    | some c =>
      refine ⟨c, rfl, fun hc => ?_⟩
      subst hc
      rw [e] at h
      exact (Option.some.inj h).symm
  | x0 :: xs, y0 :: ys, b, h, hl, i + 1, x, y, hx, hy, hp => by
    have e := hp 0 (Nat.succ_pos i) x0 y0 rfl rfl
    simp only [eqL, e] at h
    simp only [List.getElem?_cons_succ] at hx hy
    exact items_turn ih hr hA xs ys b h (by simpa using hl) i x y hx hy fun j hj x y h1 h2 => hp (j + 1) (by omega) x y (by simpa using h1) (by simpa using h2)
  | [], _, _, _, _, i, _, _, hx, _, _ => by simp at hx
  | _ :: _, [], _, _, hl, _, _, _, _, _, _ => by simp at hl
theorem eqL_all {f : P → P → Option Bool} : ∀ (xs ys : List P) (b : Bool), eqL f xs ys = some b → xs.length = ys.length → (∀ (j : Nat) x y, xs[j]? = some x → ys[j]? = some y → f x y = some true) → b = true
  | [], [], b, h, _, _ => (Option.some.inj h).symm
  | x :: xs, y :: ys, b, h, hl, hp => by
    simp only [eqL, hp 0 x y rfl rfl] at h
    exact eqL_all xs ys b h (by simpa using hl) fun j x y h1 h2 => hp (j + 1) x y (by simpa using h1) (by simpa using h2)
  | [], _ :: _, _, _, hl, _ => by simp at hl
  | _ :: _, [], _, _, hl, _ => by simp at hl
theorem reps_get : ∀ (xs : List P) (vs : List V) (i : Nat) {v : V}, RepPs C G xs vs → vs[i]? = some v → ∃ x, xs[i]? = some x ∧ RepP C G x v
  | [], vs, i, v, h, e => by
    simp only [RepPs] at h
    subst h
    simp at e
  | x :: xs, vs, 0, v, h, e => by
    simp only [RepPs] at h
    obtain ⟨v', ws, rfl, h1, _⟩ := h
    simp only [List.getElem?_cons_zero, Option.some.injEq] at e
    subst e
    exact ⟨x, rfl, h1⟩
  | x :: xs, vs, i + 1, v, h, e => by
    simp only [RepPs] at h
    obtain ⟨v', ws, rfl, _, h2⟩ := h
    simp only [List.getElem?_cons_succ] at e ⊢
    exact reps_get xs ws i h2 e
theorem eqN_refl (gm : GoodM C X.prog X.w X.K X.mg X.base k Γ) : ∀ (n : Nat) (x : P) (b : Bool), eqN Γ.feq n x x = some b → b = true
  | 0, _, _, h => by cases h
  | n + 1, .non, b, h => (Option.some.inj h).symm
  | n + 1, .bl c, b, h => by
    simp only [eqN, eq0, beq_self_eq_true, Option.some.injEq] at h
    exact h.symm
  | n + 1, .int c, b, h => by
    simp only [eqN, eq0, beq_self_eq_true, Option.some.injEq] at h
    exact h.symm
  | n + 1, .str c, b, h => by
    simp only [eqN, eq0, beq_self_eq_true, Option.some.injEq] at h
    exact h.symm
  | n + 1, .scr c, b, h => by cases h
  | n + 1, .dic c d, b, h => by cases h
  | n + 1, .exn c d, b, h => by cases h
  | n + 1, .ob c xs, b, h => Tab.feq_refl h
  | n + 1, .tup xs, b, h => by
    simp only [eqN, beq_self_eq_true, if_true] at h
    have all : ∀ (zs : List P) (b : Bool), eqL (eqN Γ.feq n) zs zs = some b → b = true := by
      intro zs
      induction zs with
      | nil => exact fun b h => (Option.some.inj h).symm
      | cons z zs ih =>
        intro b h
        simp only [eqL] at h
        cases e : eqN Γ.feq n z z with
        | none => rw [e] at h; cases h
        | some c =>
          rw [eqN_refl gm n z c e] at e
          rw [e] at h
          exact ih b h
    exact all xs b h
  | n + 1, .lst xs, b, h => by
    simp only [eqN, beq_self_eq_true, if_true] at h
    have all : ∀ (zs : List P) (b : Bool), eqL (eqN Γ.feq n) zs zs = some b → b = true := by
      intro zs
      induction zs with
      | nil => exact fun b h => (Option.some.inj h).symm
      | cons z zs ih =>
        intro b h
        simp only [eqL] at h
        cases e : eqN Γ.feq n z z with
        | none => rw [e] at h; cases h
        | some c =>
          rw [eqN_refl gm n z c e] at e
          rw [e] at h
          exact ih b h
    exact all xs b h
end
end RP
end

section
set_option Elab.async false
set_option linter.all false
set_option maxRecDepth 100000
set_option maxHeartbeats 2000000
namespace RP
open PySem L2
section
variable {C : CC} {W : WX} {X : Cx} {k : Nat} {Γ : Tab} {pins : List (Addr × Obj)} {σ : L2.St}
theorem eqBool_ne {prog : Program} {w : World} {A : Around} {E : Value → Shared → Prop} {s : Shared} {a : Addr} {v : Value} {Q : Bool → Shared → Prop} (hne : Value.ref a ≠ v) (h : wpAny (model prog w) A (richCompare .Eq (.ref a) v) (fun r s' => ∃ b, r = .bool b ∧ Q b s') E s) : wpAny (model prog w) A (eqBool (.ref a) v) Q E s := by
  unfold eqBool
  refine wpAny_holding (wpAny_ite_split (fun z => absurd (eq_of_beq z) hne) fun _ => ?_)
  refine wpAny_bind (m := richCompare .Eq (.ref a) v) (wpAny_mono h (fun r s' q => ?_) fun _ _ z => z)
  obtain ⟨b, rfl, q⟩ := q
  exact wpAny_truthy_bool q
theorem tst_own (sp : Spot C W X k) (gm : GoodM C X.prog X.w X.K X.mg X.base k Γ) {n c : Nat} {xs : List P} {y : P} {b : Bool} (h : Γ.feq c (.ob c xs) y = some b) {A : Around} {s : Shared} {G H : Hp} {v1 v2 : V} {u1 u2 : Value}
    (hr : Room (k + (n + 1)) A) (hA : A.frames = X.A.frames) (I : Inv X pins σ H s) (e : Same G H) (r1 : RepP C G (.ob c xs) v1) (r2 : RepP C G y v2) (q1 : RelV v1 u1) (q2 : RelV v2 u2) : Tst X pins σ G H A s u1 u2 b := by
  have h0 := r1
  simp only [RepP] at h0
  obtain ⟨hc, a, dx, vs, rfl, h1, _⟩ := h0
  cases q1
  obtain ⟨mA, O, _⟩ := ins_get (P := X.prog) (w := X.w) I.hok (e _ _ h1)
  obtain ⟨od, J, _⟩ := O.look
  unfold Tab.feq at h
  cases hg : Γ.meth c mEq with
  | none =>
    rw [hg] at h
    cases h
  | some g =>
    rw [hg] at h
    dsimp only at h
    obtain ⟨f, M, _, cal⟩ := gm.mts c mEq g hg
    rw [sp.nm.eq] at M
    have h9 := h
    have hgo : g [.ob c xs, y] = .ok (.bl b) := by
      split at h
      · rename_i b' hb
        split at h
        · cases h
        · cases h
          exact hb
      · cases h
    obtain ⟨mm, hF⟩ := I.fr
    have cf := sp.cf.one c hc
    rw [sp.hk] at cf
    have ty := looks_ty (M := model X.prog X.w) sp.hk e I r2 q2
    have nf := notFirst_of sp.cf hc r2
    rw [sp.hk] at nf
    have hsp : spP C g [.ref a, v2] H (fun v H' => v = .bl b ∧ ∃ G', Grow G H G' H') (WE W σ) := by
      refine ⟨G, [.ob c xs, y], e, reps2 (s0 := ⟨G, [], []⟩) r1 r2, ?_⟩
      rw [hgo]
      intro v G' H' g1 g2 g3 rv
      simp only [RepP] at rv
      exact ⟨rv, G', g1, g2, g3⟩
    have go : ∀ A' : Around, Room k A' → A'.frames = X.A.frames → wpAny (model X.prog X.w) A' (call (.ref f) [.ref a, u2]) (fun v s' => v = .bool b ∧ Out X pins σ G H s') X.xe s := fun A' hr' hA' =>
      wpAny_mono (wpAny_call (cal X W A' pins s σ H [.ref a, u2] [.ref a, v2] _ rfl rfl rfl rfl rfl sp.tk hr' hA' I (.cons rfl (.cons q2 .nil)) hsp)) (fun v s' z => by
        obtain ⟨v', H', I', rv, ev, G', gr⟩ := z
        subst ev
        cases rv
        exact ⟨rfl, G', H', I', gr⟩) fun _ _ z => z
    have eq : wpAny (model X.prog X.w) A (richCompare .Eq (.ref a) u2) (fun r s' => r = .bool b ∧ Out X pins σ G H s') X.xe s :=
      PySem.W.cmp_K (op := .Eq) hr.units0 hF I.ok.mod.kin J ty nf M.at_ M.fn (wpAny_mono (go A (hr.mono (by omega)) hA) (fun v s' z => by
        obtain ⟨rfl, z⟩ := z
        exact ⟨rfl, z⟩) fun _ _ z => z)
    have ne : wpAny (model X.prog X.w) A (richCompare .NotEq (.ref a) u2) (fun r s' => r = .bool (!b) ∧ Out X pins σ G H s') X.xe s :=
      own_ne (Nat.lt_of_le_of_lt (by omega) hr.units) hF I.ok.mod.kin J ty nf cf.ne cf.hm M.at_ M.fn (wpAny_mono (go A.in1 (Room.mono (rm hr) (by omega)) hA) (fun v s' z => by
        obtain ⟨rfl, z⟩ := z
        exact ⟨b, rfl, rfl, z⟩) fun _ _ z => z)
    refine ⟨eq, ne, ?_⟩
    by_cases hu : u2 = .ref a
    · subst hu
      have hv : v2 = .ref a := by
        have z := RelV.abs q2
        cases z
        rfl
      subst hv
      have ey := rep_inj sp.cf sp.hk e I _ _ _ r1 r2
      subst ey
      have hb : b = true := by
        refine Tab.feq_refl (Γ := Γ) (c := c) (x := .ob c xs) ?_
        unfold Tab.feq
        rw [hg]
        exact h9
      rw [hb]
      exact SeqAt.EqAt.same (A := A) (s := s) (.ref a) X.prog X.w X.xe _ ⟨rfl, G, H, I, Grow.refl e⟩
    · refine eqBool_ne (fun z => hu z.symm) (wpAny_mono eq (fun r s' z => ?_) fun _ _ z => z)
      obtain ⟨rfl, z⟩ := z
      exact ⟨b, rfl, rfl, z⟩
/-- where the loop over the items stands -/
def At_ (X : Cx) (pins : List (Addr × Obj)) (σ : L2.St) (G H : Hp) (f : P → P → Option Bool) (xs ys : List P) (i : Nat) (s' : Shared) : Prop :=
  Out X pins σ G H s' ∧ ∀ (j : Nat), j < i → ∀ x y, xs[j]? = some x → ys[j]? = some y → f x y = some true
theorem eq_ok (sp : Spot C W X k) (gm : GoodM C X.prog X.w X.K X.mg X.base k Γ) : ∀ (n : Nat) (x y : P) (b : Bool), eqN Γ.feq n x y = some b → ∀ (A : Around) (s : Shared) (G H : Hp) (v1 v2 : V) (u1 u2 : Value), Room (k + n) A → A.frames = X.A.frames →
    Inv X pins σ H s → Same G H → RepP C G x v1 → RepP C G y v2 → RelV v1 u1 → RelV v2 u2 → Tst X pins σ G H A s u1 u2 b := by
  intro n
  induction n with
  | zero =>
    intro x y b h
    cases h
  | succ n ih =>
    intro x y b h A s G H v1 v2 u1 u2 hr hA I e r1 r2 q1 q2
    have flat : eq0 x y = some b → Tst X pins σ G H A s u1 u2 b := fun z => (eq0_ok sp.hk e I hr.units0 x y z r1 r2 q1 q2).tst I e
    /- one turn over the items -/
    have turn : ∀ (xs ys : List P) (vs ws : List V), eqL (eqN Γ.feq n) xs ys = some b → xs.length = ys.length → RepPs C G xs vs → RepPs C G ys ws → ∀ (i : Nat) (s' : Shared) (w1 w2 : V) (t1 t2 : Value), vs[i]? = some w1 → ws[i]? = some w2 → RelV w1 t1 → RelV w2 t2 →
        At_ X pins σ G H (eqN Γ.feq n) xs ys i s' → wpAny (model X.prog X.w) A.in1 (eqBool t1 t2) (fun r s2 => (r = true ∧ At_ X pins σ G H (eqN Γ.feq n) xs ys (i + 1) s2) ∨ (r = false ∧ b = false ∧ Out X pins σ G H s2)) X.xe s' := by
      intro xs ys vs ws he hl k1 k2 i s' w1 w2 t1 t2 g1 g2 rt1 rt2 hI
      obtain ⟨⟨G1, H1, I1, gr⟩, pre⟩ := hI
      obtain ⟨x', hx, rx⟩ := reps_get xs vs i k1 g1
      obtain ⟨y', hy, ry⟩ := reps_get ys ws i k2 g2
      obtain ⟨c, hc, hcb⟩ := items_turn (C := C) (X := X) (pins := pins) (σ := σ) ih hr hA xs ys b he hl i x' y' hx hy pre
      refine wpAny_mono (ih x' y' c hc A.in1 s' G1 H1 w1 w2 t1 t2 (rm hr) hA I1 gr.h (RepP.mono gr.g x' w1 rx) (RepP.mono gr.g y' w2 ry) rt1 rt2).at_ (fun r s2 z => ?_) fun _ _ z => z
      obtain ⟨rfl, z⟩ := z
      cases r with
      | true =>
        refine Or.inl ⟨rfl, out_trans gr z, fun j hj x y h1 h2 => ?_⟩
        by_cases hji : j = i
        · subst hji
          rw [hx] at h1
          rw [hy] at h2
          cases h1
          cases h2
          exact hc
        · exact pre j (by omega) x y h1 h2
      | false => exact Or.inr ⟨rfl, hcb rfl, out_trans gr z⟩
    have done : ∀ (xs ys : List P), eqL (eqN Γ.feq n) xs ys = some b → xs.length = ys.length → ∀ s', At_ X pins σ G H (eqN Γ.feq n) xs ys xs.length s' → b = true ∧ Out X pins σ G H s' := by
      intro xs ys he hl s' hI
      refine ⟨eqL_all xs ys b he hl fun j x y h1 h2 => hI.2 j ?_ x y h1 h2, hI.1⟩
      exact (List.getElem?_eq_some_iff.mp h1).1
    cases x with
    | ob c xs => exact tst_own (n := n) sp gm h hr hA I e r1 r2 q1 q2
    | tup xs =>
      cases y with
      | tup ys =>
        simp only [eqN] at h
        split at h
        · rename_i hl
          have hl' : xs.length = ys.length := beq_iff_eq.mp hl
          have k1 := r1
          have k2 := r2
          simp only [RepP] at k1 k2
          obtain ⟨a, vs, rfl, s1, p1⟩ := k1
          obtain ⟨c, ws, rfl, s2, p2⟩ := k2
          cases q1
          cases q2
          rw [sp.hk] at s1 s2
          obtain ⟨i1, V1, T1, _⟩ := I.tuple (sqT_mono e s1)
          obtain ⟨i2, V2, T2, _⟩ := I.tuple (sqT_mono e s2)
          have l1 := RepPs.len xs vs p1
          have l2 := RepPs.len ys ws p2
          have z1 := V1.length
          have z2 := V2.length
          have hsz : i1.toArray.size = i2.toArray.size := by
            rw [List.size_toArray, List.size_toArray]
            omega
          have tn : ∀ (i : Nat) (h1 : i < i1.toArray.size) (h2 : i < i2.toArray.size) (s' : Shared), At_ X pins σ G H (eqN Γ.feq n) xs ys i s' →
              wpAny (model X.prog X.w) A.in1 (eqBool i1.toArray[i] i2.toArray[i]) (fun r s2 => (r = true ∧ At_ X pins σ G H (eqN Γ.feq n) xs ys (i + 1) s2) ∨ (r = false ∧ b = false ∧ Out X pins σ G H s2)) X.xe s' := by
            intro i h1 h2 s' hI
            have n1 : i < vs.length := by rw [z1]; simpa using h1
            have n2 : i < ws.length := by rw [z2]; simpa using h2
            obtain ⟨t1, g1, rt1⟩ := V1.get (List.getElem?_eq_getElem n1)
            obtain ⟨t2, g2, rt2⟩ := V2.get (List.getElem?_eq_getElem n2)
            have e1 : i1.toArray[i] = t1 := by
              rw [List.getElem?_eq_getElem (by simpa using h1)] at g1
              simpa using g1
            have e2 : i2.toArray[i] = t2 := by
              rw [List.getElem?_eq_getElem (by simpa using h2)] at g2
              simpa using g2
            rw [e1, e2]
            exact turn xs ys vs ws h hl' p1 p2 i s' _ _ t1 t2 (List.getElem?_eq_getElem n1) (List.getElem?_eq_getElem n2) rt1 rt2 hI
          have st : At_ X pins σ G H (eqN Γ.feq n) xs ys 0 s := ⟨⟨G, H, I, Grow.refl e⟩, fun j hj => absurd hj (Nat.not_lt_zero j)⟩
          have szx : i1.toArray.size = xs.length := by
            rw [List.size_toArray]
            omega
          refine tst_ref I e (fun hac => ?_) ?_ ?_
          · subst hac
            have ey := rep_inj sp.cf sp.hk e I _ _ _ r1 r2
            cases ey
            exact eqN_refl gm (n + 1) (.tup xs) b (by simp only [eqN, beq_self_eq_true, if_true]; exact h)
          · refine rct_eq hsz hr.units0 _ (fun s2 => b = false ∧ Out X pins σ G H s2) T1 T2 tn (fun s' hI => ?_) (fun s' hJ => ?_) st
            · rw [szx] at hI
              obtain ⟨rfl, o⟩ := done xs ys h hl' s' hI
              exact ⟨rfl, o⟩
            · obtain ⟨rfl, o⟩ := hJ
              exact ⟨rfl, o⟩
          · refine rct_ne hsz hr.units0 _ (fun s2 => b = false ∧ Out X pins σ G H s2) T1 T2 tn (fun s' hI => ?_) (fun s' hJ => ?_) st
            · rw [szx] at hI
              obtain ⟨rfl, o⟩ := done xs ys h hl' s' hI
              exact ⟨rfl, o⟩
            · obtain ⟨rfl, o⟩ := hJ
              exact ⟨rfl, o⟩
        · cases h
      | _ => exact flat h
    | lst xs =>
      cases y with
      | lst ys =>
        have k1 := r1
        have k2 := r2
        simp only [RepP] at k1 k2
        obtain ⟨a, vs, rfl, s1, p1⟩ := k1
        obtain ⟨c, ws, rfl, s2, p2⟩ := k2
        cases q1
        cases q2
        have l1 := RepPs.len xs vs p1
        have l2 := RepPs.len ys ws p2
        simp only [eqN] at h
        split at h
        · rename_i hl
          have hl' : xs.length = ys.length := beq_iff_eq.mp hl
          have see : ∀ s' : Shared, Out X pins σ G H s' → ∃ (j1 j2 : List Value) (n1 n2 : Nat), Vals vs j1 ∧ Vals ws j2 ∧ s'.heap.get? a = some { cls := .type "list", data := .seq j1.toArray n1 } ∧ s'.heap.get? c = some { cls := .type "list", data := .seq j2.toArray n2 } := by
            intro s' ho
            obtain ⟨G1, H1, I1, gr⟩ := ho
            obtain ⟨_, j1, n1, V1, o1⟩ := I1.hok a (.lst vs) (gr.h _ _ (gr.g _ _ s1))
            obtain ⟨_, j2, n2, V2, o2⟩ := I1.hok c (.lst ws) (gr.h _ _ (gr.g _ _ s2))
            exact ⟨j1, j2, n1, n2, V1, V2, o1, o2⟩
          have two : Two X.prog X.w A X.xe a c xs.length (At_ X pins σ G H (eqN Γ.feq n) xs ys) (fun s2 => b = false ∧ Out X pins σ G H s2) := by
            intro i s' hI
            obtain ⟨j1, j2, n1, n2, V1, V2, o1, o2⟩ := see s' hI.1
            have z1 := V1.length
            have z2 := V2.length
            refine ⟨j1.toArray, j2.toArray, n1, n2, o1, o2, by rw [List.size_toArray]; omega, by rw [List.size_toArray]; omega, fun h1 h2 => ?_⟩
            have m1 : i < vs.length := by rw [z1]; simpa using h1
            have m2 : i < ws.length := by rw [z2]; simpa using h2
            obtain ⟨t1, g1, rt1⟩ := V1.get (List.getElem?_eq_getElem m1)
            obtain ⟨t2, g2, rt2⟩ := V2.get (List.getElem?_eq_getElem m2)
            have e1 : j1.toArray[i] = t1 := by
              rw [List.getElem?_eq_getElem (by simpa using h1)] at g1
              simpa using g1
            have e2 : j2.toArray[i] = t2 := by
              rw [List.getElem?_eq_getElem (by simpa using h2)] at g2
              simpa using g2
            rw [e1, e2]
            exact turn xs ys vs ws h hl' p1 p2 i s' _ _ t1 t2 (List.getElem?_eq_getElem m1) (List.getElem?_eq_getElem m2) rt1 rt2 hI
          have sti : Still a c xs.length (fun s2 => b = false ∧ Out X pins σ G H s2) := by
            intro s' hJ
            obtain ⟨j1, j2, n1, n2, V1, V2, o1, o2⟩ := see s' hJ.2
            have z1 := V1.length
            have z2 := V2.length
            exact ⟨j1.toArray, j2.toArray, n1, n2, o1, o2, by rw [List.size_toArray]; omega, by rw [List.size_toArray]; omega⟩
          have st : At_ X pins σ G H (eqN Γ.feq n) xs ys 0 s := ⟨⟨G, H, I, Grow.refl e⟩, fun j hj => absurd hj (Nat.not_lt_zero j)⟩
          refine tst_ref I e (fun hac => ?_) ?_ ?_
          · subst hac
            have ey := rep_inj sp.cf sp.hk e I _ _ _ r1 r2
            cases ey
            exact eqN_refl gm (n + 1) (.lst xs) b (by simp only [eqN, beq_self_eq_true, if_true]; exact h)
          · refine rcl_eq hr.units0 _ _ two sti (fun s' hI => ?_) (fun s' hJ => ?_) st
            · obtain ⟨rfl, o⟩ := done xs ys h hl' s' hI
              exact ⟨rfl, o⟩
            · obtain ⟨rfl, o⟩ := hJ
              exact ⟨rfl, o⟩
          · refine rcl_ne hr.units0 _ _ two sti (fun s' hI => ?_) (fun s' hJ => ?_) st
            · obtain ⟨rfl, o⟩ := done xs ys h hl' s' hI
              exact ⟨rfl, o⟩
            · obtain ⟨rfl, o⟩ := hJ
              exact ⟨rfl, o⟩
        · rename_i hl
          have hl' : xs.length ≠ ys.length := fun z => hl (beq_iff_eq.mpr z)
          cases h
          obtain ⟨_, j1, n1, V1, o1⟩ := I.hok a (.lst vs) (e _ _ s1)
          obtain ⟨_, j2, n2, V2, o2⟩ := I.hok c (.lst ws) (e _ _ s2)
          have z1 := V1.length
          have z2 := V2.length
          have hsz : j1.toArray.size ≠ j2.toArray.size := by
            rw [List.size_toArray, List.size_toArray]
            omega
          refine tst_ref I e (fun hac => ?_) (rcl_eq_len hr.units0 o1 o2 hsz ⟨rfl, G, H, I, Grow.refl e⟩) (rcl_ne_len hr.units0 o1 o2 hsz ⟨rfl, G, H, I, Grow.refl e⟩)
          subst hac
          have ey := rep_inj sp.cf sp.hk e I _ _ _ r1 r2
          cases ey
          exact absurd rfl hl'
      | _ => exact flat h
    | _ => exact flat h
end
end RP
end

section
set_option Elab.async false
set_option linter.all false
set_option maxRecDepth 100000
set_option maxHeartbeats 2000000
/-! x in list, whatever the items' == does. -/
namespace RP
open PySem PySem.SeqAt
open AutoSeq1 (wpAny_loadPart')
open MeetsSeq MeetsSeq2 MeetsSeq3 SeqRoads2
section
variable {prog : Program} {w : World} {A : Around} {E : Value → Shared → Prop} {R : Result → Shared → Prop} {x : Value}
/-- the list before turn i; the turn goes on to the next one, or has found it -/
def One (prog : Program) (w : World) (A : Around) (E : Value → Shared → Prop) (x : Value) (l : Addr) (N : Nat) (I : Nat → Shared → Prop) (J : Shared → Prop) : Prop :=
  ∀ (i : Nat) (s : Shared), I i s → ∃ (xs : Array Value) (n : Nat), s.heap.get? l = some { cls := .type "list", data := .seq xs n } ∧ xs.size = N ∧
    ∀ (h1 : i < xs.size), wpAny (model prog w) A.in1 (eqBool xs[i] x) (fun r s' => (r = false ∧ I (i + 1) s') ∨ (r = true ∧ J s')) E s
theorem loop_in (l : Addr) (N : Nat) (I : Nat → Shared → Prop) (J : Shared → Prop) (hT : One prog w A (fun e s' => R (.error e) s') x l N I J)
    (fin : ∀ s, I N s → R (.ok (.ret (.bool false))) s) (out : ∀ s, J s → R (.ok (.ret (.bool true))) s) (k : Nat) :
    ∀ i : Nat, N - i = k → i ≤ N → ∀ s, I i s → wpAny (model prog w) A.in1 (Builtin.«list.__contains__.loop» ⟨[.ref l, x, rawInt i], []⟩) (Ends' prog w A R) (fun e s' => R (.error e) s') s := by
  induction k with
  | zero =>
    intro i hk hi s hI
    obtain ⟨xs, n, q1, z1, _⟩ := hT i s hI
    have ei : i = N := by omega
    have hR := fin s (ei ▸ hI)
    obtain ⟨hp, g, d, tk, os⟩ := s
    wp_walk using wpAny_loadPart' q1
    have n1 : xs[((i : Nat) : Int).toNat]? = none := by simp; omega
    rw [n1]
    wp_walk
    exact hR
  | succ k ih =>
    intro i hk hi s hI
    obtain ⟨xs, n, q1, z1, turn⟩ := hT i s hI
    have l1 : i < xs.size := by omega
    have ht := turn l1
    obtain ⟨hp, g, d, tk, os⟩ := s
    wp_walk using wpAny_loadPart' q1
    have g1 : xs[((i : Nat) : Int).toNat]? = some xs[i] := by simp [l1]
    have hc : ((i : Int) + 1) = ((i + 1 : Nat) : Int) := by omega
    rw [g1]
    refine wpAny_bind (wpAny_mono ht (fun r s2 h2 => ?_) fun _ _ z => z)
    rcases h2 with ⟨rfl, h2⟩ | ⟨rfl, h2⟩
    · have hrec := ih (i + 1) (by omega) (by omega) s2 h2
      obtain ⟨hp2, g2', d2, tk2, os2⟩ := s2
      wp_walk
      rw [hc]
      refine ⟨plainId_quiet plain_contains_loop _, codeAny_builtin entry_contains_loop ?_⟩
      rw [Around.under_plainId plain_contains_loop _]
      exact hrec
    · have hR := out s2 h2
      obtain ⟨hp2, g2', d2, tk2, os2⟩ := s2
      wp_walk
      exact hR
theorem list_in (l : Addr) (N : Nat) (I : Nat → Shared → Prop) (J : Shared → Prop) (hT : One prog w A (fun e s' => R (.error e) s') x l N I J)
    (fin : ∀ s, I N s → R (.ok (.ret (.bool false))) s) (out : ∀ s, J s → R (.ok (.ret (.bool true))) s) {s : Shared} (h : I 0 s) :
    wpAny (model prog w) A.in1 (Builtin.«list.__contains__» ⟨[.ref l, x], []⟩) (Ends' prog w A R) (fun e s' => R (.error e) s') s := by
  obtain ⟨xs, n, q1, z1, _⟩ := hT _ _ h
  have hrec := loop_in (A := A) (R := R) l N I J hT fin out _ 0 rfl (Nat.zero_le _) s h
  obtain ⟨hp, g, d, tk, os⟩ := s
  wp_walk using wpAny_loadPart' q1
  refine ⟨plainId_quiet plain_contains_loop _, codeAny_builtin entry_contains_loop ?_⟩
  rw [Around.under_plainId plain_contains_loop _]
  exact hrec
theorem has_list {l : Addr} {N : Nat} {s : Shared} {Q : Bool → Shared → Prop} (I : Nat → Shared → Prop) (J : Shared → Prop) (hT : One prog w A E x l N I J)
    (fin : ∀ s, I N s → Q false s) (out : ∀ s, J s → Q true s) (h : I 0 s) : wpAny (model prog w) A (contains (.ref l) x) Q E s := by
  obtain ⟨_, _, q1, _⟩ := hT _ _ h
  refine wpAny_contains_slot ⟨_, q1, rfl⟩ F.slot_list_contains (wpAny_mono (GQ.call_here (Q := fun v s' => ∃ b, v = .bool b ∧ Q b s') F.slot_list_contains ⟨_, q1, rfl⟩ F.entry_list_contains (F.args_list_contains_2 _ _) ?_) (fun v s' hv => ?_) fun _ _ e => e)
  · exact list_in (R := wants (fun v s' => ∃ b, v = .bool b ∧ Q b s') E) l N I J hT (fun s' q => ⟨_, rfl, fin s' q⟩) (fun s' q => ⟨_, rfl, out s' q⟩) h
  · obtain ⟨b, rfl, q⟩ := hv
    exact wpAny_truthy_bool q
end
end RP
end

section
set_option Elab.async false
set_option linter.all false
set_option maxRecDepth 100000
set_option maxHeartbeats 2000000
/-! Comparisons of data. -/
namespace RP
open PySem L2
section
variable {C : CC} {W : WX} {X : Cx} {k : Nat} {Γ : Tab} {F : Hp} {s0 : Sit} {pins : List (Addr × Obj)} {σ : L2.St} {H : Hp} {s : Shared} {Q : VK}
/-- what is looked at stands in the heap as it is now -/
theorem peek_H (A : AtS C F s0 H) {d : D} {v : V} (r : RepD C s0 d v) {x : P} (e : peek d s0.S = some x) : RepP C H x v := by
  rcases peek_ok A r e with h | ⟨xs, a, vs, rfl, rfl, h3, h4⟩
  · exact RepP.mono A.sub x v h
  · simp only [RepP]
    exact ⟨a, vs, rfl, h3, RepPs.mono A.sub xs vs h4⟩
theorem out_bl {b : Bool} {s' : Shared} (A : AtS C F s0 H) (h : WantE C W F (RepD C) σ s0 (.ok (.p (.bl b)) s0.S) Q) (o : Out X pins σ H H s') : EP X pins σ Q (.bool b) s' := by
  obtain ⟨G', H', I', gr⟩ := o
  exact ⟨.bl b, H', I', rfl, want_bl (A.keep (gr.g.trans gr.h)) (by exact h)⟩
theorem isIn_turn {f : P → P → Option Bool} {x : P} : ∀ (ys : List P) (b : Bool), isInL f x ys = some b → ∀ (i : Nat) (y : P), ys[i]? = some y → (∀ (j : Nat), j < i → ∀ y, ys[j]? = some y → f y x = some false) → ∃ c, f y x = some c ∧ (c = true → b = true)
  | y0 :: ys, b, h, 0, y, hy, _ => by
    cases hy
    simp only [isInL] at h
    cases e : f y0 x with
    | none =>
      rw [e] at h
      cases h
    | some c =>
      refine ⟨c, rfl, fun hc => ?_⟩
      subst hc
      rw [e] at h
      exact (Option.some.inj h).symm
  | y0 :: ys, b, h, i + 1, y, hy, hp => by
    have e := hp 0 (Nat.succ_pos i) y0 rfl
    simp only [isInL, e] at h
    exact isIn_turn ys b h i y (by simpa using hy) fun j hj y h2 => hp (j + 1) (by omega) y (by simpa using h2)
  | [], _, _, i, _, hy, _ => by simp at hy
theorem isIn_none {f : P → P → Option Bool} {x : P} : ∀ (ys : List P) (b : Bool), isInL f x ys = some b → (∀ (j : Nat) y, ys[j]? = some y → f y x = some false) → b = false
  | [], b, h, _ => (Option.some.inj h).symm
  | y0 :: ys, b, h, hp => by
    simp only [isInL, hp 0 y0 rfl] at h
    exact isIn_none ys b h fun j y h2 => hp (j + 1) y (by simpa using h2)
theorem in_lst (sp : Spot C W X k) (gm : GoodM C X.prog X.w X.K X.mg X.base k Γ) {x : P} {ys : List P} {b : Bool} (h : isInL (eqN Γ.feq eqDeep) x ys = some b) {v1 v2 : V} {u1 u2 : Value} (hr : Room (k + (eqDeep + 1)) X.A) (I : Inv X pins σ H s)
    (r1 : RepP C H x v1) (r2 : RepP C H (.lst ys) v2) (q1 : RelV v1 u1) (q2 : RelV v2 u2) : wpAny (model X.prog X.w) X.A (contains u2 u1) (fun r s' => r = b ∧ Out X pins σ H H s') X.xe s := by
  simp only [RepP] at r2
  obtain ⟨a, ws, rfl, s2, p2⟩ := r2
  cases q2
  have l2 := RepPs.len ys ws p2
  have one : One X.prog X.w X.A X.xe u1 a ys.length (fun i s' => Out X pins σ H H s' ∧ ∀ (j : Nat), j < i → ∀ y, ys[j]? = some y → eqN Γ.feq eqDeep y x = some false) (fun s' => b = true ∧ Out X pins σ H H s') := by
    intro i s' hI
    obtain ⟨⟨G1, H1, I1, gr⟩, pre⟩ := hI
    obtain ⟨_, j1, n1, V1, o1⟩ := I1.hok a (.lst ws) (gr.h _ _ (gr.g _ _ s2))
    have z1 := V1.length
    refine ⟨j1.toArray, n1, o1, by rw [List.size_toArray]; omega, fun h1 => ?_⟩
    have m1 : i < ws.length := by rw [z1]; simpa using h1
    obtain ⟨t1, g1, rt1⟩ := V1.get (List.getElem?_eq_getElem m1)
    have e1 : j1.toArray[i] = t1 := by
      rw [List.getElem?_eq_getElem (by simpa using h1)] at g1
      simpa using g1
    rw [e1]
    obtain ⟨y, hy, ry⟩ := reps_get ys ws i p2 (List.getElem?_eq_getElem m1)
    obtain ⟨c, hc, hcb⟩ := isIn_turn ys b h i y hy pre
    refine wpAny_mono (eq_ok sp gm eqDeep y x c hc X.A.in1 s' G1 H1 _ v1 t1 u1 (rm hr) rfl I1 gr.h (RepP.mono gr.g y _ ry) (RepP.mono gr.g x v1 r1) rt1 q1).at_ (fun r s2 z => ?_) fun _ _ z => z
    obtain ⟨rfl, z⟩ := z
    cases r with
    | false =>
      refine Or.inl ⟨rfl, out_trans gr z, fun j hj y' h2 => ?_⟩
      by_cases hji : j = i
      · subst hji
        rw [hy] at h2
        cases h2
        exact hc
      · exact pre j (by omega) y' h2
    | true => exact Or.inr ⟨rfl, hcb rfl, out_trans gr z⟩
  refine has_list _ _ one (fun s' hI => ?_) (fun s' hJ => ?_) ⟨⟨H, H, I, Grow.refl (Same.refl _)⟩, fun j hj => absurd hj (Nat.not_lt_zero j)⟩
  · have eb := isIn_none ys b h fun j y h2 => hI.2 j (List.getElem?_eq_some_iff.mp h2).1 y h2
    subst eb
    exact ⟨rfl, hI.1⟩
  · obtain ⟨rfl, o⟩ := hJ
    exact ⟨rfl, o⟩
theorem flat_V : ∀ {x : P} {v : V}, flatP x = true → RepP C H x v → flatV v = true
  | .non, v, _, h => by simp only [RepP] at h; subst h; rfl
  | .bl _, v, _, h => by simp only [RepP] at h; subst h; rfl
  | .int _, v, _, h => by simp only [RepP] at h; subst h; rfl
  | .str _, v, _, h => by simp only [RepP] at h; subst h; rfl
theorem flat_eq : ∀ {x y : P} {v w : V}, flatP x = true → flatP y = true → RepP C H x v → RepP C H y w → eq0 x y = some (eqV v w) := by
  intro x y v w fx fy h1 h2
  cases x <;> cases fx <;> cases y <;> cases fy <;> simp only [RepP] at h1 h2 <;> subst h1 h2 <;> first | rfl | simp [eq0, eqV]
theorem flat_all : ∀ (xs : List P) (vs : List V), xs.all flatP = true → RepPs C H xs vs → vs.all flatV = true
  | [], vs, _, h => by simp only [RepPs] at h; subst h; rfl
  | x :: xs, vs, ha, h => by
    simp only [RepPs] at h
    obtain ⟨v, ws, rfl, h1, h2⟩ := h
    simp only [List.all_cons, Bool.and_eq_true] at ha ⊢
    exact ⟨flat_V ha.1 h1, flat_all xs ws ha.2 h2⟩
theorem flat_in {x : P} {v : V} (fx : flatP x = true) (r : RepP C H x v) : ∀ (xs : List P) (vs : List V), xs.all flatP = true → RepPs C H xs vs → isInL eq0 x xs = some (vs.any fun w => eqV w v)
  | [], vs, _, h => by simp only [RepPs] at h; subst h; rfl
  | y :: xs, vs, ha, h => by
    simp only [RepPs] at h
    obtain ⟨w, ws, rfl, h1, h2⟩ := h
    simp only [List.all_cons, Bool.and_eq_true] at ha
    have e := flat_eq ha.1 fx h1 r
    simp only [isInL, e, List.any_cons]
    cases eqV w v with
    | true => rfl
    | false => simpa using flat_in fx r xs ws ha.2 h2
/-- in, not in -/
theorem in_ok (sp : Spot C W X k) (gm : GoodM C X.prog X.w X.K X.mg X.base k Γ) {x y : P} {b : Bool} (h : Γ.isIn x y = .ok (.bl b)) {v1 v2 : V} {u1 u2 : Value} (hr : Room (k + (eqDeep + 1)) X.A) (I : Inv X pins σ H s)
    (r1 : RepP C H x v1) (r2 : RepP C H y v2) (q1 : RelV v1 u1) (q2 : RelV v2 u2) :
    wpAny (model X.prog X.w) X.A (compareOp .In u1 u2) (fun r s' => r = .bool b ∧ Out X pins σ H H s') X.xe s ∧ wpAny (model X.prog X.w) X.A (compareOp .NotIn u1 u2) (fun r s' => r = .bool (!b) ∧ Out X pins σ H H s') X.xe s := by
  cases y with
  | lst ys =>
    simp only [Tab.isIn] at h
    split at h
    · rename_i c hc
      cases h
      have g := in_lst sp gm hc hr I r1 r2 q1 q2
      constructor
      · show wpAny _ _ (contains u2 u1 >>= fun r => pure (Value.bool r)) _ _ _
        refine wpAny_bind (wpAny_mono g (fun r s' z => ?_) fun _ _ z => z)
        obtain ⟨rfl, z⟩ := z
        exact wpAny_pure ⟨rfl, z⟩
      · show wpAny _ _ (contains u2 u1 >>= fun r => pure (Value.bool (!r))) _ _ _
        refine wpAny_bind (wpAny_mono g (fun r s' z => ?_) fun _ _ z => z)
        obtain ⟨rfl, z⟩ := z
        exact wpAny_pure ⟨rfl, z⟩
    · cases h
  | tup ys =>
    simp only [Tab.isIn] at h
    split at h
    · rename_i fl
      simp only [Bool.and_eq_true] at fl
      have r2' := r2
      simp only [RepP] at r2'
      obtain ⟨a, ws, rfl, s2, p2⟩ := r2'
      cases q2
      rw [flat_in fl.1 r1 ys ws fl.2 p2] at h
      cases h
      rw [sp.hk] at s2
      obtain ⟨its, V1, T1, _⟩ := I.tuple s2
      have fv := flat_all ys ws fl.2 p2
      have fx := flat_V fl.1 r1
      have key : ∀ y' ∈ its.toArray, SeqAt.EqAt X.A.in1 s y' u1 ((absV y').elim false fun w => eqV w v1) := by
        intro y' hy
        have hy' : y' ∈ its := by simpa using hy
        obtain ⟨j, hj⟩ := List.getElem?_of_mem hy'
        have hjl : j < ws.length := by
          rw [V1.length]
          exact (List.getElem?_eq_some_iff.mp hj).1
        obtain ⟨t, ht, rt⟩ := V1.get (List.getElem?_eq_getElem hjl)
        rw [hj] at ht
        cases ht
        rw [rt.abs]
        exact eqAt_V rt q1 (List.all_eq_true.mp fv _ (List.getElem_mem hjl)) fx
      have any_eq : ∀ (ws : List V) (its : List Value), Vals ws its → its.any (fun y' => (absV y').elim false fun w => eqV w v1) = ws.any fun w => eqV w v1 := by
        intro ws its V1
        induction V1 with
        | nil => rfl
        | cons r _ ih =>
          rw [List.any_cons, List.any_cons, ih, r.abs]
          rfl
      have z : its.toArray.any (fun y' => (absV y').elim false fun w => eqV w v1) = ws.any fun w => eqV w v1 := by
        rw [List.any_toArray]
        exact any_eq ws its V1
      constructor
      · refine SeqAt.in_tupleAt (fun y' => (absV y').elim false fun w => eqV w v1) T1 key ?_
        rw [z]
        exact ⟨rfl, H, H, I, Grow.refl (Same.refl _)⟩
      · refine SeqAt.notIn_tupleAt (fun y' => (absV y').elim false fun w => eqV w v1) T1 key ?_
        rw [z]
        exact ⟨rfl, H, H, I, Grow.refl (Same.refl _)⟩
    · cases h
  | str z =>
    cases x with
    | str c =>
      simp only [Tab.isIn] at h
      split at h
      · rename_i d hd
        cases h
        simp only [RepP] at r1 r2
        subst r1 r2
        obtain ⟨t1, rfl⟩ := q1
        obtain ⟨t2, rfl⟩ := q2
        have ec : c = ⟨#[d]⟩ := by
          obtain ⟨⟨l⟩⟩ := c
          have hd' : l = [d] := hd
          rw [hd']
        subst ec
        constructor
        · exact PyProof.Rows.in_str ⟨congrArg Value.bool (PySem.StrLaws.found_one z d), H, H, I, Grow.refl (Same.refl _)⟩
        · exact PyProof.Rows.notIn_str ⟨congrArg Value.bool (congrArg Bool.not (PySem.StrLaws.found_one z d)), H, H, I, Grow.refl (Same.refl _)⟩
      · cases h
    | _ => cases h
  | _ => cases h
theorem isNon_ok {x : P} {v : V} (r : RepP C H x v) : decide (v = .non) = isNon x := by
  cases x <;> simp only [RepP] at r
  · subst r; rfl
  · subst r; rfl
  · subst r; rfl
  · subst r; rfl
  · obtain ⟨a, _, rfl, _⟩ := r; rfl
  · obtain ⟨a, _, rfl, _⟩ := r; rfl
  · obtain ⟨_, a, _, _, rfl, _⟩ := r; rfl
  · obtain ⟨a, rfl, _⟩ := r; rfl
  · obtain ⟨a, _, rfl, _⟩ := r; rfl
  · obtain ⟨_, a, _, rfl, _⟩ := r; rfl
theorem isN_of {y : P} {v : V} (r : RepP C H y v) (h : isNon y = true) : v = .non := by
  have z := isNon_ok r
  rw [h] at z
  exact of_decide_eq_true z
theorem lt_own (sp : Spot C W X k) (gm : GoodM C X.prog X.w X.K X.mg X.base k Γ) {op : CmpOp} {c m : Nat} {xs : List P} {g : PFn} {y : P} {x1 y1 : V} {v u : Value} (hm : (cmpInfo op).2.1 = C.NM m) (hop : compareOp op v u = richCompare op v u) (hg : Γ.meth c m = some g)
    (I : Inv X pins σ H s) (A : AtS C F s0 H) (r1 : RepP C s0.G (.ob c xs) x1) (r2 : RepP C s0.G y y1) (rx : RelV x1 v) (ry : RelV y1 u)
    (h : WantE C W F (RepD C) σ s0 ((g [.ob c xs, y]).lift s0.S) Q) : wpAny (model X.prog X.w) X.A (compareOp op v u) (EP X pins σ Q) X.xe s := by
  rw [hop]
  obtain ⟨a, dx, od, rfl, rfl, hc, J⟩ := inst_of I A r1 rx
  obtain ⟨f, M, _, cal⟩ := gm.mts c m g hg
  obtain ⟨mm, hF⟩ := I.fr
  have nf := notFirst_of sp.cf hc r2
  rw [sp.hk] at nf
  have ma := M.at_
  rw [← hm] at ma
  exact PySem.W.cmp_K (op := op) sp.hr.units0 hF I.ok.mod.kin J (looks_ty sp.hk A.sub I r2 ry) nf ma M.fn
    (wpAny_mono (cal_run sp cal (sp.hr.mono (Nat.le_add_right _ _)) rfl I A (reps2 r1 r2) (.cons rfl (.cons ry .nil)) h) (fun _ _ z => ep_back z) fun _ _ z => z)
theorem cmp_ok (sp : Spot C W X k) (gm : GoodM C X.prog X.w X.K X.mg X.base k Γ) (hr : Room (k + (eqDeep + 1)) X.A) {op : CmpOp} {d1 d2 : D} {p1 p2 : P} {x y : V} {v u : Value} (I : Inv X pins σ H s) (A : AtS C F s0 H) (r1 : RepD C s0 d1 x) (r2 : RepD C s0 d2 y)
    (e1 : peek d1 s0.S = some p1) (e2 : peek d2 s0.S = some p2) (rx : RelV x v) (ry : RelV y u) (h : WantE C W F (RepD C) σ s0 ((Γ.cmp op p1 p2).lift s0.S) Q) : wpAny (model X.prog X.w) X.A (compareOp op v u) (EP X pins σ Q) X.xe s := by
  have k1 := peek_H A r1 e1
  have k2 := peek_H A r2 e2
  have fin : ∀ {b : Bool} {t : Sem Value}, WantE C W F (RepD C) σ s0 (.ok (.p (.bl b)) s0.S) Q → wpAny (model X.prog X.w) X.A t (fun r s' => r = .bool b ∧ Out X pins σ H H s') X.xe s → wpAny (model X.prog X.w) X.A t (EP X pins σ Q) X.xe s := fun hw ht =>
    wpAny_mono ht (fun r s' z => by
      obtain ⟨rfl, z⟩ := z
      exact out_bl A hw z) fun _ _ z => z
  have tst : ∀ {b : Bool}, eqN Γ.feq eqDeep p1 p2 = some b → Tst X pins σ H H X.A s v u b := fun z => eq_ok sp gm eqDeep p1 p2 _ z X.A s H H x y v u sp.hr rfl I (Same.refl _) k1 k2 rx ry
  cases op with
  | Eq =>
    simp only [Tab.cmp, Tab.eq] at h
    cases hb : eqN Γ.feq eqDeep p1 p2 with
    | none =>
      rw [hb] at h
      exact h.elim
    | some b =>
      rw [hb] at h
      exact fin h (tst hb).eq
  | NotEq =>
    simp only [Tab.cmp, Tab.eq] at h
    cases hb : eqN Γ.feq eqDeep p1 p2 with
    | none =>
      rw [hb] at h
      exact h.elim
    | some b =>
      rw [hb] at h
      exact fin h (tst hb).ne
  | Is =>
    simp only [Tab.cmp, isW] at h
    cases hn : isNon p2 with
    | false =>
      rw [hn] at h
      simp only [Bool.false_eq_true, if_false] at h
      cases p1 with
      | bl b1 =>
        cases p2 with
        | bl b2 =>
          simp only [RepP] at k1 k2
          subst k1 k2
          cases rx
          cases ry
          exact fin h (PyProof.Rows.is_bool ⟨by cases b1 <;> cases b2 <;> rfl, H, H, I, Grow.refl (Same.refl _)⟩)
        | _ => exact h.elim
      | _ => exact h.elim
    | true =>
      rw [hn] at h
      simp only [if_true] at h
      have hy := isN_of k2 hn
      refine op_isN pins s σ H x y v u Q I rx ry ⟨hy, ?_⟩
      rw [isNon_ok k1]
      exact want_bl A h
  | IsNot =>
    simp only [Tab.cmp, isW] at h
    cases hn : isNon p2 with
    | false =>
      rw [hn] at h
      simp only [Bool.false_eq_true, if_false] at h
      cases p1 with
      | bl b1 =>
        cases p2 with
        | bl b2 =>
          simp only [RepP] at k1 k2
          subst k1 k2
          cases rx
          cases ry
          exact fin h (PyProof.Rows.isnot_bool ⟨by cases b1 <;> cases b2 <;> rfl, H, H, I, Grow.refl (Same.refl _)⟩)
        | _ => exact h.elim
      | _ => exact h.elim
    | true =>
      rw [hn] at h
      simp only [if_true] at h
      have hy := isN_of k2 hn
      refine op_notN pins s σ H x y v u Q I rx ry ⟨hy, ?_⟩
      rw [isNon_ok k1]
      exact want_bl A h
  | In =>
    simp only [Tab.cmp] at h
    cases hb : Γ.isIn p1 p2 with
    | ok r =>
      rw [hb] at h
      cases r with
      | bl b => exact fin h (in_ok sp gm hb hr I k1 k2 rx ry).1
      | _ => unfold Tab.isIn at hb; (repeat' split at hb) <;> cases hb
    | exc c z => unfold Tab.isIn at hb; (repeat' split at hb) <;> cases hb
    | stuck =>
      rw [hb] at h
      exact h.elim
  | NotIn =>
    simp only [Tab.cmp] at h
    cases hb : Γ.isIn p1 p2 with
    | ok r =>
      rw [hb] at h
      cases r with
      | bl b => exact fin h (in_ok sp gm hb hr I k1 k2 rx ry).2
      | _ => exact h.elim
    | exc c z => unfold Tab.isIn at hb; (repeat' split at hb) <;> cases hb
    | stuck =>
      rw [hb] at h
      exact h.elim
  | Lt =>
    cases p1 with
    | int i =>
      cases p2 with
      | int j =>
        simp only [RepP] at k1 k2
        subst k1 k2
        exact op_lt pins s σ H _ _ v u Q I rx ry ⟨i, j, rfl, rfl, want_bl A h⟩
      | _ => exact h.elim
    | ob c xs =>
      simp only [Tab.cmp] at h
      cases hg : Γ.meth c mLt with
      | none =>
        rw [hg] at h
        exact h.elim
      | some g =>
        rw [hg] at h
        cases p2 with
        | lst ys => exact h.elim
        | _ => exact lt_own sp gm sp.nm.lt.symm rfl hg I A (peek_pure A r1 e1 (fun _ z => nomatch z)) (peek_pure A r2 e2 (fun _ z => nomatch z)) rx ry h
    | _ => exact h.elim
  | LtE =>
    cases p1 with
    | int i =>
      cases p2 with
      | int j =>
        simp only [RepP] at k1 k2
        subst k1 k2
        exact op_le pins s σ H _ _ v u Q I rx ry ⟨i, j, rfl, rfl, want_bl A h⟩
      | _ => exact h.elim
    | ob c xs =>
      simp only [Tab.cmp] at h
      cases hg : Γ.meth c mLe with
      | none =>
        rw [hg] at h
        exact h.elim
      | some g =>
        rw [hg] at h
        cases p2 with
        | lst ys => exact h.elim
        | _ => exact lt_own sp gm sp.nm.le.symm rfl hg I A (peek_pure A r1 e1 (fun _ z => nomatch z)) (peek_pure A r2 e2 (fun _ z => nomatch z)) rx ry h
    | _ => exact h.elim
  | Gt =>
    cases p1 with
    | int i =>
      cases p2 with
      | int j =>
        simp only [RepP] at k1 k2
        subst k1 k2
        exact op_gt pins s σ H _ _ v u Q I rx ry ⟨i, j, rfl, rfl, want_bl A h⟩
      | _ => exact h.elim
    | _ => exact h.elim
  | GtE =>
    cases p1 with
    | int i =>
      cases p2 with
      | int j =>
        simp only [RepP] at k1 k2
        subst k1 k2
        exact op_ge pins s σ H _ _ v u Q I rx ry ⟨i, j, rfl, rfl, want_bl A h⟩
      | _ => exact h.elim
    | _ => exact h.elim
theorem neg_ok (sp : Spot C W X k) (gm : GoodM C X.prog X.w X.K X.mg X.base k Γ) {p1 : P} {x : V} {v : Value} (I : Inv X pins σ H s) (A : AtS C F s0 H) (r1 : RepP C s0.G p1 x) (rx : RelV x v) (h : WantE C W F (RepD C) σ s0 ((Γ.neg p1).lift s0.S) Q) :
    wpAny (model X.prog X.w) X.A (unaryOp .USub v) (EP X pins σ Q) X.xe s := by
  cases p1 with
  | int i =>
    simp only [RepP] at r1
    subst r1
    exact un_neg pins s σ H _ v Q I rx ⟨i, rfl, want_int A h⟩
  | ob c xs =>
    simp only [Tab.neg] at h
    cases hg : Γ.meth c mNeg with
    | none =>
      rw [hg] at h
      exact h.elim
    | some g =>
      rw [hg] at h
      obtain ⟨a, dx, od, rfl, rfl, hc, J⟩ := inst_of I A r1 rx
      obtain ⟨f, M, _, cal⟩ := gm.mts c mNeg g hg
      obtain ⟨mm, hF⟩ := I.fr
      have ma := M.at_
      rw [sp.nm.neg] at ma
      exact PySem.W.ksp_neg hF I.ok.mod.kin J ma M.fn (cal_run sp cal (sp.hr.mono (Nat.le_add_right _ _)) rfl I A (reps1 r1) (.cons rfl .nil) h)
  | _ => exact h.elim
end
end RP
end

section
set_option Elab.async false
set_option linter.all false
set_option maxRecDepth 100000
set_option maxHeartbeats 2000000
/-! Expressions. -/
namespace RP
open PySem L2
/-! ### shapes -/
def notStar : Expr → Bool
  | .Starred _ _ => false
  | _ => true
def plainBase : Expr → Bool
  | .Call (.Name _ _) [] [] _ => false
  | _ => true
theorem star_cons {e : Expr} {es : List Expr} {env : Env} (h : notStar e = true) : starEach (e :: es) env = (false, eval e env) :: starEach es env := by
  cases e <;> first | rfl | cases h
theorem star_none {pos : Pos} {env : Env} : ∀ {es : List Expr}, es.all notStar = true → (backTo pos (starEach es env)).any (·.1) = false
  | [], _ => rfl
  | e :: es, h => by
    simp only [List.all_cons, Bool.and_eq_true] at h
    rw [star_cons h.1]
    have z := star_none (pos := pos) (env := env) h.2
    simpa [backTo] using z
theorem base_plain {e : Expr} {f : Str} {env : Env} {w : Sem Value} (h : plainBase e = true) : attributeBase e f env w = w := by
  cases e with
  | Call g args kws p =>
    cases g with
    | Name id q =>
      cases args with
      | nil =>
        cases kws with
        | nil => cases h
        | cons _ _ => rfl
      | cons _ _ => rfl
    | _ => rfl
  | _ => rfl
def plainTest : Expr → Bool
  | .UnaryOp .Not _ _ => false
  | .BoolOp _ _ _ => false
  | .IfExp _ _ _ _ => false
  | .Compare _ _ _ _ => false
  | _ => true
theorem test_plain {e : Expr} {env : Env} {whole : Sem Value} (h : plainTest e = true) : isTrue e env whole = (do let v ← whole; standAt e.pos; holding [v] (truthy v)) := by
  cases e with
  | UnaryOp op a p => cases op <;> first | rfl | cases h
  | BoolOp _ _ _ => cases h
  | IfExp _ _ _ _ => cases h
  | Compare _ _ _ _ => cases h
  | _ => rfl
def notSet : Expr → Bool
  | .Set _ _ _ => false
  | _ => true
theorem marks_none {op : CmpOp} {e : Expr} (h : notSet e = true) : behindInMarks op e = false := by
  cases e <;> first | rfl | cases h
def notSlice : Expr → Bool
  | .Slice _ _ _ _ => false
  | _ => true
theorem ix_plain {b : Expr} (h : notSlice b = true) : PlainIxT b := by
  intro o i
  cases b <;> first | rfl | cases h
section
variable {C : CC} {W : WX} {X : Cx} {k : Nat} {Γ : Tab} {F : Hp} {a b c : Expr} {fa fb fc : DEnv → Sto → RE D} {pos p : Pos}
/-! ### names and constants -/
theorem x_var {i : Nat} {x : Str} (hN : X.N[i]? = some x) (hv : Vis X.env.scope x) (hd : (x == ("__debug__" : Str)) = false) (hc : (x == ("__classdict__" : Str)) = false) (FT : FldT) : PE X (.Name x pos) (tE C W F (evE Γ FT (.var i))) :=
  PE.imp (pe_var hN hv hd hc) fun σ H Q ⟨δ, s, A, R, h⟩ => by
    simp only [evE] at h
    split at h
    · rename_i d hd
      obtain ⟨v, hv, r⟩ := R.2 i d hd
      exact ⟨v, hv, h.ok A r⟩
    · exact h.elim
theorem x_non {j : Nat} (FT : FldT) : PE X (.Constant .none j pos) (tE C W F (evE Γ FT .non)) := PE.imp pe_non fun σ H Q ⟨δ, s, A, R, h⟩ => h.ok A (by simp only [RepD, RepP])
theorem x_bl {b : Bool} {j : Nat} (FT : FldT) : PE X (.Constant (.bool b) j pos) (tE C W F (evE Γ FT (.bl b))) := PE.imp pe_bl fun σ H Q ⟨δ, s, A, R, h⟩ => h.ok A (by simp only [RepD, RepP])
theorem x_int {i : Int} {j : Nat} (FT : FldT) : PE X (.Constant (.int i) j pos) (tE C W F (evE Γ FT (.int i))) := PE.imp pe_int fun σ H Q ⟨δ, s, A, R, h⟩ => h.ok A (by simp only [RepD, RepP])
theorem x_str {x : Str} {j : Nat} (FT : FldT) : PE X (.Constant (.str x) j pos) (tE C W F (evE Γ FT (.str x))) := PE.imp pe_str fun σ H Q ⟨δ, s, A, R, h⟩ => h.ok A (by simp only [RepD, RepP])
/-! ### two operands -/
theorem two_of {g : D → D → Sto → RE D} {f : Value → Value → Sem Value} (ha : PE X a (tE C W F fa)) (hb : PE X b (tE C W F fb))
    (hf : ∀ (pins : List (Addr × Obj)) (s : Shared) (σ : L2.St) (H : Hp) (s0 : Sit) (d1 d2 : D) (x y : V) (v u : Value) (Q : VK), Inv X pins σ H s → AtS C F s0 H → RepD C s0 d1 x → RepD C s0 d2 y → RelV x v → RelV y u →
      WantE C W F (RepD C) σ s0 (g d1 d2 s0.S) Q → wpAny (model X.prog X.w) X.A (f v u) (EP X pins σ Q) X.xe s)
    {pins : List (Addr × Obj)} {s : Shared} {σ : L2.St} {H : Hp} {Q : VK} (I : Inv X pins σ H s) (h : tE C W F (fun δ S => (fa δ S).bind fun d1 S1 => (fb δ S1).bind fun d2 S2 => g d1 d2 S2) σ H Q) :
    wpAny (model X.prog X.w) X.A (eval a X.env) (fun v s1 => wpAny (model X.prog X.w) X.A (eval b X.env) (fun u s2 => wpAny (model X.prog X.w) X.A (f v u) (EP X pins σ Q) X.xe s2) X.xe s1) X.xe s := by
  obtain ⟨δ, s0, A, R, hw⟩ := h
  refine thn (ha.run pins s σ H _ I (tE.then A R hw)) fun v s1 ⟨x, H1, I1, rx, d1, t1, e1, A1, R1, r1, w1⟩ => ?_
  refine thn (hb.run pins s1 σ H1 _ I1 (tE.then A1 R1 w1)) fun u s2 ⟨y, H2, I2, ry, d2, t2, e2, A2, R2, r2, w2⟩ => ?_
  exact hf pins s2 σ H2 t2 d1 d2 x y v u Q I2 A2 (RepD.mono e2 d1 x r1) r2 rx ry w2
theorem x_bin (sp : Spot C W X k) (gm : GoodM C X.prog X.w X.K X.mg X.base k Γ) {op : Operator} (ha : PE X a (tE C W F fa)) (hb : PE X b (tE C W F fb)) :
    PE X (.BinOp a op b pos) (tE C W F fun δ S => (fa δ S).bind fun d1 S1 => (fb δ S1).bind fun d2 S2 => match peek d1 S2, peek d2 S2 with
      | some x, some y => (Γ.bin op x y).lift S2
      | _, _ => .stuck) := by
  refine ⟨fun pins s σ H Q I h => wpAny_BinOp (two_of ha hb (fun pins s σ H s0 d1 d2 x y v u Q I A r1 r2 rx ry hw => ?_) I h)⟩
  cases e1 : peek d1 s0.S with
  | none =>
    rw [e1] at hw
    exact hw.elim
  | some p1 =>
    cases e2 : peek d2 s0.S with
    | none =>
      rw [e1, e2] at hw
      exact hw.elim
    | some p2 =>
      rw [e1, e2] at hw
      exact bin_ok sp gm I A r1 r2 e1 e2 rx ry hw
/-- the comparison of two values, as the evaluator tells it -/
def cmpD (Γ : Tab) (op : CmpOp) (d1 d2 : D) (S : Sto) : RE D := match peek d1 S, peek d2 S with
  | some x, some y => (Γ.cmp op x y).lift S
  | _, _ => .stuck
theorem cmpD_ok (sp : Spot C W X k) (gm : GoodM C X.prog X.w X.K X.mg X.base k Γ) (hr : Room (k + (eqDeep + 1)) X.A) {op : CmpOp} (pins : List (Addr × Obj)) (s : Shared) (σ : L2.St) (H : Hp) (s0 : Sit) (d1 d2 : D) (x y : V) (v u : Value) (Q : VK) (I : Inv X pins σ H s) (A : AtS C F s0 H)
    (r1 : RepD C s0 d1 x) (r2 : RepD C s0 d2 y) (rx : RelV x v) (ry : RelV y u) (hw : WantE C W F (RepD C) σ s0 (cmpD Γ op d1 d2 s0.S) Q) : wpAny (model X.prog X.w) X.A (compareOp op v u) (EP X pins σ Q) X.xe s := by
  unfold cmpD at hw
  cases e1 : peek d1 s0.S with
  | none =>
    rw [e1] at hw
    exact hw.elim
  | some p1 =>
    cases e2 : peek d2 s0.S with
    | none =>
      rw [e1, e2] at hw
      exact hw.elim
    | some p2 =>
      rw [e1, e2] at hw
      exact cmp_ok sp gm hr I A r1 r2 e1 e2 rx ry hw
theorem x_cmp (sp : Spot C W X k) (gm : GoodM C X.prog X.w X.K X.mg X.base k Γ) (hr : Room (k + (eqDeep + 1)) X.A) {op : CmpOp} (ha : PE X a (tE C W F fa)) (hb : PE X b (tE C W F fb)) (hm : notSet b = true) :
    PE X (.Compare a [op] [b] pos) (tE C W F fun δ S => (fa δ S).bind fun d1 S1 => (fb δ S1).bind fun d2 S2 => cmpD Γ op d1 d2 S2) :=
  ⟨fun pins s σ H Q I h => wpAny_Compare1 (two_of ha hb (cmpD_ok sp gm hr) I h) (marks_none hm)⟩
/-- a test's outcome out of a value's -/
theorem tE_of_tT {f : DEnv → Sto → RE D} {σ : L2.St} {H : Hp} {Q : Bool → Hp → Prop} (h : tT C W F f σ H Q) : tE C W F f σ H fun v H' => ∃ b, v = .bl b ∧ Q b H' := by
  obtain ⟨δ, s, A, R, hw⟩ := h
  refine ⟨δ, s, A, R, Wt.imp hw fun d s' H' _ ex A' hk v r => ?_⟩
  cases d with
  | p x =>
    cases x with
    | bl b =>
      simp only [RepD, RepP] at r
      exact ⟨b, r, hk⟩
    | _ => exact hk.elim
  | _ => exact hk.elim
theorem t_cmp (sp : Spot C W X k) (gm : GoodM C X.prog X.w X.K X.mg X.base k Γ) (hr : Room (k + (eqDeep + 1)) X.A) {op : CmpOp} (ha : PE X a (tE C W F fa)) (hb : PE X b (tE C W F fb)) (hm : notSet b = true) :
    PT X (.Compare a [op] [b] pos) (tT C W F fun δ S => (fa δ S).bind fun d1 S1 => (fb δ S1).bind fun d2 S2 => cmpD Γ op d1 d2 S2) := by
  refine ⟨fun pins s σ H Q I h => wpAny_isTrue_Compare1 (wpAny_mono (two_of ha hb (cmpD_ok sp gm hr) I (tE_of_tT h)) (fun v s1 h1 => wpAny_mono h1 (fun u s2 h2 => wpAny_mono h2 (fun c s3 h3 => ?_) fun _ _ z => z) fun _ _ z => z) fun _ _ z => z) (marks_none hm)⟩
  obtain ⟨z, H3, I3, r3, d, e, q3⟩ := h3
  subst e
  cases r3
  exact wpAny_truthy_bool ⟨H3, I3, q3⟩
theorem t_val {f : DEnv → Sto → RE D} (h : PE X a (tE C W F f)) (he : plainTest a = true) : PT X a (tT C W F f) :=
  PT.imp (pt_val h fun _ => test_plain he) fun σ H Q hq => by
    have z := tE_of_tT hq
    exact z
theorem want_T {s0 : Sit} {σ : L2.St} {H : Hp} {b : Bool} {Q : Bool → Hp → Prop} (A : AtS C F s0 H) (h : WantT C W F σ s0 (.ok (.p (.bl b)) s0.S) Q) : Q b H := h s0 H rfl (ExtS.refl s0) A
/-! ### and, or, not, a if t else b -/
theorem x_not (ha : PE X a (tE C W F fa)) : PE X (.UnaryOp .Not a pos) (tE C W F fun δ S => (fa δ S).bind fun d S1 => match d with
      | .p (.bl b) => .ok (.p (.bl (!b))) S1
      | _ => .stuck) :=
  PE.imp (pe_not ha) fun σ H Q ⟨δ, s, A, R, hw⟩ => ⟨δ, s, A, R, Wt.imp (Wt.bind hw) fun d s' H' _ ex A' hk v r => by
    cases d with
    | p x =>
      cases x with
      | bl b =>
        simp only [RepD, RepP] at r
        exact ⟨b, r, want_bl A' hk⟩
      | _ => exact hk.elim
    | _ => exact hk.elim⟩
theorem t_not (ha : PT X a (tT C W F fa)) : PT X (.UnaryOp .Not a pos) (tT C W F fun δ S => (fa δ S).bind fun d S1 => match d with
      | .p (.bl b) => .ok (.p (.bl (!b))) S1
      | _ => .stuck) :=
  PT.imp (pt_not ha) fun σ H Q ⟨δ, s, A, R, hw⟩ => ⟨δ, s, A, R, Wt.imp (Wt.bind hw) fun d s' H' _ ex A' hk => by
    cases d with
    | p x =>
      cases x with
      | bl b => exact want_T A' hk
      | _ => exact hk.elim
    | _ => exact hk.elim⟩
def andD (fb : DEnv → Sto → RE D) (δ : DEnv) (d : D) (S : Sto) : RE D := match d with
  | .p (.bl true) => fb δ S
  | .p (.bl false) => .ok (.p (.bl false)) S
  | _ => .stuck
def orD (fb : DEnv → Sto → RE D) (δ : DEnv) (d : D) (S : Sto) : RE D := match d with
  | .p (.bl true) => .ok (.p (.bl true)) S
  | .p (.bl false) => fb δ S
  | _ => .stuck
def iteD (fa fb : DEnv → Sto → RE D) (δ : DEnv) (d : D) (S : Sto) : RE D := match d with
  | .p (.bl true) => fa δ S
  | .p (.bl false) => fb δ S
  | _ => .stuck
theorem x_and {rest : List Expr} (ha : PE X a (tE C W F fa)) (hb : PE X (.BoolOp .And (b :: rest) pos) (tE C W F fb)) : PE X (.BoolOp .And (a :: b :: rest) pos) (tE C W F fun δ S => (fa δ S).bind (andD fb δ)) :=
  PE.imp (pe_and ha hb) fun σ H Q ⟨δ, s, A, R, hw⟩ => ⟨δ, s, A, R, Wt.imp (Wt.bind hw) fun d s' H' _ ex A' hk v r => by
    cases d with
    | p x =>
      cases x with
      | bl b =>
        simp only [RepD, RepP] at r
        refine ⟨b, r, ?_⟩
        cases b with
        | true => exact iteT ⟨δ, s', A', R.mono ex, hk⟩
        | false => exact iteF (want_bl A' hk)
      | _ => exact hk.elim
    | _ => exact hk.elim⟩
theorem x_or {rest : List Expr} (ha : PE X a (tE C W F fa)) (hb : PE X (.BoolOp .Or (b :: rest) pos) (tE C W F fb)) : PE X (.BoolOp .Or (a :: b :: rest) pos) (tE C W F fun δ S => (fa δ S).bind (orD fb δ)) :=
  PE.imp (pe_or ha hb) fun σ H Q ⟨δ, s, A, R, hw⟩ => ⟨δ, s, A, R, Wt.imp (Wt.bind hw) fun d s' H' _ ex A' hk v r => by
    cases d with
    | p x =>
      cases x with
      | bl b =>
        simp only [RepD, RepP] at r
        refine ⟨b, r, ?_⟩
        cases b with
        | true => exact iteT (want_bl A' hk)
        | false => exact iteF ⟨δ, s', A', R.mono ex, hk⟩
      | _ => exact hk.elim
    | _ => exact hk.elim⟩
theorem w_and {rest : List Expr} (ha : PT X a (tT C W F fa)) (hb : PW X (.BoolOp .And (b :: rest) pos) (tT C W F fb)) : PW X (.BoolOp .And (a :: b :: rest) pos) (tT C W F fun δ S => (fa δ S).bind (andD fb δ)) :=
  PW.imp (pw_and ha hb) fun σ H Q ⟨δ, s, A, R, hw⟩ => ⟨δ, s, A, R, Wt.imp (Wt.bind hw) fun d s' H' _ ex A' hk => by
    cases d with
    | p x =>
      cases x with
      | bl b =>
        cases b with
        | true => exact iteT ⟨δ, s', A', R.mono ex, hk⟩
        | false => exact iteF (want_T A' hk)
      | _ => exact hk.elim
    | _ => exact hk.elim⟩
theorem w_or {rest : List Expr} (ha : PT X a (tT C W F fa)) (hb : PW X (.BoolOp .Or (b :: rest) pos) (tT C W F fb)) : PW X (.BoolOp .Or (a :: b :: rest) pos) (tT C W F fun δ S => (fa δ S).bind (orD fb δ)) :=
  PW.imp (pw_or ha hb) fun σ H Q ⟨δ, s, A, R, hw⟩ => ⟨δ, s, A, R, Wt.imp (Wt.bind hw) fun d s' H' _ ex A' hk => by
    cases d with
    | p x =>
      cases x with
      | bl b =>
        cases b with
        | true => exact iteT (want_T A' hk)
        | false => exact iteF ⟨δ, s', A', R.mono ex, hk⟩
      | _ => exact hk.elim
    | _ => exact hk.elim⟩
theorem x_ite (hc : PT X c (tT C W F fc)) (ha : PE X a (tE C W F fa)) (hb : PE X b (tE C W F fb)) : PE X (.IfExp c a b pos) (tE C W F fun δ S => (fc δ S).bind (iteD fa fb δ)) :=
  PE.imp (pe_ifExp hc ha hb) fun σ H Q ⟨δ, s, A, R, hw⟩ => ⟨δ, s, A, R, Wt.imp (Wt.bind hw) fun d s' H' _ ex A' hk => by
    cases d with
    | p x =>
      cases x with
      | bl b =>
        cases b with
        | true => exact iteT ⟨δ, s', A', R.mono ex, hk⟩
        | false => exact iteF ⟨δ, s', A', R.mono ex, hk⟩
      | _ => exact hk.elim
    | _ => exact hk.elim⟩
theorem t_ite (hc : PT X c (tT C W F fc)) (ha : PT X a (tT C W F fa)) (hb : PT X b (tT C W F fb)) : PT X (.IfExp c a b pos) (tT C W F fun δ S => (fc δ S).bind (iteD fa fb δ)) := by
  refine ⟨fun pins s σ H Q I h => ?_⟩
  obtain ⟨δ, s0, A, R, hw⟩ := h
  show wpAny _ _ (isTrue c X.env (eval c X.env) >>= fun r => if r then isTrue a X.env (eval a X.env) else isTrue b X.env (eval b X.env)) _ _ _
  refine wpAny_bind (thn (hc.run pins s σ H (fun r H1 => ∃ s1, ExtS s0 s1 ∧ AtS C F s1 H1 ∧ WantT C W F σ s1 (iteD fa fb δ (.p (.bl r)) s1.S) Q) I ⟨δ, s0, A, R, Wt.imp (Wt.bind hw) fun d s' H' _ ex A' hk => ?_⟩) fun r s1 ⟨H1, I1, t1, e1, A1, w1⟩ => ?_)
  · cases d with
    | p x =>
      cases x with
      | bl b => exact ⟨s', ex, A', hk⟩
      | _ => exact hk.elim
    | _ => exact hk.elim
  · cases r with
    | true =>
      rw [if_pos rfl]
      exact ha.run pins s1 σ H1 Q I1 ⟨δ, t1, A1, R.mono e1, w1⟩
    | false =>
      rw [if_neg Bool.false_ne_true]
      exact hb.run pins s1 σ H1 Q I1 ⟨δ, t1, A1, R.mono e1, w1⟩
theorem x_neg (sp : Spot C W X k) (gm : GoodM C X.prog X.w X.K X.mg X.base k Γ) (ha : PE X a (tE C W F fa)) : PE X (.UnaryOp .USub a pos) (tE C W F fun δ S => (fa δ S).bind fun d S1 => match d with
      | .p x => (Γ.neg x).lift S1
      | _ => .stuck) := by
  refine ⟨fun pins s σ H Q I h => ?_⟩
  obtain ⟨δ, s0, A, R, hw⟩ := h
  refine PyProof.Rows.UnaryOp_ (thn (ha.run pins s σ H _ I (tE.then A R hw)) fun v s1 ⟨x, H1, I1, rx, d, t1, e1, A1, R1, r1, w1⟩ => ?_)
  cases d with
  | p z => exact neg_ok sp gm I1 A1 r1 rx w1
  | _ => exact w1.elim
end
end RP
end

section
set_option Elab.async false
set_option linter.all false
set_option maxRecDepth 100000
set_option maxHeartbeats 2000000
/-! Arguments, displays, items, fields, calls. -/
namespace RP
open PySem L2
section
variable {C : CC} {W : WX} {X : Cx} {k : Nat} {Γ : Tab} {F : Hp} {a b c e : Expr} {es : List Expr} {fa fb fe : DEnv → Sto → RE D} {fs : DEnv → Sto → RE (List P)} {fd : DEnv → Sto → RE (List D)} {pos p : Pos}
theorem Wt.pur {β : Type} {s1 : Sit} {σ : L2.St} {H : Hp} {d : D} {v : V} {g : P → Sto → RE β} {K : β → Sit → Hp → Prop} (A : AtS C F s1 H) (r : RepD C s1 d v) (h : Wt C W F σ s1 ((purify d s1.S).bind g) K) :
    ∃ x s2, ExtS s1 s2 ∧ AtS C F s2 H ∧ RepP C s2.G x v ∧ Wt C W F σ s2 (g x s2.S) K := by
  cases e : purify d s1.S with
  | ok x S' =>
    obtain ⟨s2, hS, A2, ex, rx⟩ := purify_ok A r e
    rw [e] at h
    refine ⟨x, s2, ex, A2, rx, Wt.ext ex ?_⟩
    rw [hS]
    exact h
  | exc c x S' => exact (purify_not e).elim
  | stuck =>
    rw [e] at h
    exact h.elim
/-! ### argument lists -/
theorem a_nil : PA X [] (tAP C W F fun _ S => .ok [] S) := PA.imp pa_nil fun σ H Q ⟨δ, s, A, R, h⟩ => h s H rfl (ExtS.refl s) A [] (by simp only [RepPs])
theorem a_cons (he : PE X e (tE C W F fe)) (hs : PA X es (tAP C W F fs)) (hn : notStar e = true) : PA X (e :: es) (tAP C W F fun δ S => (fe δ S).bind fun d S1 => (purify d S1).bind fun x S2 => (fs δ S2).bind fun xs S3 => .ok (x :: xs) S3) :=
  PA.imp (pa_cons he hs (star_cons hn)) fun σ H Q ⟨δ, s, A, R, h⟩ => by
    refine ⟨δ, s, A, R, Wt.imp (Wt.bind h) fun d s1 H1 _ e1 A1 h1 v r1 => ?_⟩
    obtain ⟨x, s2, e2, A2, r2, h2⟩ := Wt.pur A1 r1 h1
    refine ⟨δ, s2, A2, R.mono (e1.trans e2), Wt.imp (Wt.bind h2) fun xs s3 H3 _ e3 A3 h3 vs r3 => ?_⟩
    refine h3 s3 H3 rfl (ExtS.refl s3) A3 (v :: vs) ?_
    simp only [RepPs]
    exact ⟨v, vs, rfl, RepP.mono e3.G x v r2, r3⟩
theorem a_star (hk : C.K = X.K) (he : PE X e (tE C W F fe)) (hs : PA X es (tAP C W F fs)) : PA X (.Starred e p :: es) (tAP C W F fun δ S => (fe δ S).bind fun d S1 => match peek d S1 with
      | some (.lst ys) => (fs δ S1).bind fun xs S2 => .ok (ys ++ xs) S2
      | some (.tup ys) => (fs δ S1).bind fun xs S2 => .ok (ys ++ xs) S2
      | _ => .stuck) :=
  PA.imp (StX.pa_star he hs) fun σ H Q ⟨δ, s, A, R, h⟩ => by
    refine ⟨δ, s, A, R, Wt.imp (Wt.bind h) fun d s1 H1 _ e1 A1 h1 v r1 => ?_⟩
    split at h1
    · rename_i ys hp
      obtain ⟨q, vs, rfl, hq, rq⟩ := peek_lst A1 r1 hp
      refine ⟨q, vs, rfl, Or.inr (SqL.of hq), δ, s1, A1, R.mono e1, Wt.imp (Wt.bind h1) fun xs s3 H3 _ e3 A3 h3 ws r3 => ?_⟩
      exact h3 s3 H3 rfl (ExtS.refl s3) A3 (vs ++ ws) (reps_app ys vs (RepPs.mono e3.G ys vs rq) r3)
    · rename_i ys hp
      have q1 := peek_pure A1 r1 hp (fun _ z => nomatch z)
      simp only [RepP] at q1
      obtain ⟨q, vs, rfl, hq, rq⟩ := q1
      rw [hk] at hq
      refine ⟨q, vs, rfl, Or.inl (sqT_mono A1.sub hq), δ, s1, A1, R.mono e1, Wt.imp (Wt.bind h1) fun xs s3 H3 _ e3 A3 h3 ws r3 => ?_⟩
      exact h3 s3 H3 rfl (ExtS.refl s3) A3 (vs ++ ws) (reps_app ys vs (RepPs.mono e3.G ys vs rq) r3)
    · exact h1.elim
theorem d_nil : PA X [] (tAD C W F fun _ S => .ok [] S) := PA.imp pa_nil fun σ H Q ⟨δ, s, A, R, h⟩ => h s H rfl (ExtS.refl s) A [] rfl
theorem d_cons (he : PE X e (tE C W F fe)) (hs : PA X es (tAD C W F fd)) (hn : notStar e = true) : PA X (e :: es) (tAD C W F fun δ S => (fe δ S).bind fun d S1 => (fd δ S1).bind fun ds S2 => .ok (d :: ds) S2) :=
  PA.imp (pa_cons he hs (star_cons hn)) fun σ H Q ⟨δ, s, A, R, h⟩ => by
    refine ⟨δ, s, A, R, Wt.imp (Wt.bind h) fun d s1 H1 _ e1 A1 h1 v r1 => ?_⟩
    refine ⟨δ, s1, A1, R.mono e1, Wt.imp (Wt.bind h1) fun ds s3 H3 _ e3 A3 h3 vs r3 => ?_⟩
    exact h3 s3 H3 rfl (ExtS.refl s3) A3 (v :: vs) ⟨v, vs, rfl, RepD.mono e3 d v r1, r3⟩
/-! ### displays -/
theorem line_of {n : Nat} (h : lineOk n = true) : n ≤ sizeLine := by
  unfold lineOk at h
  exact Nat.le_trans (of_decide_eq_true h) (Nat.le_trans (by decide) sizeLine_big)
theorem line_lt {n : Nat} (h : lineOk n = true) : n < sizeLine := by
  unfold lineOk at h
  exact Nat.lt_of_le_of_lt (of_decide_eq_true h) (Nat.lt_of_lt_of_le (by decide) sizeLine_big)
theorem x_tup {j : Nat} (hs : PA X es (tAP C W F fs)) : PE X (.Tuple es j pos) (tE C W F fun δ S => (fs δ S).bind fun xs S1 => if lineOk xs.length then .ok (.p (.tup xs)) S1 else .stuck) :=
  PE.imp (pe_tup hs) fun σ H Q ⟨δ, s, A, R, h⟩ => by
    refine ⟨δ, s, A, R, Wt.imp (Wt.bind h) fun xs s1 H1 _ e1 A1 h1 vs r1 => ?_⟩
    split at h1
    · rename_i hl
      rw [RepPs.len xs vs r1] at hl
      exact ⟨line_of hl, fun q hq => want_tup A1 r1 h1 q hq⟩
    · exact h1.elim
theorem x_lst (hs : PA X es (tAP C W F fs)) : PE X (.List es pos) (tE C W F fun δ S => (fs δ S).bind fun xs S1 => if lineOk xs.length then .ok (.p (.lst xs)) S1 else .stuck) :=
  PE.imp (pe_lst hs) fun σ H Q ⟨δ, s, A, R, h⟩ => by
    refine ⟨δ, s, A, R, Wt.imp (Wt.bind h) fun xs s1 H1 _ e1 A1 h1 vs r1 => ?_⟩
    split at h1
    · rename_i hl
      rw [RepPs.len xs vs r1] at hl
      exact ⟨line_of hl, fun q hq => want_lst A1 r1 h1 q hq⟩
    · exact h1.elim
/-- a new list that is live -/
theorem want_new {s0 : Sit} {σ : L2.St} {H : Hp} {Q : VK} {xs : List P} {vs : List V} (A : AtS C F s0 H) (r : RepPs C s0.G xs vs) (h : WantE C W F (RepD C) σ s0 (.ok (.loc s0.S.length) (s0.S ++ [.live (.lst xs)])) Q) (q : Addr) (hq : H q = none) : Q (.ref q) (upd H q (.lst vs)) := by
  obtain ⟨A', ex, rd⟩ := A.alloc (c := .lst xs) (o := .lst vs) hq ⟨vs, rfl, r⟩
  exact h.to A' rfl ex rd
theorem x_newl (hs : PA X es (tAP C W F fs)) : PE X (.List es pos) (tE C W F fun δ S => (fs δ S).bind fun xs S1 => if lineOk xs.length then .ok (.loc S1.length) (S1 ++ [.live (.lst xs)]) else .stuck) :=
  PE.imp (pe_lst hs) fun σ H Q ⟨δ, s, A, R, h⟩ => by
    refine ⟨δ, s, A, R, Wt.imp (Wt.bind h) fun xs s1 H1 _ e1 A1 h1 vs r1 => ?_⟩
    split at h1
    · rename_i hl
      rw [RepPs.len xs vs r1] at hl
      exact ⟨line_of hl, fun q hq => want_new A1 r1 h1 q hq⟩
    · exact h1.elim
theorem RepDs.len {s : Sit} : ∀ (xs : List D) (vs : List V), RepDs C s xs vs → xs.length = vs.length
  | [], vs, h => by
    subst h
    rfl
  | x :: xs, vs, ⟨v, ws, hv, _, h2⟩ => by rw [hv, List.length_cons, List.length_cons, RepDs.len xs ws h2]
/-- a new list of what changes -/
theorem want_newN {s0 : Sit} {σ : L2.St} {H : Hp} {Q : VK} {ds : List D} {vs : List V} (A : AtS C F s0 H) (r : RepDs C s0 ds vs) (h : WantE C W F (RepD C) σ s0 (.ok (.loc s0.S.length) (s0.S ++ [.live (.nst ds)])) Q) (q : Addr) (hq : H q = none) : Q (.ref q) (upd H q (.lst vs)) := by
  obtain ⟨A', ex, rd⟩ := A.alloc (c := .nst ds) (o := .lst vs) hq ⟨vs, rfl, r⟩
  exact h.to A' rfl ex rd
theorem x_newn {fd : DEnv → Sto → RE (List D)} (hs : PA X es (tAD C W F fd)) : PE X (.List es pos) (tE C W F fun δ S => (fd δ S).bind fun ds S1 => if lineOk ds.length then .ok (.loc S1.length) (S1 ++ [.live (.nst ds)]) else .stuck) :=
  PE.imp (pe_lst hs) fun σ H Q ⟨δ, s, A, R, h⟩ => by
    refine ⟨δ, s, A, R, Wt.imp (Wt.bind h) fun ds s1 H1 _ e1 A1 h1 vs r1 => ?_⟩
    split at h1
    · rename_i hl
      rw [RepDs.len ds vs r1] at hl
      exact ⟨line_of hl, fun q hq => want_newN A1 r1 h1 q hq⟩
    · exact h1.elim
/-! ### items -/
theorem repds_at {s : Sit} : ∀ (xs : List D) (vs : List V) (i : Nat) {x : D}, RepDs C s xs vs → xs[i]? = some x → ∃ v, vs[i]? = some v ∧ RepD C s x v
  | [], vs, i, x, h, e => by simp at e
  | y :: xs, vs, 0, x, ⟨v', ws, hv, h1, _⟩, e => by
    cases e
    exact ⟨v', by rw [hv]; rfl, h1⟩
  | y :: xs, vs, i + 1, x, ⟨v', ws, hv, _, h2⟩, e => by
    subst hv
    simp only [List.getElem?_cons_succ] at e ⊢
    exact repds_at xs ws i h2 e
theorem reps_at : ∀ (xs : List P) (vs : List V) (i : Nat) {x : P} {G : Hp}, RepPs C G xs vs → xs[i]? = some x → ∃ v, vs[i]? = some v ∧ RepP C G x v
  | [], vs, i, x, G, h, e => by simp at e
  | y :: xs, vs, 0, x, G, h, e => by
    simp only [RepPs] at h
    obtain ⟨v', ws, rfl, h1, _⟩ := h
    cases e
    exact ⟨v', rfl, h1⟩
  | y :: xs, vs, i + 1, x, G, h, e => by
    simp only [RepPs] at h
    obtain ⟨v', ws, rfl, _, h2⟩ := h
    simp only [List.getElem?_cons_succ] at e ⊢
    exact reps_at xs ws i h2 e
theorem ix_at {α β : Type} {xs : List β} {vs : List α} {i : Int} {x : β} (hl : xs.length = vs.length) (h : ixAt xs i = some x) : ∃ j, ixN vs.length i = some j ∧ xs[j]? = some x := by
  unfold ixAt at h
  split at h
  · rename_i h0
    refine ⟨i.toNat, ?_, h⟩
    have hj := (List.getElem?_eq_some_iff.mp h).1
    unfold ixN
    rw [if_pos h0, if_pos (by omega)]
  · rename_i h0
    split at h
    · cases h
    · rename_i h1
      refine ⟨(i + xs.length).toNat, ?_, h⟩
      unfold ixN
      rw [if_neg h0, if_pos (by omega), ← hl]
theorem look_at : ∀ (ks : List Str) (xs : List P) (vs : List V) (z : Str) {x : P} {G : Hp}, ks.length = vs.length → RepPs C G xs vs → look ks xs z = some x → ∃ v, valV ((ks.map (Sum.inr : Str → Key)).zip vs) (Sum.inr z) = some v ∧ RepP C G x v
  | [], xs, vs, z, x, G, _, _, h => by simp [look] at h
  | k :: ks, [], vs, z, x, G, _, _, h => by simp [look] at h
  | k :: ks, y :: xs, vs, z, x, G, hl, r, h => by
    simp only [RepPs] at r
    obtain ⟨v, ws, rfl, r1, r2⟩ := r
    simp only [look] at h
    simp only [List.map_cons, List.zip_cons_cons]
    by_cases c : k = z
    · rw [if_pos c] at h
      cases h
      exact ⟨v, valV_pos (congrArg Sum.inr c), r1⟩
    · rw [if_neg c] at h
      obtain ⟨w, h1, h2⟩ := look_at ks xs ws z (by simpa using hl) r2 h
      exact ⟨w, by rw [valV_neg (fun e => c (Sum.inr.inj e))]; exact h1, h2⟩
theorem sub_ok {s0 : Sit} {pins : List (Addr × Obj)} {s : Shared} {σ : L2.St} {H : Hp} {Q : VK} (un : X.A.units + 64 < cLine) (hk : C.K = X.K) {value slice : Expr} (hsl : notSlice slice = true) {d1 : D} {p1 p2 : P} {x y : V} {v u : Value} (I : Inv X pins σ H s) (A : AtS C F s0 H) (r1 : RepD C s0 d1 x) (r2 : RepP C s0.G p2 y)
    (e1 : peek d1 s0.S = some p1) (rx : RelV x v) (ry : RelV y u) (h : WantE C W F (RepD C) σ s0 ((subP p1 p2).lift s0.S) Q) : wpAny (model X.prog X.w) X.A (PyProof.Rows.subscriptTail value slice v u) (EP X pins σ Q) X.xe s := by
  cases p2 with
  | int i =>
    simp only [RepP] at r2
    subst r2
    cases p1 with
    | lst xs =>
      obtain ⟨q, vs, rfl, hq, rq⟩ := peek_lst A r1 e1
      simp only [subP] at h
      cases hi : ixAt xs i with
      | none =>
        rw [hi] at h
        exact h.elim
      | some z =>
        rw [hi] at h
        obtain ⟨j, hj, hz⟩ := ix_at (RepPs.len xs vs rq) hi
        obtain ⟨w, hw, rw'⟩ := reps_at xs vs j rq hz
        exact ix_list value slice pins s σ H _ _ v u Q I rx ry ⟨q, vs, i, w, rfl, rfl, SqL.of hq, by unfold atI; rw [hj]; exact hw, h.ok A rw'⟩ (ix_plain hsl _ _)
    | tup xs =>
      have q1 := peek_pure A r1 e1 (fun _ z => nomatch z)
      simp only [RepP] at q1
      obtain ⟨q, vs, rfl, hq, rq⟩ := q1
      simp only [subP] at h
      cases hi : ixAt xs i with
      | none =>
        rw [hi] at h
        exact h.elim
      | some z =>
        rw [hi] at h
        obtain ⟨j, hj, hz⟩ := ix_at (RepPs.len xs vs rq) hi
        obtain ⟨w, hw, rw'⟩ := reps_at xs vs j rq hz
        rw [hk] at hq
        exact ix_tup value slice pins s σ H _ _ v u Q I rx ry ⟨q, vs, i, w, rfl, rfl, sqT_mono A.sub hq, by unfold atI; rw [hj]; exact hw, h.ok A rw'⟩ (ix_plain hsl _ _)
    | scr ns =>
      have q1 := peek_pure A r1 e1 (fun _ z => nomatch z)
      simp only [RepP] at q1
      obtain ⟨q, rfl, hq⟩ := q1
      simp only [subP] at h
      split at h
      · rename_i h0
        cases hi : ns[i.toNat]? with
        | none =>
          rw [hi] at h
          exact h.elim
        | some z =>
          rw [hi] at h
          rw [hk] at hq
          have hj := (List.getElem?_eq_some_iff.mp hi).1
          refine ix_list value slice pins s σ H _ _ v u Q I rx ry ⟨q, ns.map V.int, i, .int z, rfl, rfl, A.sub.seq hq.sq, ?_, want_int A h⟩ (ix_plain hsl _ _)
          unfold atI ixN
          rw [if_pos h0, List.length_map, if_pos (by omega)]
          show (ns.map V.int)[i.toNat]? = _
          rw [List.getElem?_map, hi]
          rfl
      · exact h.elim
    | str z =>
      have q1 := peek_pure A r1 e1 (fun _ z => nomatch z)
      simp only [RepP] at q1
      subst q1
      simp only [subP] at h
      split at h
      · rename_i h0
        obtain ⟨h0, hz⟩ := h0
        cases hi : z.cps[i.toNat]? with
        | none =>
          rw [hi] at h
          exact h.elim
        | some c =>
          rw [hi] at h
          obtain ⟨t, rfl⟩ := rx
          obtain ⟨t', rfl⟩ := ry
          have hj : i.toNat < z.cps.size := (Array.getElem?_eq_some_iff.mp hi).1
          have hz' : z.cps.size ≤ 1000000 := hz
          have h1 : i < z.length := by
            show i < (z.cps.size : Int)
            omega
          have h63 : i < 2 ^ 63 := by
            have : (1000000 : Int) < 2 ^ 63 := by decide
            omega
          have e : seqIndex? i z.length = some i.toNat := PySem.StrLaws.seqIndex_nonneg h0 h1
          exact PyProof.Rows.tail_any (typeIs_str s z t) PySem.F.slot_str_getitem.lookup (PyProof.Rows.getItem_str (c := c) (by
            have e1 : decide (i < -(2 ^ 63 : Int)) = false := decide_eq_false (by omega)
            have e2 : decide (i ≥ 2 ^ 63) = false := decide_eq_false (by omega)
            rw [e1, e2] <;> rfl) (by rw [e]; exact hi) ⟨.str ⟨#[c]⟩, H, I.tok _, ⟨_, rfl⟩, want_str A h⟩) (ix_plain hsl _ _)
      · exact h.elim
    | _ => exact h.elim
  | str z =>
    simp only [RepP] at r2
    subst r2
    cases p1 with
    | dic ks xs =>
      have q1 := peek_pure A r1 e1 (fun _ z => nomatch z)
      simp only [RepP] at q1
      obtain ⟨q, vs, rfl, hq, hl, rq⟩ := q1
      simp only [subP] at h
      cases hi : look ks xs z with
      | none =>
        rw [hi] at h
        exact h.elim
      | some y =>
        rw [hi] at h
        obtain ⟨w, hw, rw'⟩ := look_at ks xs vs z hl rq hi
        obtain rfl : v = Value.ref q := rx
        obtain ⟨_, _, _, _, dd⟩ := dk_of I.hok (A.sub _ _ hq)
        have g : DGet H q (.str z) (some w) := by
          rw [← hw]
          exact DGet.k (k := Sum.inr z) (A.sub _ _ hq)
        exact PyProof.Rows.tail_any dd.typeIs slot_dict_getitem.lookup (d_getItem (by omega) I g ry fun w' s' I' rw2 => ⟨w, H, I', rw2, h.ok A rw'⟩) (ix_plain hsl _ _)
    | _ => exact h.elim
  | _ => exact h.elim
theorem x_sub (un : X.A.units + 64 < cLine) (hk : C.K = X.K) (hsl : notSlice b = true) (ha : PE X a (tE C W F fa)) (hb : PE X b (tE C W F fb)) : PE X (.Subscript a b pos) (tE C W F fun δ S => (fa δ S).bind fun d1 S1 => (fb δ S1).bind fun d2 S2 => match peek d1 S2, d2 with
      | some x, .p y => (subP x y).lift S2
      | _, _ => .stuck) := by
  refine ⟨fun pins s σ H Q I h => PyProof.Rows.Subscript_ (two_of ha hb (fun pins s σ H s0 d1 d2 x y v u Q I A r1 r2 rx ry hw => ?_) I h)⟩
  cases e1 : peek d1 s0.S with
  | none =>
    rw [e1] at hw
    exact hw.elim
  | some p1 =>
    rw [e1] at hw
    cases d2 with
    | p z => exact sub_ok un hk hsl I A r1 r2 e1 rx ry hw
    | _ => exact hw.elim
theorem x_subn (hsl : notSlice b = true) (ha : PE X a (tE C W F fa)) (hb : PE X b (tE C W F fb)) : PE X (.Subscript a b pos) (tE C W F fun δ S => (fa δ S).bind fun d1 S1 => (fb δ S1).bind fun d2 S2 => subN d1 d2 S2) := by
  refine ⟨fun pins s σ H Q I h => PyProof.Rows.Subscript_ (two_of ha hb (fun pins s σ H s0 d1 d2 x y v u Q I A r1 r2 rx ry hw => ?_) I h)⟩
  cases d1 with
  | loc n =>
    cases d2 with
    | p z =>
      cases z with
      | int i =>
        simp only [subN] at hw
        simp only [RepD, RepP] at r2
        subst r2
        split at hw
        · rename_i ds e
          obtain ⟨q, o', k1, k2, k3, k4, vs, ho', rf⟩ := A.live n _ e
          obtain ⟨q', hq', rfl⟩ := r1
          rw [k1] at hq'
          cases hq'
          subst ho'
          cases hi : ixAt ds i with
          | none =>
            rw [hi] at hw
            exact hw.elim
          | some z =>
            rw [hi] at hw
            obtain ⟨j, hj, hz⟩ := ix_at (RepDs.len ds vs rf) hi
            obtain ⟨w, hw', rw'⟩ := repds_at ds vs j rf hz
            exact ix_list a b pins s σ H _ _ v u Q I rx ry ⟨q, vs, i, w, rfl, rfl, SqL.of k4, by unfold atI; rw [hj]; exact hw', hw.ok A rw'⟩ (ix_plain hsl _ _)
        · exact hw.elim
      | _ => exact hw.elim
    | _ => exact hw.elim
  | _ => exact hw.elim
end
end RP
end

section
set_option Elab.async false
set_option linter.all false
set_option maxRecDepth 100000
set_option maxHeartbeats 2000000
/-! Fields, calls, methods. -/
namespace RP
open PySem L2
section
variable {C : CC} {W : WX} {X : Cx} {k : Nat} {Γ : Tab} {F : Hp} {a b c e o : Expr} {es : List Expr} {fa fb fe fo : DEnv → Sto → RE D} {fs : DEnv → Sto → RE (List P)} {fd : DEnv → Sto → RE (List D)} {pos p apos : Pos}
/-! ### fields -/
theorem fld_zip {f : Nat} (NM : Nat → Str) : ∀ (gs : List Nat) (xs : List P) (vs : List V) {y : P} {G : Hp}, (∀ g ∈ gs, NM f = NM g → f = g) → gs.length = vs.length → RepPs C G xs vs → fldIx f gs xs = some y → ∃ v, ((gs.map NM).zip vs).lookup (NM f) = some v ∧ RepP C G y v ∧ f ∈ gs
  | [], _, _, _, _, _, _, _, h => by simp [fldIx] at h
  | g :: gs, [], _, _, _, _, _, _, h => by simp [fldIx] at h
  | g :: gs, x :: xs, vs, y, G, hi, hl, hr, h => by
    simp only [RepPs] at hr
    obtain ⟨v, ws, rfl, h1, h2⟩ := hr
    simp only [fldIx] at h
    by_cases e : g = f
    · subst e
      simp only [beq_self_eq_true, if_true, Option.some.injEq] at h
      subst h
      refine ⟨v, ?_, h1, List.mem_cons_self ..⟩
      simp [List.lookup]
    · have e' : (g == f) = false := by simpa using e
      simp only [e', Bool.false_eq_true, if_false] at h
      obtain ⟨v', hv, hr', hm⟩ := fld_zip NM gs xs ws (fun g' hg => hi g' (List.mem_cons_of_mem _ hg)) (by simpa using hl) h2 h
      refine ⟨v', ?_, hr', List.mem_cons_of_mem _ hm⟩
      have ne : (NM f == NM g) = false := by
        have : ¬ NM f = NM g := fun z => e (hi g (List.mem_cons_self ..) z).symm
        simpa using this
      simp only [List.map_cons, List.zip_cons_cons, List.lookup, ne]
      exact hv
/-- o.f: a field of a thing that never changes, a property, a field of a live one -/
def attrD (Γ : Tab) (FT : FldT) (f : Nat) (d : D) (S : Sto) : RE D := match d with
  | .p (.ob c xs) => match fldIx f (FT c) xs with
    | some y => .ok (.p y) S
    | none => match Γ.prop c f with
      | some g => match g [.ob c xs] with
        | .ok y => .ok (.p y) S
        | _ => .stuck
      | none => .stuck
  | .loc n => match S[n]? with
    | some (.live (.obj c fs)) => match fs.lookup f with
      | some d => .ok d S
      | none => .stuck
    | _ => .stuck
  | _ => .stuck
theorem fld_live {f : Nat} {s0 : Sit} : ∀ (fs : List (Nat × D)) (gs : List (Str × V)) {d : D}, (∀ g ∈ fs.map (·.1), C.NM f = C.NM g → f = g) → RepF C s0 fs gs → fs.lookup f = some d → ∃ v, gs.lookup (C.NM f) = some v ∧ RepD C s0 d v
  | [], _, _, _, _, h => by simp at h
  | (g, d0) :: fs, gs, d, hi, hr, h => by
    obtain ⟨v, ws, rfl, h1, h2⟩ := hr
    by_cases e : f = g
    · subst e
      simp only [List.lookup, beq_self_eq_true, Option.some.injEq] at h
      subst h
      exact ⟨v, by simp [List.lookup], h1⟩
    · have e' : (f == g) = false := by simpa using e
      simp only [List.lookup, e'] at h
      obtain ⟨v', hv, hr'⟩ := fld_live fs ws (fun g' hg => hi g' (List.mem_cons_of_mem _ hg)) h2 h
      refine ⟨v', ?_, hr'⟩
      have ne : (C.NM f == C.NM g) = false := by
        have : ¬ C.NM f = C.NM g := fun z => e (hi g (List.mem_cons_self ..) z)
        simpa using this
      simp only [List.lookup, ne]
      exact hv
theorem x_attr (sp : Spot C W X k) (gm : GoodM C X.prog X.w X.K X.mg X.base k Γ) {f : Nat} {x : Str} (hx : C.NM f = x) (hb : plainBase a = true) (ha : PE X a (tE C W F fa)) : PE X (.Attribute a x pos) (tE C W F fun δ S => (fa δ S).bind (attrD Γ C.FT f)) := by
  subst hx
  refine ⟨fun pins s σ H Q I h => ?_⟩
  obtain ⟨δ, s0, A, R, hw⟩ := h
  refine attr_of (base_plain hb) (thn (ha.run pins s σ H _ I (tE.then A R hw)) fun u s1 ⟨y, H1, I1, ry, d, t1, e1, A1, R1, r1, w1⟩ => ?_)
  cases d with
  | cls c => exact w1.elim
  | loc n =>
    simp only [attrD] at w1
    split at w1
    · rename_i c fs e
      cases hf : fs.lookup f with
      | none =>
        rw [hf] at w1
        exact w1.elim
      | some d =>
        rw [hf] at w1
        obtain ⟨q, o, k1, k2, k3, k4, hc, hm, dx, gs, ho, rf⟩ := A1.live n _ e
        obtain ⟨q', hq', rfl⟩ := r1
        rw [k1] at hq'
        cases hq'
        cases ry
        subst ho
        have cf := sp.cf.one c hc
        rw [sp.hk] at cf
        have hin : f ∈ fs.map (·.1) := by
          obtain ⟨l1, l2, hfs, _⟩ := List.lookup_eq_some_iff.mp hf
          rw [hfs]
          simp
        have na := sp.fl.na c hc f (hm f hin)
        rw [sp.hk] at na
        obtain ⟨v, hv, rv⟩ := fld_live fs gs (fun g hg => sp.fl.inj c hc g (hm g hg) f) rf hf
        exact getattr_ok I1 k4 cf.cl na hv fun u s' I' ru => ⟨v, H1, I', ru, w1.ok A1 rv⟩
    · exact w1.elim
  | p z =>
    cases z with
    | ob c xs =>
      have r1' := r1
      simp only [RepD, RepP] at r1'
      obtain ⟨hc, q, dx, vs, rfl, hq, hl, rr⟩ := r1'
      cases ry
      have cf := sp.cf.one c hc
      rw [sp.hk] at cf
      simp only [attrD] at w1
      cases hf : fldIx f (C.FT c) xs with
      | some y =>
        rw [hf] at w1
        obtain ⟨v, hv, rv, hm⟩ := fld_zip C.NM (C.FT c) xs vs (fun g hg => sp.fl.inj c hc g hg f) hl rr hf
        have na := sp.fl.na c hc f hm
        rw [sp.hk] at na
        exact getattr_ok I1 (A1.sub _ _ hq) cf.cl na hv fun u s' I' ru => ⟨v, H1, I', ru, w1.ok A1 rv⟩
      | none =>
        rw [hf] at w1
        dsimp only at w1
        cases hg : Γ.prop c f with
        | none =>
          rw [hg] at w1
          exact w1.elim
        | some g =>
          rw [hg] at w1
          dsimp only at w1
          cases hv : g [.ob c xs] with
          | exc _ _ =>
            rw [hv] at w1
            exact w1.elim
          | stuck =>
            rw [hv] at w1
            exact w1.elim
          | ok y =>
            rw [hv] at w1
            obtain ⟨pp, ff, hp, cal⟩ := gm.prs c f g hg
            obtain ⟨mA, O, _⟩ := ins_get (P := X.prog) (w := X.w) I1.hok (A1.sub _ _ hq)
            obtain ⟨od, J, _⟩ := O.look
            obtain ⟨rest, hrec⟩ := hp.rec_
            have I2 := I1.tok (s1.toks + 1)
            have hcls : (PySem.W.clsIn X.K (C.CA c)).isSome = true := by
              obtain ⟨cd, hcd, _⟩ := PySem.W.any_some cf.cl.hd
              rw [hcd]
              rfl
            have pg := PySem.W.plainGet_of (cf.cl.get (C.NM f))
            have hsp : spP C g [.ref q] H1 Q (WE (fun _ _ _ _ => False) σ) := by
              refine ⟨t1.G, [.ob c xs], A1.sub, reps1 r1, ?_⟩
              rw [hv]
              intro v G' H' g1 g2 g3 rv
              obtain ⟨A', ex⟩ := A1.call g1 g2 g3
              exact w1 ⟨G', t1.μ, t1.S⟩ H' rfl ex A' v rv
            refine PySem.W.get_bind I1.kIn J pg.1 (PySem.W.findObj_data hcls hp.at_ hp.get hp.tak) pg.2 (wpAny_call (PySem.W.prop_get (s := { s1 with toks := s1.toks + 1 }) I1.kIn hrec ?_))
            refine codeAny_mono (cal X.nox (fun _ _ _ _ => False) X.A.in1 pins _ σ H1 [.ref q] [.ref q] Q rfl rfl rfl rfl rfl (fun _ _ z => by
              obtain ⟨_, _, _, _, _, _, _, _, _, _, _, _, _, _, _, _, z⟩ := z
              exact z.elim) ((sp.hr.mono (by unfold eqDeep; omega) : Room (k + 1) X.A).in1) rfl (I2.wish _) (.cons rfl .nil) hsp) fun r s' hq' => ?_
            cases r with
            | error er => exact hq'.elim
            | ok fl =>
              cases fl with
              | ret u =>
                obtain ⟨v, H', I3, rv, q3⟩ := hq'
                show wpAny _ _ (handedOut u) _ _ _
                rw [PySem.W.handedOut_of (handed_of rv)]
                exact wpAny_pure ⟨v, H', I3.unwish, rv, q3⟩
              | next => exact hq'.elim
              | brk => exact hq'.elim
              | cont => exact hq'.elim
    | _ => exact w1.elim
end
end RP
end

section
set_option Elab.async false
set_option linter.all false
set_option maxRecDepth 100000
set_option maxHeartbeats 2000000
namespace RP
open PySem L2
section
variable {C : CC} {W : WX} {X : Cx} {k : Nat} {Γ : Tab} {F : Hp} {a b c e o : Expr} {es : List Expr} {fa fb fe fo : DEnv → Sto → RE D} {fs : DEnv → Sto → RE (List P)} {fd : DEnv → Sto → RE (List D)} {pos p apos : Pos}
theorem x_call (sp : Spot C W X k) {x : Str} {u : Value} {g : PFn} (hg : Gl X x) (hm : X.mg x = some u) (hk : PySem.W.keepIn X.K u = true) (cal : Cal C X.prog X.w X.K X.mg X.base k u g) (hd : (x == ("__debug__" : Str)) = false) (hs : es.all notStar = true) (ha : PA X es (tAP C W F fs)) :
    PE X (.Call (.Name x p) es [] pos) (tE C W F fun δ S => (fs δ S).bind fun xs S1 => (g xs).lift S1) := by
  refine ⟨fun pins s σ H Q I h => wpAny_Call_Name_kw (ld_glob I hg hm ?_ hd)⟩
  obtain ⟨δ, s0, A, R, hw⟩ := h
  have rd : tAP C W F fs σ H _ := ⟨δ, s0, A, R, Wt.thenA (Rel := fun s => RepPs C s.G) R hw⟩
  have run : ∀ us s1, AP X pins σ (fun vs H1 => ∃ d s1, ExtS s0 s1 ∧ AtS C F s1 H1 ∧ RepS C s1 δ σ ∧ RepPs C s1.G d vs ∧ WantE C W F (RepD C) σ s1 ((g d).lift s1.S) Q) us s1 → wpAny (model X.prog X.w) X.A (call u us) (EP X pins σ Q) X.xe s1 := by
    rintro us s1 ⟨vs, H1, I1, rv, d, t1, e1, A1, R1, r1, w1⟩
    exact cal_run sp cal (sp.hr.mono (Nat.le_add_right _ _)) rfl I1 A1 r1 rv w1
  cases es with
  | nil =>
    refine PySem.W.callWith_K0 I.kIn hk ?_
    have z := ha.run pos pins s σ H _ I rd
    have z' : wpAny (model X.prog X.w) X.A (pure []) (AP X pins σ _) X.xe s := z
    exact wpAny_bind (f := fun us => call u us) (wpAny_mono z' (fun us s1 q => run us s1 q) fun _ _ z => z)
  | cons e es =>
    simp only [List.all_cons, Bool.and_eq_true] at hs
    refine PySem.W.callWith_K (h₀ := X.base) I.ok.mod.kin hk (thn (ha.run pos pins s σ H _ I rd) fun us s1 q => ⟨?_, ?_⟩) (star_cons hs.1) (star_none hs.2)
    · obtain ⟨_, _, I1, _⟩ := q
      exact I1.kIn
    · exact run us s1 q
theorem star_all {env : Env} : ∀ {es : List Expr}, es.all notStar = true → (backTo pos (starEach es env)).all (fun x => !x.1) = true
  | [], _ => rfl
  | e :: es, h => by
    simp only [List.all_cons, Bool.and_eq_true] at h
    rw [star_cons h.1]
    have z := star_all (env := env) (es := es) h.2
    simpa [backTo] using z
theorem meth_form {env : Env} {m : Str} (hb : plainBase o = true) (hs : es.all notStar = true) (hn : es.length < 29) (hl : (apos.endLine == pos.line) = true) :
    eval (.Call (.Attribute o m apos) es [] pos) env = (do
      let ov ← eval o env
      standAt apos.atName
      let (f, first) ← holding [ov] (getMethod ov m (do return (← importBound o env).getD true))
      callWith pos f first (backTo pos (starEach es env)) (backToKw pos (keywordEach [] env))) := by
  have few : methodCallForm (es.length + ([] : List Keyword).length) (backTo pos (starEach es env)) (backToKw pos (keywordEach [] env)) = true := by
    unfold methodCallForm
    rw [star_all hs]
    simp [backToKw, keywordEach]
    omega
  show (attributeBase o m env (eval o env) >>= fun ov => standAt apos.atName >>= fun _ => methodCall o m apos pos env ov (es.length + ([] : List Keyword).length) (backTo pos (starEach es env)) (backToKw pos (keywordEach [] env))) = _
  rw [base_plain hb]
  unfold methodCall calleeOf methodCallPos
  rw [few, hl]
  rfl
theorem zip_none {x : Str} : ∀ (gs : List Str) (vs : List V), (∀ g ∈ gs, g ≠ x) → (gs.zip vs).lookup x = none
  | [], _, _ => rfl
  | g :: gs, [], _ => rfl
  | g :: gs, v :: vs, h => by
    have ne : (x == g) = false := by
      have : ¬ x = g := fun z => h g (List.mem_cons_self ..) z.symm
      simpa using this
    simp only [List.zip_cons_cons, List.lookup, ne]
    exact zip_none gs vs fun g' hg => h g' (List.mem_cons_of_mem _ hg)
theorem x_meth (sp : Spot C W X k) (gm : GoodM C X.prog X.w X.K X.mg X.base k Γ) {m : Nat} {x : Str} (hx : C.NM m = x) (hb : plainBase o = true) (hs : es.all notStar = true) (hn : es.length < 29) (hl : (apos.endLine == pos.line) = true) (ho : PE X o (tE C W F fo)) (ha : PA X es (tAP C W F fs)) :
    PE X (.Call (.Attribute o x apos) es [] pos) (tE C W F fun δ S => (fo δ S).bind fun d S1 => methG Γ m d (fs δ) S1) := by
  subst hx
  refine ⟨fun pins s σ H Q I h => ?_⟩
  obtain ⟨δ, s0, A, R, hw⟩ := h
  refine PySem.W.methodCall_KW (thn (ho.run pins s σ H _ I (tE.then A R hw)) fun u s1 ⟨y, H1, I1, ry, d, t1, e1, A1, R1, r1, w1⟩ => ?_) (meth_form hb hs hn hl)
  cases d with
  | p z =>
    cases z with
    | ob c ys =>
      have r1' := r1
      simp only [RepD, RepP] at r1'
      obtain ⟨hc, q, dx, vs, rfl, hq, hlen, rr⟩ := r1'
      cases ry
      have cf := sp.cf.one c hc
      rw [sp.hk] at cf
      cases hg : Γ.meth c m with
      | none =>
        simp only [methG, hg] at w1
        exact w1.elim
      | some g =>
        simp only [methG, hg] at w1
        have rd : tAP C W F fs σ H1 _ := ⟨δ, t1, A1, R1, Wt.thenA (Rel := fun s => RepPs C s.G) R1 w1⟩
        obtain ⟨f, M, nf, cal⟩ := gm.mts c m g hg
        have ln : ((((C.FT c).map C.NM).zip vs)).lookup (C.NM m) = none := zip_none _ vs fun g' hg' => by
          obtain ⟨j, hj, rfl⟩ := List.mem_map.mp hg'
          exact nf j hj
        refine getmeth_ok I1 (A1.sub _ _ hq) cf.cl M ln ?_
        have run : ∀ us s2, AP X pins σ (fun ws H2 => ∃ d s2, ExtS t1 s2 ∧ AtS C F s2 H2 ∧ RepS C s2 δ σ ∧ RepPs C s2.G d ws ∧ WantE C W F (RepD C) σ s2 ((g (.ob c ys :: d)).lift s2.S) Q) us s2 → wpAny (model X.prog X.w) X.A (call (.ref f) (.ref q :: us)) (EP X pins σ Q) X.xe s2 := by
          rintro us s2 ⟨ws, H2, I2, rv, d, t2, e2, A2, R2, r2, w2⟩
          refine cal_run sp cal (sp.hr.mono (Nat.le_add_right _ _)) rfl I2 A2 (xs := .ob c ys :: d) (vs := .ref q :: ws) ?_ (.cons rfl rv) w2
          simp only [RepPs]
          exact ⟨.ref q, ws, rfl, RepP.mono e2.G _ _ r1, r2⟩
        cases es with
        | nil =>
          refine PySem.W.callWith_K0 (first := [.ref q]) I1.kIn M.kp ?_
          have z := ha.run pos pins s1 σ H1 _ I1 rd
          have z' : wpAny (model X.prog X.w) X.A (pure []) (AP X pins σ _) X.xe s1 := z
          exact wpAny_bind (f := fun us => call (.ref f) (.ref q :: us)) (wpAny_mono z' (fun us s2 q => run us s2 q) fun _ _ z => z)
        | cons e es =>
          simp only [List.all_cons, Bool.and_eq_true] at hs
          refine PySem.W.callWith_K (first := [.ref q]) (h₀ := X.base) I.ok.mod.kin M.kp (thn (ha.run pos pins s1 σ H1 _ I1 rd) fun us s2 qq => ⟨?_, ?_⟩) (star_cons hs.1) (star_none hs.2)
          · obtain ⟨_, _, I2, _⟩ := qq
            exact I2.kIn
          · exact run us s2 qq
    | _ => exact w1.elim
  | _ => exact w1.elim
end
end RP
end

section
set_option Elab.async false
set_option linter.all false
set_option maxRecDepth 100000
set_option maxHeartbeats 2000000
/-! Lists that are changed: append, clear. -/
namespace RP
open PySem L2
section
variable {C : CC} {W : WX} {X : Cx} {k : Nat} {Γ : Tab} {F : Hp} {a b c e o : Expr} {es : List Expr} {fa fb fe fo : DEnv → Sto → RE D} {fs : DEnv → Sto → RE (List P)} {fd : DEnv → Sto → RE (List D)} {pos p apos : Pos}
theorem few_of {env : Env} (hs : es.all notStar = true) (hn : es.length < 29) : ((backTo pos (starEach es env)).all (fun x => !x.1) && (backToKw pos (keywordEach [] env)).all (fun x => x.1.isSome)
      && decide (es.length + ([] : List Keyword).length + (if ([] : List Keyword).isEmpty then 0 else 1) < 30)) = true := by
  rw [star_all hs]
  simp [backToKw, keywordEach]
  omega
theorem app_ok {s0 : Sit} {σ : L2.St} {H : Hp} {Q : VK} {d : D} {x : P} {u v : V} (A : AtS C F s0 H) (r : RepD C s0 d u) (rx : RepP C s0.G x v) (h : WantE C W F (RepD C) σ s0 (appG d x s0.S) Q) : rAppend u [v] H Q := by
  cases d with
  | loc n =>
    simp only [appG] at h
    split at h
    · rename_i ys e
      split at h
      · rename_i hl
        obtain ⟨q, o, k1, k2, k3, k4, vs, ho, rf⟩ := A.live n _ e
        obtain ⟨q', hq', rfl⟩ := r
        rw [k1] at hq'
        cases hq'
        subst ho
        have r' : RepC C s0 (.lst (ys ++ [x])) (.lst (vs ++ [v])) := ⟨_, rfl, reps_app ys vs rf (by simp only [RepPs]; exact ⟨v, [], rfl, rx, rfl⟩)⟩
        obtain ⟨A', ex⟩ := A.write e k1 r'
        rw [RepPs.len ys vs rf] at hl
        exact ⟨q, vs, v, rfl, rfl, k4, line_lt hl, h.to A' rfl ex (by simp only [RepD, RepP])⟩
      · exact h.elim
    · exact h.elim
  | _ => exact h.elim
theorem x_app (hk : C.K = X.K) (hb : plainBase o = true) (hn : notStar e = true) (hl : (apos.endLine == pos.line) = true) (ho : PE X o (tE C W F fo)) (he : PE X e (tE C W F fe)) :
    PE X (.Call (.Attribute o "append" apos) [e] [] pos) (tE C W F fun δ S => (fo δ S).bind fun d S1 => match peek d S1 with
      | some (.lst _) => (fe δ S1).bind fun d2 S2 => (purify d2 S2).bind fun x S3 => appG d x S3
      | _ => .stuck) :=
  PE.imp (pe_bm PySem.F.plainAttrs_list PySem.F.slot_list_append PySem.F.type_list_append mt_append ho (pa_cons he pa_nil (star_cons hn)) (base_plain hb) (few_of (by simp only [List.all_cons, List.all_nil, Bool.and_true]; exact hn) (by simp)) hl (star_cons hn) rfl) fun σ H Q ⟨δ, s, A, R, h⟩ => by
    refine ⟨δ, s, A, R, Wt.imp (Wt.bind h) fun d s1 H1 _ e1 A1 h1 v r1 => ?_⟩
    split at h1
    · rename_i ys hp
      obtain ⟨q, vs, rfl, hq, rq⟩ := peek_lst A1 r1 hp
      refine ⟨Or.inl ⟨rfl, vs, SqL.of hq⟩, ?_⟩
      refine ⟨δ, s1, A1, R.mono e1, Wt.imp (Wt.bind h1) fun d2 s2 H2 _ e2 A2 h2 w r2 => ?_⟩
      obtain ⟨x, s3, e3, A3, r3, h3⟩ := Wt.pur A2 r2 h2
      exact app_ok A3 (RepD.mono (e2.trans e3) d _ r1) r3 h3
    · exact h1.elim
theorem x_clr (hb : plainBase o = true) (hl : (apos.endLine == pos.line) = true) (ho : PE X o (tE C W F fo)) :
    PE X (.Call (.Attribute o "clear" apos) [] [] pos) (tE C W F fun δ S => (fo δ S).bind fun d S1 => clrG d S1) :=
  PE.imp (pe_bm0 PySem.F.plainAttrs_list PySem.F.slot_list_clear PySem.F.type_list_clear mt_clear ho (base_plain hb) hl) fun σ H Q ⟨δ, s, A, R, h⟩ => by
    refine ⟨δ, s, A, R, Wt.imp (Wt.bind h) fun d s1 H1 _ e1 A1 h1 v r1 => ?_⟩
    cases d with
    | loc n =>
      simp only [clrG] at h1
      split at h1
      · rename_i ys e
        obtain ⟨q, o, k1, k2, k3, k4, vs, ho, rf⟩ := A1.live n _ e
        obtain ⟨q', hq', rfl⟩ := r1
        rw [k1] at hq'
        cases hq'
        subst ho
        have r' : RepC C s1 (.lst []) (.lst []) := ⟨[], rfl, by simp only [RepPs]⟩
        obtain ⟨A', ex⟩ := A1.write e k1 r'
        exact ⟨Or.inl ⟨rfl, vs, SqL.of k4⟩, q, vs, rfl, rfl, k4, h1.to A' rfl ex (by simp only [RepD, RepP])⟩
      · rename_i e
        obtain ⟨q, k1, rq⟩ := A1.fzn n _ e
        obtain ⟨q', hq', rfl⟩ := r1
        rw [k1] at hq'
        cases hq'
        simp only [RepP] at rq
        obtain ⟨b, vs, hb', hg, hv⟩ := rq
        cases hb'
        simp only [RepPs] at hv
        subst hv
        have k4 : H1 q = some (.lst []) := A1.sub _ _ hg
        have eu : upd H1 q (.lst []) = H1 := by
          funext x
          unfold upd
          split
          · rename_i z
            rw [z, k4]
          · rfl
        refine ⟨Or.inl ⟨rfl, [], SqL.of k4⟩, q, [], rfl, rfl, k4, ?_⟩
        have A' : AtS C F s1 (upd H1 q (.lst [])) := by
          rw [eu]
          exact A1
        exact h1.to A' rfl (ExtS.refl s1) (by simp only [RepD, RepP])
      · exact h1.elim
    | _ => exact h1.elim
end
end RP
end

section
set_option Elab.async false
set_option linter.all false
set_option maxRecDepth 100000
set_option maxHeartbeats 2000000
/-! Built-in functions of data. -/
namespace RP
open PySem L2
def tyCV (C : CC) : Ty → V
  | .int => .ty "int"
  | .bool => .ty "bool"
  | .str => .ty "str"
  | .tup => .ty "tuple"
  | .lst => .ty "list"
  | .own c => .ref (C.CA c)
theorem tyC_cls (C : CC) (t : Ty) : ClsV (tyCV C t) (tyC C t) := by
  cases t <;> constructor
def pKn (C : CC) : P → Bool
  | .ob c _ => C.kn c
  | _ => true
/-- what isinstance answers -/
def KitF (C : CC) (t : Ty) : Prop := ∀ x b, pKn C x = true → isiP t x = some b → PySem.W.kitOne C.K (tyP C x) (tyC C t) = some b
section
variable {C : CC} {W : WX} {X : Cx} {k : Nat} {Γ : Tab} {F : Hp} {a b c e o : Expr} {es : List Expr} {fa fb fe fo : DEnv → Sto → RE D} {pos p apos : Pos}
theorem rep_kn {G : Hp} : ∀ {x : P} {v : V}, RepP C G x v → pKn C x = true := by
  intro x v h
  cases x with
  | ob c xs =>
    simp only [RepP] at h
    exact h.1
  | _ => rfl
theorem x_isi (sp : Spot C W X k) {t : Ty} (kf : KitF C t) (hg : Gl X "isinstance") (hm : X.mg "isinstance" = none) (hn : notStar a = true) (hb : PE X b (tC (tyCV C t))) (hnb : notStar b = true) (ha : PE X a (tE C W F fa)) :
    PE X (.Call (.Name "isinstance" p) [a, b] [] pos) (tE C W F fun δ S => (fa δ S).bind fun d S1 => match d with
      | .p x => match isiP t x with
        | some b => .ok (.p (.bl b)) S1
        | none => .stuck
      | _ => .stuck) :=
  PE.imp (pe_callB call_isi hg hm rfl (pa_cons ha (pa_cons hb pa_nil (star_cons hnb)) (star_cons hn)) (he := star_cons hn) (hpl := star_none (by simp only [List.all_cons, List.all_nil, Bool.and_true]; exact hnb))) fun σ H Q ⟨δ, s, A, R, h⟩ => by
    refine ⟨δ, s, A, R, Wt.imp (Wt.bind h) fun d s1 H1 _ e1 A1 h1 v r1 => ?_⟩
    cases d with
    | p x =>
      dsimp only at h1
      cases hi : isiP t x with
      | none =>
        rw [hi] at h1
        exact h1.elim
      | some b =>
        rw [hi] at h1
        have kt := kf x b (rep_kn r1) hi
        rw [sp.hk] at kt
        exact ⟨v, tyCV C t, tyP C x, tyC C t, b, rfl, tyC_cls C t, tyX_of sp.cf sp.hk A1.sub r1 (by cases x <;> first | rfl | (cases hi)), kt, h1.ok A1 (by simp only [RepD, RepP])⟩
    | _ => exact h1.elim
theorem b1_seq {s0 : Sit} {H : Hp} {d : D} {v : V} (hk : C.K = X.K) (A : AtS C F s0 H) (r : RepD C s0 d v) {x : P} (e : peek d s0.S = some x) {ys : List P} (hx : x = .lst ys ∨ x = .tup ys) : ∃ q vs, v = .ref q ∧ (SqL X.K H q vs ∨ SqT X.K H q vs) ∧ RepPs C s0.G ys vs := by
  rcases hx with rfl | rfl
  · obtain ⟨q, vs, rfl, hq, rq⟩ := peek_lst A r e
    exact ⟨q, vs, rfl, Or.inl (SqL.of hq), rq⟩
  · have q1 := peek_pure A r e (fun _ z => nomatch z)
    simp only [RepP] at q1
    obtain ⟨q, vs, rfl, hq, rq⟩ := q1
    rw [hk] at hq
    exact ⟨q, vs, rfl, Or.inr (sqT_mono A.sub hq), rq⟩
theorem len_ok {s0 : Sit} {σ : L2.St} {H : Hp} {Q : VK} {d : D} {v : V} {x : P} (hk : C.K = X.K) (A : AtS C F s0 H) (r : RepD C s0 d v) (e : peek d s0.S = some x) (h : WantE C W F (RepD C) σ s0 ((b1P .len x).lift s0.S) Q) :
    (∃ p ys, [v] = [V.ref p] ∧ (SqL X.K H p ys ∨ SqT X.K H p ys) ∧ Q (.int ys.length) H) ∨ ∃ z, [v] = [V.str z] ∧ z.length ≤ sizeLine ∧ Q (.int z.length) H := by
  have go : ∀ {ys : List P}, x = .lst ys ∨ x = .tup ys → Q (.int ys.length) H → ∃ p ys, [v] = [V.ref p] ∧ (SqL X.K H p ys ∨ SqT X.K H p ys) ∧ Q (.int ys.length) H := fun {ys} hx q => by
    obtain ⟨q', vs, rfl, hq, rq⟩ := b1_seq hk A r e hx
    exact ⟨q', vs, rfl, hq, by rw [← RepPs.len _ _ rq]; exact q⟩
  cases x with
  | lst ys => exact Or.inl (go (Or.inl rfl) (want_int A h))
  | tup ys => exact Or.inl (go (Or.inr rfl) (want_int A h))
  | scr ns =>
    have q1 := peek_pure A r e (fun _ z => nomatch z)
    simp only [RepP] at q1
    obtain ⟨q, rfl, hq⟩ := q1
    rw [hk] at hq
    exact Or.inl ⟨q, ns.map V.int, rfl, Or.inl (A.sub.seq hq.sq), by rw [List.length_map]; exact want_int A h⟩
  | str z =>
    have q1 := peek_pure A r e (fun _ z => nomatch z)
    simp only [RepP] at q1
    subst q1
    simp only [b1P] at h
    split at h
    · rename_i hl
      exact Or.inr ⟨z, rfl, line_of hl, want_int A h⟩
    · exact h.elim
  | _ => exact h.elim
theorem tup1_ok {s0 : Sit} {σ : L2.St} {H : Hp} {Q : VK} {d : D} {v : V} {x : P} (hk : C.K = X.K) (A : AtS C F s0 H) (r : RepD C s0 d v) (e : peek d s0.S = some x) (h : WantE C W F (RepD C) σ s0 ((b1P .tuple x).lift s0.S) Q) :
    ∃ p ys, [v] = [V.ref p] ∧ ((SqL X.K H p ys ∧ ∀ l, H l = none → Q (.ref l) (upd H l (.tup ys))) ∨ (SqT X.K H p ys ∧ Q (.ref p) H)) := by
  cases x with
  | lst ys =>
    obtain ⟨q, vs, rfl, hq, rq⟩ := peek_lst A r e
    exact ⟨q, vs, rfl, Or.inl ⟨SqL.of hq, fun l hl => want_tup A rq h l hl⟩⟩
  | tup ys =>
    have q1 := peek_pure A r e (fun _ z => nomatch z)
    have q2 := q1
    simp only [RepP] at q1
    obtain ⟨q, vs, rfl, hq, rq⟩ := q1
    rw [hk] at hq
    exact ⟨q, vs, rfl, Or.inr ⟨sqT_mono A.sub hq, h.ok A q2⟩⟩
  | _ => exact h.elim
def b1N : B1 → Str
  | .len => "len"
  | .int => "int"
  | .abs => "abs"
  | .list => "list"
  | .tuple => "tuple"
  | .all => "all"
  | .sum => "sum"
  | .rpr => "repr"
  | .str => "str"
theorem bols_ok {G : Hp} : ∀ {xs : List P} {vs : List V} {bs : List Bool}, bolsOf xs = some bs → RepPs C G xs vs → vs = bs.map V.bl
  | [], vs, bs, h, r => by
    simp only [bolsOf, Option.some.injEq] at h
    simp only [RepPs] at r
    subst h
    subst r
    rfl
  | x :: xs, vs, bs, h, r => by
    cases x with
    | bl b =>
      simp only [bolsOf, Option.map_eq_some_iff] at h
      obtain ⟨l, h1, rfl⟩ := h
      simp only [RepPs, RepP] at r
      obtain ⟨v, ws, rfl, rfl, r2⟩ := r
      rw [List.map_cons, bols_ok h1 r2]
    | _ => cases h
theorem ints_ok {G : Hp} : ∀ {xs : List P} {vs : List V} {bs : List Int}, intsOf xs = some bs → RepPs C G xs vs → vs = bs.map V.int
  | [], vs, bs, h, r => by
    simp only [intsOf, Option.some.injEq] at h
    simp only [RepPs] at r
    subst h
    subst r
    rfl
  | x :: xs, vs, bs, h, r => by
    cases x with
    | int b =>
      simp only [intsOf, Option.map_eq_some_iff] at h
      obtain ⟨l, h1, rfl⟩ := h
      simp only [RepPs, RepP] at r
      obtain ⟨v, ws, rfl, rfl, r2⟩ := r
      rw [List.map_cons, ints_ok h1 r2]
    | _ => cases h
/-! ### repr -/
theorem rpr_str {y w : P} (h : rprP y = .ok w) : ∃ z, w = .str z := by
  have sh : ∀ o : Option PyData, shwP o = .ok w → ∃ z, w = .str z := fun o h => by
    cases o with
    | none => cases h
    | some d =>
      simp only [shwP] at h
      split at h
      · cases h
        exact ⟨_, rfl⟩
      · cases h
  cases y with
  | tup xs => exact sh _ h
  | lst xs => exact sh _ h
  | dic ks xs =>
    simp only [rprP] at h
    split at h
    · exact sh _ h
    · cases h
  | _ => simp only [rprP] at h <;> (try split at h) <;> cases h <;> exact ⟨_, rfl⟩
section
variable {pins : List (Addr × Obj)} {σ : L2.St} {G H : Hp} {s : Shared}
mutual
theorem reads0 (hk : C.K = X.K) (e : Same G H) (I : Inv X pins σ H s) : ∀ (x : P) (v : V) (u : Value) (d : PyData), RepP C G x v → RelV v u → data0 x = some d → ∃ as, Reads s.heap u d as ∧ d.hasDict = false
  | .non, v, u, d, r, rv, h => by
    simp only [RepP] at r
    subst r
    cases rv
    simp only [data0, Option.some.injEq] at h
    subst h
    exact ⟨_, .none, by simp only [PyData.hasDict]⟩
  | .bl b, v, u, d, r, rv, h => by
    simp only [RepP] at r
    subst r
    cases rv
    simp only [data0, Option.some.injEq] at h
    subst h
    exact ⟨_, .bool b, by simp only [PyData.hasDict]⟩
  | .int b, v, u, d, r, rv, h => by
    simp only [RepP] at r
    subst r
    obtain ⟨t, rfl⟩ := rv
    simp only [data0, Option.some.injEq] at h
    subst h
    exact ⟨_, .int b t, by simp only [PyData.hasDict]⟩
  | .str b, v, u, d, r, rv, h => by
    simp only [RepP] at r
    subst r
    obtain ⟨t, rfl⟩ := rv
    simp only [data0, Option.some.injEq] at h
    subst h
    exact ⟨_, .str b t, by simp only [PyData.hasDict]⟩
  | .tup xs, v, u, d, r, rv, h => by
    simp only [RepP] at r
    obtain ⟨a, vs, rfl, h1, r1⟩ := r
    cases rv
    rw [hk] at h1
    simp only [data0, Option.map_eq_some_iff] at h
    obtain ⟨ds, h2, rfl⟩ := h
    obtain ⟨its, rs, ⟨o, q1, q2, n, q3⟩, _⟩ := I.tuple (sqT_mono e h1)
    obtain ⟨as, k1, k2⟩ := readsL hk e I xs vs its ds r1 rs h2
    exact ⟨as, .tuple q1 q2 q3 k1, by simp only [PyData.hasDict]; exact k2⟩
  | .lst xs, v, u, d, r, rv, h => by
    simp only [RepP] at r
    obtain ⟨a, vs, rfl, h1, r1⟩ := r
    cases rv
    simp only [data0, Option.map_eq_some_iff] at h
    obtain ⟨ds, h2, rfl⟩ := h
    obtain ⟨its, rs, ⟨o, n, q1, q2, q3, q4⟩, _⟩ := I.list (SqL.of (e _ _ h1))
    obtain ⟨as, k1, k2⟩ := readsL hk e I xs vs its ds r1 rs h2
    exact ⟨a :: as, .list q1 q2 q4 k1, by simp only [PyData.hasDict]; exact k2⟩
  | .ob _ _, v, u, d, r, rv, h => by simp only [data0] at h; cases h
  | .scr _, v, u, d, r, rv, h => by simp only [data0] at h; cases h
  | .dic _ _, v, u, d, r, rv, h => by simp only [data0] at h; cases h
  | .exn _ _, v, u, d, r, rv, h => by simp only [data0] at h; cases h
theorem readsL (hk : C.K = X.K) (e : Same G H) (I : Inv X pins σ H s) : ∀ (xs : List P) (vs : List V) (us : List Value) (ds : List PyData), RepPs C G xs vs → Vals vs us → dataL xs = some ds → ∃ as, ReadsAll s.heap us ds as ∧ PyData.hasDictAll ds = false
  | [], vs, us, ds, r, rv, h => by
    simp only [RepPs] at r
    subst r
    cases rv
    simp only [dataL, Option.some.injEq] at h
    subst h
    exact ⟨[], .nil, by simp only [PyData.hasDictAll]⟩
  | x :: xs, vs, us, ds, r, rv, h => by
    simp only [RepPs] at r
    obtain ⟨v, ws, rfl, r1, r2⟩ := r
    cases rv with
    | cons rv1 rv2 =>
      simp only [dataL] at h
      split at h
      · rename_i d es h1 h2
        cases h
        obtain ⟨as, k1, k2⟩ := reads0 hk e I x v _ d r1 rv1 h1
        obtain ⟨bs, k3, k4⟩ := readsL hk e I xs ws _ es r2 rv2 h2
        exact ⟨as ++ bs, .cons k1 k3, by simp only [PyData.hasDictAll, k2, k4, Bool.or_self]⟩
      · cases h
end
end
section
variable {pins : List (Addr × Obj)} {σ : L2.St} {G H : Hp} {s : Shared}
theorem flat_reads {h : Heap} {x : P} {v : V} {u : Value} {d : PyData} (f : flatP x = true) (r : RepP C G x v) (rv : RelV v u) (hd : data0 x = some d) : Reads h u d [] := by
  cases x with
  | non =>
    simp only [RepP] at r
    subst r
    cases rv
    simp only [data0, Option.some.injEq] at hd
    subst hd
    exact .none
  | bl b =>
    simp only [RepP] at r
    subst r
    cases rv
    simp only [data0, Option.some.injEq] at hd
    subst hd
    exact .bool b
  | int b =>
    simp only [RepP] at r
    subst r
    obtain ⟨t, rfl⟩ := rv
    simp only [data0, Option.some.injEq] at hd
    subst hd
    exact .int b t
  | str b =>
    simp only [RepP] at r
    subst r
    obtain ⟨t, rfl⟩ := rv
    simp only [data0, Option.some.injEq] at hd
    subst hd
    exact .str b t
  | _ => cases f
theorem dic_reads {Pg : Program} {w : World} {h : Heap} : ∀ (ks : List Str) (xs : List P) (vs : List V) (ws : List (Key × Value)) (es : List DictEntry) (ds : List PyData), ks.length = vs.length → RepPs C G xs vs → xs.all flatP = true → dataL xs = some ds → KV ((ks.map Sum.inr).zip vs) ws → Pairs (mixKind Pg w) es ws →
    ReadsAll h (es.map (·.key)) (((ks.map PyData.str).zip ds).map (·.1)) [] ∧ ReadsAll h (es.map (·.val)) (((ks.map PyData.str).zip ds).map (·.2)) []
  | [], xs, [], ws, es, ds, _, r, f, hd, kv, pr => by
    unfold KV at kv
    cases kv
    cases pr
    exact ⟨.nil, .nil⟩
  | k :: ks, [], v :: vs, ws, es, ds, hl, r, f, hd, kv, pr => by
    simp only [RepPs] at r
    cases r
  | k :: ks, x :: xs, v :: vs, ws, es, ds, hl, r, f, hd, kv, pr => by
    simp only [RepPs] at r
    obtain ⟨v', vs', e, r1, r2⟩ := r
    cases e
    simp only [List.all_cons, Bool.and_eq_true] at f
    simp only [dataL] at hd
    split at hd
    · rename_i d ds' d1 d2
      cases hd
      unfold KV at kv
      cases kv with
      | @cons p q ps qs hq t =>
        cases pr with
        | @cons e _ es _ hk hv pr =>
          obtain ⟨ih1, ih2⟩ := dic_reads ks xs vs _ _ ds' (by simpa using hl) r2 f.2 d2 (by unfold KV; exact t) pr
          have kq : q.1 = Sum.inr k := hq.1.symm
          rw [kq] at hk
          have kx : ∃ t, e.key = Value.str k t := by
            rcases keyIs_shape (k := Sum.inr k) (v := e.key) hk with ⟨i, t, z, _⟩ | ⟨x', t, z, z2⟩
            · cases z
            · cases z
              exact ⟨t, z2⟩
          obtain ⟨t', kx⟩ := kx
          simp only [List.map_cons, List.zip_cons_cons]
          refine ⟨?_, ?_⟩
          · rw [kx]
            exact .cons (.str k t') ih1
          · rw [hv]
            exact .cons (flat_reads f.1 r1 hq.2 d1) ih2
    · cases hd
  | [], xs, v :: vs, ws, es, ds, hl, _, _, _, _, _ => by cases hl
  | k :: ks, xs, [], ws, es, ds, hl, _, _, _, _, _ => by cases hl
theorem reads_dic (hk : C.K = X.K) (e : Same G H) (I : Inv X pins σ H s) {ks : List Str} {xs : List P} {a : Addr} {vs : List V} {ds : List PyData} (hf : xs.all flatP = true) (h1 : G a = some (.dK ((ks.map Sum.inr).zip vs))) (hl : ks.length = vs.length) (r1 : RepPs C G xs vs) (hd : dataL xs = some ds) :
    Reads s.heap (.ref a) (.dict ((ks.map .str).zip ds)) [a] ∧ a ≠ sysModules := by
  obtain ⟨_, hs, ws, kv, o, es, ep, q1, q2, q3, _, q5, _⟩ := dk_of I.hok (e _ _ h1)
  obtain ⟨k1, k2⟩ := dic_reads (Pg := X.prog) (w := X.w) (h := s.heap) ks xs vs ws es.toList ds hl r1 hf hd kv q5
  exact ⟨.dict q1 q2.1 q3 k1 k2, beq_eq_false_iff_ne.mp hs⟩
theorem peek_rep {s0 : Sit} {d : D} {v : V} {y : P} (A : AtS C F s0 H) (r : RepD C s0 d v) (e : peek d s0.S = some y) : ∃ G', Same G' H ∧ RepP C G' y v := by
  cases y with
  | lst xs =>
    obtain ⟨q, vs, rfl, hq, rq⟩ := peek_lst A r e
    have sm : Same s0.G (fun b => if b = q then some (.lst vs) else s0.G b) := fun b o z => by
      dsimp only
      by_cases c : b = q
      · subst c
        rw [if_pos rfl]
        have := A.sub _ _ z
        rw [hq] at this
        exact this
      · rw [if_neg c]
        exact z
    refine ⟨fun b => if b = q then some (.lst vs) else s0.G b, fun b o z => ?_, ?_⟩
    · dsimp only at z
      by_cases c : b = q
      · subst c
        rw [if_pos rfl] at z
        rw [hq]
        exact z
      · rw [if_neg c] at z
        exact A.sub _ _ z
    · simp only [RepP]
      exact ⟨q, vs, rfl, if_pos rfl, RepPs.mono sm xs vs rq⟩
  | _ => exact ⟨s0.G, A.sub, peek_pure A r e (fun _ z => nomatch z)⟩
theorem rpr_exc {y : P} {c : Nat} {z : Option P} (h : rprP y = .exc c z) : False := by
  have sh : ∀ o : Option PyData, shwP o = .exc c z → False := fun o h => by
    cases o with
    | none => cases h
    | some d =>
      simp only [shwP] at h
      split at h <;> cases h
  cases y with
  | tup xs => exact sh _ h
  | lst xs => exact sh _ h
  | dic ks xs =>
    simp only [rprP] at h
    split at h
    · exact sh _ h
    · cases h
  | _ => simp only [rprP] at h <;> (try split at h) <;> cases h
end
/-- repr, of data -/
def rRpr (C : CC) : List V → Hp → VK → Prop := fun vs H Q => ∃ (G : Hp) (x : P) (v : V) (z : Str), vs = [v] ∧ Same G H ∧ RepP C G x v ∧ rprP x = .ok (.str z) ∧ Q (.str z) H
theorem call_rpr (hk : C.K = X.K) (gd : X.A.guards = some []) (un : X.A.units + 64 < cLine) : CallR X (.builtin "repr") (rRpr C) := by
  intro pins s σ H xs us Q I r h
  obtain ⟨G, x, v, z, rfl, e, rx, hz, q⟩ := h
  obtain ⟨u, rfl, ru⟩ := vals1 r
  have big : 100000 ≤ sizeLine := Nat.le_trans (by decide) sizeLine_big
  have deep : ∀ (d : PyData) (as : List Addr) (a : Addr), Reads s.heap (.ref a) d as → (d.hasDict = true → sysModules ∉ as) → shwP (some d) = .ok (.str z) → wpAny (model X.prog X.w) X.A (call (.builtin "repr") [.ref a]) (EP X pins σ Q) X.xe s := fun d as a rd hn hs => by
    simp only [shwP] at hs
    split at hs
    · rename_i hc
      simp only [Bool.and_eq_true, decide_eq_true_eq] at hc
      cases hs
      exact repr_of_reads' rd hc.1 hn gd (by omega) (fun _ _ e => e) (fun h' u tk hk' => ⟨.str _, H, I.kept (t' := tk) hk', ⟨u, rfl⟩, q⟩) (Nat.le_trans hc.2.1 big)
    · cases hs
  cases x with
  | non =>
    simp only [RepP] at rx
    subst rx
    cases ru
    simp only [rprP] at hz
    cases hz
    exact PySem.P.repr_of_none ⟨.str _, H, I.tok _, ⟨_, rfl⟩, q⟩
  | bl b =>
    simp only [RepP] at rx
    subst rx
    cases ru
    simp only [rprP] at hz
    cases hz
    exact PySem.P.repr_of_bool ⟨.str _, H, I.tok _, ⟨_, rfl⟩, q⟩
  | int i =>
    simp only [RepP] at rx
    subst rx
    obtain ⟨t, rfl⟩ := ru
    simp only [rprP] at hz
    split at hz
    · rename_i hl
      cases hz
      exact PySem.P.repr_of_int (of_decide_eq_true hl) ⟨.str _, H, I.tok _, ⟨_, rfl⟩, q⟩
    · cases hz
  | str a =>
    simp only [RepP] at rx
    subst rx
    obtain ⟨t, rfl⟩ := ru
    simp only [rprP] at hz
    split at hz
    · rename_i hl
      cases hz
      exact PySem.P.repr_of_str ⟨.str _, H, I.tok _, ⟨_, rfl⟩, q⟩ (Nat.le_trans (of_decide_eq_true hl) big)
    · cases hz
  | tup xs =>
    simp only [rprP] at hz
    cases hd : data0 (.tup xs) with
    | none =>
      rw [hd] at hz
      cases hz
    | some d =>
      rw [hd] at hz
      obtain ⟨as, k1, k2⟩ := reads0 hk e I _ v u d rx ru hd
      obtain ⟨a, _, rfl, _⟩ := (by simpa only [RepP] using rx : ∃ a vs, v = .ref a ∧ _)
      cases ru
      exact deep d as a k1 (fun h => by rw [k2] at h; cases h) hz
  | lst xs =>
    simp only [rprP] at hz
    cases hd : data0 (.lst xs) with
    | none =>
      rw [hd] at hz
      cases hz
    | some d =>
      rw [hd] at hz
      obtain ⟨as, k1, k2⟩ := reads0 hk e I _ v u d rx ru hd
      obtain ⟨a, _, rfl, _⟩ := (by simpa only [RepP] using rx : ∃ a vs, v = .ref a ∧ _)
      cases ru
      exact deep d as a k1 (fun h => by rw [k2] at h; cases h) hz
  | dic ks xs =>
    simp only [rprP] at hz
    split at hz
    · rename_i hf
      cases hd : dataL xs with
      | none =>
        rw [hd] at hz
        cases hz
      | some ds =>
        rw [hd] at hz
        simp only [RepP] at rx
        obtain ⟨a, vs, rfl, h1, hl, r1⟩ := rx
        cases ru
        obtain ⟨k1, k2⟩ := reads_dic hk e I hf h1 hl r1 hd
        exact deep _ [a] a k1 (fun _ z => k2 (List.mem_singleton.mp z).symm) hz
    · cases hz
  | _ => simp only [rprP] at hz; cases hz
/-- str, of data -/
def rStr (C : CC) : List V → Hp → VK → Prop := fun vs H Q => ∃ (G : Hp) (x : P) (v : V) (z : Str), vs = [v] ∧ Same G H ∧ RepP C G x v ∧ strP x = .ok (.str z) ∧ Q (.str z) H
theorem call_strd (hk : C.K = X.K) (gd : X.A.guards = some []) (un : X.A.units + 64 < cLine) : CallR X (.type "str") (rStr C) := by
  intro pins s σ H xs us Q I r h
  obtain ⟨G, x, v, z, rfl, e, rx, hz, q⟩ := h
  obtain ⟨u, rfl, ru⟩ := vals1 r
  have big : 100000 ≤ sizeLine := Nat.le_trans (by decide) sizeLine_big
  have deep : ∀ (d : PyData) (as : List Addr) (a : Addr), Reads s.heap (.ref a) d as → (d.hasDict = true → sysModules ∉ as) → shwP (some d) = .ok (.str z) → wpAny (model X.prog X.w) X.A (call (.type "str") [.ref a]) (EP X pins σ Q) X.xe s := fun d as a rd hn hs => by
    simp only [shwP] at hs
    split at hs
    · rename_i hc
      simp only [Bool.and_eq_true, decide_eq_true_eq] at hc
      cases hs
      exact str_of_reads rd hc.1 hn gd (by omega) (fun _ _ e => e) (fun h' u tk hk' => ⟨.str _, H, I.kept (t' := tk) hk', ⟨u, rfl⟩, q⟩) (Nat.le_trans hc.2.1 big)
    · cases hs
  cases x with
  | non =>
    simp only [RepP] at rx
    subst rx
    cases ru
    simp only [strP, rprP] at hz
    cases hz
    exact PySem.P.str_of_none ⟨.str _, H, I.tok _, ⟨_, rfl⟩, q⟩
  | bl b =>
    simp only [RepP] at rx
    subst rx
    cases ru
    simp only [strP, rprP] at hz
    cases hz
    exact PySem.P.str_of_bool ⟨.str _, H, I.tok _, ⟨_, rfl⟩, q⟩
  | int i =>
    simp only [RepP] at rx
    subst rx
    obtain ⟨t, rfl⟩ := ru
    simp only [strP, rprP] at hz
    split at hz
    · rename_i hl
      cases hz
      exact PySem.P.str_of_int (of_decide_eq_true hl) ⟨.str _, H, I.tok _, ⟨_, rfl⟩, q⟩
    · cases hz
  | str a =>
    simp only [RepP] at rx
    subst rx
    obtain ⟨t, rfl⟩ := ru
    simp only [strP] at hz
    cases hz
    exact PySem.P.str_of_str ⟨.str _, H, I, ⟨_, rfl⟩, q⟩
  | tup xs =>
    simp only [strP, rprP] at hz
    cases hd : data0 (.tup xs) with
    | none =>
      rw [hd] at hz
      cases hz
    | some d =>
      rw [hd] at hz
      obtain ⟨as, k1, k2⟩ := reads0 hk e I _ v u d rx ru hd
      obtain ⟨a, _, rfl, _⟩ := (by simpa only [RepP] using rx : ∃ a vs, v = .ref a ∧ _)
      cases ru
      exact deep d as a k1 (fun h => by rw [k2] at h; cases h) hz
  | lst xs =>
    simp only [strP, rprP] at hz
    cases hd : data0 (.lst xs) with
    | none =>
      rw [hd] at hz
      cases hz
    | some d =>
      rw [hd] at hz
      obtain ⟨as, k1, k2⟩ := reads0 hk e I _ v u d rx ru hd
      obtain ⟨a, _, rfl, _⟩ := (by simpa only [RepP] using rx : ∃ a vs, v = .ref a ∧ _)
      cases ru
      exact deep d as a k1 (fun h => by rw [k2] at h; cases h) hz
  | dic ks xs =>
    simp only [strP, rprP] at hz
    split at hz
    · rename_i hf
      cases hd : dataL xs with
      | none =>
        rw [hd] at hz
        cases hz
      | some ds =>
        rw [hd] at hz
        simp only [RepP] at rx
        obtain ⟨a, vs, rfl, h1, hl, r1⟩ := rx
        cases ru
        obtain ⟨k1, k2⟩ := reads_dic hk e I hf h1 hl r1 hd
        exact deep _ [a] a k1 (fun _ z => k2 (List.mem_singleton.mp z).symm) hz
    · cases hz
  | _ => simp only [strP, rprP] at hz; cases hz
theorem str_str {y w : P} (h : strP y = .ok w) : ∃ z, w = .str z := by
  cases y with
  | str s =>
    simp only [strP] at h
    cases h
    exact ⟨_, rfl⟩
  | _ => exact rpr_str (by simpa only [strP] using h)
theorem str_exc {y : P} {c : Nat} {z : Option P} (h : strP y = .exc c z) : False := by
  cases y with
  | str s =>
    simp only [strP] at h
    cases h
  | _ => exact rpr_exc (by simpa only [strP] using h)
theorem str_ok {G : Hp} {x : P} {v : V} {z : P} (r : RepP C G x v) (h : strP x = .ok z) : ∃ w, z = .str w ∧ ∀ (H : Hp) (Q : VK), Same G H → Q (.str w) H → rStr C [v] H Q := by
  obtain ⟨w, rfl⟩ := str_str h
  exact ⟨w, rfl, fun H Q e q => ⟨G, x, v, w, rfl, e, r, h, q⟩⟩
theorem rpr_ok {G : Hp} {x : P} {v : V} {z : P} (r : RepP C G x v) (h : rprP x = .ok z) : ∃ w, z = .str w ∧ ∀ (H : Hp) (Q : VK), Same G H → Q (.str w) H → rRpr C [v] H Q := by
  obtain ⟨w, rfl⟩ := rpr_str h
  exact ⟨w, rfl, fun H Q e q => ⟨G, x, v, w, rfl, e, r, h, q⟩⟩
theorem x_b1 (hc : X.calm = true) (hk : C.K = X.K) (gd : X.A.guards = some []) (un : X.A.units + 64 < cLine) (bb : B1) {x : Str} (hx : x = b1N bb) (hg : Gl X x) (hm : X.mg x = none) (hn : notStar a = true) (ha : PE X a (tE C W F fa)) :
    PE X (.Call (.Name x p) [a] [] pos) (tE C W F fun δ S => (fa δ S).bind fun d S1 => match peek d S1 with
      | some x => (b1P bb x).lift S1
      | none => .stuck) := by
  subst hx
  cases bb with
  | len =>
    refine PE.imp (pe_callB (call_len_seq.or call_len_str) hg hm rfl (pa_cons ha pa_nil (star_cons hn)) (he := star_cons hn)) fun σ H Q ⟨δ, s, A, R, h⟩ => ?_
    refine ⟨δ, s, A, R, Wt.imp (Wt.bind h) fun d s1 H1 _ e1 A1 h1 v r1 => ?_⟩
    cases hp : peek d s1.S with
    | none =>
      rw [hp] at h1
      exact h1.elim
    | some y =>
      rw [hp] at h1
      exact len_ok hk A1 r1 hp h1
  | int =>
    refine PE.imp (pe_callTy (call_int1.or call_int_str) hg hm rfl (pa_cons ha pa_nil (star_cons hn)) (he := star_cons hn)) fun σ H Q ⟨δ, s, A, R, h⟩ => ?_
    refine ⟨δ, s, A, R, Wt.imp (Wt.bind h) fun d s1 H1 _ e1 A1 h1 v r1 => ?_⟩
    cases hp : peek d s1.S with
    | none =>
      rw [hp] at h1
      exact h1.elim
    | some y =>
      rw [hp] at h1
      cases y with
      | int i =>
        have q1 := peek_pure A1 r1 hp (fun _ z => nomatch z)
        simp only [RepP] at q1
        subst q1
        exact Or.inl (Or.inl ⟨i, rfl, want_int A1 h1⟩)
      | bl i =>
        have q1 := peek_pure A1 r1 hp (fun _ z => nomatch z)
        simp only [RepP] at q1
        subst q1
        exact Or.inl (Or.inr ⟨i, rfl, want_int A1 h1⟩)
      | str z =>
        have q1 := peek_pure A1 r1 hp (fun _ z => nomatch z)
        simp only [RepP] at q1
        subst q1
        simp only [b1P] at h1
        split at h1
        · rename_i hz
          cases hi : PySem.intText? z with
          | none =>
            rw [hi] at h1
            exact h1.elim
          | some n =>
            rw [hi] at h1
            exact Or.inr ⟨z, n, rfl, hi, of_decide_eq_true hz, want_int A1 h1⟩
        · exact h1.elim
      | _ => exact h1.elim
  | abs =>
    refine PE.imp (pe_callB call_abs hg hm rfl (pa_cons ha pa_nil (star_cons hn)) (he := star_cons hn)) fun σ H Q ⟨δ, s, A, R, h⟩ => ?_
    refine ⟨δ, s, A, R, Wt.imp (Wt.bind h) fun d s1 H1 _ e1 A1 h1 v r1 => ?_⟩
    cases hp : peek d s1.S with
    | none =>
      rw [hp] at h1
      exact h1.elim
    | some y =>
      rw [hp] at h1
      cases y with
      | int i =>
        have q1 := peek_pure A1 r1 hp (fun _ z => nomatch z)
        simp only [RepP] at q1
        subst q1
        exact ⟨i, rfl, want_int A1 h1⟩
      | _ => exact h1.elim
  | list =>
    refine PE.imp (pe_callTy call_list_of hg hm rfl (pa_cons ha pa_nil (star_cons hn)) (he := star_cons hn)) fun σ H Q ⟨δ, s, A, R, h⟩ => ?_
    refine ⟨δ, s, A, R, Wt.imp (Wt.bind h) fun d s1 H1 _ e1 A1 h1 v r1 => ?_⟩
    cases hp : peek d s1.S with
    | none =>
      rw [hp] at h1
      exact h1.elim
    | some y =>
      rw [hp] at h1
      cases y with
      | lst ys =>
        obtain ⟨q, vs, rfl, hq, rq⟩ := b1_seq hk A1 r1 hp (Or.inl rfl)
        exact ⟨q, vs, rfl, hq, fun l hl => want_lst A1 rq h1 l hl⟩
      | tup ys =>
        obtain ⟨q, vs, rfl, hq, rq⟩ := b1_seq hk A1 r1 hp (Or.inr rfl)
        exact ⟨q, vs, rfl, hq, fun l hl => want_lst A1 rq h1 l hl⟩
      | _ => exact h1.elim
  | tuple =>
    refine PE.imp (pe_callTy call_tuple_of hg hm rfl (pa_cons ha pa_nil (star_cons hn)) (he := star_cons hn)) fun σ H Q ⟨δ, s, A, R, h⟩ => ?_
    refine ⟨δ, s, A, R, Wt.imp (Wt.bind h) fun d s1 H1 _ e1 A1 h1 v r1 => ?_⟩
    cases hp : peek d s1.S with
    | none =>
      rw [hp] at h1
      exact h1.elim
    | some y =>
      rw [hp] at h1
      exact tup1_ok hk A1 r1 hp h1
  | all =>
    refine PE.imp (pe_callB (cr_all hc) hg hm rfl (pa_cons ha pa_nil (star_cons hn)) (he := star_cons hn)) fun σ H Q ⟨δ, s, A, R, h⟩ => ?_
    refine ⟨δ, s, A, R, Wt.imp (Wt.bind h) fun d s1 H1 _ e1 A1 h1 v r1 => ?_⟩
    cases hp : peek d s1.S with
    | none =>
      rw [hp] at h1
      exact h1.elim
    | some y =>
      rw [hp] at h1
      cases y with
      | lst ys =>
        simp only [b1P] at h1
        cases hb : bolsOf ys with
        | none =>
          rw [hb] at h1
          exact h1.elim
        | some bs =>
          rw [hb] at h1
          obtain ⟨q, vs, rfl, hq, rq⟩ := peek_lst A1 r1 hp
          have e := bols_ok hb rq
          subst e
          exact ⟨q, bs, rfl, SqL.of hq, want_bl A1 h1⟩
      | _ => exact h1.elim
  | sum =>
    refine PE.imp (pe_callB (cr_sum hc) hg hm rfl (pa_cons ha pa_nil (star_cons hn)) (he := star_cons hn)) fun σ H Q ⟨δ, s, A, R, h⟩ => ?_
    refine ⟨δ, s, A, R, Wt.imp (Wt.bind h) fun d s1 H1 _ e1 A1 h1 v r1 => ?_⟩
    cases hp : peek d s1.S with
    | none =>
      rw [hp] at h1
      exact h1.elim
    | some y =>
      rw [hp] at h1
      cases y with
      | lst ys =>
        simp only [b1P] at h1
        cases hb : intsOf ys with
        | none =>
          rw [hb] at h1
          exact h1.elim
        | some bs =>
          rw [hb] at h1
          obtain ⟨q, vs, rfl, hq, rq⟩ := peek_lst A1 r1 hp
          have e := ints_ok hb rq
          subst e
          exact ⟨q, bs, rfl, SqL.of hq, want_int A1 h1⟩
      | _ => exact h1.elim
  | rpr =>
    refine PE.imp (pe_callB (call_rpr (C := C) hk gd un) hg hm rfl (pa_cons ha pa_nil (star_cons hn)) (he := star_cons hn)) fun σ H Q ⟨δ, s, A, R, h⟩ => ?_
    refine ⟨δ, s, A, R, Wt.imp (Wt.bind h) fun d s1 H1 _ e1 A1 h1 v r1 => ?_⟩
    cases hp : peek d s1.S with
    | none =>
      rw [hp] at h1
      exact h1.elim
    | some y =>
      rw [hp] at h1
      simp only [b1P] at h1
      cases hb : rprP y with
      | ok z =>
        rw [hb] at h1
        obtain ⟨G', sm, r2⟩ := peek_rep A1 r1 hp
        obtain ⟨w, rfl, k⟩ := rpr_ok r2 hb
        exact k _ _ sm (want_str A1 h1)
      | exc c z => exact (rpr_exc hb).elim
      | stuck =>
        rw [hb] at h1
        exact h1.elim
  | str =>
    refine PE.imp (pe_callTy (call_strd (C := C) hk gd un) hg hm rfl (pa_cons ha pa_nil (star_cons hn)) (he := star_cons hn)) fun σ H Q ⟨δ, s, A, R, h⟩ => ?_
    refine ⟨δ, s, A, R, Wt.imp (Wt.bind h) fun d s1 H1 _ e1 A1 h1 v r1 => ?_⟩
    cases hp : peek d s1.S with
    | none =>
      rw [hp] at h1
      exact h1.elim
    | some y =>
      rw [hp] at h1
      simp only [b1P] at h1
      cases hb : strP y with
      | ok z =>
        rw [hb] at h1
        obtain ⟨G', sm, r2⟩ := peek_rep A1 r1 hp
        obtain ⟨w, rfl, k⟩ := str_ok r2 hb
        exact k _ _ sm (want_str A1 h1)
      | exc c z => exact (str_exc hb).elim
      | stuck =>
        rw [hb] at h1
        exact h1.elim
/-- repr of a list with large numbers -/
def rRpb (C : CC) : List V → Hp → VK → Prop := fun vs H Q => ∃ (G : Hp) (xs : List P) (v : V) (ds : List PyData), vs = [v] ∧ Same G H ∧ RepP C G (.lst xs) v ∧ dataL xs = some ds ∧ bigL ds = true ∧ (PyData.list ds).shown.length ≤ 1000000 ∧ (PyData.list ds).depth ≤ 30 ∧ Q (.str (PyData.list ds).shown) H
theorem call_rpb (hk : C.K = X.K) (nd : X.base.NoDigits) (gd : X.A.guards = some []) (un : X.A.units + 64 < cLine) : CallR X (.builtin "repr") (rRpb C) := by
  intro pins s σ H xs us Q I r h
  obtain ⟨G, ys, v, ds, rfl, e, rx, hd, hb, h1, h2, q⟩ := h
  obtain ⟨u, rfl, ru⟩ := vals1 r
  have big : 1000000 ≤ sizeLine := by rw [sizeLine_eq]; decide
  have hd0 : data0 (.lst ys) = some (.list ds) := by
    simp only [data0, hd, Option.map_some]
  obtain ⟨as, k1, k2⟩ := reads0 hk e I _ v u _ rx ru hd0
  obtain ⟨a, _, rfl, _⟩ := (by simpa only [RepP] using rx : ∃ a vs, v = .ref a ∧ _)
  cases ru
  exact repr_big k1 (nd.keeps I.bk) hb gd (by omega) (fun _ _ e => e) (fun h' u tk hk' => ⟨.str _, H, I.kept (t' := tk) hk', ⟨u, rfl⟩, q⟩) (Nat.le_trans h1 big)
theorem x_rpb (hk : C.K = X.K) (nd : X.base.NoDigits) (gd : X.A.guards = some []) (un : X.A.units + 64 < cLine) {x : Str} (hx : x = "repr") (hg : Gl X x) (hm : X.mg x = none) (hn : notStar a = true) (ha : PE X a (tE C W F fa)) :
    PE X (.Call (.Name x p) [a] [] pos) (tE C W F fun δ S => (fa δ S).bind fun d S1 => rpbG (peek d S1) S1) := by
  subst hx
  refine PE.imp (pe_callB (call_rpb (C := C) hk nd gd un) hg hm rfl (pa_cons ha pa_nil (star_cons hn)) (he := star_cons hn)) fun σ H Q ⟨δ, s, A, R, h⟩ => ?_
  refine ⟨δ, s, A, R, Wt.imp (Wt.bind h) fun d s1 H1 _ e1 A1 h1 v r1 => ?_⟩
  cases hp : peek d s1.S with
  | none =>
    rw [hp] at h1
    exact h1.elim
  | some y =>
    rw [hp] at h1
    cases y with
    | lst ys =>
      unfold rpbG at h1
      dsimp only at h1
      cases hd : dataL ys with
      | none =>
        rw [hd] at h1
        exact h1.elim
      | some ds =>
        rw [hd] at h1
        dsimp only at h1
        by_cases hc : (bigL ds && (decide ((PyData.list ds).shown.length ≤ 1000000) && decide ((PyData.list ds).depth ≤ 30))) = true
        · rw [if_pos hc] at h1
          simp only [Bool.and_eq_true, decide_eq_true_eq] at hc
          obtain ⟨G', sm, r2⟩ := peek_rep A1 r1 hp
          exact ⟨G', ys, v, ds, rfl, sm, r2, hd, hc.1, hc.2.1, hc.2.2, want_str A1 h1⟩
        · rw [if_neg hc] at h1
          exact h1.elim
    | _ => exact h1.elim
theorem x_cpl (hk : C.K = X.K) (hg : Gl X "list") (hm : X.mg "list" = none) (hn : notStar a = true) (ha : PE X a (tE C W F fa)) :
    PE X (.Call (.Name "list" p) [a] [] pos) (tE C W F fun δ S => (fa δ S).bind fun d S1 => cplG (peek d S1) S1) := by
  refine PE.imp (pe_callTy call_list_of hg hm rfl (pa_cons ha pa_nil (star_cons hn)) (he := star_cons hn)) fun σ H Q ⟨δ, s, A, R, h⟩ => ?_
  refine ⟨δ, s, A, R, Wt.imp (Wt.bind h) fun d s1 H1 _ e1 A1 h1 v r1 => ?_⟩
  cases hp : peek d s1.S with
  | none =>
    rw [hp] at h1
    exact h1.elim
  | some y =>
    rw [hp] at h1
    cases y with
    | lst ys =>
      obtain ⟨q, vs, rfl, hq, rq⟩ := b1_seq hk A1 r1 hp (Or.inl rfl)
      exact ⟨q, vs, rfl, hq, fun l hl => want_new A1 rq h1 l hl⟩
    | tup ys =>
      obtain ⟨q, vs, rfl, hq, rq⟩ := b1_seq hk A1 r1 hp (Or.inr rfl)
      exact ⟨q, vs, rfl, hq, fun l hl => want_new A1 rq h1 l hl⟩
    | _ => exact h1.elim
def b2N : B2 → Str
  | .min => "min"
  | .max => "max"
theorem x_b2 (hc : X.calm = true) (bb : B2) {x : Str} (hx : x = b2N bb) (hg : Gl X x) (hm : X.mg x = none) (hn : notStar a = true) (hnb : notStar b = true) (ha : PE X a (tE C W F fa)) (hb : PE X b (tE C W F fb)) :
    PE X (.Call (.Name x p) [a, b] [] pos) (tE C W F fun δ S => (fa δ S).bind fun d1 S1 => (fb δ S1).bind fun d2 S2 => match d1, d2 with
      | .p x, .p y => (b2P bb x y).lift S2
      | _, _ => .stuck) := by
  subst hx
  have hpl : ∀ {pos : Pos}, (backTo pos (starEach [b] X.env)).any (·.1) = false := star_none (by simp only [List.all_cons, List.all_nil, Bool.and_true]; exact hnb)
  have fin : ∀ {σ : L2.St} {H : Hp} {Q : VK} {s : Sit} {δ : DEnv} {d1 d2 : D} {u v : V}, AtS C F s H → RepD C s d1 u → RepD C s d2 v → WantE C W F (RepD C) σ s (match d1, d2 with
      | .p x, .p y => (b2P bb x y).lift s.S
      | _, _ => .stuck) Q → ∃ i j, u = .int i ∧ v = .int j ∧ WantE C W F (RepD C) σ s ((b2P bb (.int i) (.int j)).lift s.S) Q := by
    intro σ H Q s δ d1 d2 u v A r1 r2 h
    cases d1 with
    | p x =>
      cases d2 with
      | p y =>
        cases x with
        | int i =>
          cases y with
          | int j =>
            simp only [RepD, RepP] at r1 r2
            exact ⟨i, j, r1, r2, h⟩
          | _ => exact h.elim
        | _ => exact h.elim
      | _ => exact h.elim
    | _ => exact h.elim
  cases bb with
  | min =>
    refine PE.imp (pe_callB (call_min2 hc) hg hm rfl (pa_cons ha (pa_cons hb pa_nil (star_cons hnb)) (star_cons hn)) (he := star_cons hn) (hpl := hpl)) fun σ H Q ⟨δ, s, A, R, h⟩ => ?_
    refine ⟨δ, s, A, R, Wt.imp (Wt.bind h) fun d s1 H1 _ e1 A1 h1 v r1 => ?_⟩
    refine ⟨δ, s1, A1, R.mono e1, Wt.imp (Wt.bind h1) fun d2 s2 H2 _ e2 A2 h2 w r2 => ?_⟩
    obtain ⟨i, j, rfl, rfl, h3⟩ := fin (δ := δ) A2 (RepD.mono e2 d _ r1) r2 h2
    exact ⟨i, j, rfl, want_int A2 h3⟩
  | max =>
    refine PE.imp (pe_callB (call_max2 hc) hg hm rfl (pa_cons ha (pa_cons hb pa_nil (star_cons hnb)) (star_cons hn)) (he := star_cons hn) (hpl := hpl)) fun σ H Q ⟨δ, s, A, R, h⟩ => ?_
    refine ⟨δ, s, A, R, Wt.imp (Wt.bind h) fun d s1 H1 _ e1 A1 h1 v r1 => ?_⟩
    refine ⟨δ, s1, A1, R.mono e1, Wt.imp (Wt.bind h1) fun d2 s2 H2 _ e2 A2 h2 w r2 => ?_⟩
    obtain ⟨i, j, rfl, rfl, h3⟩ := fin (δ := δ) A2 (RepD.mono e2 d _ r1) r2 h2
    exact ⟨i, j, rfl, want_int A2 h3⟩
end
end RP
end

section
set_option Elab.async false
set_option linter.all false
set_option maxRecDepth 100000
set_option maxHeartbeats 2000000
/-! Statements. -/
namespace RP
open PySem L2
/-! ### shapes -/
def notComp : Expr → Bool
  | .ListComp .. => false
  | .SetComp .. => false
  | .DictComp .. => false
  | _ => true
theorem swaps_plain {e : Expr} {t : Option Expr} {l : Nat} {env : Env} (h : notComp e = true) : swapsWith e t l env = pure false := by
  cases e <;> first | rfl | cases h
theorem sole_plain {e t : Expr} {l : Nat} {env : Env} (h : notComp e = true) : swapsWithSole [t] e l env = pure false := swaps_plain h
theorem sole_tup {e : Expr} {es : List Expr} {j : Nat} {p : Pos} {l : Nat} {env : Env} : swapsWithSole [.Tuple es j p] e l env = pure false := by
  cases e <;> rfl
def notTup : Expr → Bool
  | .Tuple .. => false
  | _ => true
theorem swapped_plain {e : Expr} {t : Expr} {env : Env} (h : notTup e = true) : swappedStores [t] e env = pure none := by
  cases e <;> first | (cases t <;> rfl) | cases h
section
variable {C : CC} {W : WX} {X : Cx} {k : Nat} {Γ : Tab} {F : Hp} {a b c e o : Expr} {es : List Expr} {fa fb fe fo fc : DEnv → Sto → RE D} {pos p apos : Pos} {s s1 : Sit} {σ : L2.St} {H : Hp} {δ : DEnv} {D' : Ends}
theorem WantS.ext {r : RS} (ex : ExtS s s1) (h : WantS C W F s r D') : WantS C W F s1 r D' := by
  cases r with
  | next δ S' => exact fun σ s' H' h1 e2 => h σ s' H' h1 (ex.trans e2)
  | ret d S' => exact fun v s' H' h1 e2 => h v s' H' h1 (ex.trans e2)
  | brk δ S' => exact fun σ s' H' h1 e2 => h σ s' H' h1 (ex.trans e2)
  | cnt δ S' => exact fun σ s' H' h1 e2 => h σ s' H' h1 (ex.trans e2)
  | exc c x δ S' => exact fun dx σ s' H' h1 e2 => h dx σ s' H' h1 (ex.trans e2)
  | stuck => exact h
/-- an expression, then the rest of the statement -/
theorem WantS.st {α : Type} {r : RE α} {g : α → Sto → RS} (R : RepS C s δ σ) (h : WantS C W F s (r.st δ g) D') : Wt C W F σ s r fun a s' _ => WantS C W F s' (g a s'.S) D' := by
  cases r with
  | ok a S' =>
    intro s' H' hS ex A'
    subst hS
    exact WantS.ext ex h
  | exc c x S' => exact fun dx s' H' hS ex A' rx => h dx σ s' H' hS ex A' (R.mono ex) rx
  | stuck => exact h
theorem WantS.next (A : AtS C F s H) (R : RepS C s δ σ) (h : WantS C W F s (.next δ s.S) D') : D'.nx σ H := h σ s H rfl (ExtS.refl s) A R
/-! ### small statements -/
theorem s_pass : PS X (.Pass pos) (tS C W F fun δ S => .next δ S) := PS.imp ps_pass fun D σ H ⟨δ, s, A, R, h⟩ => h.next A R
theorem s_brk : PS X (.Break pos) (tS C W F fun δ S => .brk δ S) := PS.imp ps_break fun D σ H ⟨δ, s, A, R, h⟩ => h σ s H rfl (ExtS.refl s) A R
theorem s_cnt : PS X (.Continue pos) (tS C W F fun δ S => .cnt δ S) := PS.imp ps_continue fun D σ H ⟨δ, s, A, R, h⟩ => h σ s H rfl (ExtS.refl s) A R
theorem s_retn : PS X (.Return none pos) (tS C W F fun δ S => .ret (.p .non) S) := PS.imp ps_retN fun D σ H ⟨δ, s, A, R, h⟩ => h .non s H rfl (ExtS.refl s) A (by simp only [RepD, RepP])
theorem s_expr (he : PE X e (tE C W F fe)) (hs : notComp e = true) : PS X (.Expr e pos) (tS C W F fun δ S => (fe δ S).st δ fun _ S1 => .next δ S1) :=
  PS.imp (ps_expr he (swaps_plain hs)) fun D σ H ⟨δ, s, A, R, h⟩ => ⟨δ, s, A, R, Wt.imp (WantS.st R h) fun d s' H' _ ex A' hk v r => hk.next A' (R.mono ex)⟩
theorem s_ret (he : PE X e (tE C W F fe)) : PS X (.Return (some e) pos) (tS C W F fun δ S => (fe δ S).st δ fun d S1 => .ret d S1) :=
  PS.imp (ps_ret he) fun D σ H ⟨δ, s, A, R, h⟩ => ⟨δ, s, A, R, Wt.imp (WantS.st R h) fun d s' H' _ ex A' hk v r => hk v s' H' rfl (ExtS.refl s') A' r⟩
theorem s_if {x y : List Stmt} {gx gy : DEnv → Sto → RS} (hc : PT X c (tT C W F fc)) (ha : PSs X x (tS C W F gx)) (hb : PSs X y (tS C W F gy)) : PS X (.If c x y pos) (tS C W F fun δ S => (fc δ S).st δ fun d S1 => match d with
      | .p (.bl true) => gx δ S1
      | .p (.bl false) => gy δ S1
      | _ => .stuck) :=
  PS.imp (ps_if hc ha hb) fun D σ H ⟨δ, s, A, R, h⟩ => by
    refine ⟨δ, s, A, R, Wt.imp (WantS.st R h) fun d s' H' _ ex A' hk => ?_⟩
    cases d with
    | p z =>
      cases z with
      | bl b =>
        cases b with
        | true =>
          dsimp only at hk ⊢
          rw [if_pos rfl]
          exact ⟨δ, s', A', R.mono ex, hk⟩
        | false =>
          dsimp only at hk ⊢
          rw [if_neg Bool.false_ne_true]
          exact ⟨δ, s', A', R.mono ex, hk⟩
      | _ => exact hk.elim
    | _ => exact hk.elim
theorem ss_nil : PSs X [] (tS C W F fun δ S => .next δ S) := PSs.imp pss_nil fun D σ H ⟨δ, s, A, R, h⟩ => h.next A R
theorem ss_cons {st : Stmt} {rest : List Stmt} {g gr : DEnv → Sto → RS} (h1 : PS X st (tS C W F g)) (h2 : PSs X rest (tS C W F gr)) : PSs X (st :: rest) (tS C W F fun δ S => (g δ S).bind gr) :=
  PSs.imp (pss_cons h1 h2) fun D σ H ⟨δ, s, A, R, h⟩ => by
    refine ⟨δ, s, A, R, ?_⟩
    dsimp only at h
    cases hg : g δ s.S with
    | next δ' S' =>
      rw [hg] at h
      intro σ' s' H' hS ex A' R'
      subst hS
      exact ⟨δ', s', A', R', WantS.ext ex h⟩
    | ret d S' =>
      rw [hg] at h
      exact h
    | brk d S' =>
      rw [hg] at h
      exact h
    | cnt d S' =>
      rw [hg] at h
      exact h
    | exc c x d S' =>
      rw [hg] at h
      exact h
    | stuck =>
      rw [hg] at h
      exact h
/-! ### targets -/
/-- but for some slots -/
def Upto (l : List Nat) (σ σ' : L2.St) : Prop := σ'.length = σ.length ∧ ∀ i, i ∉ l → σ'[i]? = σ[i]?
def gT (C : CC) (F : Hp) (t : Tg) : TG := fun v σ H Q => ∃ δ s x, AtS C F s H ∧ RepS C s δ σ ∧ RepP C s.G x v ∧ match bindT t x δ with
  | some δ' => ∀ σ', RepS C s δ' σ' → Upto (tgIx t) σ σ' → Q σ' H
  | none => False
def gTs (C : CC) (F : Hp) (t : Tgs) : TGs := fun vs σ H Q => ∃ δ s xs, AtS C F s H ∧ RepS C s δ σ ∧ RepPs C s.G xs vs ∧ match bindTs t xs δ with
  | some δ' => ∀ σ', RepS C s δ' σ' → Upto (tgsIx t) σ σ' → Q σ' H
  | none => False
theorem PG.imp {e : Expr} {t u : TG} (h : PG X e t) (k : ∀ v σ H Q, u v σ H Q → t v σ H Q) : PG X e u := ⟨fun pins s σ H v w Q I r hu => h.run pins s σ H v w Q I r (k v σ H Q hu)⟩
theorem PGs.imp {e : List Expr} {t u : TGs} (h : PGs X e t) (k : ∀ v σ H Q, u v σ H Q → t v σ H Q) : PGs X e u := ⟨fun pins s σ H v w Q I r hu => h.run pins s σ H v w Q I r (k v σ H Q hu)⟩
theorem g_name {i : Nat} {x : Str} (hN : X.N.Nodup) (hi : X.N[i]? = some x) (hx : Loc X.env.scope x) (hf : X.fn x = true ∨ X.env.scope.names.lookup x = some .local) : PG X (.Name x pos) (gT C F (.name i)) :=
  PG.imp (pg_name hN hi hx hf) fun v σ H Q ⟨δ, s, y, A, R, r, h⟩ => h _ (R.set (d := .p y) r) ⟨List.length_set, fun j hj => List.getElem?_set_ne (fun z => hj (by rw [z]; exact List.mem_singleton.mpr rfl))⟩
theorem g_nil : PGs X [] (gTs C F .nil) := PGs.imp pgs_nil fun vs σ H Q ⟨δ, s, xs, A, R, r, h⟩ => by
  cases xs with
  | nil =>
    simp only [RepPs] at r
    exact ⟨r, h σ R ⟨rfl, fun _ _ => rfl⟩⟩
  | cons x xs => exact h.elim
theorem g_cons {ts : Tgs} {t : Tg} (h1 : PG X e (gT C F t)) (h2 : PGs X es (gTs C F ts)) (hn : notStar e = true) : PGs X (e :: es) (gTs C F (.cons t ts)) := by
  have hs : (assignEach (e :: es) X.env).map (·.2) = assign e X.env :: (assignEach es X.env).map (·.2) := by
    cases e <;> first | rfl | cases hn
  refine PGs.imp (pgs_cons h1 h2 hs) fun vs σ H Q ⟨δ, s, xs, A, R, r, h⟩ => ?_
  cases xs with
  | nil => exact h.elim
  | cons x xs =>
    simp only [RepPs] at r
    obtain ⟨v, ws, rfl, r1, r2⟩ := r
    simp only [bindTs] at h
    refine ⟨v, ws, rfl, δ, s, x, A, R, r1, ?_⟩
    cases hb : bindT t x δ with
    | none =>
      rw [hb] at h
      exact h.elim
    | some δ1 =>
      rw [hb] at h
      refine fun σ' R' u' => ⟨δ1, s, xs, A, R', r2, ?_⟩
      simp only [Option.bind_some] at h
      cases hb2 : bindTs ts xs δ1 with
      | none =>
        rw [hb2] at h
        exact h.elim
      | some δ2 =>
        rw [hb2] at h
        refine fun σ2 R2 u2 => h σ2 R2 ⟨u2.1.trans u'.1, fun i hi => ?_⟩
        simp only [tgsIx, List.mem_append, not_or] at hi
        rw [u2.2 i hi.2, u'.2 i hi.1]
def tgsLen : Tgs → Nat
  | .nil => 0
  | .cons _ ts => tgsLen ts + 1
theorem bindTs_len : ∀ (ts : Tgs) (xs : List P) (δ δ' : DEnv), bindTs ts xs δ = some δ' → xs.length = tgsLen ts
  | .nil, [], _, _, _ => rfl
  | .cons t ts, x :: xs, δ, δ', h => by
    simp only [bindTs] at h
    cases hb : bindT t x δ with
    | none =>
      rw [hb] at h
      cases h
    | some δ1 =>
      rw [hb] at h
      simp only [List.length_cons, tgsLen]
      rw [bindTs_len ts xs δ1 δ' h]
  | .nil, x :: xs, _, _, h => by simp only [bindTs] at h; cases h
  | .cons t ts, [], _, _, h => by simp only [bindTs] at h; cases h
theorem each_len {env : Env} : ∀ (es : List Expr), (assignEach es env).length = es.length
  | [] => rfl
  | e :: es => by
    have h := each_len (env := env) es
    cases e <;> simp only [assignEach, List.length_cons, h]
theorem each_star {env : Env} : ∀ (es : List Expr), es.all notStar = true → (assignEach es env).findIdx? (·.1) = none
  | [], _ => rfl
  | e :: es, h => by
    simp only [List.all_cons, Bool.and_eq_true] at h
    have h2 := each_star (env := env) es h.2
    have h3 : assignEach (e :: es) env = (false, assign e env) :: assignEach es env := by
      cases e <;> first | rfl | cases h.1
    rw [h3, List.findIdx?_cons, h2]
    rfl
theorem g_tup {ts : Tgs} {j : Nat} (hk : C.K = X.K) (hc : X.calm = true) (h : PGs X es (gTs C F ts)) (hs : es.all notStar = true) (hl : es.length = tgsLen ts) : PG X (.Tuple es j pos) (gT C F (.tup ts)) := by
  have p1 := pg_tup (k := j) (pos := pos) hc h (each_len es) (each_star es hs)
  have p2 := pg_unl (k := j) (pos := pos) hc h (each_len es) (each_star es hs)
  refine ⟨fun pins z σ H v u Q I rv ⟨δ, s, x, A, R, r, hw⟩ => ?_⟩
  cases x with
  | tup xs =>
    simp only [RepP] at r
    obtain ⟨q, vs, rfl, hq, rr⟩ := r
    rw [hk] at hq
    simp only [bindT] at hw
    refine p1.run pins z σ H _ u Q I rv ⟨q, vs, rfl, sqT_mono A.sub hq, ?_, δ, s, xs, A, R, rr, hw⟩
    cases hb : bindTs ts xs δ with
    | none =>
      rw [hb] at hw
      exact hw.elim
    | some δ' => rw [← RepPs.len xs vs rr, bindTs_len ts xs δ δ' hb, hl]
  | lst xs =>
    simp only [RepP] at r
    obtain ⟨q, vs, rfl, hq, rr⟩ := r
    simp only [bindT] at hw
    refine p2.run pins z σ H _ u Q I rv ⟨q, vs, rfl, SqL.of (A.sub _ _ hq), ?_, δ, s, xs, A, R, rr, hw⟩
    cases hb : bindTs ts xs δ with
    | none =>
      rw [hb] at hw
      exact hw.elim
    | some δ' => rw [← RepPs.len xs vs rr, bindTs_len ts xs δ δ' hb, hl]
  | _ => exact hw.elim
/-! ### assignments -/
theorem s_set {i : Nat} {x : Str} (hN : X.N.Nodup) (hi : X.N[i]? = some x) (hx : Loc X.env.scope x) (hf : X.fn x = true ∨ X.env.scope.names.lookup x = some .local) (he : PE X e (tE C W F fe)) (hs : swapsWith e (some (.Name x p)) pos.line X.env = pure false) :
    PS X (.Assign [.Name x p] e pos) (tS C W F fun δ S => (fe δ S).st δ fun d S1 => .next (setSlot δ i d) S1) :=
  PS.imp (ps_set hN hi hx he hs hf) fun D σ H ⟨δ, s, A, R, h⟩ => ⟨δ, s, A, R, Wt.imp (WantS.st R h) fun d s' H' _ ex A' hk v r => hk.next A' ((R.mono ex).set r)⟩
theorem one_each {tg : Expr} {env : Env} (h : notStar tg = true) : (assignEach [tg] env).map (·.2) = [assign tg env] := by
  cases tg <;> first | rfl | cases h
theorem s_tup {ts : Tgs} {j : Nat} (hg : PG X (.Tuple es j p) (gT C F (.tup ts))) (he : PE X e (tE C W F fe)) (hw : swappedStores [.Tuple es j p] e X.env = pure none) :
    PS X (.Assign [.Tuple es j p] e pos) (tS C W F fun δ S => (fe δ S).st δ fun d S1 => match peek d S1 with
      | some (.tup xs) => match bindTs ts xs δ with
        | some δ' => .next δ' S1
        | none => .stuck
      | some (.lst xs) => match d with
        | .p _ => match bindTs ts xs δ with
          | some δ' => .next δ' S1
          | none => .stuck
        | _ => .stuck
      | _ => .stuck) :=
  PS.imp (ps_asg he hg sole_tup hw (one_each rfl)) fun D σ H ⟨δ, s, A, R, h⟩ => by
    refine ⟨δ, s, A, R, Wt.imp (WantS.st R h) fun d s' H' _ ex A' hk v r => ?_⟩
    cases hp : peek d s'.S with
    | none =>
      rw [hp] at hk
      exact hk.elim
    | some x =>
      rw [hp] at hk
      cases x with
      | tup xs =>
        refine ⟨δ, s', .tup xs, A', R.mono ex, peek_pure A' r hp (fun _ z => nomatch z), ?_⟩
        simp only [bindT]
        cases hb : bindTs ts xs δ with
        | none =>
          simp only [hb] at hk
          exact hk.elim
        | some δ' =>
          simp only [hb] at hk
          exact fun σ' R' _ => hk.next A' R'
      | lst xs =>
        cases d with
        | p y =>
          simp only [peek, Option.some.injEq] at hp
          subst hp
          refine ⟨δ, s', .lst xs, A', R.mono ex, r, ?_⟩
          simp only [bindT]
          cases hb : bindTs ts xs δ with
          | none =>
            simp only [hb] at hk
            exact hk.elim
          | some δ' =>
            simp only [hb] at hk
            exact fun σ' R' _ => hk.next A' R'
        | loc n => exact hk.elim
        | cls c => exact hk.elim
      | _ => exact hk.elim
/-! ### loops -/
theorem loop_want {r : RS} {on : DEnv → Sto → RS} (h : WantS C W F s (loopEnd r on) D') : WantS C W F s r { D' with nx := fun σ H => ∃ δ s', AtS C F s' H ∧ RepS C s' δ σ ∧ WantS C W F s' (on δ s'.S) D', ct := fun σ H => ∃ δ s', AtS C F s' H ∧ RepS C s' δ σ ∧ WantS C W F s' (on δ s'.S) D', bk := D'.nx } := by
  cases r with
  | next δ S' =>
    intro σ s' H' hS ex A' R'
    subst hS
    exact ⟨δ, s', A', R', WantS.ext ex h⟩
  | cnt δ S' =>
    intro σ s' H' hS ex A' R'
    subst hS
    exact ⟨δ, s', A', R', WantS.ext ex h⟩
  | brk δ S' => exact h
  | ret d S' => exact h
  | exc c x δ S' => exact h
  | stuck => exact h
theorem s_whl {body : List Stmt} {g : DEnv → Sto → RS} (n : Nat) (hp : PassesOwn (model X.prog X.w) X.A X.env X.xe) (hc : PT X c (tT C W F fc)) (hb : PSs X body (tS C W F g)) : PS X (.While c body [] pos) (tS C W F fun δ S => whileL fc g n δ S) :=
  PS.imp (ps_while hp hc hb) fun D σ H ⟨δ, s, A, R, h⟩ => by
    refine ⟨fun m σ H => ∃ δ s, AtS C F s H ∧ RepS C s δ σ ∧ WantS C W F s (whileL fc g m δ s.S) D, ⟨n, δ, s, A, R, h⟩, ?_⟩
    rintro m σ H ⟨δ, s, A, R, h⟩
    cases m with
    | zero => exact h.elim
    | succ m =>
      simp only [whileL] at h
      refine ⟨δ, s, A, R, Wt.imp (WantS.st R h) fun d s' H' _ ex A' hk => ?_⟩
      cases d with
      | p z =>
        cases z with
        | bl b =>
          cases b with
          | true =>
            dsimp only at hk ⊢
            rw [if_pos rfl]
            exact ⟨_, fun σ' H' q => ⟨m, Nat.lt_succ_self m, q⟩, δ, s', A', R.mono ex, loop_want hk⟩
          | false =>
            dsimp only at hk ⊢
            rw [if_neg Bool.false_ne_true]
            exact hk.next A' (R.mono ex)
        | _ => exact hk.elim
      | _ => exact hk.elim
/-! ### a field, an item is set -/
theorem repF_set {f : Nat} {d : D} {v : V} (r : RepD C s d v) : ∀ (fs : List (Nat × D)) (gs : List (Str × V)), (∀ g ∈ fs.map (·.1), C.NM f = C.NM g → f = g) → RepF C s fs gs → RepF C s (setFld f d fs) (putF (C.NM f) v gs)
  | [], gs, _, h => by
    cases (show gs = [] from h)
    exact ⟨v, [], rfl, r, rfl⟩
  | (g, e) :: fs, gs, hi, h => by
    obtain ⟨w, ws, rfl, h1, h2⟩ := h
    simp only [setFld, putF]
    by_cases hg : g = f
    · subst hg
      rw [if_pos (by simp), if_pos rfl]
      exact ⟨v, ws, rfl, r, h2⟩
    · have hn : ¬ C.NM g = C.NM f := fun z => hg (hi g (by simp) z.symm).symm
      rw [if_neg (by simpa using hg), if_neg hn]
      exact ⟨w, _, rfl, h1, repF_set r fs ws (fun g' hg' => hi g' (by simp only [List.map_cons, List.mem_cons]; exact Or.inr hg')) h2⟩
theorem setFld_mem {f : Nat} {d : D} : ∀ (fs : List (Nat × D)) (g : Nat), g ∈ (setFld f d fs).map (·.1) → g = f ∨ g ∈ fs.map (·.1)
  | [], g, h => by
    simp only [setFld, List.map_cons, List.map_nil, List.mem_singleton] at h
    exact Or.inl h
  | (g', e) :: fs, g, h => by
    simp only [setFld] at h
    split at h
    · exact Or.inr h
    · simp only [List.map_cons, List.mem_cons] at h ⊢
      rcases h with h | h
      · exact Or.inr (Or.inl h)
      · rcases setFld_mem fs g h with z | z
        · exact Or.inl z
        · exact Or.inr (Or.inr z)
theorem repF_len : ∀ (fs : List (Nat × D)) (gs : List (Str × V)), RepF C s fs gs → fs.length = gs.length
  | [], gs, h => by
    cases (show gs = [] from h)
    rfl
  | (g, e) :: fs, gs, h => by
    obtain ⟨w, ws, rfl, h1, h2⟩ := h
    simp only [List.length_cons, repF_len fs ws h2]
def setfD (FT : FldT) (f : Nat) (d d2 : D) (δ : DEnv) (S : Sto) : RS := match d2 with
  | .loc n => match S[n]? with
    | some (.live (.obj c fs)) => if decide (fs.length < 100) && (FT c).contains f then .next δ (S.set n (.live (.obj c (setFld f d fs)))) else .stuck
    | _ => .stuck
  | _ => .stuck
theorem s_setf (sp : Spot C W X k) {f : Nat} {x : Str} (hx : C.NM f = x) (ho : PE X o (tE C W F fo)) (he : PE X e (tE C W F fe)) (hs : notComp e = true) :
    PS X (.Assign [.Attribute o x p] e pos) (tS C W F fun δ S => (fe δ S).st δ fun d S1 => (fo δ S1).st δ fun d2 S2 => setfD C.FT f d d2 δ S2) := by
  subst hx
  refine PS.imp (ps_fld ho he (swaps_plain hs)) fun D σ H ⟨δ, s, A, R, h⟩ => ?_
  refine ⟨δ, s, A, R, Wt.imp (WantS.st R h) fun d s1 H1 _ e1 A1 h1 v r1 => ?_⟩
  refine ⟨δ, s1, A1, R.mono e1, Wt.imp (WantS.st (R.mono e1) h1) fun d2 s2 H2 _ e2 A2 h2 u r2 => ?_⟩
  cases d2 with
  | loc n =>
    simp only [setfD] at h2
    split at h2
    · rename_i c fs e
      split at h2
      · rename_i hl
        simp only [Bool.and_eq_true, decide_eq_true_eq, List.contains_iff_mem] at hl
        obtain ⟨q, o', k1, k2, k3, k4, hc, hm, dx, gs, ho', rf⟩ := A2.live n _ e
        obtain ⟨q', hq', rfl⟩ := r2
        rw [k1] at hq'
        cases hq'
        subst ho'
        have cf := sp.cf.one c hc
        rw [sp.hk] at cf
        have na := sp.fl.na c hc f hl.2
        rw [sp.hk] at na
        have rd := RepD.mono e2 d v r1
        have r' : RepC C s2 (.obj c (setFld f d fs)) (.ins (C.CA c) dx (putF (C.NM f) v gs)) := ⟨hc, fun g hg => by
          rcases setFld_mem fs g hg with z | z
          · rw [z]
            exact hl.2
          · exact hm g z, dx, _, rfl, repF_set rd fs gs (fun g hg => sp.fl.inj c hc g (hm g hg) f) rf⟩
        obtain ⟨A', ex⟩ := A2.write e k1 r'
        refine ⟨q, C.CA c, dx, gs, rfl, k4, cf.cl, na, by rw [← repF_len fs gs rf]; omega, ?_⟩
        exact h2 σ _ _ rfl ex A' ((R.mono (e1.trans e2)).mono ex)
      · exact h2.elim
    · exact h2.elim
  | _ => exact h2.elim
theorem setIx_at {α β : Type} {xs ys : List β} {vs : List α} {i : Int} {y : β} (hl : xs.length = vs.length) (h : setIx xs i y = some ys) : ∃ j, ixN vs.length i = some j ∧ ys = xs.set j y := by
  unfold setIx at h
  split at h
  · rename_i h0
    split at h
    · rename_i h1
      refine ⟨i.toNat, ?_, (Option.some.inj h).symm⟩
      unfold ixN
      rw [if_pos h0, if_pos (by omega)]
    · cases h
  · rename_i h0
    split at h
    · cases h
    · rename_i h1
      refine ⟨(i + xs.length).toNat, ?_, (Option.some.inj h).symm⟩
      unfold ixN
      rw [if_neg h0, if_pos (by omega), ← hl]
theorem reps_set {G : Hp} {y : P} {v : V} (r : RepP C G y v) : ∀ (xs : List P) (vs : List V) (j : Nat), RepPs C G xs vs → RepPs C G (xs.set j y) (vs.set j v)
  | [], vs, j, h => by
    simp only [RepPs] at h
    subst h
    simp only [List.set_nil, RepPs]
  | x :: xs, vs, j, h => by
    simp only [RepPs] at h
    obtain ⟨w, ws, rfl, h1, h2⟩ := h
    cases j with
    | zero =>
      simp only [List.set_cons_zero, RepPs]
      exact ⟨v, ws, rfl, r, h2⟩
    | succ j =>
      simp only [List.set_cons_succ, RepPs]
      exact ⟨w, _, rfl, h1, reps_set r xs ws j h2⟩
theorem repds_set {s : Sit} {v : V} {d : D} (r : RepD C s d v) : ∀ (xs : List D) (vs : List V) (j : Nat), RepDs C s xs vs → RepDs C s (xs.set j d) (vs.set j v)
  | [], vs, j, h => by
    subst h
    exact rfl
  | x :: xs, vs, j, ⟨w, ws, hv, h1, h2⟩ => by
    subst hv
    cases j with
    | zero => exact ⟨v, ws, rfl, r, h2⟩
    | succ j => exact ⟨w, _, rfl, h1, repds_set r xs ws j h2⟩
def setiD (y : P) (d2 d3 : D) (δ : DEnv) (S : Sto) : RS := match d2, d3 with
  | .loc n, .p (.int k) => match S[n]? with
    | some (.live (.lst xs)) => match setIx xs k y with
      | some ys => .next δ (S.set n (.live (.lst ys)))
      | none => .stuck
    | some (.live (.nst ds)) => match setIx ds k (.p y) with
      | some ys => .next δ (S.set n (.live (.nst ys)))
      | none => .stuck
    | _ => .stuck
  | _, _ => .stuck
theorem WantS.pur {v : V} {d : D} {g : P → Sto → RS} (A : AtS C F s1 H) (r : RepD C s1 d v) (R : RepS C s1 δ σ) (h : WantS C W F s1 ((purify d s1.S).st δ g) D') :
    ∃ x s2, ExtS s1 s2 ∧ AtS C F s2 H ∧ RepP C s2.G x v ∧ WantS C W F s2 (g x s2.S) D' := by
  cases e : purify d s1.S with
  | ok x S' =>
    obtain ⟨s2, hS, A2, ex, rx⟩ := purify_ok A r e
    rw [e] at h
    refine ⟨x, s2, ex, A2, rx, WantS.ext ex ?_⟩
    rw [hS]
    exact h
  | exc c x S' => exact (purify_not e).elim
  | stuck =>
    rw [e] at h
    exact h.elim
theorem s_seti (hsl : notSlice b = true) (ho : PE X o (tE C W F fo)) (hi : PE X b (tE C W F fb)) (he : PE X e (tE C W F fe)) (hs : notComp e = true) :
    PS X (.Assign [.Subscript o b p] e pos) (tS C W F fun δ S => (fe δ S).st δ fun d S1 => (purify d S1).st δ fun y S2 => (fo δ S2).st δ fun d2 S3 => (fb δ S3).st δ fun d3 S4 => setiD y d2 d3 δ S4) := by
  have ha : ∀ v, assign (.Subscript o b p) X.env v = (do
      let ov ← holding [v] (eval o X.env)
      let iv ← holding [v, ov] (eval b X.env)
      standAt p
      holding [v, ov, iv] (setItem ov iv v)
      release [v, ov, iv] []) := by
    intro v
    cases b <;> first | rfl | cases hsl
  have hw : swappedStores [.Subscript o b p] e X.env = pure none := by
    cases e <;> rfl
  refine PS.imp (ps_asg he (pg_sub ho hi set_list ha) (sole_plain hs) hw (one_each rfl)) fun D σ H ⟨δ, s, A, R, h⟩ => ?_
  refine ⟨δ, s, A, R, Wt.imp (WantS.st R h) fun d s1 H1 _ e1 A1 h1 v r1 => ?_⟩
  obtain ⟨y, s2, e2, A2, r2, h2⟩ := WantS.pur A1 r1 (R.mono e1) h1
  have R2 := R.mono (e1.trans e2)
  refine ⟨δ, s2, A2, R2, Wt.imp (WantS.st R2 h2) fun d3 s3 H3 _ e3 A3 h3 u r3 => ?_⟩
  refine ⟨δ, s3, A3, R2.mono e3, Wt.imp (WantS.st (R2.mono e3) h3) fun d4 s4 H4 _ e4 A4 h4 w r4 => ?_⟩
  have r3' := RepD.mono e4 d3 u r3
  cases d3 with
  | loc n =>
    cases d4 with
    | p z =>
      cases z with
      | int i =>
        simp only [setiD] at h4
        simp only [RepD, RepP] at r4
        subst r4
        split at h4
        · rename_i xs e
          obtain ⟨q, o', k1, k2, k3, k4, vs, ho', rf⟩ := A4.live n _ e
          obtain ⟨q', hq', rfl⟩ := r3'
          rw [k1] at hq'
          cases hq'
          subst ho'
          cases hx : setIx xs i y with
          | none =>
            rw [hx] at h4
            exact h4.elim
          | some ys =>
            rw [hx] at h4
            obtain ⟨j, hj, rfl⟩ := setIx_at (RepPs.len xs vs rf) hx
            have r' : RepC C s4 (.lst (xs.set j y)) (.lst (vs.set j v)) := ⟨_, rfl, reps_set (RepP.mono (e3.trans e4).G y v r2) xs vs j rf⟩
            obtain ⟨A', ex⟩ := A4.write e k1 r'
            exact ⟨q, vs, i, j, rfl, rfl, k4, hj, h4 σ _ _ rfl ex A' ((R2.mono (e3.trans e4)).mono ex)⟩
        · rename_i ds e
          obtain ⟨q, o', k1, k2, k3, k4, vs, ho', rf⟩ := A4.live n _ e
          obtain ⟨q', hq', rfl⟩ := r3'
          rw [k1] at hq'
          cases hq'
          subst ho'
          cases hx : setIx ds i (.p y) with
          | none =>
            rw [hx] at h4
            exact h4.elim
          | some ys =>
            rw [hx] at h4
            obtain ⟨j, hj, rfl⟩ := setIx_at (RepDs.len ds vs rf) hx
            have r' : RepC C s4 (.nst (ds.set j (.p y))) (.lst (vs.set j v)) := ⟨_, rfl, repds_set (d := .p y) (RepP.mono (e3.trans e4).G y v r2) ds vs j rf⟩
            obtain ⟨A', ex⟩ := A4.write e k1 r'
            exact ⟨q, vs, i, j, rfl, rfl, k4, hj, h4 σ _ _ rfl ex A' ((R2.mono (e3.trans e4)).mono ex)⟩
        · exact h4.elim
      | _ => exact h4.elim
    | _ => exact h4.elim
  | _ => exact h4.elim
end
end RP
end

section
set_option Elab.async false
set_option linter.all false
set_option maxRecDepth 100000
set_option maxHeartbeats 2000000
/-! enumerate over a tuple. -/
namespace RP
open PySem L2 PySem.Spec PyProof.Rows
open PySem.Sem (wp)
open AutoSeq1 (wpAny_loadPart')
theorem meets_enum_tup (t : Addr) (items : Array Value) (n : Nat) (dct : Option Addr) (sl : Array (Option Value)) :
    Meets (Builtin.«enumerate.__new__» ⟨[.type "enumerate", .ref t], []⟩) (fun _ R s => s.heap.get? t = some { cls := .type "tuple", dict := dct, data := .seq items n, slots := sl } ∧
      R (.ok (.ret (.ref (s.heap.push { cls := .type "tuple_iterator", data := .fields #[.ref t, .int 0 0] }).objs.size)))
        { s with heap := (s.heap.push { cls := .type "tuple_iterator", data := .fields #[.ref t, .int 0 0] }).push { cls := .type "enumerate", data := .fields #[.none, .bool false, .ref s.heap.objs.size, rawInt 0, .none, .none] } }) :=
  .of_wp fun prog w A R s h => by
    obtain ⟨hp, g, d, tk, os⟩ := s; obtain ⟨hl, h⟩ := h
    have hsub := sub_enumerate
    have hL : Heap.IsTuple (Shared.heap ⟨hp, g, d, tk, os⟩) t items := ⟨_, hl, rfl, n, rfl⟩
    wp_walk using wpAny_loadPart' hl
    refine wpAny_stack_any fun st => wpAny_pure ?_
    split
    · rename_i c _ _ _ _ _
      cases (c == Value.type "enumerate")
      · wp_walk using wpAny_loadPart' hl, wpAny_pyIter_tuple hL
        exact ⟨_, rfl, h⟩
      · wp_walk using wpAny_loadPart' hl, wpAny_pyIter_tuple hL
        exact ⟨_, rfl, h⟩
    · wp_walk using wpAny_loadPart' hl, wpAny_pyIter_tuple hL
      exact ⟨_, rfl, h⟩
theorem call_enum_tup {prog : Program} {w : World} {A : Around} {E : Value → Shared → Prop} {s : Shared} {t : Addr} {items : Array Value} {Q : Value → Shared → Prop} (hL : s.heap.IsTuple t items)
    (h : ∀ h', IsEnum h' (s.heap.objs.size + 1) s.heap.objs.size 0 .none → h'.IsTupleIter s.heap.objs.size t 0 → h'.objs.size = s.heap.objs.size + 2 →
      (∀ b o, s.heap.get? b = some o → h'.get? b = some o) → Q (.ref (s.heap.objs.size + 1)) { s with heap := h' }) :
    wpAny (model prog w) A (call (.type "enumerate") [.ref t]) Q E s := by
  obtain ⟨⟨c, dct, dt, sl⟩, hl, hc, n, hd⟩ := hL
  replace hc : c = .type "tuple" := hc
  replace hd : dt = .seq items n := hd
  subst hc hd
  refine callType_new F.called_enumerate (by decide) (F.typeCall_enumerate_1 _) (F.newCall_enumerate_1 _) (fun obj => F.args_object_init_2 obj _) F.entry_enumerate_new
    (meets_enum_tup t items n dct sl) ⟨hl, ?_⟩
  have hz : (s.heap.push { cls := .type "tuple_iterator", data := .fields #[.ref t, .int 0 0] }).objs.size = s.heap.objs.size + 1 := Heap.size_push ..
  show _ ∧ _
  rw [hz]
  have he : IsEnum ((s.heap.push { cls := .type "tuple_iterator", data := .fields #[.ref t, .int 0 0] }).push
      { cls := .type "enumerate", data := .fields #[.none, .bool false, .ref s.heap.objs.size, rawInt 0, .none, .none] }) (s.heap.objs.size + 1) s.heap.objs.size 0 .none := by
    have := Heap.get?_push_size (s.heap.push { cls := .type "tuple_iterator", data := .fields #[.ref t, .int 0 0] })
      (o := { cls := .type "enumerate", data := .fields #[.none, .bool false, .ref s.heap.objs.size, rawInt 0, .none, .none] }) rfl
    rw [hz] at this; exact this
  refine ⟨⟨_, he, rfl⟩, h _ he ⟨_, Heap.get?_push_of_some _ (Heap.get?_push_size _ rfl), rfl, rfl⟩ (by rw [Heap.size_push, hz]) fun b o x => Heap.get?_push_of_some _ (Heap.get?_push_of_some _ x)⟩
/-- the tuple at a, each item in a new pair -/
def IteT (K : PySem.W.Frag) (a : Addr) : L2.It :=
  ⟨fun i H => ∃ (xs : List V) (x : V), SqT K H a xs ∧ xs[i]? = some x, fun i H v H' => ∃ T x, v = .ref T ∧ H T = none ∧ H' = upd H T (.tup [.int (i : Nat), x]) ∧ ∀ xs, SqT K H a xs → xs[i]? = some x, fun i H => ∃ xs : List V, SqT K H a xs ∧ xs.length ≤ i⟩
theorem tup_apart {h : Heap} {e it t : Addr} {i j : Int} {k : Nat} {old : Value} {items : Array Value} (he : IsEnum h e it i old) (hit : h.IsTupleIter it t k) (p : h.IsTuple t items) : e ≠ t ∧ t ≠ it := by
  obtain ⟨o, ho, hc, n, hd⟩ := p
  obtain ⟨o2, ho2, hc2, hd2⟩ := hit
  refine ⟨fun z => ?_, fun z => ?_⟩
  · subst z
    have he' : h.get? e = _ := he
    rw [he'] at ho
    cases ho
    exact absurd hc (by intro q; injection q with q; revert q; decide)
  · subst z
    rw [ho2] at ho
    cases ho
    rw [hc2] at hc
    exact absurd hc (by intro q; injection q with q; revert q; decide)
theorem turn_enumT {P : Program} {w : World} {K : PySem.W.Frag} {elts : List Expr} {kk : Nat} {tpos : Pos} (a e it : Addr) :
    Turn P w K (.Tuple elts kk tpos) (IteT K a) [e, it] e (fun i h => (∃ old, IsEnum h e it ((i : Nat) : Int) old) ∧ h.IsTupleIter it a i ∧ e ≠ it) where
  mem := by simp
  obj := fun i h st b hb => by
    obtain ⟨⟨old, he⟩, ⟨o, ho, hc, hd⟩, _⟩ := st
    have e' : b = e ∨ b = it := by simpa using hb
    rcases e' with z | z
    · rw [z]; exact ⟨_, he, fun v q => nomatch q⟩
    · rw [z]; exact ⟨o, ho, fun v q => by rw [hd] at q; cases q⟩
  keep := fun i h h' st k => let ⟨⟨old, he⟩, hi, hne⟩ := st; ⟨⟨old, k e (by simp) _ he⟩, hi.at fun o q => k it (by simp) o q, hne⟩
  item := by
    intro X hP hw hK hc i pins s σ H E I hf st hg
    subst hP hw hK
    obtain ⟨⟨old, he⟩, hit, hne⟩ := st
    obtain ⟨xs, x, hq, hx⟩ := hg
    obtain ⟨its, rv, p, hz⟩ := I.tuple hq
    have p' : s.heap.IsTuple a its.toArray := p
    obtain ⟨u, hu, ru⟩ := rv.get hx
    have hel : e < s.heap.objs.size := Heap.lt_size he
    have hil : it < s.heap.objs.size := by obtain ⟨_, q, _⟩ := hit; exact Heap.lt_size q
    obtain ⟨ap1, ap2⟩ := tup_apart (j := 0) he hit p'
    have hhd := I.ok.hd hc
    have il : i < its.length := by
      rcases Nat.lt_or_ge i its.length with q | q
      · exact q
      · rw [List.getElem?_eq_none q] at hu
        cases hu
    refine wpAny_pyNext_enum_itemD (Draws.tuple (A := X.A.in1) (show X.A.in1.handled = none from hhd) it a ap2 its.toArray) he ⟨hit, p'⟩ (by simpa using il) hne (by simp [hne, ap1]) fun y h' tk hy ho hst' hT hsz hk => ?_
    have ey : y = u := by
      have hy' : its.toArray[i]? = some y := hy
      simp only [List.getElem?_toArray] at hy'
      rw [hu] at hy'
      cases hy'
      rfl
    subst ey
    refine ⟨_, rfl, wpAny_letOwnedTupleGo_enum (s := { s with heap := h', toks := tk + 1 }) ho fun h'' he' sb => ?_⟩
    have hT2 : h''.get? s.heap.objs.size = some { cls := .type "tuple", data := .seq #[.int i tk, y] } := (sb.2 _ (Nat.ne_of_gt hel)).trans hT
    have new : ObjOk X.prog X.w (upd H s.heap.objs.size (.tup [.int (i : Nat), x])) h'' s.heap.objs.size (.tup [.int (i : Nat), x]) :=
      ⟨by show 2 ≤ sizeLine; decide, [.int i tk, y], .cons ⟨_, rfl⟩ (.cons ru .nil), ⟨_, hT2, rfl, _, rfl⟩⟩
    have I1 : Inv X pins σ (upd H s.heap.objs.size (.tup [.int (i : Nat), x])) { s with heap := h'', toks := tk + 1 } :=
      I.turnedNew (ch := [e, it]) (fun b ob hb q => (sb.2 b (fun z => hb (by simp [z]))).trans (hk b ob (fun z => hb (by simp [z])) (fun z => hb (by simp [z])) q)) hf (Nat.le_refl _) new
    refine ⟨.ref s.heap.objs.size, _, I1, rfl, ⟨_, x, rfl, I.hok.fresh (Nat.le_refl _), rfl, fun ys hy => by rw [I.tuple_inj hy hq]; exact hx⟩, ⟨⟨y, ?_⟩, hst'.1.at fun o q => (sb.2 it (Ne.symm hne)).trans q, hne⟩, fun b hb => ?_⟩
    · have e1 : ((i + 1 : Nat) : Int) = (i : Int) + 1 := by omega
      rw [e1]; exact he'
    · have hb' : b < s.heap.objs.size := by
        have e' : b = e ∨ b = it := by simpa using hb
        rcases e' with z | z
        · rw [z]; exact hel
        · rw [z]; exact hil
      rw [upd_ne (Nat.ne_of_lt hb')]
      exact (hf b hb).1
  done := by
    intro X hP hw hK hc i pins s σ H E I hf st hg
    subst hP hw hK
    obtain ⟨⟨old, he⟩, hit, hne⟩ := st
    obtain ⟨xs, hq, hx⟩ := hg
    obtain ⟨its, rv, p, hz⟩ := I.tuple hq
    obtain ⟨f0, f1, f2, f3, f4, f5⟩ := hf it (by simp)
    have hl := rv.length
    have hT : s.TypeIs (.ref e) "enumerate" := ⟨_, he, rfl⟩
    have hhd := I.ok.hd hc
    unfold pyNext
    refine wpAny_bind (wpAny_attempt (wpAny_callSpecial?_slot (name := Str.ofString "__next__") hT F.slot_enumerate_next
      (wpAny_call_entry F.slot_enumerate_next hT F.entry_enumerate_next ?_ (F.args_enumerate_next_1 _))))
    show wpAny _ _ (field (.ref e) 2 >>= _) _ _ _
    refine wpAny_bind (wpAny_field he rfl (x := .ref it) rfl ?_)
    refine wpAny_bind (wpAny_nextOf_tuple_end (show _ = none from hhd) hit (show s.heap.IsTuple a its.toArray from p) (by simp; omega) fun h' x he' hx' => ?_)
    obtain ⟨o, ho, hcc⟩ := hx'
    refine wpAny_bind (wpAny_isInstance (T := "StopIteration") (b := true) ⟨o, ho, hcc⟩ isSubtype_stop ?_)
    exact wpAny_pure ⟨rfl, I.turned (t' := s.toks) (fun b o hb q => he' b o hb q) f0 f1 f3 f4 f5⟩
  self := fun A i s Q E st h => let ⟨⟨_, he⟩, _⟩ := st; wpAny_pyIter_enum he h
/-- enumerate of a list or a tuple -/
def iEnumA (K : PySem.W.Frag) (ta : TA) : TI := fun σ H R => ta σ H fun vs H1 => ∃ a, vs = [.ref a] ∧ ((∃ xs, SqL K H1 a xs ∧ R (Ite K a) H1) ∨ ∃ xs, SqT K H1 a xs ∧ R (IteT K a) H1)
theorem pi_enumA {X : Cx} {e : Expr} {ta : TA} {p pos tpos : Pos} {elts : List Expr} {kk : Nat} (hg : Gl X "enumerate") (hm : X.mg "enumerate" = none) (ha : PA X [e] ta) (hs : starEach [e] X.env = [(false, eval e X.env)] := by rfl) :
    PI X (.Tuple elts kk tpos) (.Call (.Name "enumerate" p) [e] [] pos) (iEnumA X.K ta) := by
  refine ⟨fun pins s σ H R I h => ?_⟩
  refine Call_ (ld_blt I hg hm boot_enumerate (PyProof.Rows.callWith_type1 (thn (ha.run pos pins s σ H _ I h) fun us s1 ⟨vs, H1, I1, r1, q1⟩ => ?_) hs rfl))
  obtain ⟨a, ex, q1⟩ := q1
  subst ex
  cases r1 with
  | cons r rr =>
    cases rr
    cases r
    rcases q1 with ⟨xs, hq, q⟩ | ⟨xs, hq, q⟩
    · obtain ⟨its, rv, p', hz⟩ := I1.list hq
      refine call_enumerate_list p'.isList fun h' he hit hsz hk => wpAny_pyIter_enum he ?_
      have I2 : Inv X pins σ H1 { s1 with heap := h' } := I1.kept (t' := s1.toks) hk
      refine ⟨s1.heap.objs.size + 1, [s1.heap.objs.size + 1, s1.heap.objs.size], _, _, H1, rfl, I2, turn_enum a (s1.heap.objs.size + 1) s1.heap.objs.size, ⟨⟨.none, he⟩, hit, Nat.succ_ne_self _⟩, fun b hb => ?_, q⟩
      have e' : b = s1.heap.objs.size + 1 ∨ b = s1.heap.objs.size := by simpa using hb
      have hle : s1.heap.objs.size ≤ b := by
        rcases e' with z | z
        · rw [z]; exact Nat.le_add_right _ _
        · rw [z]; exact Nat.le_refl _
      exact I1.fpOk hle (I1.hok.fresh hle)
    · obtain ⟨its, rv, p', hz⟩ := I1.tuple hq
      refine call_enum_tup (show s1.heap.IsTuple a its.toArray from p') fun h' he hit hsz hk => wpAny_pyIter_enum he ?_
      have I2 : Inv X pins σ H1 { s1 with heap := h' } := I1.kept (t' := s1.toks) hk
      refine ⟨s1.heap.objs.size + 1, [s1.heap.objs.size + 1, s1.heap.objs.size], _, _, H1, rfl, I2, turn_enumT a (s1.heap.objs.size + 1) s1.heap.objs.size, ⟨⟨.none, he⟩, hit, Nat.succ_ne_self _⟩, fun b hb => ?_, q⟩
      have e' : b = s1.heap.objs.size + 1 ∨ b = s1.heap.objs.size := by simpa using hb
      have hle : s1.heap.objs.size ≤ b := by
        rcases e' with z | z
        · rw [z]; exact Nat.le_add_right _ _
        · rw [z]; exact Nat.le_refl _
      exact I1.fpOk hle (I1.hok.fresh hle)
end RP
end

section
set_option Elab.async false
set_option linter.all false
set_option maxRecDepth 100000
set_option maxHeartbeats 2000000
/-! zip of any two of: lists, tuples, texts. -/
namespace RP
open PySem L2 PySem.Spec PyProof.Rows
open PySem.Sem (wp)
theorem adn {n i j : Nat} (h : i ≠ j) : n + i ≠ n + j := by omega
theorem adn0 {n i : Nat} (h : i ≠ 0) : n + i ≠ n := by omega
theorem vals_at : ∀ {xs : List V} {us : List Value} {i : Nat} {u : Value}, Vals xs us → us[i]? = some u → ∃ v, xs[i]? = some v ∧ RelV v u
  | _, _, i, u, .nil, h => by simp at h
  | _, _, 0, u, .cons r _, h => by
    simp only [List.getElem?_cons_zero, Option.some.injEq] at h
    subst h
    exact ⟨_, rfl, r⟩
  | _, _, i + 1, u, .cons _ rr, h => by
    simp only [List.getElem?_cons_succ] at h ⊢
    exact vals_at rr h
def srcV : Src → V
  | .l a => .ref a
  | .t a => .ref a
  | .s z => .str z
def srcFp : Src → List Addr
  | .l a => [a]
  | .t a => [a]
  | .s _ => []
def srcSq (K : PySem.W.Frag) (H : Hp) : Src → List V → Prop
  | .l a, xs => SqL K H a xs
  | .t a, xs => SqT K H a xs
  | .s z, xs => xs = z.cps.toList.map fun c => V.str ⟨#[c]⟩
def srcSt (t : Tok) (it : Addr) (i : Nat) (h : Heap) : Src → Prop
  | .l a => h.IsListIter it a i
  | .t a => h.IsTupleIter it a i
  | .s z => h.IsStrIter it (strIterType z) z t i
section
variable {X : Cx} {pins : List (Addr × Obj)} {σ : L2.St} {H : Hp} {s : Shared} {p : Src} {xs : List V}
theorem src_obj {t : Tok} {it : Addr} {i : Nat} {h : Heap} (st : srcSt t it i h p) : ∃ o, h.get? it = some o ∧ ∃ vs, o.data = .fields vs := by
  cases p with
  | l a => obtain ⟨o, e, _, d⟩ := st; exact ⟨o, e, _, d⟩
  | t a => obtain ⟨o, e, _, d⟩ := st; exact ⟨o, e, _, d⟩
  | s z => obtain ⟨o, e, _, d⟩ := st; exact ⟨o, e, _, d⟩
theorem src_at {t : Tok} {it : Addr} {i : Nat} {h h' : Heap} (st : srcSt t it i h p) (k : ∀ o, h.get? it = some o → h'.get? it = some o) : srcSt t it i h' p := by
  cases p with
  | l a => exact Heap.IsListIter.at st k
  | t a => exact Heap.IsTupleIter.at st k
  | s z => obtain ⟨o, e, c, d⟩ := st; exact ⟨o, k o e, c, d⟩
theorem src_draws (hh : X.A.in1.handled = none) (I : Inv X pins σ H s) (h : srcSq X.K H p xs) (t : Tok) (it : Addr) (ne : ∀ a ∈ srcFp p, a ≠ it) :
    ∃ (Pv : Nat → Value → Prop) (G : Heap → Prop), Draws X.prog X.w X.A.in1 it (it :: srcFp p) xs.length Pv (fun i h => srcSt t it i h p ∧ G h) ∧ G s.heap ∧ ∀ i u, Pv i u → ∃ v, xs[i]? = some v ∧ RelV v u := by
  cases p with
  | l a =>
    obtain ⟨its, rv, q, _⟩ := I.list h
    have D := Draws.list (prog := X.prog) (w := X.w) (A := X.A.in1) hh it a (ne a (by simp [srcFp])) its.toArray
    have e : its.toArray.size = xs.length := by simpa using (rv.length).symm
    rw [e] at D
    refine ⟨_, _, D, q.isList, fun i u hu => ?_⟩
    have hu' : its[i]? = some u := by simpa using hu
    exact vals_at rv hu'
  | t a =>
    obtain ⟨its, rv, q, _⟩ := I.tuple h
    have D := Draws.tuple (prog := X.prog) (w := X.w) (A := X.A.in1) hh it a (ne a (by simp [srcFp])) its.toArray
    have e : its.toArray.size = xs.length := by simpa using (rv.length).symm
    rw [e] at D
    refine ⟨_, _, D, q, fun i u hu => ?_⟩
    have hu' : its[i]? = some u := by simpa using hu
    exact vals_at rv hu'
  | s z =>
    have D := Draws.text (prog := X.prog) (w := X.w) (A := X.A.in1) hh it z t
    have e : z.cps.size = xs.length := by
      have h' : xs = _ := h
      rw [h']
      simp
    rw [e] at D
    refine ⟨_, fun _ => True, ⟨fun i h st => D.live i h st.1, fun i h h' st k => ⟨D.frame i h h' st.1 k, trivial⟩, fun i s Q E hi st hQ => D.item i s Q E hi st.1 fun v h' tk a b c => hQ v h' tk a ⟨b, trivial⟩ c, fun s Q E st hE => D.done s Q E st.1 hE⟩, trivial, fun i u hu => ?_⟩
    obtain ⟨c, u', hc, rfl⟩ := hu
    have h' : xs = _ := h
    refine ⟨.str ⟨#[c]⟩, ?_, u', rfl⟩
    rw [h', List.getElem?_map]
    have : z.cps.toList[i]? = some c := by simpa using hc
    rw [this]
    rfl
end
/-- pairs of the items of two -/
def ItzX (K : PySem.W.Frag) (p q : Src) : L2.It :=
  ⟨fun i H => ∃ (xs ys : List V) (x y : V), srcSq K H p xs ∧ srcSq K H q ys ∧ xs[i]? = some x ∧ ys[i]? = some y,
    fun i H v H' => ∃ T x y, v = .ref T ∧ H T = none ∧ H' = upd H T (.tup [x, y]) ∧ (∀ xs, srcSq K H p xs → xs[i]? = some x) ∧ ∀ ys, srcSq K H q ys → ys[i]? = some y,
    fun i H => ∃ xs ys : List V, srcSq K H p xs ∧ srcSq K H q ys ∧ i ≤ xs.length ∧ i ≤ ys.length ∧ (i = xs.length ∨ i = ys.length)⟩
theorem src_inj {X : Cx} {pins : List (Addr × Obj)} {σ : L2.St} {H : Hp} {s : Shared} {p : Src} {xs ys : List V} (I : Inv X pins σ H s) (h1 : srcSq X.K H p xs) (h2 : srcSq X.K H p ys) : xs = ys := by
  cases p with
  | l a => exact I.list_inj h1 h2
  | t a => exact I.tuple_inj h1 h2
  | s z =>
    have e1 : xs = _ := h1
    have e2 : ys = _ := h2
    rw [e1, e2]
theorem turn_zipX {P : Program} {w : World} {K : PySem.W.Frag} {elts : List Expr} {kk : Nat} {tpos : Pos} {p q : Src} {t1 t2 : Tok} {zp TI TO i1 i2 : Addr} (D : ZipSep2 zp TI TO i1 i2 (i1 :: srcFp p) (i2 :: srcFp q)) (n1 : ∀ a ∈ srcFp p, a ≠ i1) (n2 : ∀ a ∈ srcFp q, a ≠ i2) :
    Turn P w K (.Tuple elts kk tpos) (ItzX K p q) [zp, TI, TO, i1, i2] zp (fun i h => IsZip h zp TI TO .none ∧ IsTupOf2 h TI (.ref i1) (.ref i2) ∧ (∃ x y, IsTupOf2 h TO x y) ∧ srcSt t1 i1 i h p ∧ srcSt t2 i2 i h q) where
  mem := by simp
  obj := fun i h st c hc => by
    obtain ⟨hz, hTI, ⟨x, y, hTO⟩, h1, h2⟩ := st
    obtain ⟨o1, e1, vs1, d1⟩ := src_obj h1
    obtain ⟨o2, e2, vs2, d2⟩ := src_obj h2
    have e' : c = zp ∨ c = TI ∨ c = TO ∨ c = i1 ∨ c = i2 := by simpa using hc
    rcases e' with q | q | q | q | q
    · rw [q]; exact ⟨_, hz, fun v q => nomatch q⟩
    · rw [q]; exact ⟨_, hTI, fun v q => nomatch q⟩
    · rw [q]; exact ⟨_, hTO, fun v q => nomatch q⟩
    · rw [q]; exact ⟨o1, e1, fun v q => by rw [d1] at q; cases q⟩
    · rw [q]; exact ⟨o2, e2, fun v q => by rw [d2] at q; cases q⟩
  keep := fun i h h' st k => by
    obtain ⟨hz, hTI, ⟨x, y, hTO⟩, h1, h2⟩ := st
    exact ⟨k zp (by simp) _ hz, k TI (by simp) _ hTI, ⟨x, y, k TO (by simp) _ hTO⟩, src_at h1 fun o q => k i1 (by simp) o q, src_at h2 fun o q => k i2 (by simp) o q⟩
  item := by
    intro X hP hw hK hc i pins s σ H E I hf st hg
    subst hP hw hK
    obtain ⟨hz, hTI, ⟨x0, y0, hTO⟩, h1, h2⟩ := st
    obtain ⟨xs, ys, x, y, hqx, hqy, hx, hy⟩ := hg
    have hhd : X.A.in1.handled = none := I.ok.hd hc
    obtain ⟨P1, G1, D1, g1, p1⟩ := src_draws hhd I hqx t1 i1 n1
    obtain ⟨P2, G2, D2, g2, p2⟩ := src_draws hhd I hqy t2 i2 n2
    have hzl : zp < s.heap.objs.size := Heap.lt_size hz
    have l1 : i < xs.length := by
      rcases Nat.lt_or_ge i xs.length with q | q
      · exact q
      · rw [List.getElem?_eq_none q] at hx; cases hx
    have l2 : i < ys.length := by
      rcases Nat.lt_or_ge i ys.length with q | q
      · exact q
      · rw [List.getElem?_eq_none q] at hy; cases hy
    refine wpAny_pyNext_zipD2_item D D1 D2 hz hTI hTO ⟨h1, g1⟩ ⟨h2, g2⟩ l1 l2 fun u u2 h' tk y1 y2 z' TO' h1' h2' hT hsz hk => ?_
    obtain ⟨v1, ev1, ru⟩ := p1 i u y1
    obtain ⟨v2, ev2, ru2⟩ := p2 i u2 y2
    rw [hx] at ev1
    rw [hy] at ev2
    cases ev1
    cases ev2
    refine ⟨_, rfl, wpAny_letOwnedTupleGo_zip (s := { s with heap := h', toks := tk }) z' fun h'' z'' sb => ?_⟩
    have hT2 : h''.get? s.heap.objs.size = some { cls := .type "tuple", data := .seq #[u, u2] } := (sb.2 _ (Nat.ne_of_gt hzl)).trans hT
    have new : ObjOk X.prog X.w (upd H s.heap.objs.size (.tup [x, y])) h'' s.heap.objs.size (.tup [x, y]) :=
      ⟨by show 2 ≤ sizeLine; decide, [u, u2], .cons ru (.cons ru2 .nil), ⟨_, hT2, rfl, _, rfl⟩⟩
    have I1 : Inv X pins σ (upd H s.heap.objs.size (.tup [x, y])) { s with heap := h'', toks := tk } :=
      I.turnedNew (t' := tk) (ch := [zp, TI, TO, i1, i2]) (fun c o hb q => (sb.2 c (fun q' => hb (by simp [q']))).trans (hk c o (fun q' => hb (by simp [q'])) (fun q' => hb (by simp [q'])) (fun q' => hb (by simp [q'])) (fun q' => hb (by simp [q'])) q)) hf (Nat.le_refl _) new
    refine ⟨.ref s.heap.objs.size, _, I1, rfl, ⟨_, x, y, rfl, I.hok.fresh (Nat.le_refl _), rfl, fun l hl => by rw [src_inj I hl hqx]; exact hx, fun l hl => by rw [src_inj I hl hqy]; exact hy⟩, ⟨z'', ?_, ⟨u, u2, ?_⟩, ?_, ?_⟩, fun c hcm => ?_⟩
    · exact (sb.2 _ D.TIz).trans (hk _ _ D.TIz D.TITO D.TIi1 D.TIi2 hTI)
    · exact (sb.2 _ D.TOz).trans TO'
    · exact src_at h1'.1 fun o q => (sb.2 _ (Ne.symm D.zi1)).trans q
    · exact src_at h2'.1 fun o q => (sb.2 _ (Ne.symm D.zi2)).trans q
    · have hlt : c < s.heap.objs.size := by
        have e' : c = zp ∨ c = TI ∨ c = TO ∨ c = i1 ∨ c = i2 := by simpa using hcm
        rcases e' with q | q | q | q | q
        · rw [q]; exact hzl
        · rw [q]; exact Heap.lt_size hTI
        · rw [q]; exact Heap.lt_size hTO
        · rw [q]; obtain ⟨_, e1, _⟩ := src_obj h1; exact Heap.lt_size e1
        · rw [q]; obtain ⟨_, e2, _⟩ := src_obj h2; exact Heap.lt_size e2
      rw [upd_ne (Nat.ne_of_lt hlt)]
      exact (hf c hcm).1
  done := by
    intro X hP hw hK hc i pins s σ H E I hf st hg
    subst hP hw hK
    obtain ⟨hz, hTI, ⟨x0, y0, hTO⟩, h1, h2⟩ := st
    obtain ⟨xs, ys, hqx, hqy, hl1, hl2, hend⟩ := hg
    have hhd : X.A.in1.handled = none := I.ok.hd hc
    obtain ⟨P1, G1, D1, g1, p1⟩ := src_draws hhd I hqx t1 i1 n1
    obtain ⟨P2, G2, D2, g2, p2⟩ := src_draws hhd I hqy t2 i2 n2
    exact wpAny_pyNext_zipD2_end D D1 D2 hz hTI hTO ⟨h1, g1⟩ ⟨h2, g2⟩ hl1 hl2 hend fun h' tk hk => ⟨rfl, I.turnedL (t' := tk) (ch := [zp, TI, TO, i1, i2]) (fun c o hb q =>
      hk c o (fun q' => hb (by simp [q'])) (fun q' => hb (by simp [q'])) (fun q' => hb (by simp [q'])) (fun q' => hb (by simp [q'])) q) hf⟩
  self := fun A i s Q E st h => wpAny_pyIter_zip st.1 h
def iZipX (K : PySem.W.Frag) (ta : TA) : TI := fun σ H R => ta σ H fun vs H1 => ∃ p q xs ys, vs = [srcV p, srcV q] ∧ srcSq K H1 p xs ∧ srcSq K H1 q ys ∧ R (ItzX K p q) H1
theorem src_begins {X : Cx} {pins : List (Addr × Obj)} {σ : L2.St} {H : Hp} {s : Shared} {p : Src} {xs : List V} {u : Value} (I : Inv X pins σ H s) (h : srcSq X.K H p xs) (r : RelV (srcV p) u) :
    ∃ (o : Obj) (G : Heap → Prop) (t : Tok), Begins u o G ∧ G s.heap ∧ (∀ it h', h'.get? it = some o → srcSt t it 0 h' p) ∧ ∀ a ∈ srcFp p, a < s.heap.objs.size := by
  cases p with
  | l a =>
    obtain ⟨its, rv, q, _⟩ := I.list h
    cases r
    exact ⟨_, _, 0, begins_list a its.toArray, q.isList, fun it h' e => ⟨_, e, rfl, rfl⟩, fun b hb => by
      have e : b = a := by simpa [srcFp] using hb
      rw [e]; exact q.lt⟩
  | t a =>
    obtain ⟨its, rv, q, _⟩ := I.tuple h
    cases r
    obtain ⟨o1, ho1, _⟩ := id q
    exact ⟨_, _, 0, begins_tuple a its.toArray, q, fun it h' e => ⟨_, e, rfl, rfl⟩, fun b hb => by
      have e : b = a := by simpa [srcFp] using hb
      rw [e]; exact Heap.lt_size ho1⟩
  | s z =>
    obtain ⟨t, rfl⟩ := r
    exact ⟨_, _, t, begins_text z t, trivial, fun it h' e => ⟨_, e, rfl, rfl⟩, fun b hb => by cases hb⟩
theorem pi_zipX {X : Cx} {e e2 : Expr} {ta : TA} {p pos tpos : Pos} {elts : List Expr} {kk : Nat} (hg : Gl X "zip") (hm : X.mg "zip" = none) (ha : PA X [e, e2] ta)
    (hs : starEach [e, e2] X.env = (false, eval e X.env) :: starEach [e2] X.env := by rfl) (hpl : (backTo pos (starEach [e2] X.env)).any (·.1) = false := by rfl) :
    PI X (.Tuple elts kk tpos) (.Call (.Name "zip" p) [e, e2] [] pos) (iZipX X.K ta) := by
  refine ⟨fun pins s σ H R I h => ?_⟩
  refine Call_ (ld_blt I hg hm PyProof.Rows.boot_zip (PyProof.Rows.callWith_type1 (thn (ha.run pos pins s σ H _ I h) fun us s1 ⟨vs, H1, I1, r1, q1⟩ => ?_) hs hpl))
  obtain ⟨sp, sq, xs, ys, ex, hqx, hqy, q⟩ := q1
  subst ex
  cases r1 with
  | cons r rr =>
    cases rr with
    | cons r' rr =>
      cases rr
      have fresh5 : ∀ c, c ∈ [s1.heap.objs.size + 4, s1.heap.objs.size + 2, s1.heap.objs.size + 3, s1.heap.objs.size, s1.heap.objs.size + 1] → FpOk X pins H1 c := fun c hcm => by
        have e' : c = s1.heap.objs.size + 4 ∨ c = s1.heap.objs.size + 2 ∨ c = s1.heap.objs.size + 3 ∨ c = s1.heap.objs.size ∨ c = s1.heap.objs.size + 1 := by simpa using hcm
        have hle : s1.heap.objs.size ≤ c := by
          rcases e' with z | z | z | z | z
          · rw [z]; exact Nat.le_add_right _ _
          · rw [z]; exact Nat.le_add_right _ _
          · rw [z]; exact Nat.le_add_right _ _
          · rw [z]; exact Nat.le_refl _
          · rw [z]; exact Nat.le_add_right _ _
        exact I1.fpOk hle (I1.hok.fresh hle)
      obtain ⟨o1, G1, t1, B1, g1, b1, f1⟩ := src_begins I1 hqx r
      obtain ⟨o2, G2, t2, B2, g2, b2, f2⟩ := src_begins I1 hqy r'
      refine zip_begins2 B1 B2 g1 g2 fun h' hz hTI hTO h1 h2 hsz hk => wpAny_pyIter_zip hz ?_
      have I2 : Inv X pins σ H1 { s1 with heap := h' } := I1.kept (t' := s1.toks) hk
      have lt1 : ∀ a ∈ srcFp sp, a ≠ s1.heap.objs.size := fun a ha => Nat.ne_of_lt (f1 a ha)
      have lt2 : ∀ a ∈ srcFp sq, a ≠ s1.heap.objs.size + 1 := fun a ha => Nat.ne_of_lt (Nat.lt_succ_of_lt (f2 a ha))
      have no1 : ∀ k, s1.heap.objs.size + k ∈ srcFp sp → False := fun k hh => absurd (f1 _ hh) (Nat.not_lt.mpr (Nat.le_add_right _ _))
      have no2 : ∀ k, s1.heap.objs.size + k ∈ srcFp sq → False := fun k hh => absurd (f2 _ hh) (Nat.not_lt.mpr (Nat.le_add_right _ _))
      have D : ZipSep2 (s1.heap.objs.size + 4) (s1.heap.objs.size + 2) (s1.heap.objs.size + 3) s1.heap.objs.size (s1.heap.objs.size + 1) (s1.heap.objs.size :: srcFp sp) ((s1.heap.objs.size + 1) :: srcFp sq) := by
        refine ⟨adn (by decide), adn (by decide), adn (by decide), adn0 (by decide), by simp, fun h => ?_, fun h => ?_, adn (by decide), by simp, fun h => ?_, fun h => ?_, fun h => ?_, fun h => ?_⟩
        · rcases List.mem_cons.mp h with h | h
          · exact adn0 (by decide) h
          · exact no1 4 h
        · rcases List.mem_cons.mp h with h | h
          · exact adn0 (by decide) h
          · exact no1 3 h
        · rcases List.mem_cons.mp h with h | h
          · exact adn (by decide) h
          · exact no2 4 h
        · rcases List.mem_cons.mp h with h | h
          · exact adn (by decide) h
          · exact no2 3 h
        · rcases List.mem_cons.mp h with h | h
          · exact adn0 (i := 1) (by decide) h.symm
          · exact no2 0 h
        · rcases List.mem_cons.mp h with h | h
          · exact adn0 (by decide) h
          · exact no1 1 h
      exact ⟨s1.heap.objs.size + 4, [s1.heap.objs.size + 4, s1.heap.objs.size + 2, s1.heap.objs.size + 3, s1.heap.objs.size, s1.heap.objs.size + 1], _, _, H1, rfl, I2, turn_zipX D lt1 lt2, ⟨hz, hTI, ⟨_, _, hTO⟩, b1 _ _ h1, b2 _ _ h2⟩, fresh5, q⟩
end RP
end

section
set_option Elab.async false
set_option linter.all false
set_option maxRecDepth 100000
set_option maxHeartbeats 2000000
/-! Iterators and for. -/
namespace RP
open PySem L2
section
variable {C : CC} {W : WX} {X : Cx} {k : Nat} {Γ : Tab} {F : Hp} {a b c e o tg : Expr} {es : List Expr} {fa fb fe fo fc : DEnv → Sto → RE D} {pos p apos : Pos} {s s1 : Sit} {σ : L2.St} {H : Hp} {δ : DEnv} {D' : Ends}
/-- the iterator gives these, from this situation on -/
def ItOk (C : CC) (s : Sit) (xs : List P) (J : L2.It) : Prop := ∀ F s' H i, ExtS s s' → AtS C F s' H →
  (∀ x, xs[i]? = some x → J.go i H ∧ ∀ v H', J.yld i H v H' → ∃ s2, ExtS s' s2 ∧ s2.S = s'.S ∧ AtS C F s2 H' ∧ RepP C s2.G x v) ∧ (xs.length = i → J.stop i H)
def tI (C : CC) (W : WX) (F : Hp) (f : DEnv → Sto → RE (List P)) : TI := fun σ H R => ∃ δ s, AtS C F s H ∧ RepS C s δ σ ∧ Wt C W F σ s (f δ s.S) fun xs s' H' => ∀ J, ItOk C s' xs J → R J H'
theorem PI.imp {wi wj : TI} (h : PI X tg e wi) (k : ∀ σ H R, wj σ H R → wi σ H R) : PI X tg e wj := ⟨fun pins s σ H R I hu => h.run pins s σ H R I (k σ H R hu)⟩
def iSeq (K : PySem.W.Frag) (tl : TE) : TI := fun σ H R => tl σ H fun x H1 => (∃ a, x = .ref a ∧ (((∃ xs, SqL K H1 a xs) ∧ R (Itl K a) H1) ∨ ((∃ xs, SqT K H1 a xs) ∧ R (Itt K a) H1))) ∨ ∃ z, x = .str z ∧ R (Its z) H1
theorem pi_seq {tl : TE} (hl : PE X e tl) : PI X tg e (iSeq X.K tl) := by
  refine ⟨fun pins s σ H R I h => ?_⟩
  refine thn (hl.run pins s σ H _ I h) fun v s1 ⟨x, H1, I1, r1, qq⟩ => ?_
  rcases qq with ⟨a, ea, q1⟩ | ⟨z, ea, q⟩
  case inr =>
    subst ea
    obtain ⟨t, rfl⟩ := r1
    cases ha : z.cps.all (· < 128)
    · exact wpAny_pyIter_wide ha (pi_one (tk := s1.toks) I1 _ (turn_str _ z t "str_iterator" (.inr rfl)) ⟨_, Heap.get?_push_size _ rfl, rfl, rfl⟩ q)
    · exact wpAny_pyIter_ascii ha (pi_one (tk := s1.toks) I1 _ (turn_str _ z t "str_ascii_iterator" (.inl rfl)) ⟨_, Heap.get?_push_size _ rfl, rfl, rfl⟩ q)
  subst ea
  cases r1
  have fp : ∀ b ∈ [s1.heap.objs.size], FpOk X pins H1 b := fun b hb => by
    have e : b = s1.heap.objs.size := by simpa using hb
    subst e
    exact I1.fpOk (Nat.le_refl _) (I1.hok.fresh (Nat.le_refl _))
  rcases q1 with ⟨⟨xs, hq⟩, q⟩ | ⟨⟨xs, hq⟩, q⟩
  · obtain ⟨its, rv, p, hz⟩ := I1.list hq
    exact wpAny_pyIter_list p.isList ⟨s1.heap.objs.size, [s1.heap.objs.size], _, _, H1, rfl, I1.kept (t' := s1.toks) fun b o e => Heap.get?_push_of_some _ e, turn_list a _, ⟨_, Heap.get?_push_size _ rfl, rfl, rfl⟩, fp, q⟩
  · obtain ⟨its, rv, p, hz⟩ := I1.tuple hq
    exact wpAny_pyIter_tuple (show s1.heap.IsTuple a its.toArray from p) ⟨s1.heap.objs.size, [s1.heap.objs.size], _, _, H1, rfl, I1.kept (t' := s1.toks) fun b o e => Heap.get?_push_of_some _ e, turn_tuple a _, ⟨_, Heap.get?_push_size _ rfl, rfl, rfl⟩, fp, q⟩
theorem it_list (hk : C.K = X.K) {xs : List P} {vs : List V} {q : Addr} (hq : s.G q = some (.lst vs)) (r : RepPs C s.G xs vs) : ItOk C s xs (Itl X.K q) := by
  intro F s' H i ex A
  have hH : SqL X.K H q vs := SqL.of (A.sub _ _ (ex.G _ _ hq))
  refine ⟨fun x hx => ?_, fun hi => ⟨vs, hH, by rw [← RepPs.len xs vs r]; omega⟩⟩
  obtain ⟨v, hv, rv⟩ := reps_at xs vs i r hx
  refine ⟨⟨vs, v, hH, hv⟩, fun w H' ⟨e, y⟩ => ?_⟩
  subst e
  have e2 := y vs hH
  rw [hv] at e2
  cases e2
  exact ⟨s', ExtS.refl s', rfl, A, RepP.mono ex.G x v rv⟩
theorem it_tup (hk : C.K = X.K) {xs : List P} {vs : List V} {q : Addr} (hq : SqT C.K s.G q vs) (r : RepPs C s.G xs vs) : ItOk C s xs (Itt X.K q) := by
  intro F s' H i ex A
  rw [hk] at hq
  have hH : SqT X.K H q vs := sqT_mono A.sub (sqT_mono ex.G hq)
  refine ⟨fun x hx => ?_, fun hi => ⟨vs, hH, by rw [← RepPs.len xs vs r]; omega⟩⟩
  obtain ⟨v, hv, rv⟩ := reps_at xs vs i r hx
  refine ⟨⟨vs, v, hH, hv⟩, fun w H' ⟨e, y⟩ => ?_⟩
  subst e
  have e2 := y vs hH
  rw [hv] at e2
  cases e2
  exact ⟨s', ExtS.refl s', rfl, A, RepP.mono ex.G x v rv⟩
def seqD (d : D) (S : Sto) : RE (List P) := (purify d S).bind fun x S2 => match x with
  | .lst xs => .ok xs S2
  | .tup xs => .ok xs S2
  | .str z => .ok (signsP z) S2
  | _ => .stuck
theorem it_str {z : Str} : ItOk C s (signsP z) (Its z) := by
  intro F s' H i ex A
  unfold signsP
  refine ⟨fun x hx => ?_, fun hi => by rw [List.length_map] at hi; exact Nat.le_of_eq (by simpa using hi)⟩
  rw [List.getElem?_map] at hx
  obtain ⟨c, hc, rfl⟩ := Option.map_eq_some_iff.mp hx
  have hc' : z.cps[i]? = some c := by simpa using hc
  refine ⟨(Array.getElem?_eq_some_iff.mp hc').1, fun v H' ⟨e, c', e2, ev⟩ => ?_⟩
  subst e ev
  rw [hc'] at e2
  cases e2
  exact ⟨s', ExtS.refl s', rfl, A, by simp only [RepP]⟩
theorem i_seq (hk : C.K = X.K) (he : PE X e (tE C W F fe)) : PI X tg e (tI C W F fun δ S => (fe δ S).bind seqD) :=
  PI.imp (pi_seq he) fun σ H R ⟨δ, s, A, RR, h⟩ => by
    refine ⟨δ, s, A, RR, Wt.imp (Wt.bind h) fun d s1 H1 _ e1 A1 h1 v r1 => ?_⟩
    obtain ⟨x, s2, e2, A2, r2, h2⟩ := Wt.pur A1 r1 h1
    cases x with
    | lst xs =>
      simp only [RepP] at r2
      obtain ⟨q, vs, rfl, hq, rr⟩ := r2
      exact Or.inl ⟨q, rfl, Or.inl ⟨⟨vs, SqL.of (A2.sub _ _ hq)⟩, h2.now A2 _ (it_list hk hq rr)⟩⟩
    | tup xs =>
      simp only [RepP] at r2
      obtain ⟨q, vs, rfl, hq, rr⟩ := r2
      have hq' := hq
      rw [hk] at hq'
      exact Or.inl ⟨q, rfl, Or.inr ⟨⟨vs, sqT_mono A2.sub hq'⟩, h2.now A2 _ (it_tup hk hq rr)⟩⟩
    | str z =>
      simp only [RepP] at r2
      subst r2
      exact Or.inr ⟨z, rfl, h2.now A2 _ it_str⟩
    | _ => exact h2.elim
theorem range_at : ∀ (n : Nat) (lo : Int) (i : Nat), (rangeP lo n)[i]? = if i < n then some (.int (lo + i)) else none
  | 0, lo, i => by simp [rangeP]
  | n + 1, lo, 0 => by simp [rangeP]
  | n + 1, lo, i + 1 => by
    simp only [rangeP, List.getElem?_cons_succ, range_at n (lo + 1) i, Nat.add_lt_add_iff_right]
    have e : lo + 1 + (i : Int) = lo + ((i + 1 : Nat) : Int) := by omega
    rw [e]
theorem range_len (lo : Int) : ∀ n, (rangeP lo n).length = n
  | 0 => rfl
  | n + 1 => by simp only [rangeP, List.length_cons, range_len (lo + 1) n]
theorem it_rng {lo : Int} {n : Nat} : ItOk C s (rangeP lo n) (Itr lo n) := by
  intro F s' H i ex A
  refine ⟨fun x hx => ?_, fun hi => by rw [range_len] at hi; exact Nat.le_of_eq hi⟩
  rw [range_at] at hx
  split at hx
  · rename_i hlt
    cases hx
    refine ⟨hlt, fun v H' ⟨e, y⟩ => ?_⟩
    subst e y
    exact ⟨s', ExtS.refl s', rfl, A, by simp only [RepP]⟩
  · cases hx
theorem rng_of {i : Int} (h : rngOk i = true) : -(2 ^ 62) ≤ i ∧ i < 2 ^ 62 := by
  unfold rngOk at h
  simp only [Bool.and_eq_true, decide_eq_true_eq] at h
  exact h
def rng1D (d : D) (S : Sto) : RE (List P) := match d with
  | .p (.int j) => if rngOk j then .ok (rangeP 0 j.toNat) S else .stuck
  | _ => .stuck
theorem i_rng1 (hg : Gl X "range") (hm : X.mg "range" = none) (hn : notStar a = true) (ha : PE X a (tE C W F fa)) : PI X tg (.Call (.Name "range" p) [a] [] pos) (tI C W F fun δ S => (fa δ S).bind rng1D) :=
  PI.imp (pi_range1 hg hm (pa_cons ha pa_nil (star_cons hn)) (star_cons hn)) fun σ H R ⟨δ, s, A, RR, h⟩ => by
    refine ⟨δ, s, A, RR, Wt.imp (Wt.bind h) fun d s1 H1 _ e1 A1 h1 v r1 => ?_⟩
    cases d with
    | p z =>
      cases z with
      | int j =>
        simp only [rng1D] at h1
        split at h1
        · rename_i hj
          simp only [RepD, RepP] at r1
          subst r1
          obtain ⟨q1, q2⟩ := rng_of hj
          exact ⟨j, rfl, q1, q2, h1.now A1 _ it_rng⟩
        · exact h1.elim
      | _ => exact h1.elim
    | _ => exact h1.elim
def rng2D (d d2 : D) (S : Sto) : RE (List P) := match d, d2 with
  | .p (.int i), .p (.int j) => if rngOk i && rngOk j then .ok (rangeP i (j - i).toNat) S else .stuck
  | _, _ => .stuck
theorem i_rng2 (hg : Gl X "range") (hm : X.mg "range" = none) (hn : notStar a = true) (hnb : notStar b = true) (ha : PE X a (tE C W F fa)) (hb : PE X b (tE C W F fb)) :
    PI X tg (.Call (.Name "range" p) [a, b] [] pos) (tI C W F fun δ S => (fa δ S).bind fun d S1 => (fb δ S1).bind fun d2 S2 => rng2D d d2 S2) :=
  PI.imp (pi_range2 hg hm (pa_cons ha (pa_cons hb pa_nil (star_cons hnb)) (star_cons hn)) (by rw [star_cons hn, star_cons hnb]; rfl) (star_cons hnb)) fun σ H R ⟨δ, s, A, RR, h⟩ => by
    refine ⟨δ, s, A, RR, Wt.imp (Wt.bind h) fun d s1 H1 _ e1 A1 h1 v r1 => ?_⟩
    refine ⟨δ, s1, A1, RR.mono e1, Wt.imp (Wt.bind h1) fun d2 s2 H2 _ e2 A2 h2 w r2 => ?_⟩
    cases d with
    | p z =>
      cases z with
      | int i =>
        cases d2 with
        | p z =>
          cases z with
          | int j =>
            simp only [rng2D] at h2
            split at h2
            · rename_i hj
              simp only [RepD, RepP] at r1 r2
              subst r1 r2
              simp only [Bool.and_eq_true] at hj
              obtain ⟨q1, q2⟩ := rng_of hj.1
              obtain ⟨q3, q4⟩ := rng_of hj.2
              exact ⟨i, j, rfl, ⟨q1, q2, q3, q4⟩, h2.now A2 _ it_rng⟩
            · exact h2.elim
          | _ => exact h2.elim
        | _ => exact h2.elim
      | _ => exact h2.elim
    | _ => exact h2.elim
theorem zip_at : ∀ (xs ys : List P) (i : Nat), (zipP xs ys)[i]? = match xs[i]?, ys[i]? with
    | some x, some y => some (.tup [x, y])
    | _, _ => none
  | [], ys, i => by simp [zipP]
  | x :: xs, [], i => by
    simp only [zipP]
    cases i with
    | zero => simp
    | succ i => simp
  | x :: xs, y :: ys, 0 => by simp [zipP]
  | x :: xs, y :: ys, i + 1 => by
    simp only [zipP, List.getElem?_cons_succ]
    exact zip_at xs ys i
theorem zip_len : ∀ (xs ys : List P), (zipP xs ys).length = xs.length ∨ (zipP xs ys).length = ys.length
  | [], ys => Or.inl rfl
  | x :: xs, [] => Or.inr rfl
  | x :: xs, y :: ys => by
    simp only [zipP, List.length_cons]
    rcases zip_len xs ys with h | h
    · exact Or.inl (by omega)
    · exact Or.inr (by omega)
theorem zip_len2 : ∀ (xs ys : List P), (zipP xs ys).length ≤ xs.length ∧ (zipP xs ys).length ≤ ys.length
  | [], ys => ⟨Nat.le_refl _, Nat.zero_le _⟩
  | x :: xs, [] => ⟨Nat.zero_le _, Nat.le_refl _⟩
  | x :: xs, y :: ys => by
    simp only [zipP, List.length_cons]
    have := zip_len2 xs ys
    omega
theorem src_mono {K : PySem.W.Frag} {s : Sit} {F : Hp} {p : Src} {xs : List V} (hq : srcSq K s.G p xs) (A : AtS C F s H) : srcSq K H p xs := by
  cases p with
  | l a => exact sqL_mono A.sub hq
  | t a => exact sqT_mono A.sub hq
  | s z => exact hq
theorem src_ext {K : PySem.W.Frag} {s s' : Sit} {p : Src} {xs : List V} (hq : srcSq K s.G p xs) (e : ExtS s s') : srcSq K s'.G p xs := by
  cases p with
  | l a => exact sqL_mono e.G hq
  | t a => exact sqT_mono e.G hq
  | s z => exact hq
theorem it_zip (hk : C.K = X.K) {xs ys : List P} {vs ws : List V} {q q' : Src} (hq : srcSq X.K s.G q vs) (r : RepPs C s.G xs vs) (hq' : srcSq X.K s.G q' ws) (r' : RepPs C s.G ys ws) : ItOk C s (zipP xs ys) (ItzX X.K q q') := by
  intro F s' H i ex A
  have h1 : srcSq X.K H q vs := src_mono (src_ext hq ex) A
  have h2 : srcSq X.K H q' ws := src_mono (src_ext hq' ex) A
  refine ⟨fun z hz => ?_, fun hi => ⟨vs, ws, h1, h2, ?_⟩⟩
  · rw [zip_at] at hz
    split at hz
    · rename_i x y hx hy
      cases hz
      obtain ⟨v, hv, rv⟩ := reps_at xs vs i r hx
      obtain ⟨w, hw, rw'⟩ := reps_at ys ws i r' hy
      refine ⟨⟨vs, ws, v, w, h1, h2, hv, hw⟩, fun u H' ⟨T, x', y', eu, hT, eH, f1, f2⟩ => ?_⟩
      subst eu eH
      have z1 := f1 vs h1
      have z2 := f2 ws h2
      rw [hv] at z1
      rw [hw] at z2
      cases z1
      cases z2
      obtain ⟨A2, e2⟩ := A.grow (p := T) (o := .tup [v, w]) hT
      refine ⟨_, e2, rfl, A2, ?_⟩
      simp only [RepP, RepPs]
      exact ⟨T, [v, w], rfl, Or.inl (Or.inl upd_same), v, [w], rfl, RepP.mono e2.G x v (RepP.mono ex.G x v rv), w, [], rfl, RepP.mono e2.G y w (RepP.mono ex.G y w rw'), rfl⟩
    · cases hz
  · have l1 := RepPs.len xs vs r
    have l2 := RepPs.len ys ws r'
    have := zip_len2 xs ys
    rcases zip_len xs ys with h | h <;> omega
def zipD (x y : P) (S : Sto) : RE (List P) := match seqOf x, seqOf y with
  | some xs, some ys => .ok (zipP xs ys) S
  | _, _ => .stuck
theorem signs_rep {G : Hp} (l : List Nat) : RepPs C G (l.map fun c => P.str ⟨#[c]⟩) (l.map fun c => V.str ⟨#[c]⟩) := by
  induction l with
  | nil => simp only [List.map_nil, RepPs]
  | cons c l ih =>
    simp only [List.map_cons, RepPs, RepP]
    exact ⟨_, _, rfl, rfl, ih⟩
theorem seq_src (hk : C.K = X.K) {x : P} {xs : List P} {v : V} (h : seqOf x = some xs) (r : RepP C s.G x v) : ∃ q vs, v = srcV q ∧ srcSq X.K s.G q vs ∧ RepPs C s.G xs vs := by
  cases x with
  | lst ys =>
    cases h
    simp only [RepP] at r
    obtain ⟨q, vs, rfl, hq, rr⟩ := r
    exact ⟨.l q, vs, rfl, SqL.of hq, rr⟩
  | tup ys =>
    cases h
    simp only [RepP] at r
    obtain ⟨q, vs, rfl, hq, rr⟩ := r
    rw [hk] at hq
    exact ⟨.t q, vs, rfl, hq, rr⟩
  | str z =>
    cases h
    simp only [RepP] at r
    subst r
    exact ⟨.s z, _, rfl, rfl, signs_rep _⟩
  | _ => cases h
theorem i_zip (hk : C.K = X.K) {elts : List Expr} {kk : Nat} {tpos : Pos} (hg : Gl X "zip") (hm : X.mg "zip" = none) (hn : notStar a = true) (hnb : notStar b = true) (ha : PE X a (tE C W F fa)) (hb : PE X b (tE C W F fb)) :
    PI X (.Tuple elts kk tpos) (.Call (.Name "zip" p) [a, b] [] pos) (tI C W F fun δ S => (fa δ S).bind fun d S1 => (purify d S1).bind fun x S2 => (fb δ S2).bind fun d2 S3 => (purify d2 S3).bind fun y S4 => zipD x y S4) :=
  PI.imp (pi_zipX hg hm (pa_cons ha (pa_cons hb pa_nil (star_cons hnb)) (star_cons hn)) (star_cons hn) (star_none (by simp only [List.all_cons, List.all_nil, Bool.and_true]; exact hnb))) fun σ H R ⟨δ, s, A, RR, h⟩ => by
    refine ⟨δ, s, A, RR, Wt.imp (Wt.bind h) fun d s1 H1 _ e1 A1 h1 v r1 => ?_⟩
    obtain ⟨x, s2, e2, A2, r2, h2⟩ := Wt.pur A1 r1 h1
    refine ⟨δ, s2, A2, RR.mono (e1.trans e2), Wt.imp (Wt.bind h2) fun d3 s3 H3 _ e3 A3 h3 w r3 => ?_⟩
    obtain ⟨y, s4, e4, A4, r4, h4⟩ := Wt.pur A3 r3 h3
    unfold zipD at h4
    cases hx : seqOf x with
    | none =>
      rw [hx] at h4
      exact h4.elim
    | some xs =>
      cases hy : seqOf y with
      | none =>
        rw [hx, hy] at h4
        exact h4.elim
      | some ys =>
        rw [hx, hy] at h4
        obtain ⟨q, vs, rfl, hq, rr⟩ := seq_src hk hx r2
        obtain ⟨q', ws, rfl, hq', rr'⟩ := seq_src hk hy r4
        have hq2 := src_ext hq (e3.trans e4)
        exact ⟨q, q', vs, ws, rfl, src_mono hq2 A4, src_mono hq' A4, h4.now A4 _ (it_zip hk hq2 (RepPs.mono (e3.trans e4).G xs vs rr) hq' rr')⟩
theorem enum_at : ∀ (xs : List P) (k i : Nat), (enumP k xs)[i]? = (xs[i]?).map fun x => .tup [.int (k + i : Nat), x]
  | [], k, i => by simp [enumP]
  | x :: xs, k, 0 => by simp [enumP]
  | x :: xs, k, i + 1 => by
    simp only [enumP, List.getElem?_cons_succ, enum_at xs (k + 1) i]
    have e : k + 1 + i = k + (i + 1) := by omega
    rw [e]
theorem enum_len : ∀ (xs : List P) (k : Nat), (enumP k xs).length = xs.length
  | [], k => rfl
  | x :: xs, k => by simp only [enumP, List.length_cons, enum_len xs (k + 1)]
theorem it_enum {xs : List P} {vs : List V} {q : Addr} (hq : s.G q = some (.lst vs)) (r : RepPs C s.G xs vs) : ItOk C s (enumP 0 xs) (Ite X.K q) := by
  intro F s' H i ex A
  have hH : SqL X.K H q vs := SqL.of (A.sub _ _ (ex.G _ _ hq))
  refine ⟨fun z hz => ?_, fun hi => ⟨vs, hH, by rw [← RepPs.len xs vs r]; rw [enum_len] at hi; omega⟩⟩
  rw [enum_at] at hz
  obtain ⟨x, hx, rfl⟩ := Option.map_eq_some_iff.mp hz
  obtain ⟨v, hv, rv⟩ := reps_at xs vs i r hx
  refine ⟨⟨vs, v, hH, hv⟩, fun u H' ⟨T, y, eu, hT, eH, f1⟩ => ?_⟩
  subst eu eH
  have z1 := f1 vs hH
  rw [hv] at z1
  cases z1
  obtain ⟨A2, e2⟩ := A.grow (p := T) (o := .tup [.int (i : Nat), v]) hT
  refine ⟨_, e2, rfl, A2, ?_⟩
  simp only [RepP, RepPs]
  exact ⟨T, [.int (i : Nat), v], rfl, Or.inl (Or.inl upd_same), .int (i : Nat), [v], rfl, by rw [Nat.zero_add], v, [], rfl, RepP.mono e2.G x v (RepP.mono ex.G x v rv), rfl⟩
theorem it_enumT (hk : C.K = X.K) {xs : List P} {vs : List V} {q : Addr} (hq : SqT C.K s.G q vs) (r : RepPs C s.G xs vs) : ItOk C s (enumP 0 xs) (IteT X.K q) := by
  intro F s' H i ex A
  rw [hk] at hq
  have hH : SqT X.K H q vs := sqT_mono A.sub (sqT_mono ex.G hq)
  refine ⟨fun z hz => ?_, fun hi => ⟨vs, hH, by rw [← RepPs.len xs vs r]; rw [enum_len] at hi; omega⟩⟩
  rw [enum_at] at hz
  obtain ⟨x, hx, rfl⟩ := Option.map_eq_some_iff.mp hz
  obtain ⟨v, hv, rv⟩ := reps_at xs vs i r hx
  refine ⟨⟨vs, v, hH, hv⟩, fun u H' ⟨T, y, eu, hT, eH, f1⟩ => ?_⟩
  subst eu eH
  have z1 := f1 vs hH
  rw [hv] at z1
  cases z1
  obtain ⟨A2, e2⟩ := A.grow (p := T) (o := .tup [.int (i : Nat), v]) hT
  refine ⟨_, e2, rfl, A2, ?_⟩
  simp only [RepP, RepPs]
  exact ⟨T, [.int (i : Nat), v], rfl, Or.inl (Or.inl upd_same), .int (i : Nat), [v], rfl, by rw [Nat.zero_add], v, [], rfl, RepP.mono e2.G x v (RepP.mono ex.G x v rv), rfl⟩
def enumD (x : P) (S : Sto) : RE (List P) := match x with
  | .lst xs => .ok (enumP 0 xs) S
  | .tup xs => .ok (enumP 0 xs) S
  | _ => .stuck
theorem i_enum (hk : C.K = X.K) {elts : List Expr} {kk : Nat} {tpos : Pos} (hg : Gl X "enumerate") (hm : X.mg "enumerate" = none) (hn : notStar a = true) (ha : PE X a (tE C W F fa)) :
    PI X (.Tuple elts kk tpos) (.Call (.Name "enumerate" p) [a] [] pos) (tI C W F fun δ S => (fa δ S).bind fun d S1 => (purify d S1).bind enumD) :=
  PI.imp (pi_enumA hg hm (pa_cons ha pa_nil (star_cons hn)) (star_cons hn)) fun σ H R ⟨δ, s, A, RR, h⟩ => by
    refine ⟨δ, s, A, RR, Wt.imp (Wt.bind h) fun d s1 H1 _ e1 A1 h1 v r1 => ?_⟩
    obtain ⟨x, s2, e2, A2, r2, h2⟩ := Wt.pur A1 r1 h1
    cases x with
    | lst xs =>
      simp only [RepP] at r2
      obtain ⟨q, vs, rfl, hq, rr⟩ := r2
      exact ⟨q, rfl, Or.inl ⟨vs, SqL.of (A2.sub _ _ hq), h2.now A2 _ (it_enum hq rr)⟩⟩
    | tup xs =>
      simp only [RepP] at r2
      obtain ⟨q, vs, rfl, hq, rr⟩ := r2
      have hq' := hq
      rw [hk] at hq'
      exact ⟨q, rfl, Or.inr ⟨vs, sqT_mono A2.sub hq', h2.now A2 _ (it_enumT hk hq rr)⟩⟩
    | _ => exact h2.elim
/-! ### for -/
theorem loop_wantE {r : RS} {on : DEnv → Sto → RS} (h : WantS C W F s (loopEnd r on) D') : WantS C W F s r { D' with nx := fun σ H => ∃ δ s', AtS C F s' H ∧ RepS C s' δ σ ∧ ExtS s s' ∧ WantS C W F s' (on δ s'.S) D', ct := fun σ H => ∃ δ s', AtS C F s' H ∧ RepS C s' δ σ ∧ ExtS s s' ∧ WantS C W F s' (on δ s'.S) D', bk := D'.nx } := by
  cases r with
  | next δ S' =>
    intro σ s' H' hS ex A' R'
    subst hS
    exact ⟨δ, s', A', R', ex, WantS.ext ex h⟩
  | cnt δ S' =>
    intro σ s' H' hS ex A' R'
    subst hS
    exact ⟨δ, s', A', R', ex, WantS.ext ex h⟩
  | brk δ S' => exact h
  | ret d S' => exact h
  | exc c x δ S' => exact h
  | stuck => exact h
theorem WantS.impN {r : RS} {N N' : L2.St → Hp → Prop} (k : ∀ σ H, N σ H → N' σ H) (h : WantS C W F s r { D' with nx := N, ct := N, bk := D'.nx }) : WantS C W F s r { D' with nx := N', ct := N', bk := D'.nx } := by
  cases r with
  | next δ S' => exact fun σ s' H' h1 h2 h3 h4 => k _ _ (h σ s' H' h1 h2 h3 h4)
  | cnt δ S' => exact fun σ s' H' h1 h2 h3 h4 => k _ _ (h σ s' H' h1 h2 h3 h4)
  | brk δ S' => exact h
  | ret d S' => exact h
  | exc c x δ S' => exact h
  | stuck => exact h
theorem notSet_it {env : Env} (h : notSet e = true) : ∀ x, foldedSetIterable e env x = pure x := by
  intro x
  cases e <;> first | rfl | cases h
theorem s_for {body : List Stmt} {g : DEnv → Sto → RS} {fi : DEnv → Sto → RE (List P)} {t : Tg} (hp : PassesOwn (model X.prog X.w) X.A X.env X.xe) (hc : X.calm = true) (hi : PI X tg e (tI C W F fi)) (hg : PG X tg (gT C F t)) (hb : PSs X body (tS C W F g)) (hs : notSet e = true) :
    PS X (.For tg e body [] pos) (tS C W F fun δ S => (fi δ S).st δ fun xs S1 => forL (bindT t) g xs δ S1) :=
  PS.imp (ps_for hp hc hi hg hb (notSet_it hs)) fun D σ H ⟨δ, s, A, R, h⟩ => by
    refine ⟨δ, s, A, R, Wt.imp (WantS.st R h) fun xs s1 H1 _ e1 A1 h1 J ok => ?_⟩
    refine ⟨fun i m σ H => m = xs.length - i ∧ i ≤ xs.length ∧ ∃ δ s', AtS C F s' H ∧ RepS C s' δ σ ∧ ExtS s1 s' ∧ WantS C W F s' (forL (bindT t) g (xs.drop i) δ s'.S) D, ⟨xs.length, by simp, Nat.zero_le _, δ, s1, A1, R.mono e1, ExtS.refl s1, by rw [List.drop_zero]; exact h1⟩, ?_⟩
    rintro i m σ H ⟨rfl, hi, δ, s2, A2, R2, e2, h2⟩
    obtain ⟨ok1, ok2⟩ := ok F s2 H i e2 A2
    by_cases hlt : i < xs.length
    · have hx : xs[i]? = some xs[i] := List.getElem?_eq_getElem hlt
      obtain ⟨go, yl⟩ := ok1 _ hx
      refine .inr ⟨go, fun σ H => i + 1 ≤ xs.length ∧ ∃ δ s', AtS C F s' H ∧ RepS C s' δ σ ∧ ExtS s1 s' ∧ WantS C W F s' (forL (bindT t) g (xs.drop (i + 1)) δ s'.S) D, fun σ' H' q => ⟨xs.length - (i + 1), by omega, rfl, q⟩, fun v H' y => ?_⟩
      obtain ⟨s3, e3, hS, A3, r3⟩ := yl v H' y
      rw [List.drop_eq_getElem_cons hlt] at h2
      simp only [forL] at h2
      refine ⟨δ, s3, xs[i], A3, R2.mono e3, r3, ?_⟩
      cases hb : bindT t xs[i] δ with
      | none =>
        rw [hb] at h2
        exact h2.elim
      | some δ' =>
        rw [hb] at h2
        intro σ' R' _
        refine ⟨δ', s3, A3, R', ?_⟩
        have h3 := WantS.ext e3 h2
        rw [← hS] at h3
        exact WantS.impN (fun σ H ⟨δ, s', A, R, ex, w⟩ => ⟨hlt, δ, s', A, R, (e2.trans e3).trans ex, w⟩) (loop_wantE h3)
    · have ei : i = xs.length := by omega
      subst ei
      refine .inl ⟨ok2 rfl, ?_⟩
      rw [List.drop_length] at h2
      exact h2.next A2 R2
end
end RP
end

section
set_option Elab.async false
set_option linter.all false
set_option maxRecDepth 100000
set_option maxHeartbeats 2000000
/-! Comprehensions. -/
namespace RP
open PySem L2
/-- no exception -/
abbrev WF : WX := fun _ _ _ _ => False
section
variable {C : CC} {W : WX} {X : Cx} {k : Nat} {F : Hp} {s s1 : Sit} {σ σ' : L2.St} {H : Hp} {δ : DEnv}
theorem blk_takes {s : Shared} {H : Hp} {scope : Scope} {cenv : Env} {fp : List Addr} : Takes (X.blk s H scope cenv fp) WF := fun u s' ⟨_, _, _, _, _, _, _, _, _, _, _, _, _, _, _, _, w⟩ => w
/-! ### a thing beside -/
theorem AtS.frame (A : AtS C F s H) {D : Addr} {o : HO} (h : H D = none) : AtS C (upd F D o) s (upd H D o) :=
  have hG := A.none_of h
  ⟨fun a u e => by rw [upd_ne (ne_of_none (A.sub a u e) h)]; exact A.sub a u e, A.len, A.fzn, fun n c e => by
    obtain ⟨a, u, k1, k2, k3, k4, k5⟩ := A.live n c e
    have na : a ≠ D := ne_of_none k4 h
    exact ⟨a, u, k1, k2, by rw [upd_ne na]; exact k3, by rw [upd_ne na]; exact k4, k5⟩, A.inj, fun a u e => by
    by_cases ha : a = D
    · subst ha
      rw [upd_same] at e ⊢
      exact ⟨e, hG⟩
    · rw [upd_ne ha] at e ⊢
      exact A.frm a u e, A.lk.to (ExtS.refl s) (fun n c e => e) fun a od u e _ => by rw [upd_ne (ne_of_none (A.frm a _ e).1 h)]; exact e⟩
theorem AtS.drop {D : Addr} {o : HO} (A : AtS C (upd F D o) s H) (hF : F D = none) (ho : ∀ od u, o ≠ .frz od u := by intro _ _ z; cases z) : ∃ H0, H0 D = none ∧ AtS C F s H0 ∧ H = upd H0 D o := by
  obtain ⟨hD, hG⟩ := A.frm D o upd_same
  refine ⟨fun a => if a = D then none else H a, if_pos rfl, ⟨fun a u e => ?_, A.len, A.fzn, fun n c e => ?_, A.inj, fun a u e => ?_, A.lk.to (ExtS.refl s) (fun n c e => e) fun a od u e _ => ?_⟩, ?_⟩
  · have na : a ≠ D := ne_of_none e hG
    show (if a = D then none else H a) = _
    rw [if_neg na]
    exact A.sub a u e
  · obtain ⟨a, u, k1, k2, k3, k4, k5⟩ := A.live n c e
    have na : a ≠ D := fun z => by
      rw [z, upd_same] at k3
      cases k3
    rw [upd_ne na] at k3
    exact ⟨a, u, k1, k2, k3, by show (if a = D then none else H a) = _; rw [if_neg na]; exact k4, k5⟩
  · have na : a ≠ D := ne_of_none e hF
    have z := A.frm a u (by rw [upd_ne na]; exact e)
    exact ⟨by show (if a = D then none else H a) = _; rw [if_neg na]; exact z.1, z.2⟩
  · have na : a ≠ D := fun z => by
      rw [z, upd_same] at e
      cases e
      exact ho _ _ rfl
    rw [upd_ne na] at e
    exact e
  · funext a
    by_cases ha : a = D
    · subst ha
      rw [upd_same]
      exact hD
    · rw [upd_ne ha]
      show H a = (if a = D then none else H a)
      rw [if_neg ha]
theorem upd_two {D : Addr} {o o' : HO} : upd (upd H D o) D o' = upd H D o' := by
  funext a
  by_cases ha : a = D
  · subst ha
    rw [upd_same, upd_same]
  · rw [upd_ne ha, upd_ne ha, upd_ne ha]
theorem AtS.reframe {D : Addr} {o o' : HO} (A : AtS C (upd F D o) s H) (hF : F D = none) (ho : ∀ od u, o ≠ .frz od u := by intro _ _ z; cases z) : AtS C (upd F D o') s (upd H D o') := by
  obtain ⟨H0, h0, A0, rfl⟩ := A.drop hF ho
  rw [upd_two]
  exact A0.frame h0
/-! ### slots that are forgotten -/
theorem wipe_get (σ : L2.St) : ∀ (l : List Nat) (i : Nat), (wipe σ l)[i]? = if i ∈ l ∧ i < σ.length then some none else σ[i]?
  | [], i => by simp [wipe]
  | v :: l, i => by
    simp only [wipe, List.mem_cons]
    by_cases hv : v = i
    · subst hv
      by_cases hl : v < σ.length
      · rw [List.getElem?_set_self (by rw [wipe_length]; exact hl), if_pos ⟨Or.inl rfl, hl⟩]
      · rw [List.getElem?_eq_none (by rw [List.length_set, wipe_length]; omega), if_neg (fun z => hl z.2), List.getElem?_eq_none (by omega)]
    · rw [List.getElem?_set_ne hv, wipe_get σ l i]
      have : (i = v ∨ i ∈ l) ↔ i ∈ l := ⟨fun z => z.elim (fun z => absurd z.symm hv) id, Or.inr⟩
      simp only [this]
theorem wipeD_len (δ : DEnv) : ∀ l : List Nat, (wipeD δ l).length = δ.length
  | [] => rfl
  | v :: l => by simp only [wipeD, List.length_set, wipeD_len δ l]
theorem wipeD_get (δ : DEnv) : ∀ (l : List Nat) (i : Nat), (wipeD δ l)[i]? = if i ∈ l ∧ i < δ.length then some none else δ[i]?
  | [], i => by simp [wipeD]
  | v :: l, i => by
    simp only [wipeD, List.mem_cons]
    by_cases hv : v = i
    · subst hv
      by_cases hl : v < δ.length
      · rw [List.getElem?_set_self (by rw [wipeD_len]; exact hl), if_pos ⟨Or.inl rfl, hl⟩]
      · rw [List.getElem?_eq_none (by rw [List.length_set, wipeD_len]; omega), if_neg (fun z => hl z.2), List.getElem?_eq_none (by omega)]
    · rw [List.getElem?_set_ne hv, wipeD_get δ l i]
      have : (i = v ∨ i ∈ l) ↔ i ∈ l := ⟨fun z => z.elim (fun z => absurd z.symm hv) id, Or.inr⟩
      simp only [this]
theorem RepS.wipe (R : RepS C s δ σ) (l : List Nat) : RepS C s (wipeD δ l) (L2.wipe σ l) := by
  refine ⟨by rw [wipeD_len, wipe_length]; exact R.1, fun i d hd => ?_⟩
  rw [wipeD_get] at hd
  rw [wipe_get]
  split at hd
  · cases hd
  · rename_i hn
    rw [if_neg (by rw [← R.1]; exact hn)]
    exact R.2 i d hd
theorem wipe_upto {l : List Nat} (u : Upto l (wipe σ l) σ') : wipe σ' l = wipe σ l := by
  apply List.ext_getElem?
  intro i
  have hl : σ'.length = σ.length := by rw [u.1, wipe_length]
  rw [wipe_get, wipe_get, hl]
  split
  · rfl
  · rename_i hn
    by_cases hi : i ∈ l
    · have hlt : ¬ i < σ.length := fun z => hn ⟨hi, z⟩
      rw [List.getElem?_eq_none (by omega), List.getElem?_eq_none (by omega)]
    · rw [u.2 i hi, wipe_get, if_neg hn]
theorem RE.bind_assoc {α β γ : Type} (r : RE α) (f : α → Sto → RE β) (g : β → Sto → RE γ) : (r.bind f).bind g = r.bind fun a S => (f a S).bind g := by
  cases r <;> rfl
/-! ### the comprehension -/
theorem lc_want {t : Tg} {fi : DEnv → Sto → RE (List P)} {fc fe : DEnv → Sto → RE D} {lv : Bool} {Q : VK} (h : tE C W F (fun δ S => (fi δ S).bind fun xs S1 => if lineOk xs.length then (compL (bindT t) fc fe (wipeD δ (tgIx t)) xs S1).bind (compR lv) else .stuck) σ H Q) :
    tLc (tI C W F fi) (fun v σ H Q => ∃ F, gT C F t v σ H Q) (fun σ H Q => ∃ F, tT C WF F fc σ H Q) (fun σ H Q => ∃ F, tE C WF F fe σ H Q) (tgIx t) σ H Q := by
  obtain ⟨δ, s, A, R, h⟩ := h
  refine ⟨δ, s, A, R, Wt.imp (Wt.bind h) fun xs s1 H1 _ e1 A1 h1 J ok D hD => ?_⟩
  split at h1
  case isFalse => exact h1.elim
  rename_i hline
  have R1 := R.mono e1
  have hF : F D = none := A1.fnone hD
  let inv : Nat → Hp → Prop := fun i H => i ≤ xs.length ∧ ∃ s' acc vs, ExtS s1 s' ∧ AtS C (upd F D (.lst vs)) s' H ∧ RepPs C s'.G acc vs ∧ acc.length ≤ i ∧
    WantE C W F (RepD C) σ s' ((compL (bindT t) fc fe (wipeD δ (tgIx t)) (xs.drop i) s'.S).bind fun ys S4 => compR lv (acc ++ ys) S4) Q
  refine ⟨fun i m H => m = xs.length - i ∧ inv i H, ⟨xs.length, by simp, Nat.zero_le _, s1, [], [], ExtS.refl s1, A1.frame hD, by simp only [RepPs], Nat.le_refl _, ?_⟩, ?_⟩
  · rw [List.drop_zero]
    exact h1
  rintro i m H ⟨rfl, hi, s2, acc, vs, e2, A2, ra, hacc, h2⟩
  obtain ⟨ok1, ok2⟩ := ok _ s2 H i e2 A2
  by_cases hlt : i < xs.length
  · have hx : xs[i]? = some xs[i] := List.getElem?_eq_getElem hlt
    obtain ⟨go, yl⟩ := ok1 _ hx
    refine .inr ⟨go, inv (i + 1), fun H' q => ⟨xs.length - (i + 1), by omega, rfl, q⟩, fun v H' y => ?_⟩
    obtain ⟨s3, e3, hS, A3, r3⟩ := yl v H' y
    rw [List.drop_eq_getElem_cons hlt] at h2
    simp only [compL] at h2
    have h3 := Wt.ext e3 h2
    rw [← hS] at h3
    refine ⟨_, wipeD δ (tgIx t), s3, xs[i], A3, (R1.mono (e2.trans e3)).wipe _, r3, ?_⟩
    cases hb : bindT t xs[i] (wipeD δ (tgIx t)) with
    | none =>
      rw [hb] at h3
      exact h3.elim
    | some δ' =>
      rw [hb] at h3
      intro σ' R' u'
      refine ⟨wipe_upto u', _, δ', s3, A3, R', ?_⟩
      dsimp only at h3
      cases ht : fc δ' s3.S with
      | stuck =>
        rw [ht] at h3
        exact h3.elim
      | exc c x S' =>
        rw [ht] at h3
        exact h3.elim
      | ok d S1 =>
        rw [ht] at h3
        intro s4 H4 hS4 e4 A4
        subst hS4
        cases d with
        | p z =>
          cases z with
          | bl b =>
            have h4 := Wt.ext e4 h3
            cases b with
            | false =>
              dsimp only
              rw [if_neg Bool.false_ne_true]
              exact ⟨hlt, s4, acc, vs, (e2.trans e3).trans e4, A4, RepPs.mono (e3.trans e4).G acc vs ra, Nat.le_succ_of_le hacc, h4⟩
            | true =>
              dsimp only at h4 ⊢
              rw [if_pos rfl]
              refine ⟨_, δ', s4, A4, R'.mono e4, ?_⟩
              cases hx' : fe δ' s4.S with
              | stuck =>
                rw [hx'] at h4
                exact h4.elim
              | exc c x S' =>
                rw [hx'] at h4
                exact h4.elim
              | ok d2 S2 =>
                rw [hx'] at h4
                intro s5 H5 hS5 e5 A5 w rw'
                subst hS5
                dsimp only at h4
                cases hp : purify d2 s5.S with
                | stuck =>
                  rw [hp] at h4
                  exact h4.elim
                | exc c x S' => exact (purify_not hp).elim
                | ok z S3 =>
                  rw [hp] at h4
                  obtain ⟨s6, hS6, A6, e6, r6⟩ := purify_ok A5 rw' hp
                  subst hS6
                  have hD5 := (A6.frm D _ upd_same).1
                  have ee := (e3.trans e4).trans (e5.trans e6)
                  have ra6 := RepPs.mono ee.G acc vs ra
                  have hl : vs.length < sizeLine := by
                    rw [← RepPs.len acc vs ra]
                    have q1 := line_of hline
                    omega
                  refine ⟨vs, hD5, hl, hlt, s6, acc ++ [z], vs ++ [w], e2.trans ee, A6.reframe hF, reps_app acc vs ra6 (by simp only [RepPs]; exact ⟨w, [], rfl, r6, rfl⟩), by simp; omega, ?_⟩
                  have h5 := Wt.ext (e5.trans e6) h4
                  dsimp only at h5
                  rw [RE.bind_assoc] at h5
                  simp only [RE.bind, List.append_assoc, List.cons_append, List.nil_append] at h5 ⊢
                  exact h5
          | _ => exact h3.elim
        | _ => exact h3.elim
  · have ei : i = xs.length := by omega
    subst ei
    refine .inl ⟨ok2 rfl, ?_⟩
    rw [List.drop_length] at h2
    simp only [compL, RE.bind, List.append_nil] at h2
    obtain ⟨H0, h0, A0, rfl⟩ := A2.drop hF
    cases lv with
    | false => exact want_lst A0 ra h2 D h0
    | true => exact want_new A0 ra h2 D h0
theorem upto_more {l l1 : List Nat} {σ σ' : L2.St} (u : Upto l σ σ') : Upto (l ++ l1) σ σ' := ⟨u.1, fun i hi => u.2 i fun z => hi (List.mem_append_left _ z)⟩
theorem ok_bindQ {α β : Type} (a : α) (S : Sto) (f : α → Sto → RE β) : (RE.ok a S).bind f = f a S := rfl
/-- two clauses -/
theorem lc2_want {t t1 : Tg} {fi fi1 : DEnv → Sto → RE (List P)} {fb fc fe : DEnv → Sto → RE D} {Q : VK} (hb : fb = fun _ S => .ok (.p (.bl true)) S) (h : tE C W F (fun δ S => (fi δ S).bind fun xs S1 => if lineOk xs.length then (comp2L (bindT t) fi1 (bindT t1) fc fe (tgIx t1) (wipeD δ (tgIx t ++ tgIx t1)) 0 xs S1).bind fun ys S2 => .ok (.p (.lst ys)) S2 else .stuck) σ H Q) :
    tLc2 (tI C W F fi) (fun v σ H Q => ∃ F, gT C F t v σ H Q) (fun σ H Q => ∃ F, tT C WF F fb σ H Q) (fun σ H R => ∃ F, tI C WF F fi1 σ H R) (fun v σ H Q => ∃ F, gT C F t1 v σ H Q) (fun σ H Q => ∃ F, tT C WF F fc σ H Q) (fun σ H Q => ∃ F, tE C WF F fe σ H Q) (tgIx t ++ tgIx t1) (tgIx t1) σ H Q := by
  obtain ⟨δ, s, A, R, h⟩ := h
  refine ⟨δ, s, A, R, Wt.imp (Wt.bind h) fun xs s1 H1 _ e1 A1 h1 J ok D hD => ?_⟩
  split at h1
  case isFalse => exact h1.elim
  rename_i hline
  have R1 := R.mono e1
  have hF : F D = none := A1.fnone hD
  let inv : Nat → Hp → Prop := fun i H => i ≤ xs.length ∧ ∃ s' acc vs, ExtS s1 s' ∧ AtS C (upd F D (.lst vs)) s' H ∧ RepPs C s'.G acc vs ∧
    WantE C W F (RepD C) σ s' ((comp2L (bindT t) fi1 (bindT t1) fc fe (tgIx t1) (wipeD δ (tgIx t ++ tgIx t1)) acc.length (xs.drop i) s'.S).bind fun ys S4 => .ok (.p (.lst (acc ++ ys))) S4) Q
  refine ⟨fun i m H => m = xs.length - i ∧ inv i H, ⟨xs.length, by simp, Nat.zero_le _, s1, [], [], ExtS.refl s1, A1.frame hD, by simp only [RepPs], ?_⟩, ?_⟩
  · rw [List.drop_zero]
    exact h1
  rintro i m H ⟨rfl, hi, s2, acc, vs, e2, A2, ra, h2⟩
  obtain ⟨ok1, ok2⟩ := ok _ s2 H i e2 A2
  by_cases hlt : i < xs.length
  · have hx : xs[i]? = some xs[i] := List.getElem?_eq_getElem hlt
    obtain ⟨go, yl⟩ := ok1 _ hx
    refine .inr ⟨go, inv (i + 1), fun H' q => ⟨xs.length - (i + 1), by omega, rfl, q⟩, fun v H' y => ?_⟩
    obtain ⟨s3, e3, hS, A3, r3⟩ := yl v H' y
    rw [List.drop_eq_getElem_cons hlt] at h2
    simp only [comp2L] at h2
    have h3 := Wt.ext e3 h2
    rw [← hS] at h3
    refine ⟨_, wipeD δ (tgIx t ++ tgIx t1), s3, xs[i], A3, (R1.mono (e2.trans e3)).wipe _, r3, ?_⟩
    cases hb1 : bindT t xs[i] (wipeD δ (tgIx t ++ tgIx t1)) with
    | none =>
      rw [hb1] at h3
      exact h3.elim
    | some δ' =>
      rw [hb1] at h3
      intro σ2 R2 u2
      refine ⟨wipe_upto (upto_more u2), _, δ', s3, A3, R2, ?_⟩
      rw [hb]
      intro s4 H4 hS4 e4 A4
      dsimp only
      rw [if_pos rfl]
      refine ⟨_, δ', s4, A4, R2.mono e4, ?_⟩
      have h4 := Wt.ext e4 h3
      rw [← hS4] at h4
      dsimp only at h4
      cases hz : fi1 δ' s4.S with
      | stuck =>
        rw [hz] at h4
        exact h4.elim
      | exc c x S' =>
        rw [hz] at h4
        exact h4.elim
      | ok zs S1' =>
        rw [hz] at h4
        intro s5 H5 hS5 e5 A5 J1 okk
        subst hS5
        try dsimp only at h4
        split at h4
        case isFalse => exact h4.elim
        rename_i hl2
        have ra5 := RepPs.mono ((e3.trans e4).trans e5).G acc vs ra
        have lv := RepPs.len acc vs ra
        let inv1 : Nat → Hp → Prop := fun j H => j ≤ zs.length ∧ ∃ s' ys' vs', ExtS s5 s' ∧ AtS C (upd F D (.lst vs')) s' H ∧ RepPs C s'.G (acc ++ ys') vs' ∧ ys'.length ≤ j ∧
          WantE C W F (RepD C) σ s' ((compL (bindT t1) fc fe (wipeD δ' (tgIx t1)) (zs.drop j) s'.S).bind fun ys S2 => (comp2L (bindT t) fi1 (bindT t1) fc fe (tgIx t1) (wipeD δ (tgIx t ++ tgIx t1)) (acc.length + (ys' ++ ys).length) (xs.drop (i + 1)) S2).bind fun rs S4 => .ok (.p (.lst (acc ++ ((ys' ++ ys) ++ rs)))) S4) Q
        refine ⟨fun j k H => k = zs.length - j ∧ inv1 j H, ⟨zs.length, by simp, Nat.zero_le _, s5, [], vs, ExtS.refl s5, A5, by rw [List.append_nil]; exact ra5, Nat.le_refl _, ?_⟩, ?_⟩
        · rw [List.drop_zero]
          have h5 := Wt.ext e5 h4
          simp only [RE.bind_assoc, ok_bindQ, List.nil_append] at h5 ⊢
          exact h5
        rintro j kk H ⟨rfl, hj, s6, ys', vs', e6, A6, ra6, hys, h6⟩
        obtain ⟨ok3, ok4⟩ := okk _ s6 H j e6 A6
        by_cases hjt : j < zs.length
        · have hzx : zs[j]? = some zs[j] := List.getElem?_eq_getElem hjt
          obtain ⟨go1, yl1⟩ := ok3 _ hzx
          refine .inr ⟨go1, inv1 (j + 1), fun H' q => ⟨zs.length - (j + 1), by omega, rfl, q⟩, fun v1 H7 y1 => ?_⟩
          obtain ⟨s7, e7, hS7, A7, r7⟩ := yl1 v1 H7 y1
          rw [List.drop_eq_getElem_cons hjt] at h6
          simp only [compL] at h6
          have h7 := Wt.ext e7 h6
          rw [← hS7] at h7
          refine ⟨_, wipeD δ' (tgIx t1), s7, zs[j], A7, (R2.mono (e4.trans (e5.trans (e6.trans e7)))).wipe _, r7, ?_⟩
          cases hb2 : bindT t1 zs[j] (wipeD δ' (tgIx t1)) with
          | none =>
            rw [hb2] at h7
            exact h7.elim
          | some δ3 =>
            rw [hb2] at h7
            intro σ3 R3 u3
            refine ⟨wipe_upto u3, _, δ3, s7, A7, R3, ?_⟩
            dsimp only at h7
            cases ht : fc δ3 s7.S with
            | stuck =>
              rw [ht] at h7
              exact h7.elim
            | exc c x S' =>
              rw [ht] at h7
              exact h7.elim
            | ok d S1 =>
              rw [ht] at h7
              intro s8 H8 hS8 e8 A8
              subst hS8
              cases d with
              | p z =>
                cases z with
                | bl b =>
                  have h8 := Wt.ext e8 h7
                  cases b with
                  | false =>
                    dsimp only
                    rw [if_neg Bool.false_ne_true]
                    exact ⟨hjt, s8, ys', vs', (e6.trans e7).trans e8, A8, RepPs.mono (e7.trans e8).G _ vs' ra6, Nat.le_succ_of_le hys, h8⟩
                  | true =>
                    dsimp only at h8 ⊢
                    rw [if_pos rfl]
                    refine ⟨_, δ3, s8, A8, R3.mono e8, ?_⟩
                    cases hx' : fe δ3 s8.S with
                    | stuck =>
                      rw [hx'] at h8
                      exact h8.elim
                    | exc c x S' =>
                      rw [hx'] at h8
                      exact h8.elim
                    | ok d2 S2 =>
                      rw [hx'] at h8
                      intro s9 H9 hS9 e9 A9 w rw'
                      subst hS9
                      dsimp only at h8
                      cases hp : purify d2 s9.S with
                      | stuck =>
                        rw [hp] at h8
                        exact h8.elim
                      | exc c x S' => exact (purify_not hp).elim
                      | ok z S3 =>
                        rw [hp] at h8
                        obtain ⟨s10, hS10, A10, e10, r10⟩ := purify_ok A9 rw' hp
                        subst hS10
                        have hD9 := (A10.frm D _ upd_same).1
                        have ee := (e7.trans e8).trans (e9.trans e10)
                        have ra10 := RepPs.mono ee.G _ vs' ra6
                        have hl : vs'.length < sizeLine := by
                          rw [← RepPs.len _ vs' ra6]
                          have q1 := line_of hl2
                          rw [List.length_append]
                          omega
                        refine ⟨vs', hD9, hl, hjt, s10, ys' ++ [z], vs' ++ [w], e6.trans ee, A10.reframe hF, by rw [← List.append_assoc]; exact reps_app _ vs' ra10 (by simp only [RepPs]; exact ⟨w, [], rfl, r10, rfl⟩), by simp; omega, ?_⟩
                        have h9 := Wt.ext (e9.trans e10) h8
                        dsimp only at h9
                        simp only [RE.bind_assoc, ok_bindQ, List.append_assoc, List.cons_append, List.nil_append] at h9 ⊢
                        exact h9
                | _ => exact h7.elim
              | _ => exact h7.elim
        · have ej : j = zs.length := by omega
          subst ej
          refine .inl ⟨ok4 rfl, ?_⟩
          rw [List.drop_length] at h6
          simp only [compL, ok_bindQ, List.append_nil] at h6
          refine ⟨hlt, s6, acc ++ ys', vs', (e2.trans e3).trans (e4.trans (e5.trans e6)), A6, ra6, ?_⟩
          rw [List.length_append]
          simp only [List.append_assoc] at h6 ⊢
          exact h6
  · have ei : i = xs.length := by omega
    subst ei
    refine .inl ⟨ok2 rfl, ?_⟩
    rw [List.drop_length] at h2
    simp only [comp2L, RE.bind, List.append_nil] at h2
    obtain ⟨H0, h0, A0, rfl⟩ := A2.drop hF
    exact want_lst A0 ra h2 D h0
theorem exF_pe {X : Cx} {e : Expr} {fe : DEnv → Sto → RE D} (h : ∀ F, PE X e (tE C WF F fe)) : PE X e (fun σ H Q => ∃ F, tE C WF F fe σ H Q) := ⟨fun pins s σ H Q I ⟨F, q⟩ => (h F).run pins s σ H Q I q⟩
theorem exF_pt {X : Cx} {e : List Expr} {fe : DEnv → Sto → RE D} (h : ∀ F, PTs X e (tT C WF F fe)) : PTs X e (fun σ H Q => ∃ F, tT C WF F fe σ H Q) := ⟨fun pins s σ H Q I ⟨F, q⟩ => (h F).run pins s σ H Q I q⟩
theorem exF_pg {X : Cx} {e : Expr} {t : Tg} (h : ∀ F, PG X e (gT C F t)) : PG X e (fun v σ H Q => ∃ F, gT C F t v σ H Q) := ⟨fun pins s σ H v u Q I r ⟨F, q⟩ => (h F).run pins s σ H v u Q I r q⟩
/-- what hangs on the block of a comprehension -/
structure BlkIn (C : CC) (X : Cx) (tg elt : Expr) (ifs : List Expr) (scope : Scope) (t : Tg) (fc fe : DEnv → Sto → RE D) : Prop where
  g : ∀ (s : Shared) (H : Hp) (A : Addr) (cl : List (Str × Addr)) (fp : List Addr) (F : Hp), PG (X.blk s H scope (compEnvC scope cl A X.env) fp) tg (gT C F t)
  c : ∀ (s : Shared) (H : Hp) (A : Addr) (cl : List (Str × Addr)) (fp : List Addr) (F : Hp), PTs (X.blk s H scope (compEnvC scope cl A X.env) fp) ifs (tT C WF F fc)
  e : ∀ (s : Shared) (H : Hp) (A : Addr) (cl : List (Str × Addr)) (fp : List Addr) (F : Hp), PE (X.blk s H scope (compEnvC scope cl A X.env) fp) elt (tE C WF F fe)
variable {tg elt iter : Expr} {ifs : List Expr} {scope : Scope} {own : List (Str × Nat)} {t : Tg} {fc fe : DEnv → Sto → RE D} {fi : DEnv → Sto → RE (List P)} {pos py spos : Pos}
theorem x_comp (lv : Bool) (hc : X.calm = true) (hN : X.N.Nodup) (hi : PI X tg iter (tI C W F fi)) (ok : BlkOk X.N X.env.scope scope own) (ho : own.map (·.2) = tgIx t) (b : BlkIn C X tg elt ifs scope t fc fe) (hs : notSet iter = true) :
    PE X (.ListComp elt [⟨tg, iter, ifs, 0⟩] scope pos) (tE C W F fun δ S => (fi δ S).bind fun xs S1 => if lineOk xs.length then (compL (bindT t) fc fe (wipeD δ (tgIx t)) xs S1).bind (compR lv) else .stuck) :=
  PE.imp (pe_lc hc hN hi ok (fun s H A cl fp => exF_pg (b.g s H A cl fp)) (fun s H A cl fp => exF_pt (b.c s H A cl fp)) (fun s H A cl fp => exF_pe (b.e s H A cl fp)) (notSet_it hs)) fun σ H Q h => by
    rw [ho]
    exact lc_want h
theorem s_setc (lv : Bool) {i : Nat} {y : Str} (hc : X.calm = true) (hN : X.N.Nodup) (hy : X.N[i]? = some y) (hyl : X.env.scope.names.lookup y = some .local) (hk : X.env.scope.kind = .function) (hl : (py.line == pos.line) = true) (ha : (scope.names.any fun (n, k) => n == y && (k == .local || k == .cell)) = false)
    (hi : PI X tg iter (tI C W F fi)) (ok : BlkOk X.N X.env.scope scope own) (ho : own.map (·.2) = tgIx t) (b : BlkIn C X tg elt ifs scope t fc fe) (hs : notSet iter = true) :
    PS X (.Assign [.Name y py] (.ListComp elt [⟨tg, iter, ifs, 0⟩] scope pos) spos) (tS C W F fun δ S => ((fi δ S).bind fun xs S1 => if lineOk xs.length then (compL (bindT t) fc fe (wipeD δ (tgIx t)) xs S1).bind (compR lv) else .stuck).st δ fun d S1 => .next (setSlot δ i d) S1) :=
  PS.imp (ps_setLc hc hN hy hyl (sw_true hk hyl hl ha) hi ok (fun s H A cl fp => exF_pg (b.g s H A cl fp)) (fun s H A cl fp => exF_pt (b.c s H A cl fp)) (fun s H A cl fp => exF_pe (b.e s H A cl fp)) (notSet_it hs)) fun D σ H ⟨δ, s, A, R, h⟩ => by
    rw [ho]
    exact lc_want ⟨δ, s, A, R, Wt.imp (WantS.st R h) fun d s' H' _ ex A' hk v r => hk.next A' ((R.mono ex).set r)⟩
theorem exF_pi {X : Cx} {tg e : Expr} {fi : DEnv → Sto → RE (List P)} (h : ∀ F, PI X tg e (tI C WF F fi)) : PI X tg e (fun σ H R => ∃ F, tI C WF F fi σ H R) := ⟨fun pins s σ H R I ⟨F, q⟩ => (h F).run pins s σ H R I q⟩
/-- what hangs on the block of a comprehension of two clauses -/
structure BlkIn2 (C : CC) (X : Cx) (tg tg1 iter1 elt : Expr) (ifs1 : List Expr) (scope : Scope) (t t1 : Tg) (fi1 : DEnv → Sto → RE (List P)) (fc fe : DEnv → Sto → RE D) : Prop where
  g : ∀ (s : Shared) (H : Hp) (A : Addr) (cl : List (Str × Addr)) (fp : List Addr) (F : Hp), PG (X.blk s H scope (compEnvC scope cl A X.env) fp) tg (gT C F t)
  i : ∀ (s : Shared) (H : Hp) (A : Addr) (cl : List (Str × Addr)) (fp : List Addr) (F : Hp), PI (X.blk s H scope (compEnvC scope cl A X.env) fp) tg1 iter1 (tI C WF F fi1)
  g1 : ∀ (s : Shared) (H : Hp) (A : Addr) (cl : List (Str × Addr)) (fp : List Addr) (F : Hp), PG (X.blk s H scope (compEnvC scope cl A X.env) fp) tg1 (gT C F t1)
  c : ∀ (s : Shared) (H : Hp) (A : Addr) (cl : List (Str × Addr)) (fp : List Addr) (F : Hp), PTs (X.blk s H scope (compEnvC scope cl A X.env) fp) ifs1 (tT C WF F fc)
  e : ∀ (s : Shared) (H : Hp) (A : Addr) (cl : List (Str × Addr)) (fp : List Addr) (F : Hp), PE (X.blk s H scope (compEnvC scope cl A X.env) fp) elt (tE C WF F fe)
variable {tg1 iter1 : Expr} {ifs1 : List Expr} {t1 : Tg} {fi1 : DEnv → Sto → RE (List P)}
theorem x_comp2 (hno : ∀ (X : Cx) (F : Hp), PTs X [] (tT C WF F fun _ S => .ok (.p (.bl true)) S)) (hc : X.calm = true) (hN : X.N.Nodup) (hi : PI X tg iter (tI C W F fi)) (ok : BlkOk X.N X.env.scope scope own) (ho : own.map (·.2) = tgIx t ++ tgIx t1) (b : BlkIn2 C X tg tg1 iter1 elt ifs1 scope t t1 fi1 fc fe) (hs : notSet iter = true) (hs1 : notSet iter1 = true) :
    PE X (.ListComp elt [⟨tg, iter, [], 0⟩, ⟨tg1, iter1, ifs1, 0⟩] scope pos) (tE C W F fun δ S => (fi δ S).bind fun xs S1 => if lineOk xs.length then (comp2L (bindT t) fi1 (bindT t1) fc fe (tgIx t1) (wipeD δ (tgIx t ++ tgIx t1)) 0 xs S1).bind fun ys S2 => .ok (.p (.lst ys)) S2 else .stuck) :=
  PE.imp (pe_lc2 hc hN hi ok (by rw [ho]; intro i hi; exact List.mem_append_right _ hi) (fun s H A cl fp => exF_pg (b.g s H A cl fp)) (fun s H A cl fp => exF_pt (fun F => hno _ F)) (fun s H A cl fp => exF_pi (b.i s H A cl fp)) (fun s H A cl fp => exF_pg (b.g1 s H A cl fp)) (fun s H A cl fp => exF_pt (b.c s H A cl fp)) (fun s H A cl fp => exF_pe (b.e s H A cl fp)) (notSet_it hs) (fun env => notSet_it hs1)) fun σ H Q h => by
    rw [ho]
    exact lc2_want rfl h
theorem s_setc2 {i : Nat} {y : Str} (hno : ∀ (X : Cx) (F : Hp), PTs X [] (tT C WF F fun _ S => .ok (.p (.bl true)) S)) (hc : X.calm = true) (hN : X.N.Nodup) (hy : X.N[i]? = some y) (hyl : X.env.scope.names.lookup y = some .local) (hk : X.env.scope.kind = .function) (hl : (py.line == pos.line) = true) (ha : (scope.names.any fun (n, k) => n == y && (k == .local || k == .cell)) = false)
    (hi : PI X tg iter (tI C W F fi)) (ok : BlkOk X.N X.env.scope scope own) (ho : own.map (·.2) = tgIx t ++ tgIx t1) (b : BlkIn2 C X tg tg1 iter1 elt ifs1 scope t t1 fi1 fc fe) (hs : notSet iter = true) (hs1 : notSet iter1 = true) :
    PS X (.Assign [.Name y py] (.ListComp elt [⟨tg, iter, [], 0⟩, ⟨tg1, iter1, ifs1, 0⟩] scope pos) spos) (tS C W F fun δ S => ((fi δ S).bind fun xs S1 => if lineOk xs.length then (comp2L (bindT t) fi1 (bindT t1) fc fe (tgIx t1) (wipeD δ (tgIx t ++ tgIx t1)) 0 xs S1).bind fun ys S2 => .ok (.p (.lst ys)) S2 else .stuck).st δ fun d S1 => .next (setSlot δ i d) S1) :=
  PS.imp (ps_setLc2 hc hN hy hyl (sw_true hk hyl hl ha) hi ok (by rw [ho]; intro i hi; exact List.mem_append_right _ hi) (fun s H A cl fp => exF_pg (b.g s H A cl fp)) (fun s H A cl fp => exF_pt (fun F => hno _ F)) (fun s H A cl fp => exF_pi (b.i s H A cl fp)) (fun s H A cl fp => exF_pg (b.g1 s H A cl fp)) (fun s H A cl fp => exF_pt (b.c s H A cl fp)) (fun s H A cl fp => exF_pe (b.e s H A cl fp)) (notSet_it hs) (fun env => notSet_it hs1)) fun D σ H ⟨δ, s, A, R, h⟩ => by
    rw [ho]
    exact lc2_want rfl ⟨δ, s, A, R, Wt.imp (WantS.st R h) fun d s' H' _ ex A' hk v r => hk.next A' ((R.mono ex).set r)⟩
end
end RP
end

section
set_option Elab.async false
set_option linter.all false
set_option maxRecDepth 100000
set_option maxHeartbeats 4000000
/-! Comprehensions whose element may raise. -/
namespace RP
open PySem L2 PySem.Spec PyProof.Rows
section
variable {M : Model} {A : Around} {E : Value → Shared → Prop} {s : Shared} {Z : Obj → Prop} {B : Heap} {env : Env} {outer : List Env} {L K a : Addr}
/-- noted before by another frame's address: noted now by this one -/
theorem note_other {Q : Unit → Shared → Prop} (hZ : HandSPX.Steady Z) (hfr : A.frames = some (env :: outer)) (hf : env.frame = some L) (hne : K ≠ L) (hh : HandSPX.HeldZ B (env :: outer) a Z K s.heap)
    (hQ : ∀ h', HandSPX.HeldZ B (env :: outer) a Z L h' → s.heap.UpToSlots h' → Q () { s with heap := h' }) : wpAny M A (noteFrame (.ref a) env) Q E s := by
  obtain ⟨stB, aB, fl, oe, vs, T, oT, ts, ga, za, da, v1, nT, Ta, gT, dT, v3⟩ := hh
  have nk : ¬ ((rawInt K == rawInt L) = true) := by
    simp only [rawInt, beq_iff_eq]
    intro z
    injection z with z1 z2
    exact hne (Int.ofNat.inj z1)
  unfold noteFrame
  simp only [hf]
  refine wpAny_bind (wpAny_field ga da v1 ?_)
  rw [if_pos (show (Value.ref T != Value.none) = true by simp)]
  refine wpAny_bind (wpAny_field gT dT v3 ?_)
  rw [if_neg nk]
  refine wpAny_bind (wpAny_setField gT dT (Array.getElem?_eq_some_iff.mp v3).1 ?_)
  have beside : ∀ b, b ≠ T → (s.heap.update T (Obj.mapFields fun w => w.setIfInBounds 3 Value.none)).get? b = s.heap.get? b := fun b nb => Heap.get?_update_other _ _ (Ne.symm nb)
  have nrec : ∀ b o, s.heap.get? b = some o → (∀ ws, o.data ≠ .fields ws) → b ≠ T := fun b o gb nf z => by
    rw [z, gT] at gb
    cases gb
    exact nf ts dT
  refine HandSPX.wpAny_entryZ hZ hfr (fl.of_keeps fun b o gb nf => ⟨o, (beside b (nrec b o gb nf)).trans gb, rfl⟩) hf ((beside a (Ne.symm Ta)).trans ga)
    (fun b o gb => (beside b fun z => by rw [z, nT] at gb; cases gb).trans (stB b o gb)) aB da (Array.getElem?_eq_some_iff.mp v1).1 za fun h' nt => ?_
  obtain ⟨y1, y2, y3, y4⟩ := nt
  exact hQ h' ⟨y1, aB, y2, y3⟩ fun b o gb nf => y4 b o ((beside b (nrec b o gb nf)).trans gb) nf
/-- an exception of the block, noted by the def's frame -/
theorem sky_noted {Q : Unit → Shared → Prop} (hZ : HandSPX.Steady Z) (hfr : A.frames = some (env :: outer)) (hf : env.frame = some L) (hne : K ≠ L) (x : Sky B (env :: outer) a Z K s.heap)
    (hQ : ∀ h', HandSPX.HeldZ B (env :: outer) a Z L h' → s.heap.UpToSlots h' → Q () { s with heap := h' }) : wpAny M A (noteFrame (.ref a) env) Q E s := by
  rcases x with ⟨x1, x2, x3, oe, vs, x4, x5, x6, x7⟩ | x | x
  · exact HandSPX.look_newZ hZ hfr x3 hf x4 x1 x2 x6 x7 x5 hQ
  · exact HandSPX.looks_onZ hZ hfr hf x hQ
  · exact note_other hZ hfr hf hne x hQ
end
theorem fun_but {B B' h h' : Heap} : ∀ {l : List Env}, h.FunFrames B l → (∀ L ∈ frs l, h'.get? L = h.get? L) → (∀ L ∈ frs l, B'.get? L = none) → h'.FunFrames B' l
  | [], _, _, _ => trivial
  | env :: l, x, k, n => by
    obtain ⟨x1, ⟨L, o, x2, _, x3, x4⟩, x5⟩ := x
    have hL : L ∈ frs (env :: l) := List.mem_filterMap.mpr ⟨env, List.mem_cons_self, x2⟩
    have up : ∀ b, b ∈ frs l → b ∈ frs (env :: l) := fun b hb => by
      obtain ⟨e, e1, e2⟩ := List.mem_filterMap.mp hb
      exact List.mem_filterMap.mpr ⟨e, List.mem_cons_of_mem _ e1, e2⟩
    exact ⟨x1, ⟨L, o, x2, n L hL, (k L hL).trans x3, x4⟩, fun_but x5 (fun b hb => k b (up b hb)) fun b hb => n b (up b hb)⟩
section
variable {X : Cx} {W : WX} {pins : List (Addr × Obj)} {σ : L2.St} {H0 : Hp} {s0 : Shared}
/-- what is owed where an exception leaves the block -/
abbrev blkXe (X : Cx) (ce : Env) : Value → Shared → Prop := notedBy (model X.prog X.w) X.A ce (CompFails (model X.prog X.w) X.A X.xe ce)
theorem takes_blk {scope : Scope} {cl : List (Str × Addr)} {fp : List Addr} {Cb : Addr} (hs : X.stack = X.env :: X.outer) (hf : X.env.frame = some X.env.locals) (tk : Takes X W) (I : Inv X pins σ H0 s0) (hC : Cb = s0.heap.objs.size)
    (hfp : ∀ b ∈ fp, (b ∈ X.ex ∨ X.s_0.heap.objs.size ≤ b) ∧ b ≠ X.env.locals ∧ (∀ x c, X.env.cells.lookup x = some c → c ≠ b) ∧ ∀ p ∈ X.pn ++ pins, p.1 ≠ b) :
    Takes ((X.blk s0 H0 scope (compEnvC scope cl Cb X.env) fp).tr [] (blkXe X (compEnvC scope cl Cb X.env))) (fun c d _ H => W c d σ H) := by
  rintro u s' ⟨a, B, sI, pins', σ', H', cls, d, rfl, J, nb, up, sky, na, os, ag, w⟩
  have hfr : X.A.frames = some (X.env :: X.outer) := by rw [I.ok.frames, hs]
  have old : ∀ b o, s0.heap.get? b = some o → b ≠ Cb := fun b o e z => by
    rw [z, hC] at e
    exact absurd (Heap.lt_size e) (Nat.lt_irrefl _)
  have nL : Cb ≠ X.env.locals := fun z => by
    obtain ⟨m, ⟨o, _, _, ho, _⟩, _⟩ := I.loc
    exact old _ o ho z.symm
  have nfr : Cb ∉ frs X.stack := fun z => by
    obtain ⟨_, o, ho, _⟩ := I.stack.mem z
    exact old _ o ho rfl
  obtain ⟨m, hm, _⟩ := J.loc
  have hm : sI.heap.Ns Cb m := hm
  have nb : ∀ b o, sI.heap.get? b = some o → b ∉ frs X.stack → B.get? b = some o := nb
  have sky : Sky B (X.env :: X.outer) a (Zc cls d) Cb s'.heap := by
    rw [← hs]
    exact sky
  show wpAny (model X.prog X.w) X.A (noteFrame (.ref a) X.env) _ _ s'
  refine sky_noted Zc.steady hfr hf nL sky fun h1 held up1 => ?_
  obtain ⟨stB, aB, fl, oe, vs, T, oT, ts, ga, za, da, v1, nT, Ta, gT, dT, v3⟩ := held
  obtain ⟨oc, es, ep, hoc, hent⟩ := hm
  have hBC : B.get? Cb = some oc := nb Cb oc hoc nfr
  have aC : a ≠ Cb := fun z => by rw [z, hBC] at aB; cases aB
  have TC : T ≠ Cb := fun z => by rw [z, hBC] at nT; cases nT
  refine ⟨m, ⟨oc, es, ep, stB _ _ hBC, hent⟩, fun h' m' hn' sb => ?_⟩
  have sb2 : ∀ b, b ≠ Cb → h'.get? b = h1.get? b := sb.2
  have frB : ∀ L ∈ frs (X.env :: X.outer), L ≠ Cb := fun L hL z => nfr (by rw [hs, ← z]; exact hL)
  have hid : ∀ b o, (PySem.W.hideAll B [Cb]).get? b = some o → B.get? b = some o ∧ b ≠ Cb := fun b o e => by
    refine ⟨PySem.W.of_hideAll _ e, fun z => ?_⟩
    rw [z, PySem.W.hideAll_none [Cb] List.mem_cons_self] at e
    cases e
  have hidn : ∀ b, B.get? b = none → (PySem.W.hideAll B [Cb]).get? b = none := fun b e => by
    cases q : (PySem.W.hideAll B [Cb]).get? b with
    | none => rfl
    | some o =>
      rw [(hid b o q).1] at e
      cases e
  have fl' : h'.FunFrames (PySem.W.hideAll B [Cb]) (X.env :: X.outer) := fun_but fl (fun L hL => sb2 L (frB L hL)) fun L hL => hidn L (fl.mem hL).1
  have ga' : h'.get? a = some oe := (sb2 a aC).trans ga
  have gT' : h'.get? T = some oT := (sb2 T TC).trans gT
  have st' : (PySem.W.hideAll B [Cb]).StaysIn h' := fun b o e => (sb2 b (hid b o e).2).trans (stB b o (hid b o e).1)
  unfold PySem.passOn
  refine wpAny_bind (wpAny_field ga' da v1 ?_)
  rw [if_neg (show ¬ (Value.ref T == Value.none) = true by simp)]
  have hf' : (compEnvC scope cl Cb X.env).frame = some X.env.locals := hf
  rw [hf']
  refine wpAny_bind (HandSPX.setFlight_anyZ (fr := some X.env.locals) st' fl' ⟨oe, vs, T, oT, ts, ga', za, da, v1, hidn T nT, Ta, gT', dT, v3⟩ fun h2 k1 k2 k3 k4 => ?_)
  refine wpAny_throw (tk _ _ ⟨a, PySem.W.hideAll B [Cb], { sI with heap := PySem.W.hideAll sI.heap [Cb] }, pins, σ, H', cls, d, rfl, ?_, fun b o e hb => ?_, fun b o e nf => ?_, .inr (.inr ⟨k1, hidn a aB, by rw [hs]; exact k2, k3⟩), na, os, ag, w⟩)
  · have nC : H' Cb = none := J.free
    have hI : ∀ b o, sI.heap.get? b = some o → b ≠ Cb → (PySem.W.hideAll sI.heap [Cb]).get? b = some o := fun b o e n => PySem.W.hideAll_get _ e fun z => n (List.mem_singleton.mp z)
    have bs : Un (frs X.stack) fp H0 H' s0.heap sI.heap := J.base
    refine I.call' (ch := fp) (s' := { sI with heap := PySem.W.hideAll sI.heap [Cb] }) J.os ⟨fun b o e n hb hc => hI b o (bs.keep b o e n hb hc) (old b o e), fun b o e n hb hc => ?_, bs.free, fun b o e hc => ?_, bs.tups, bs.frzs, bs.tbls⟩ (fun b o q => ?_) J.bare hfp
    · obtain ⟨sl, z⟩ := bs.slot b o e n hb hc
      exact ⟨sl, hI b _ z (old b o e)⟩
    · obtain ⟨o', z⟩ := bs.there b o e hc
      exact ⟨o', hI b _ z (old b o e)⟩
    · refine (J.hok b o q).stay (fun c v hc r => hI c v r fun z => ?_) (fun _ r => r) fun _ _ r => r
      rcases hc with hc | hc
      · rw [hc] at z
        rw [z, nC] at q
        cases q
      · rw [z, nC] at hc
        cases hc
  · have e1 := PySem.W.of_hideAll _ e
    refine PySem.W.hideAll_get _ (nb b o e1 hb) fun z => ?_
    rw [List.mem_singleton.mp z, PySem.W.hideAll_none [Cb] List.mem_cons_self] at e
    cases e
  · have e1 := PySem.W.of_hideAll _ e
    have n1 : b ≠ Cb := fun z => by
      rw [z, PySem.W.hideAll_none [Cb] List.mem_cons_self] at e
      cases e
    obtain ⟨l1, q1⟩ := up b o e1 nf
    obtain ⟨l2, q2⟩ := up1 b _ q1 nf
    obtain ⟨l3, q3⟩ := k4 b _ ((sb2 b n1).trans q2) nf
    exact ⟨l3, q3⟩
end
section
variable {X : Cx} {W : WX}
theorem lcx_core {pins : List (Addr × Obj)} {s : Shared} {σ : L2.St} {H : Hp} {Q : VK} {elt tg iter : Expr} {ifs : List Expr} {scope : Scope} {own : List (Str × Nat)} {pos pos' : Pos} {wi : TI} {g : TG} {tt : TT} {te : TE} {use : Option (Value → Sem Unit)} {Qf : Value → Shared → Prop}
    (hc : X.calm = true) (hN : X.N.Nodup) (hst : X.stack = X.env :: X.outer) (hf : X.env.frame = some X.env.locals) (tk : Takes X W) (I : Inv X pins σ H s) (hi : PI X tg iter wi) (ok : BlkOk X.N X.env.scope scope own)
    (hg : ∀ (s : Shared) (H : Hp) (C : Addr) (cl : List (Str × Addr)) (fp : List Addr) (xe : Value → Shared → Prop), PG ((X.blk s H scope (compEnvC scope cl C X.env) fp).tr [] xe) tg g)
    (ht : ∀ (s : Shared) (H : Hp) (C : Addr) (cl : List (Str × Addr)) (fp : List Addr) (xe : Value → Shared → Prop), PTs ((X.blk s H scope (compEnvC scope cl C X.env) fp).tr [] xe) ifs tt)
    (he : ∀ (s : Shared) (H : Hp) (C : Addr) (cl : List (Str × Addr)) (fp : List Addr) (xe : Value → Shared → Prop), Takes ((X.blk s H scope (compEnvC scope cl C X.env) fp).tr [] xe) (fun c d _ H => W c d σ H) → PE ((X.blk s H scope (compEnvC scope cl C X.env) fp).tr [] xe) elt te)
    (hs : ∀ x, foldedSetIterable iter X.env x = pure x) (h : tLc wi g tt te (own.map (·.2)) σ H Q)
    (hRR : ∀ (D : Addr) (ce : Env) (s' : Shared) (m : Str → Option Value) (H' : Hp), Inv X pins σ H' s' → Q (.ref D) H' → s'.heap.Ns ce.locals m → FpOk X pins H' ce.locals → compEnds (model X.prog X.w) X.A X.xe use Qf (.ref D) ce (.ok .next) s') :
    wpAny (model X.prog X.w) X.A (comprehension (.ListComp elt [⟨tg, iter, ifs, 0⟩] scope pos) scope X.env pos' (newList []) false (eval iter X.env) use) Qf X.xe s := by
  have fr : ∀ y ∈ scope.names, y.2 = .free → ∃ c, X.env.cells.lookup y.1 = some c := fun y hy e => I.ok.has _ (ok.free y hy e)
  refine comprehension_at (use := use) rfl hs (closure_ok fr) ok.kind (fun y hy e => by rw [ok.uniq y hy, e]) (thn (hi.run pins s σ H _ I h) fun xv s1 hx => thn hx fun itv s2 h2 => ?_)
  obtain ⟨it, fp, tn, J, H2, rfl, I2, T, st2, f2, q⟩ := h2
  refine wpAny_newObj_type (newEnv_comp ?_) (by show 0 ≤ sizeLine; decide)
  obtain ⟨D, eD⟩ : ∃ D, D = s2.heap.objs.size := ⟨_, rfl⟩
  have nD : H2 D = none := I2.hok.fresh (Nat.le_of_eq eD.symm)
  obtain ⟨Wm, ⟨m0, w0⟩, turn⟩ := q D nD
  rw [← eD]
  generalize e3 : ({ s2 with heap := s2.heap.push { cls := .type "list", data := .seq ([] : List Value).toArray } } : Shared) = s3
  have h3 : s3.heap = s2.heap.push { cls := .type "list", data := .seq ([] : List Value).toArray } := by rw [← e3]
  have I3 : Inv X pins σ (upd H2 D (.lst [])) s3 := by
    rw [← e3]
    refine I2.laid (t' := s2.toks) (fun b o e => Heap.get?_push_of_some _ e) (Nat.le_of_eq eD.symm) ⟨Nat.zero_le _, [], 0, .nil, ?_⟩
    rw [eD]
    exact Heap.get?_push_size _ rfl
  have lt2 : ∀ b ∈ fp, b < s2.heap.objs.size := fun b hb => by
    obtain ⟨o, e, _⟩ := T.obj _ _ st2 b hb
    exact Heap.lt_size e
  have f3 : ∀ b ∈ fp, FpOk X pins (upd H2 D (.lst [])) b ∧ b < s3.heap.objs.size := fun b hb => by
    have lt := lt2 b hb
    refine ⟨⟨?_, (f2 b hb).2⟩, by rw [h3, Heap.size_push]; exact Nat.lt_succ_of_lt lt⟩
    rw [upd_ne (by rw [eD]; exact Nat.ne_of_lt lt)]
    exact (f2 b hb).1
  have st3 : tn 0 s3.heap := T.keep _ _ _ st2 fun b _ o e => by rw [h3]; exact Heap.get?_push_of_some _ e
  have I4 := block_start I3 ok hN f3
  have fx : ∀ b ∈ fp, (b ∈ X.ex ∨ X.s_0.heap.objs.size ≤ b) ∧ b ≠ X.env.locals ∧ (∀ x c, X.env.cells.lookup x = some c → c ≠ b) ∧ ∀ p ∈ X.pn ++ pins, p.1 ≠ b := fun b hb =>
    ⟨(f3 b hb).1.2.2.2.1, (f3 b hb).1.2.1, (f3 b hb).1.2.2.2.2.1, (f3 b hb).1.2.2.2.2.2⟩
  have tb := takes_blk (scope := scope) (cl := cellsFrom (s3.heap.objs.size + 1) scope.names (cloFrom X.env.cells scope.names [])) (fp := fp) hst hf tk I3 rfl fx
  have pg := hg s3 (upd H2 D (.lst [])) s3.heap.objs.size (cellsFrom (s3.heap.objs.size + 1) scope.names (cloFrom X.env.cells scope.names [])) fp (blkXe X (compEnvC scope (cellsFrom (s3.heap.objs.size + 1) scope.names (cloFrom X.env.cells scope.names [])) s3.heap.objs.size X.env))
  have pt := ht s3 (upd H2 D (.lst [])) s3.heap.objs.size (cellsFrom (s3.heap.objs.size + 1) scope.names (cloFrom X.env.cells scope.names [])) fp (blkXe X (compEnvC scope (cellsFrom (s3.heap.objs.size + 1) scope.names (cloFrom X.env.cells scope.names [])) s3.heap.objs.size X.env))
  have pe := he s3 (upd H2 D (.lst [])) s3.heap.objs.size (cellsFrom (s3.heap.objs.size + 1) scope.names (cloFrom X.env.cells scope.names [])) fp _ tb
  show codeAny _ _ (.compStart (.ListComp elt [⟨tg, iter, ifs, 0⟩] scope pos) 0 (.ref it) (.ref D) (compEnvC scope (cellsFrom (s3.heap.objs.size + 1) scope.names (cloFrom X.env.cells scope.names [])) s3.heap.objs.size X.env))
    (compEnds (model X.prog X.w) X.A X.xe use Qf (.ref D) (compEnvC scope (cellsFrom (s3.heap.objs.size + 1) scope.names (cloFrom X.env.cells scope.names [])) s3.heap.objs.size X.env)) { s3 with heap := pushCells (s3.heap.push { cls := .type "dict", data := .dict #[] }) scope.names }
  have nfp : ∀ b ∈ fp, (upd H2 D (.lst [])) b = none := fun b hb => (f3 b hb).1.1
  generalize ece : compEnvC scope (cellsFrom (s3.heap.objs.size + 1) scope.names (cloFrom X.env.cells scope.names [])) s3.heap.objs.size X.env = ce at I4 pg pt pe ⊢
  have cL : ce.locals = s3.heap.objs.size := by rw [← ece]; rfl
  generalize eH3 : upd H2 D (.lst []) = H3 at I3 I4 pg pt pe w0 nfp f3
  generalize e4 : ({ s3 with heap := pushCells (s3.heap.push { cls := .type "dict", data := .dict #[] }) scope.names } : Shared) = s4 at I4 ⊢
  have st4 : tn 0 s4.heap := T.keep _ _ _ st3 fun b _ o e => by rw [← e4]; exact pushCells_keeps _ _ _ _ (Heap.get?_push_of_some _ e)
  obtain ⟨Y, eY⟩ : ∃ Y : Cx, Y = (X.blk s3 H3 scope ce fp).tr [] (blkXe X ce) := ⟨_, rfl⟩
  have IY : Inv Y [] (wipe σ (own.map (·.2))) H3 s4 := by
    rw [eY]
    exact I4.toTry (blkXe X ce)
  have eE : (notedBy (model X.prog X.w) X.A ce fun e s' => compEnds (model X.prog X.w) X.A X.xe use Qf (.ref D) ce (.error e) s') = Y.xe := by
    rw [eY]
    show notedBy (model X.prog X.w) X.A ce _ = notedBy (model X.prog X.w) X.A ce (CompFails (model X.prog X.w) X.A X.xe ce)
    congr 1
  have stat : ∀ {σ' : L2.St} {H' : Hp} {s' : Shared}, Inv Y [] σ' H' s' → (∀ b ∈ fp, H' b = none) → ∀ b ∈ fp, FpOk Y [] H' b := fun {σ' H' s'} I' hn b hb => by
    subst eY
    exact ⟨hn b hb, (I'.ok.exf b hb).1, I'.ok.exfs b hb, .inl hb, fun x c e => (I'.ok.exf b hb).2 x c e, fun p hp => absurd (show p ∈ ([] : List (Addr × Obj)) ++ [] from hp) (by simp)⟩
  have yA : Y.A = X.A := by rw [eY]
  have loop : codeAny (model X.prog X.w) X.A (.compLoop (.ListComp elt [⟨tg, iter, ifs, 0⟩] scope pos) 0 (.ref it) (.ref D) ce) (compEnds (model X.prog X.w) X.A X.xe use Qf (.ref D) ce) s4 := by
    refine compLoop_any (fun n s' => ∃ i H', Inv Y [] (wipe σ (own.map (·.2))) H' s' ∧ tn i s'.heap ∧ (∀ b ∈ fp, H' b = none) ∧ Wm i n H') ?_ m0 ⟨0, H3, IY, st4, nfp, w0⟩
    rw [eE]
    subst eY
    rintro n s5 ⟨i, H5, I5, st5, n5, w5⟩
    rcases turn i n H5 w5 with ⟨stop, qq⟩ | ⟨go, Nx, hNx, step⟩
    · have td := T.done ((X.blk s3 H3 scope ce fp).tr [] (blkXe X ce)) rfl rfl rfl hc i [] s5 _ H5 (blkXe X ce) I5 (stat I5 n5) st5 stop
      refine thn td fun r s6 ⟨hr, I6⟩ => ?_
      subst hr
      have I7 : Inv X pins σ H5 s6 := I3.call' (ch := fp) I6.os I6.base I6.hok I6.bare fx
      have nC : H5 s3.heap.objs.size = none := by
        have z : H5 ce.locals = none := I6.free
        rw [cL] at z
        exact z
      obtain ⟨m, hn, _⟩ := I6.loc
      have hn : s6.heap.Ns ce.locals m := hn
      exact hRR D ce s6 m H5 I7 qq hn (by rw [cL]; exact I3.fpOk (Nat.le_refl _) nC)
    · have ti := T.item ((X.blk s3 H3 scope ce fp).tr [] (blkXe X ce)) rfl rfl rfl hc i [] s5 _ H5 (blkXe X ce) I5 (stat I5 n5) st5 go
      refine thn ti fun r s6 ⟨u, hr, h6⟩ => ?_
      subst hr
      refine thn h6 fun _ s7 ⟨x, H7, I7, r7, y7, st7, n7⟩ => ?_
      have I7' := I7.pinned (stat I7 n7) (T.obj _ _ st7)
      refine thn (pg.run _ s7 _ H7 x u _ I7' r7 (step x H7 y7)) fun _ s8 ⟨σ8, H8, I8, hw8, q8⟩ => ?_
      refine thn (pt.run _ s8 σ8 H8 _ I8 q8) fun b s9 ⟨H9, I9, q9⟩ => ?_
      have fin : ∀ {s' : Shared} {H' : Hp}, Inv ((X.blk s3 H3 scope ce fp).tr [] (blkXe X ce)) ([] ++ pinsAt fp s7.heap) σ8 H' s' → Nx H' → ∃ m, m < n ∧ ∃ i H', Inv ((X.blk s3 H3 scope ce fp).tr [] (blkXe X ce)) [] (wipe σ (own.map (·.2))) H' s' ∧ tn i s'.heap ∧ (∀ b ∈ fp, H' b = none) ∧ Wm i m H' := fun {s' H'} I' nx => by
        obtain ⟨m', hm, w'⟩ := hNx H' nx
        have pin' : ∀ b ∈ fp, ∀ o, s7.heap.get? b = some o → s'.heap.get? b = some o ∧ H' b = none := fun b hb o e =>
          let z := I'.pin (b, o) (List.mem_append_right _ (List.mem_append_right _ (mem_pinsAt hb e)))
          ⟨z.1, z.2.1⟩
        have hl : (wipe σ (own.map (·.2))).length = σ8.length := by rw [← hw8, L2.wipe_length]
        refine ⟨m', hm, i + 1, H', (I'.unpinned (pins := [])).weak hl (fun j v e => ?_), T.keep _ _ _ st7 fun b hb o e => (pin' b hb o e).1, fun b hb => ?_, w'⟩
        · rw [← hw8] at e
          exact (wipe_some e).1
        · obtain ⟨o, e, _⟩ := T.obj _ _ st7 b hb
          exact (pin' b hb o e).2
      cases b with
      | false =>
        simp only [Bool.false_eq_true, if_false] at q9 ⊢
        exact fin I9 q9
      | true =>
        simp only [if_true] at q9 ⊢
        refine thn (pe.run _ s9 σ8 H9 _ I9 q9) fun z s10 ⟨yv, H10, I10, r10, acc, hD10, hz10, nx⟩ => ?_
        exact L2.app_ok (X := (X.blk s3 H3 scope ce fp).tr [] (blkXe X ce)) I10 hD10 hz10 r10 fun s11 I11 => fin I11 nx
  exact codeAny_compStart_list loop (T.self X.A 0 _ _ _ st4 loop)
/-- as a value -/
theorem pe_lcx {elt tg iter : Expr} {ifs : List Expr} {scope : Scope} {own : List (Str × Nat)} {pos : Pos} {wi : TI} {g : TG} {tt : TT} {te : L2.St → TE} (hc : X.calm = true) (hN : X.N.Nodup) (hst : X.stack = X.env :: X.outer) (hf : X.env.frame = some X.env.locals) (tk : Takes X W) (hi : PI X tg iter wi) (ok : BlkOk X.N X.env.scope scope own)
    (hg : ∀ (s : Shared) (H : Hp) (C : Addr) (cl : List (Str × Addr)) (fp : List Addr) (xe : Value → Shared → Prop), PG ((X.blk s H scope (compEnvC scope cl C X.env) fp).tr [] xe) tg g)
    (ht : ∀ (s : Shared) (H : Hp) (C : Addr) (cl : List (Str × Addr)) (fp : List Addr) (xe : Value → Shared → Prop), PTs ((X.blk s H scope (compEnvC scope cl C X.env) fp).tr [] xe) ifs tt)
    (he : ∀ (σ : L2.St) (s : Shared) (H : Hp) (C : Addr) (cl : List (Str × Addr)) (fp : List Addr) (xe : Value → Shared → Prop), Takes ((X.blk s H scope (compEnvC scope cl C X.env) fp).tr [] xe) (fun c d _ H => W c d σ H) → PE ((X.blk s H scope (compEnvC scope cl C X.env) fp).tr [] xe) elt (te σ))
    (hs : ∀ x, foldedSetIterable iter X.env x = pure x) :
    PE X (.ListComp elt [⟨tg, iter, ifs, 0⟩] scope pos) (fun σ H Q => tLc wi g tt (te σ) (own.map (·.2)) σ H Q) := by
  refine ⟨fun pins s σ H Q I h => ?_⟩
  rw [eval_ListComp]
  refine lcx_core hc hN hst hf tk I hi ok hg ht (he σ) hs h fun D ce s' m H' I' q hn f => ⟨m, hn, fun h'' sb => ?_⟩
  obtain ⟨f0, f1, f2, f3, f4, f5⟩ := f
  exact ⟨.ref D, H', I'.turned (t' := s'.toks) (fun b o hb e => (sb.2 b hb).trans e) f0 f1 f3 f4 f5, rfl, q⟩
end
/-! ### in the evaluator's words -/
section
variable {C : CC} {W : WX} {X : Cx} {F : Hp} {s s1 : Sit} {σ : L2.St} {H : Hp}
theorem takes_no (X : Cx) : Takes X WF := fun u s' ⟨_, _, _, _, _, _, _, _, _, _, _, _, _, _, _, _, w⟩ => w.elim
theorem AtS.unframe {D : Addr} {o : HO} (A : AtS C (upd F D o) s H) (hF : F D = none) (ho : ∀ od u, o ≠ .frz od u := by intro _ _ z; cases z) : AtS C F s H := by
  refine ⟨A.sub, A.len, A.fzn, fun n c e => ?_, A.inj, fun a u e => ?_, A.lk.to (ExtS.refl s) (fun n c e => e) fun a od u e _ => by
    have na : a ≠ D := fun z => by
      rw [z, upd_same] at e
      cases e
      exact ho _ _ rfl
    rw [upd_ne na] at e
    exact e⟩
  · obtain ⟨a, u, k1, k2, k3, k4, k5⟩ := A.live n c e
    have na : a ≠ D := fun z => by
      rw [z, upd_same] at k3
      cases k3
    rw [upd_ne na] at k3
    exact ⟨a, u, k1, k2, k3, k4, k5⟩
  · have na : a ≠ D := fun z => by
      rw [z, hF] at e
      cases e
    exact A.frm a u (by rw [upd_ne na]; exact e)
theorem lcx_want {t : Tg} {fi : DEnv → Sto → RE (List P)} {fc fe : DEnv → Sto → RE D} {Q : VK} (h : tE C W F (fun δ S => (fi δ S).bind fun xs S1 => if lineOk xs.length then (compLx (bindT t) fc fe (wipeD δ (tgIx t)) xs S1).bind (compR false) else .stuck) σ H Q) :
    tLc (tI C W F fi) (fun v σ H Q => ∃ F, gT C F t v σ H Q) (fun σ H Q => ∃ F, tT C WF F fc σ H Q) (fun σ' H Q => ∃ F, tE C (fun c d _ H => W c d σ H) F fe σ' H Q) (tgIx t) σ H Q := by
  obtain ⟨δ, s, A, R, h⟩ := h
  refine ⟨δ, s, A, R, Wt.imp (Wt.bind h) fun xs s1 H1 _ e1 A1 h1 J ok D hD => ?_⟩
  split at h1
  case isFalse => exact h1.elim
  rename_i hline
  have R1 := R.mono e1
  have hF : F D = none := A1.fnone hD
  let inv : Nat → Hp → Prop := fun i H => i ≤ xs.length ∧ ∃ s' acc vs, ExtS s1 s' ∧ AtS C (upd F D (.lst vs)) s' H ∧ RepPs C s'.G acc vs ∧ acc.length ≤ i ∧
    WantE C W F (RepD C) σ s' ((compLx (bindT t) fc fe (wipeD δ (tgIx t)) (xs.drop i) s'.S).bind fun ys S4 => compR false (acc ++ ys) S4) Q
  refine ⟨fun i m H => m = xs.length - i ∧ inv i H, ⟨xs.length, by simp, Nat.zero_le _, s1, [], [], ExtS.refl s1, A1.frame hD, by simp only [RepPs], Nat.le_refl _, ?_⟩, ?_⟩
  · rw [List.drop_zero]
    exact h1
  rintro i m H ⟨rfl, hi, s2, acc, vs, e2, A2, ra, hacc, h2⟩
  obtain ⟨ok1, ok2⟩ := ok _ s2 H i e2 A2
  by_cases hlt : i < xs.length
  · have hx : xs[i]? = some xs[i] := List.getElem?_eq_getElem hlt
    obtain ⟨go, yl⟩ := ok1 _ hx
    refine .inr ⟨go, inv (i + 1), fun H' q => ⟨xs.length - (i + 1), by omega, rfl, q⟩, fun v H' y => ?_⟩
    obtain ⟨s3, e3, hS, A3, r3⟩ := yl v H' y
    rw [List.drop_eq_getElem_cons hlt] at h2
    simp only [compLx] at h2
    have h3 := Wt.ext e3 h2
    rw [← hS] at h3
    refine ⟨_, wipeD δ (tgIx t), s3, xs[i], A3, (R1.mono (e2.trans e3)).wipe _, r3, ?_⟩
    cases hb : bindT t xs[i] (wipeD δ (tgIx t)) with
    | none =>
      rw [hb] at h3
      exact h3.elim
    | some δ' =>
      rw [hb] at h3
      intro σ' R' u'
      refine ⟨wipe_upto u', _, δ', s3, A3, R', ?_⟩
      dsimp only at h3
      cases ht : fc δ' s3.S with
      | stuck =>
        rw [ht] at h3
        exact h3.elim
      | exc c x S' =>
        rw [ht] at h3
        exact h3.elim
      | ok d S1 =>
        rw [ht] at h3
        intro s4 H4 hS4 e4 A4
        subst hS4
        cases d with
        | p z =>
          cases z with
          | bl b =>
            have h4 := Wt.ext e4 h3
            cases b with
            | false =>
              dsimp only
              rw [if_neg Bool.false_ne_true]
              exact ⟨hlt, s4, acc, vs, (e2.trans e3).trans e4, A4, RepPs.mono (e3.trans e4).G acc vs ra, Nat.le_succ_of_le hacc, h4⟩
            | true =>
              dsimp only at h4 ⊢
              rw [if_pos rfl]
              refine ⟨_, δ', s4, A4, R'.mono e4, ?_⟩
              cases hx' : fe δ' s4.S with
              | stuck =>
                rw [hx'] at h4
                exact h4.elim
              | exc c x S' =>
                rw [hx'] at h4
                intro dx s5 H5 hS5 e5 A5 rx
                exact h4 dx s5 H5 hS5 e5 (A5.unframe hF) rx
              | ok d2 S2 =>
                rw [hx'] at h4
                intro s5 H5 hS5 e5 A5 w rw'
                subst hS5
                dsimp only at h4
                cases hp : purify d2 s5.S with
                | stuck =>
                  rw [hp] at h4
                  exact h4.elim
                | exc c x S' => exact (purify_not hp).elim
                | ok z S3 =>
                  rw [hp] at h4
                  obtain ⟨s6, hS6, A6, e6, r6⟩ := purify_ok A5 rw' hp
                  subst hS6
                  have hD5 := (A6.frm D _ upd_same).1
                  have ee := (e3.trans e4).trans (e5.trans e6)
                  have ra6 := RepPs.mono ee.G acc vs ra
                  have hl : vs.length < sizeLine := by
                    rw [← RepPs.len acc vs ra]
                    have q1 := line_of hline
                    omega
                  refine ⟨vs, hD5, hl, hlt, s6, acc ++ [z], vs ++ [w], e2.trans ee, A6.reframe hF, reps_app acc vs ra6 (by simp only [RepPs]; exact ⟨w, [], rfl, r6, rfl⟩), by simp; omega, ?_⟩
                  have h5 := Wt.ext (e5.trans e6) h4
                  dsimp only at h5
                  rw [RE.bind_assoc] at h5
                  simp only [RE.bind, List.append_assoc, List.cons_append, List.nil_append] at h5 ⊢
                  exact h5
          | _ => exact h3.elim
        | _ => exact h3.elim
  · have ei : i = xs.length := by omega
    subst ei
    refine .inl ⟨ok2 rfl, ?_⟩
    rw [List.drop_length] at h2
    simp only [compLx, RE.bind, List.append_nil] at h2
    obtain ⟨H0, h0, A0, rfl⟩ := A2.drop hF
    exact want_lst A0 ra h2 D h0
/-- what hangs on the block of such a comprehension -/
structure BlkInX (C : CC) (W : WX) (X : Cx) (tg elt : Expr) (ifs : List Expr) (scope : Scope) (t : Tg) (fc fe : DEnv → Sto → RE D) : Prop where
  g : ∀ (s : Shared) (H : Hp) (A : Addr) (cl : List (Str × Addr)) (fp : List Addr) (xe : Value → Shared → Prop) (F : Hp), PG ((X.blk s H scope (compEnvC scope cl A X.env) fp).tr [] xe) tg (gT C F t)
  c : ∀ (s : Shared) (H : Hp) (A : Addr) (cl : List (Str × Addr)) (fp : List Addr) (xe : Value → Shared → Prop) (F : Hp), PTs ((X.blk s H scope (compEnvC scope cl A X.env) fp).tr [] xe) ifs (tT C WF F fc)
  e : ∀ (W2 : WX) (s : Shared) (H : Hp) (A : Addr) (cl : List (Str × Addr)) (fp : List Addr) (xe : Value → Shared → Prop), Takes ((X.blk s H scope (compEnvC scope cl A X.env) fp).tr [] xe) W2 → ∀ F : Hp, PE ((X.blk s H scope (compEnvC scope cl A X.env) fp).tr [] xe) elt (tE C W2 F fe)
variable {tg elt iter : Expr} {ifs : List Expr} {scope : Scope} {own : List (Str × Nat)} {t : Tg} {fc fe : DEnv → Sto → RE D} {fi : DEnv → Sto → RE (List P)} {pos : Pos}
theorem x_compx (hc : X.calm = true) (hN : X.N.Nodup) (hst : X.stack = X.env :: X.outer) (hf : X.env.frame = some X.env.locals) (tk : Takes X W) (hi : PI X tg iter (tI C W F fi)) (ok : BlkOk X.N X.env.scope scope own) (ho : own.map (·.2) = tgIx t) (b : BlkInX C W X tg elt ifs scope t fc fe) (hs : notSet iter = true) :
    PE X (.ListComp elt [⟨tg, iter, ifs, 0⟩] scope pos) (tE C W F fun δ S => (fi δ S).bind fun xs S1 => if lineOk xs.length then (compLx (bindT t) fc fe (wipeD δ (tgIx t)) xs S1).bind (compR false) else .stuck) :=
  PE.imp (pe_lcx (te := fun σ σ' H Q => ∃ F, tE C (fun c d _ H => W c d σ H) F fe σ' H Q) hc hN hst hf tk hi ok (fun s H A cl fp xe => exF_pg (b.g s H A cl fp xe)) (fun s H A cl fp xe => exF_pt (b.c s H A cl fp xe))
    (fun σ s H A cl fp xe tk => ⟨fun pins s' σ' H' Q I ⟨F, q⟩ => (b.e _ s H A cl fp xe tk F).run pins s' σ' H' Q I q⟩) (notSet_it hs)) fun σ H Q h => by
    rw [ho]
    exact lcx_want h
end
end RP
end

section
set_option Elab.async false
set_option linter.all false
set_option maxRecDepth 100000
set_option maxHeartbeats 2000000
/-! Defs. -/
namespace RP
open PySem L2
section
variable (C : CC)
/-- what a def that may change things promises -/
def spI (g : IFn) : Sp := fun vs H Q E => ∃ F s ds, AtS C F s H ∧ RepDs C s ds vs ∧ match g ds s.S with
  | .ok d S' => ∀ v s' H', s'.S = S' → ExtS s s' → AtS C F s' H' → RepD C s' d v → Q v H'
  | .exc c x S' => ∀ dx s' H', s'.S = S' → ExtS s s' → AtS C F s' H' → RepX C s'.G c x dx → E (.ref (C.CA c)) dx H'
  | .stuck => False
/-- a promise that asks for so many values -/
def nArg (n : Nat) (sp : Sp) : Sp := fun vs H Q E => vs.length = n ∧ sp vs H Q E
end
section
variable {C : CC} {P' : Program} {w : World} {K : PySem.W.Frag} {mg : Str → Option Value} {base : Heap} {k : Nat} {f : Addr} {name qual : Str} {params : Arguments} {body : List Stmt} {scope : Scope} {dV kV doc pm cdv ct oc : Value} {an od : Option Addr} {osl : Array (Option Value)} {N ps : List Str}
theorem repS_start {s : Sit} {ds : List D} {vs : List V} : RepDs C s ds vs → RepS C s (ds.map some ++ List.replicate (N.length - ds.length) none) (L2.start N vs) := by
  have len : ∀ (ds : List D) (vs : List V), RepDs C s ds vs → ds.length = vs.length := by
    intro ds
    induction ds with
    | nil =>
      intro vs h
      cases (show vs = [] from h)
      rfl
    | cons d ds ih =>
      intro vs h
      obtain ⟨v, ws, rfl, _, h2⟩ := h
      simp only [List.length_cons, ih ws h2]
  have get : ∀ (ds : List D) (vs : List V) (i : Nat) (d : D), RepDs C s ds vs → ds[i]? = some d → ∃ v, vs[i]? = some v ∧ RepD C s d v := by
    intro ds
    induction ds with
    | nil =>
      intro vs i d h e
      simp at e
    | cons d' ds ih =>
      intro vs i d h e
      obtain ⟨v, ws, rfl, h1, h2⟩ := h
      cases i with
      | zero =>
        simp only [List.getElem?_cons_zero, Option.some.injEq] at e
        subst e
        exact ⟨v, rfl, h1⟩
      | succ i =>
        simp only [List.getElem?_cons_succ] at e ⊢
        exact ih ws i d h2 e
  intro h
  have hl := len ds vs h
  refine ⟨by unfold L2.start; simp only [List.length_append, List.length_map, List.length_replicate, hl], fun i d hd => ?_⟩
  unfold L2.start
  by_cases hi : i < ds.length
  · rw [List.getElem?_append_left (by simpa using hi), List.getElem?_map] at hd
    cases e : ds[i]? with
    | none =>
      rw [e] at hd
      cases hd
    | some d' =>
      rw [e] at hd
      cases hd
      obtain ⟨v, hv, r⟩ := get ds vs i d h e
      refine ⟨v, ?_, r⟩
      rw [List.getElem?_append_left (by simp only [List.length_map]; omega), List.getElem?_map, hv]
      rfl
  · rw [List.getElem?_append_right (by simpa using hi), List.getElem?_replicate] at hd
    split at hd <;> cases hd
theorem repDs_p {G : Hp} {μ : List Addr} {S : Sto} : ∀ (xs : List P) (vs : List V), RepPs C G xs vs → RepDs C ⟨G, μ, S⟩ (xs.map D.p) vs
  | [], vs, h => by
    simp only [RepPs] at h
    exact h
  | x :: xs, vs, h => by
    simp only [RepPs] at h
    obtain ⟨v, ws, rfl, h1, h2⟩ := h
    exact ⟨v, ws, rfl, h1, repDs_p xs ws h2⟩
/-- around a def's body: what an exception comes to -/
abbrev WE' (E : XK) : WX := fun cls d _ H => E cls d H
/-- THE RULE for a def that may change things -/
theorem fn_imp {g : DEnv → Sto → RS} (lk : K.lookup f = some ⟨oc, od, .func (PySem.W.fnOf name qual params body scope dV kV doc pm an cdv ct), osl⟩) (hcd : PySem.W.codeIn K cdv qual = true) (Sc : FnScope N ps scope)
    (hb : ∀ (A : Around) (outer : List Env) (s : Shared) (H : Hp) (E : XK) (F : Hp), Room k (A.deeper (PyProof.Rows.envOfC qual scope s.heap.objs.size f cdv)) → PSs (cxOf (L2.CX P' w) P' w K mg base N qual scope f cdv A outer s H E) body (tS C (WE' E) F g)) :
    FnOk P' w K mg base (L2.CX P' w) (k + 1) f (PySem.W.fnOf name qual params body scope dV kV doc pm an cdv ct) ps (nArg ps.length (spI C fun ds S => match g (ds.map some ++ List.replicate (N.length - ds.length) none) S with
      | .next _ S' => .ok (.p .non) S'
      | .ret d S' => .ok d S'
      | .exc c x _ S' => .exc c x S'
      | _ => .stuck)) := by
  refine fn_of lk hcd Sc (fun vs H Q E h => h.1) fun A outer s H vs Q E hr ⟨hl, F, t, ds, AA, rd, h⟩ => ?_
  refine ⟨_, hb A outer s H E F hr, _, t, AA, repS_start rd, ?_⟩
  dsimp only at h
  cases hg : g (ds.map some ++ List.replicate (N.length - ds.length) none) t.S with
  | next δ S' =>
    rw [hg] at h
    exact fun σ s' H' h1 h2 h3 _ => h .non s' H' h1 h2 h3 (by simp only [RepD, RepP])
  | ret d S' =>
    rw [hg] at h
    exact fun v s' H' h1 h2 h3 r => h v s' H' h1 h2 h3 r
  | brk δ S' =>
    rw [hg] at h
    exact h.elim
  | cnt δ S' =>
    rw [hg] at h
    exact h.elim
  | exc c x δ S' =>
    rw [hg] at h
    exact fun dx σ s' H' h1 h2 h3 _ rx => h dx s' H' h1 h2 h3 rx
  | stuck =>
    rw [hg] at h
    exact h.elim
/-- a def that is run with data alone, seen from outside -/
def pureOf (g : IFn) : PFn := fun xs => match g (xs.map D.p) [] with
  | .ok d S => match purify d S with
    | .ok x _ => .ok x
    | _ => .stuck
  | .exc c x _ => .exc c x
  | .stuck => .stuck
theorem spP_I {g : IFn} {n : Nat} {vs : List V} {H : Hp} {Q : VK} {E : XK} (h : nArg n (spP C (pureOf g)) vs H Q E) : nArg n (spI C g) vs H Q E := by
  obtain ⟨hl, G, xs, h1, h2, h3⟩ := h
  refine ⟨hl, fun a => if G a = none then H a else none, ⟨G, [], []⟩, xs.map D.p, ⟨h1, rfl, fun n x e => by simp at e, fun n c e => by simp at e, fun n m c c' a e => by simp at e, fun a o e => ?_, LkOk.nil⟩, repDs_p xs vs h2, ?_⟩
  · have e : (if G a = none then H a else none) = some o := e
    split at e
    · rename_i hn
      exact ⟨e, hn⟩
    · cases e
  · have frz : ∀ {s' : Sit} {H' : Hp}, AtS C (fun a => if G a = none then H a else none) s' H' → Frz G H s'.G H' := fun {s' H'} A a o ha hG => A.frm a o (by show (if G a = none then H a else none) = some o; rw [if_pos hG]; exact ha)
    unfold pureOf at h3
    cases hg : g (xs.map D.p) [] with
    | stuck =>
      rw [hg] at h3
      exact h3
    | exc c x S =>
      rw [hg] at h3
      exact fun dx s' H' _ ex A r => h3 dx s'.G H' ex.G A.sub (frz A) r
    | ok d S =>
      rw [hg] at h3
      intro v s' H' hS ex A r
      subst hS
      dsimp only at h3
      cases hp : purify d s'.S with
      | stuck =>
        rw [hp] at h3
        exact h3.elim
      | exc c x S' => exact (purify_not hp).elim
      | ok x S' =>
        rw [hp] at h3
        obtain ⟨s2, hS2, A2, e2, r2⟩ := purify_ok A r hp
        exact h3 v s2.G H' (ex.G.trans e2.G) A2.sub (frz A2) r2
/-! ### the call of such a def -/
/-- it may be called with what changes -/
def CalI (C : CC) (Pr : Program) (w : World) (K : PySem.W.Frag) (mg : Str → Option Value) (base : Heap) (k : Nat) (u : Value) (g : IFn) : Prop :=
  ∀ (X : Cx) (W : WX) (A : Around) (pins : List (Addr × Obj)) (s : Shared) (σ : L2.St) (H : Hp) (us : List Value) (vs : List V) (Q : VK),
    X.prog = Pr → X.w = w → X.K = K → X.mg = mg → X.base = base → Takes X W → Room k A → A.frames = X.A.frames → Inv X pins σ H s → Vals vs us → spI C g vs H Q (WE W σ) →
    codeAny (model Pr w) A (.call u ⟨us, []⟩) (wants (EP X pins σ Q) X.xe) s
theorem call_of {sp : Sp} {fd : FuncData} {X : Cx} {W : WX} {A : Around} {pins : List (Addr × Obj)} {s : Shared} {σ : L2.St} {H : Hp} {us ds : List Value} {vs dvs : List V} {Q : VK} (F : FnOk X.prog X.w X.K X.mg X.base (L2.CX X.prog X.w) k f fd ps sp) (hb : Binds X.K fd ps ds) (hd : Vals dvs ds)
    (tk : Takes X W) (hr : Room k A) (hA : A.frames = X.A.frames) (I : Inv X pins σ H s) (r : Vals vs us) (hsp : sp (vs ++ dvs) H Q (WE W σ)) : codeAny (model X.prog X.w) A (.call (.ref f) ⟨us, []⟩) (wants (EP X pins σ Q) X.xe) s := by
  have rr : Vals (vs ++ dvs) (us ++ ds) := Vals.append r hd
  have hl : (us ++ ds).length = ps.length := by
    rw [← rr.length]
    exact F.len _ _ _ _ hsp
  have ent : Env0 X.prog X.w X.K X.mg X.base A X.stack s H := by
    obtain ⟨q1, q2, q3, q4, q5, q6, q7, q8⟩ := I.env0
    exact ⟨by rw [hA]; exact q1, q2, q3, q4, q5, q6, q7, q8⟩
  refine codeAny_mono (F.run A X.stack s H ⟨us, []⟩ (us ++ ds) (vs ++ dvs) Q (WE W σ) hr ent (hb s us I.kIn hl) rr hsp) fun r s' hq => ?_
  cases r with
  | error e => exact passAt tk σ pins H s e s' I hq
  | ok fl =>
    cases fl with
    | ret u => exact I.after hq
    | next => exact hq.elim
    | brk => exact hq.elim
    | cont => exact hq.elim
theorem reps_len {G : Hp} {xs : List P} {vs : List V} (h : RepPs C G xs vs) : vs.length = xs.length := (RepPs.len xs vs h).symm
/-- a def with so many parameters, some of which may be left out -/
theorem cal_of {g : IFn} {fd : FuncData} {ds : List Value} {dvs : List V} {dxs : List P} (F : FnOk P' w K mg base (L2.CX P' w) k f fd ps (nArg ps.length (spI C g))) (hb : Binds K fd ps ds) (hd : Vals dvs ds) (hx : ∀ G, RepPs C G dxs dvs) :
    Cal C P' w K mg base k (.ref f) (fun xs => if (xs ++ dxs).length = ps.length then pureOf g (xs ++ dxs) else .stuck) := by
  intro X W A pins s σ H us vs Q e1 e2 e3 e4 e5 tk hr hA I r h
  subst e1 e2 e3 e4 e5
  refine call_of F hb hd tk hr hA I r (spP_I ?_)
  obtain ⟨G, xs, h1, h2, h3⟩ := h
  have app := reps_app xs vs h2 (hx G)
  dsimp only at h3
  by_cases hl : (xs ++ dxs).length = ps.length
  · rw [if_pos hl] at h3
    exact ⟨by rw [reps_len app]; exact hl, G, xs ++ dxs, h1, app, h3⟩
  · rw [if_neg hl] at h3
    exact h3.elim
theorem cal_ofI {g : IFn} {fd : FuncData} (F : FnOk P' w K mg base (L2.CX P' w) k f fd ps (nArg ps.length (spI C g))) (hb : Binds K fd ps []) : CalI C P' w K mg base k (.ref f) (fun ds S => if ds.length = ps.length then g ds S else .stuck) := by
  intro X W A pins s σ H us vs Q e1 e2 e3 e4 e5 tk hr hA I r h
  subst e1 e2 e3 e4 e5
  refine call_of F hb (.nil : Vals [] []) tk hr hA I r ?_
  obtain ⟨F', t, ds, A', rd, h3⟩ := h
  have len : ∀ (ds : List D) (vs : List V), RepDs C t ds vs → ds.length = vs.length := by
    intro ds
    induction ds with
    | nil =>
      intro vs h
      cases (show vs = [] from h)
      rfl
    | cons d ds ih =>
      intro vs h
      obtain ⟨v, ws, rfl, _, h2⟩ := h
      simp only [List.length_cons, ih ws h2]
  dsimp only at h3
  rw [List.append_nil]
  by_cases hl : ds.length = ps.length
  · rw [if_pos hl] at h3
    exact ⟨by rw [← len ds vs rd]; exact hl, F', t, ds, A', rd, h3⟩
  · rw [if_neg hl] at h3
    exact h3.elim
end
section
variable {C : CC} {W : WX} {X : Cx} {k : Nat} {F : Hp} {es : List Expr} {fd : DEnv → Sto → RE (List D)} {pos p : Pos}
theorem spI_of {g : IFn} {s : Sit} {σ : L2.St} {H : Hp} {ds : List D} {vs : List V} {Q : VK} (A : AtS C F s H) (r : RepDs C s ds vs) (h : WantE C W F (RepD C) σ s (g ds s.S) Q) : spI C g vs H Q (WE W σ) := by
  refine ⟨F, s, ds, A, r, ?_⟩
  cases e : g ds s.S with
  | ok d S' =>
    rw [e] at h
    exact fun v s' H' h1 h2 h3 hr => h s' H' h1 h2 h3 v hr
  | exc c x S' =>
    rw [e] at h
    exact fun dx s' H' h1 h2 h3 hr => h dx s' H' h1 h2 h3 hr
  | stuck =>
    rw [e] at h
    exact h
theorem x_icall (sp : Spot C W X k) {x : Str} {u : Value} {g : IFn} (hg : Gl X x) (hm : X.mg x = some u) (hk : PySem.W.keepIn X.K u = true) (cal : CalI C X.prog X.w X.K X.mg X.base k u g) (hd : (x == ("__debug__" : Str)) = false) (hs : es.all notStar = true) (ha : PA X es (tAD C W F fd)) :
    PE X (.Call (.Name x p) es [] pos) (tE C W F fun δ S => (fd δ S).bind fun xs S1 => g xs S1) := by
  refine ⟨fun pins s σ H Q I h => wpAny_Call_Name_kw (ld_glob I hg hm ?_ hd)⟩
  obtain ⟨δ, s0, A, R, hw⟩ := h
  have rd : tAD C W F fd σ H _ := ⟨δ, s0, A, R, Wt.thenA (Rel := RepDs C) R hw⟩
  have run : ∀ us s1, AP X pins σ (fun vs H1 => ∃ d s1, ExtS s0 s1 ∧ AtS C F s1 H1 ∧ RepS C s1 δ σ ∧ RepDs C s1 d vs ∧ WantE C W F (RepD C) σ s1 (g d s1.S) Q) us s1 → wpAny (model X.prog X.w) X.A (call u us) (EP X pins σ Q) X.xe s1 := by
    rintro us s1 ⟨vs, H1, I1, rv, d, t1, e1, A1, R1, r1, w1⟩
    exact wpAny_call (cal X W X.A pins s1 σ H1 us vs Q rfl rfl rfl rfl rfl sp.tk (sp.hr.mono (Nat.le_add_right _ _)) rfl I1 rv (spI_of A1 r1 w1))
  cases es with
  | nil =>
    refine PySem.W.callWith_K0 I.kIn hk ?_
    have z := ha.run pos pins s σ H _ I rd
    have z' : wpAny (model X.prog X.w) X.A (pure []) (AP X pins σ _) X.xe s := z
    exact wpAny_bind (f := fun us => call u us) (wpAny_mono z' (fun us s1 q => run us s1 q) fun _ _ z => z)
  | cons e es =>
    simp only [List.all_cons, Bool.and_eq_true] at hs
    refine PySem.W.callWith_K (h₀ := X.base) I.ok.mod.kin hk (thn (ha.run pos pins s σ H _ I rd) fun us s1 q => ⟨?_, ?_⟩) (star_cons hs.1) (star_none hs.2)
    · obtain ⟨_, _, I1, _⟩ := q
      exact I1.kIn
    · exact run us s1 q
end
end RP
end

section
set_option Elab.async false
set_option linter.all false
set_option maxRecDepth 100000
set_option maxHeartbeats 2000000
/-! Own exceptions: made and raised. -/
namespace RP
open PySem L2 PySem.Spec PyProof.Rows
/-- an own class over ValueError without an __init__ of its own -/
structure BaseT (K : PySem.W.Frag) (B : Addr) : Prop where
  rd : PySem.W.readsIn K B (.type "type") = true
  fc : PySem.W.findCls K (.ref B) (.type "type") "__init__" = some (.val (.builtin "ValueError.__init__"))
  ga : PySem.W.specialIn K (.ref B) "__getattribute__" = some (some (.builtin "type.__getattribute__"))
section
variable {X : Cx} {o e : Expr} {es : List Expr} {to te : TE} {ta : TA} {f x : Str} {p p' p1 p2 pos : Pos} {B : Addr}
theorem handed_init : PySem.W.handedIn (.builtin "ValueError.__init__") = true := by decide +kernel
theorem pe_binit (T : BaseT X.K B) (hg : Gl X x) (hm : X.mg x = some (.ref B)) (hdb : (x == ("__debug__" : Str)) = false) (ha : PA X (e :: es) ta) (hs : (e :: es).all notStar = true) (hn : (e :: es).length < 29) (hl : (p2.endLine == pos.line) = true) :
    PE X (.Call (.Attribute (.Name x p1) "__init__" p2) (e :: es) [] pos) (tVeI X.K ta) := by
  refine ⟨fun pins s σ H Q I h => ?_⟩
  refine PySem.W.methodCall_KW (ld_glob I hg hm ?_ hdb) (meth_form (o := .Name x p1) rfl hs hn hl)
  refine PySem.W.method_cls I.kIn T.ga (PySem.W.cls_value I.kIn T.rd T.fc handed_init ?_)
  have hs' := hs
  simp only [List.all_cons, Bool.and_eq_true] at hs'
  show wpAny _ _ (callWith pos (Value.builtin "ValueError.__init__") [] (backTo pos (starEach (e :: es) X.env)) []) _ _ _
  refine PyProof.Rows.callWith_method1 (thn (ha.run pos pins _ σ H _ (I.tok _) h) fun us s1 ⟨vs, H1, I1, r1, a, C, ws, ev, hl, T, ea, q⟩ => ?_) (star_cons hs'.1) (star_none hs'.2)
  subst ev
  cases r1 with
  | @cons _ u0 _ ur ra rw' =>
    obtain rfl : u0 = Value.ref a := ra
    have hlen : ur.length ≤ sizeLine := by
      rw [← Paired.length rw', sizeLine_eq]
      omega
    exact oinit_ok T I1 ea hlen fun s' J => ⟨.non, H1, J, rfl, q⟩
end
/-! ### __init__ -/
/-- what __init__(self, y) of an own exception does: nothing but self.f = y -/
def spX1 (C : Addr) (f : Str) : Sp := fun vs H Q _ => ∃ a v, vs = [.ref a, v] ∧ H a = some (exo a C none) ∧ ∀ dx, H dx = none → dx ≠ a → Q .non (upd (upd H dx (exd dx [(f, v)])) a (exo a C (some dx)))
def spX0 (C : Addr) : Sp := fun vs H Q _ => ∃ a, vs = [.ref a] ∧ H a = some (exo a C none) ∧ Q .non H
section
variable {P' : Program} {w : World} {K : PySem.W.Frag} {mg : Str → Option Value} {base : Heap} {k : Nat} {fI C B : Addr} {name qual bn self y fl : Str} {params : Arguments} {scope : Scope} {dV kV doc pm cdv ct oc : Value} {an od : Option Addr} {osl : Array (Option Value)} {N ps : List Str} {m : Str} {j : Nat}
  {q1 q2 q3 q4 q5 q6 q7 q8 q9 qa : Pos}
theorem fn_x1 (lk : K.lookup fI = some ⟨oc, od, .func (PySem.W.fnOf name qual params [.Expr (.Call (.Attribute (.Name bn q1) "__init__" q2) [.Name self q3, .Constant (.str m) j q4] [] q5) q6, .Assign [.Attribute (.Name self q7) fl q8] (.Name y q9) qa] scope dV kV doc pm an cdv ct), osl⟩)
    (hcd : PySem.W.codeIn K cdv qual = true) (Sc : FnScope [self, y] [self, y] scope) (T : BaseT K B) (O : OexC K C) (hfl : PySem.W.findIn K (.ref C) fl = some none) (hg : scope.names.lookup bn = some .globalImplicit) (hm : mg bn = some (.ref B)) (hdb : (bn == ("__debug__" : Str)) = false)
    (hl : (q2.endLine == q5.line) = true) (h1 : scope.names.lookup self = some .local) (h2 : scope.names.lookup y = some .local) (d1 : (self == ("__debug__" : Str)) = false) (d2 : (y == ("__debug__" : Str)) = false) (c1 : (self == ("__classdict__" : Str)) = false) (c2 : (y == ("__classdict__" : Str)) = false) :
    L2.FnOk P' w K mg base (L2.CX P' w) (k + 1) fI (PySem.W.fnOf name qual params [.Expr (.Call (.Attribute (.Name bn q1) "__init__" q2) [.Name self q3, .Constant (.str m) j q4] [] q5) q6, .Assign [.Attribute (.Name self q7) fl q8] (.Name y q9) qa] scope dV kV doc pm an cdv ct) [self, y] (spX1 C fl) := by
  refine L2.fn_of lk hcd Sc (fun vs H Q E h => ?_) fun A outer s H vs Q E hr ⟨a, v, ev, ha, hq⟩ => ?_
  · obtain ⟨a, v, rfl, _⟩ := h
    rfl
  subst ev
  refine ⟨_, pss_cons (ps_expr (pe_binit (X := cxOf _ _ _ _ _ _ _ _ _ _ _ _ _ _ _ _) T hg hm hdb (pa_cons (pe_var (i := 0) rfl (.inl h1) d1 c1) (pa_cons pe_str pa_nil)) rfl (by simp) hl)) (pss_one (ps_ost (pe_var (i := 0) rfl (.inl h1) d1 c1) (pe_var (i := 1) rfl (.inl h2) d2 c2))), ?_⟩
  refine ⟨.ref a, rfl, a, C, [.str m], rfl, by simp, O, ha, v, rfl, .ref a, rfl, a, C, rfl, O, hfl, Or.inl ⟨ha, fun dx hdx hne => hq dx hdx hne⟩⟩
theorem fn_x0 (lk : K.lookup fI = some ⟨oc, od, .func (PySem.W.fnOf name qual params [.Expr (.Call (.Attribute (.Name bn q1) "__init__" q2) [.Name self q3, .Constant (.str m) j q4] [] q5) q6] scope dV kV doc pm an cdv ct), osl⟩)
    (hcd : PySem.W.codeIn K cdv qual = true) (Sc : FnScope [self] [self] scope) (T : BaseT K B) (O : OexC K C) (hg : scope.names.lookup bn = some .globalImplicit) (hm : mg bn = some (.ref B)) (hdb : (bn == ("__debug__" : Str)) = false)
    (hl : (q2.endLine == q5.line) = true) (h1 : scope.names.lookup self = some .local) (d1 : (self == ("__debug__" : Str)) = false) (c1 : (self == ("__classdict__" : Str)) = false) :
    L2.FnOk P' w K mg base (L2.CX P' w) (k + 1) fI (PySem.W.fnOf name qual params [.Expr (.Call (.Attribute (.Name bn q1) "__init__" q2) [.Name self q3, .Constant (.str m) j q4] [] q5) q6] scope dV kV doc pm an cdv ct) [self] (spX0 C) := by
  refine L2.fn_of lk hcd Sc (fun vs H Q E h => ?_) fun A outer s H vs Q E hr ⟨a, ev, ha, hq⟩ => ?_
  · obtain ⟨a, rfl, _⟩ := h
    rfl
  subst ev
  refine ⟨_, pss_one (ps_expr (pe_binit (X := cxOf _ _ _ _ _ _ _ _ _ _ _ _ _ _ _ _) T hg hm hdb (pa_cons (pe_var (i := 0) rfl (.inl h1) d1 c1) (pa_cons pe_str pa_nil)) rfl (by simp) hl)), ?_⟩
  exact ⟨.ref a, rfl, a, C, [.str m], rfl, by simp, O, ha, hq⟩
end
/-! ### C(..) -/
section
variable {X : Cx} {k : Nat} {C fI : Addr} {x : Str} {fd : FuncData} {ps : List Str} {e : Expr} {ta : TA} {p pos : Pos} {f : Str}
theorem upd_back {H1 : Hp} {a dx : Addr} {u1 u2 u3 u4 : HO} (ha : H1 a = none) (hne : dx ≠ a) : upd (del (upd (upd (upd H1 a u1) dx u2) a u3) a) dx u4 = upd H1 dx u4 := by
  funext b
  by_cases hb : b = dx
  · subst hb
    rw [upd_same, upd_same]
  · rw [upd_ne hb, upd_ne hb]
    by_cases hba : b = a
    · subst hba
      rw [del_same, ha]
    · rw [del_ne hba, upd_ne hba, upd_ne hb, upd_ne hba]
/-- what the written part says of an own exception and of its __init__ -/
structure XTxt (K : PySem.W.Frag) (C fI : Addr) : Prop where
  o : OexC K C
  iC : PySem.W.findIn K (.ref C) "__init__" = some (some (.ref fI))
  tI : PySem.W.typeIn K (.ref fI) = some (.type "function")
/-- C(e) -/
theorem s_rais1 {CC' : CC} {W : WX} {F : Hp} {c fl : Nat} {fe : DEnv → Sto → RE D} {pos2 : Pos} (T : XTxt X.K (CC'.CA c) fI) (hft : CC'.FT c = [fl]) (F1 : L2.FnOk X.prog X.w X.K X.mg X.base (L2.CX X.prog X.w) k fI fd ps (spX1 (CC'.CA c) (CC'.NM fl))) (hr : L2.Room (k + 1) X.A) (hb : Binds X.K fd ps [])
    (hc : X.calm = true) (tk : Takes X W) (hg : Gl X x) (hm : X.mg x = some (.ref (CC'.CA c))) (he : PE X e (tE CC' W F fe)) (hn : notStar e = true) (hdb : (x == ("__debug__" : Str)) = false) :
    PS X (.Raise (some (.Call (.Name x p) [e] [] pos)) none pos2) (tS CC' W F fun δ S => (fe δ S).st δ fun d S1 => (purify d S1).st δ fun x S2 => .exc c (some x) δ S2) :=
  PS.imp (ps_raise hc tk (pmk_oex (dvs := []) (ds := []) T.o T.iC T.tI F1 hr hb .nil passL hg hm (pa_cons he pa_nil (star_cons hn)) hdb (star_cons hn) rfl)) fun D σ H ⟨δ, s, A, R, h⟩ => by
    refine ⟨δ, s, A, R, Wt.imp (WantS.st R h) fun d s1 H1 _ e1 A1 h1 v r1 => ?_⟩
    obtain ⟨y, s2, e2, A2, r2, h2⟩ := WantS.pur A1 r1 (R.mono e1) h1
    refine ⟨by simp, fun a ha => ⟨a, v, rfl, upd_same, fun dx hdx hne => ⟨rfl, dx, [(CC'.NM fl, v)], upd_same, by rw [upd_ne hne, upd_same], ?_, ?_⟩⟩⟩
    · rw [upd_ne hne] at hdx
      exact hdx
    · rw [upd_back ha hne]
      rw [upd_ne hne] at hdx
      obtain ⟨A3, e3⟩ := A2.grow (p := dx) (o := .xd [(CC'.NM fl, v)]) hdx
      refine h2 (some dx) σ { s2 with G := upd s2.G dx (.xd [(CC'.NM fl, v)]) } _ rfl e3 A3 ((R.mono (e1.trans e2)).mono e3) ⟨dx, v, rfl, ?_, RepP.mono e3.G y v r2⟩
      rw [hft]
      exact upd_same
/-- the end of C(): an exception without a dict -/
theorem mk_endN {pins : List (Addr × Obj)} {σ : L2.St} {H1 H2 : Hp} {Q : XK} {hp hp2 h2 : Heap} {g1 g2 : Array GenState} {d1 d2 : Drawn} {t1 t2 : Nat} {os1 os2 : OsState} {a C : Addr} (T : Raises X (.ref C)) (I1 : Inv X pins σ H1 ⟨hp, g1, d1, t1, os1⟩)
    (ha : hp.objs.size ≤ a) (k : ∀ b o, hp.get? b = some o → hp2.get? b = some o) (un : Un (frs X.stack) [] (upd H1 a (exo a C none)) H2 hp2 h2) (hok : HOk X.prog X.w H2 h2) (ho : os2 = os1) (hb : AllBare g2)
    (ea : H2 a = some (exo a C none)) (q : Q (.ref C) none (del H2 a)) : MkP X pins σ Q (.ref a) ⟨h2, g2, d2, t2, os2⟩ := by
  obtain ⟨t0, hoe⟩ := exo_at hok ea
  have hn : H1 a = none := I1.hok.fresh ha
  obtain ⟨G, g1', g2'⟩ := restrict h2 fun b => decide (b ≠ a)
  have gk : ∀ b, b ≠ a → G.get? b = h2.get? b := fun b hb => g1' b (decide_eq_true hb)
  have ge : G.get? a = none := g2' a (by simp)
  have nha : ∀ {b : Addr} {o : Obj}, hp.get? b = some o → b ≠ a := fun {b o} z => Nat.ne_of_lt (Nat.lt_of_lt_of_le (Heap.lt_size z) ha)
  have up : ∀ {b : Addr}, b ≠ a → H1 b = none → upd H1 a (exo a C none) b = none := fun {b} hb n => by
    rw [upd_ne hb]
    exact n
  have U : Un (frs X.stack) [] H1 (del H2 a) hp G := {
    keep := fun b o z n hf hx => (gk b (nha z)).trans (un.keep b o (k b o z) (up (nha z) n) hf hx)
    slot := fun b o z n hf hx => by
      obtain ⟨sl, e⟩ := un.slot b o (k b o z) (up (nha z) n) hf hx
      exact ⟨sl, (gk b (nha z)).trans e⟩
    free := fun b o z n hx => (del_ne (nha z)).trans (un.free b o (k b o z) (up (nha z) n) hx)
    there := fun b o z hx => by
      obtain ⟨o', e⟩ := un.there b o (k b o z) hx
      exact ⟨o', (gk b (nha z)).trans e⟩
    tups := fun b xs z => (del_ne (ne_of_none z hn)).trans (un.tups b xs (by rw [upd_ne (ne_of_none z hn)]; exact z))
    frzs := fun b o v z => (del_ne (ne_of_none z hn)).trans (un.frzs b o v (by rw [upd_ne (ne_of_none z hn)]; exact z))
    tbls := fun b ps z => by
      obtain ⟨qs, e⟩ := un.tbls b ps (by rw [upd_ne (ne_of_none z hn)]; exact z)
      exact ⟨qs, (del_ne (ne_of_none z hn)).trans e⟩ }
  have hok3 : HOk X.prog X.w (del H2 a) G := fun b o z => by
    have hba : b ≠ a := fun e => by
      rw [e, del_same] at z
      cases z
    rw [del_ne hba] at z
    have noa : ∀ {c : Addr}, H2 c = some (.own b) → c ≠ a := fun {c} hc => at_ne ea hc exo_own
    exact (hok b o z).stay (fun c v hc y => by
        have hca : c ≠ a := by
          rcases hc with hc | hc
          · rw [hc]
            exact hba
          · exact noa hc
        exact (gk c hca).trans y)
      (fun c hc => (del_ne (noa hc)).trans hc) (fun c xs hc => (del_ne (at_ne ea hc exo_tup)).trans hc)
  have J : Inv X pins σ (del H2 a) ⟨G, g2, d2, t2, os2⟩ := I1.call' (ch := []) ho U hok3 hb (fun b z => absurd z (by simp))
  refine ⟨a, _, _, ⟨G, g2, d2, t2, os2⟩, _, .ref C, none, rfl, J, fun b o z => ?_, ge, hoe, ⟨rfl, rfl⟩, rfl, rfl, del_same, rfl, hb, T, q⟩
  by_cases hba : b = a
  · have z' : G.get? b = some o := z
    rw [hba, ge] at z'
    cases z'
  · exact (gk b hba).symm.trans z
theorem del_upd {H1 : Hp} {a : Addr} {u : HO} (ha : H1 a = none) : del (upd H1 a u) a = H1 := by
  funext b
  by_cases hba : b = a
  · subst hba
    rw [del_same, ha]
  · rw [del_ne hba, upd_ne hba]
theorem pmk_x0 (T : XTxt X.K C fI) (F1 : L2.FnOk X.prog X.w X.K X.mg X.base (L2.CX X.prog X.w) k fI fd ps (spX0 C)) (hr : L2.Room (k + 1) X.A) (hb : Binds X.K fd ps []) (hg : Gl X x) (hm : X.mg x = some (.ref C)) (hdb : (x == ("__debug__" : Str)) = false) :
    PMk X (.Call (.Name x p) [] [] pos) (fun σ H Q => Q (.ref C) none H) := by
  intro pins s σ H Q I h
  obtain ⟨nm, q, N, bs, bm, sn, sub, ab, col, dd, k0, k1, k2, k3, k5, hC, hbm⟩ := T.o.cls
  refine wpAny_Call_Name_kw (ld_glob I hg hm ?_ hdb)
  refine PySem.W.callWith_K0 I.kIn T.o.kC ?_
  show wpAny _ _ (call (.ref C) []) _ _ _
  obtain ⟨hp, g, dr, tk, os⟩ := s
  have hsz : hp.objs.size ≤ hp.objs.size + 1 := Nat.le_succ _
  have hn : H (hp.objs.size + 1) = none := I.hok.fresh hsz
  have kk : ∀ b o, hp.get? b = some o → ((hp.push (PySem.W.kdv_tup [])).push (PySem.HandSPX.excO C hp.objs.size)).get? b = some o := fun b o e => Heap.get?_push_of_some _ (Heap.get?_push_of_some _ e)
  have hget : ((hp.push (PySem.W.kdv_tup [])).push (PySem.HandSPX.excO C hp.objs.size)).get? (hp.objs.size + 1) = some (PySem.HandSPX.excO C hp.objs.size) := by
    have e := Heap.get?_push_size (hp.push (PySem.W.kdv_tup [])) (o := PySem.HandSPX.excO C hp.objs.size) rfl
    rwa [Heap.size_push] at e
  have I2 : Inv X pins σ (upd H (hp.objs.size + 1) (exo (hp.objs.size + 1) C none)) ⟨(hp.push (PySem.W.kdv_tup [])).push (PySem.HandSPX.excO C hp.objs.size), g, dr, tk, os⟩ :=
    I.laid (t' := tk) (a := hp.objs.size + 1) (o := exo (hp.objs.size + 1) C none) (h' := (hp.push (PySem.W.kdv_tup [])).push (PySem.HandSPX.excO C hp.objs.size)) kk hsz (exo_ok hget)
  have hq : spX0 C [V.ref (hp.objs.size + 1)] (upd H (hp.objs.size + 1) (exo (hp.objs.size + 1) C none)) (fun v H2 => v = .non ∧ H2 = upd H (hp.objs.size + 1) (exo (hp.objs.size + 1) C none)) (fun _ _ _ => False) := ⟨_, rfl, upd_same, rfl, rfl⟩
  have r2 : Vals [V.ref (hp.objs.size + 1)] [Value.ref (hp.objs.size + 1)] := .cons rfl .nil
  have hl : ([Value.ref (hp.objs.size + 1)] ++ []).length = ps.length := by
    have e := r2.length
    rw [F1.len _ _ _ _ hq] at e
    exact e.symm
  refine wpAny_call (PySem.HandSPX.call_own F.excBase_ValueError (fun Y => PySem.HandSPX.refsVE_contains Y bm hbm) (I.kIn _ _ hC) (PySem.W.looks_findIn I.kIn T.iC) (fun self => PySem.W.bind_fn I.kIn self T.tI) (Nat.zero_le _)
    (codeAny_mono (F1.run _ X.stack _ _ ⟨[Value.ref (hp.objs.size + 1)], []⟩ [Value.ref (hp.objs.size + 1)] _ _ (fun _ _ _ => False) (hr.make C [] []) (I2.env0.make C [] []) (hb _ [Value.ref (hp.objs.size + 1)] I2.kIn hl) r2 hq) fun r s' hq' => ?_))
  cases r with
  | error er => exact passL pins σ _ _ er s' I2 hq'
  | ok fl =>
    cases fl with
    | ret u =>
      obtain ⟨v, H2, os2, bare2, un2, hok2, rv, ev, eH⟩ := hq'
      subst ev eH
      obtain ⟨h2, g2, d2, t2, os'⟩ := s'
      exact ⟨rv, mk_endN (raises_own T.o.exC T.o.tyC) I hsz kk un2 hok2 os2 bare2 upd_same (by rw [del_upd hn]; exact h)⟩
    | next => exact False.elim hq'
    | brk => exact False.elim hq'
    | cont => exact False.elim hq'
theorem s_rais0 {CC' : CC} {W : WX} {F : Hp} {c : Nat} {pos2 : Pos} (T : XTxt X.K (CC'.CA c) fI) (F1 : L2.FnOk X.prog X.w X.K X.mg X.base (L2.CX X.prog X.w) k fI fd ps (spX0 (CC'.CA c))) (hr : L2.Room (k + 1) X.A) (hb : Binds X.K fd ps [])
    (hc : X.calm = true) (tk : Takes X W) (hg : Gl X x) (hm : X.mg x = some (.ref (CC'.CA c))) (hdb : (x == ("__debug__" : Str)) = false) : PS X (.Raise (some (.Call (.Name x p) [] [] pos)) none pos2) (tS CC' W F fun δ S => .exc c none δ S) :=
  PS.imp (ps_raise hc tk (pmk_x0 T F1 hr hb hg hm hdb)) fun D σ H ⟨δ, s, A, R, h⟩ => h none σ s H rfl (ExtS.refl s) A R rfl
end
end RP
end

section
set_option Elab.async false
set_option linter.all false
set_option maxRecDepth 100000
set_option maxHeartbeats 2000000
/-! Own exceptions as values: made with keywords too, asked for their class, their field read. -/
namespace RP
open PySem PySem.HandSPX
section
variable {M : Model} {Ar : Around} {Er : Value → Shared → Prop} {hp : Heap} {gg : Array GenState} {dr : Drawn} {tt : Nat} {oo : OsState}
variable {cn cq : Str} {C N : Addr} {bases mro mroB : List Value} {hasD : Bool} {sl : List Str} {subs : List Value} {abst : Bool} {co : Option Bool} {dd : Option Addr} {x0 x1 x2 x3 x5 : Option Value} {B nId iId : String}
theorem xv_check (F : ExcBaseFacts B nId iId mroB) (same : ∀ Y : String, mro.contains (.type Y) = mroB.contains (.type Y)) {us : List Value} {kw : List (Str × Value)} {Q : Unit → Shared → Prop}
    (cls : hp.get? C = some (excClassObj cn cq C N bases mro hasD sl subs abst co dd x0 x1 x2 x3 x5 nId)) (q : Q () ⟨hp, gg, dr, tt, oo⟩) : wpAny M Ar (checkBuiltinCall nId ⟨.ref C :: us, kw⟩) Q Er ⟨hp, gg, dr, tt, oo⟩ := by
  have below : (Value.ref C :: mro).contains (.type B) = true := by rw [List.contains_cons, same, F.hasB, Bool.or_true]
  have star := F.noStar
  simp only [checkBuiltinCall, F.newSplit, F.newKind, F.newRow]
  repeat (first
    | refine wpAny_loadPart_at cls ?_
    | (refine wpAny_isSubtype_exc cls ?_; rw [below])
    | refine wpAny_staticBase_exc cls ?_
    | refine wpAny_madeBy_exc cls ?_
    | simp only [bne_self_eq_false, Bool.false_eq_true, if_false]
    | wp_step)
  exact q
end
section
variable {pr : Program} {wo : World} {Ar : Around} {Er : Value → Shared → Prop} {Rr : Result → Shared → Prop} {hp : Heap} {gg : Array GenState} {dr : Drawn} {tt : Nat} {oo : OsState}
variable {cn cq : Str} {C N : Addr} {bases mro mroB : List Value} {hasD : Bool} {sl : List Str} {subs : List Value} {abst : Bool} {co : Option Bool} {dd : Option Addr} {x0 x1 x2 x3 x5 : Option Value} {B nId iId : String}
theorem xv_new (F : ExcBaseFacts B nId iId mroB) (same : ∀ Y : String, mro.contains (.type Y) = mroB.contains (.type Y)) {us : List Value} {kw : List (Str × Value)}
    (cls : hp.get? C = some (excClassObj cn cq C N bases mro hasD sl subs abst co dd x0 x1 x2 x3 x5 nId))
    (q : Rr (.ok (.ret (.ref (hp.objs.size + 1)))) ⟨(hp.push (PySem.W.kdv_tup us)).push (PySem.HandSPX.excO C hp.objs.size), gg, dr, tt, oo⟩) (small : us.length ≤ sizeLine) :
    codeAny (model pr wo) Ar (.builtin nId ⟨.ref C :: us, kw⟩) Rr ⟨hp, gg, dr, tt, oo⟩ := by
  have ends := F.ends
  have below : (Value.ref C :: mro).contains (.type B) = true := by rw [List.contains_cons, same, F.hasB, Bool.or_true]
  have noA : (Value.ref C :: mro).contains (.type "AttributeError") = false := by rw [List.contains_cons, same, F.noAttr]; rfl
  have noN : (Value.ref C :: mro).contains (.type "NameError") = false := by rw [List.contains_cons, same, F.noName]; rfl
  refine codeAny_builtinAt F.entry ?_; unfold Builtin.«BaseException.__new__»; refine wpAt_bind ?_
  show wpAt _ _ _ (stack >>= _) _ _ _; refine wpAt_bind (wpAt_stack fun pp bel => wpAt_of_wpAny ?_)
  wp_walk
  refine wpAt_of_wpAny ?_
  rw [F.owner]
  repeat (first
    | with_reducible refine wpAny_madeHere_exc F.canon cls ?_
    | with_reducible refine wpAny_loadPart_at cls ?_
    | (with_reducible refine wpAny_isSubtype_exc cls ?_; first | rw [below] | rw [noA] | rw [noN])
    | wp_step)
  show Rr _ _
  rw [Heap.size_push]
  exact q
theorem xv_type (F : ExcBaseFacts B nId iId mroB) (same : ∀ Y : String, mro.contains (.type Y) = mroB.contains (.type Y)) {us : List Value} {kw : List (Str × Value)} {fI : Addr} {Q : Fin → Shared → Prop}
    (cls : hp.get? C = some (excClassObj cn cq C N bases mro hasD sl subs abst co dd x0 x1 x2 x3 x5 nId))
    (lk : PySem.W.Looks (model pr wo) hp (typeLookup (.ref C) "__init__") (some (.ref fI))) (bd : ∀ me, PySem.W.Looks (model pr wo) hp (bindSpecial (.ref fI) me) (.ref fI, [me])) (small : us.length ≤ sizeLine)
    (q : codeAny (model pr wo) Ar (.call (.ref fI) ⟨.ref (hp.objs.size + 1) :: us, kw⟩)
      (fun r t => match r with | .ok (.ret v) => v = .none ∧ Q (.done (.ret (.ref (hp.objs.size + 1)))) t | .ok _ => False | .error e => Er e t)
      ⟨(hp.push (PySem.W.kdv_tup us)).push (PySem.HandSPX.excO C hp.objs.size), gg, dr, tt, oo⟩) :
    wpAny (model pr wo) Ar (Builtin.«type.__call__» ⟨.ref C :: us, kw⟩) Q Er ⟨hp, gg, dr, tt, oo⟩ := by
  repeat (first
    | with_reducible refine wpAny_loadPart_at cls ?_
    | with_reducible refine wpAny_madeBy_exc cls ?_
    | wp_step)
  refine codeAny_call_builtin_code (Code.quiet_builtin _ F.quiet) (xv_check F same cls ?_)
  refine xv_new F same cls ?_ small
  show wpAny _ _ _ _ _ _
  have kk : ∀ b o, hp.get? b = some o → ((hp.push (PySem.W.kdv_tup us)).push (PySem.HandSPX.excO C hp.objs.size)).get? b = some o := fun b o z => Heap.get?_push_of_some _ (Heap.get?_push_of_some _ z)
  have cls1 := kk _ _ cls
  have there : ((hp.push (PySem.W.kdv_tup us)).push (PySem.HandSPX.excO C hp.objs.size)).get? (hp.objs.size + 1) = some (PySem.HandSPX.excO C hp.objs.size) := by heap_get
  have own : (Value.ref C :: mro).contains (.ref C) = true := by simp
  have lk1 := lk.keeps kk
  have bd1 := (bd (.ref (hp.objs.size + 1))).keeps kk
  unfold isInstance
  repeat (first
    | with_reducible refine wpAny_loadPart_at there ?_
    | (with_reducible refine wpAny_isSubtype_exc cls1 ?_; rw [own])
    | wp_step)
  show wpAny _ _ (typeLookup (.ref C) _) _ _ _; refine lk1.at ?_
  refine wpAny_holding (wpAny_bind (bd1.at ?_))
  refine wpAny_bind (wpAny_call (codeAny_mono q fun r t z => ?_))
  rcases r with er | (v | _ | _ | _) <;> first | exact z | exact z.elim | skip
  obtain ⟨rfl, z⟩ := z
  first | exact wpAny_pure (wpAny_pure z) | (wp_walk; exact z)
theorem xv_tcheck {Mo : Model} {us : List Value} {kw : List (Str × Value)} {Q : Unit → Shared → Prop} (cls : hp.get? C = some (excClassObj cn cq C N bases mro hasD sl subs abst co dd x0 x1 x2 x3 x5 nId))
    (q : Q () ⟨hp, gg, dr, tt, oo⟩) : wpAny Mo Ar (checkBuiltinCall "type.__call__" ⟨.ref C :: us, kw⟩) Q Er ⟨hp, gg, dr, tt, oo⟩ := by
  have t3 := tc_sub
  have isT : (⟨hp, gg, dr, tt, oo⟩ : Shared).TypeIs (.ref C) "type" := ⟨_, cls, rfl⟩
  simp only [checkBuiltinCall, tc_split, tc_kind]
  repeat (any_goals (first
    | assumption
    | with_reducible refine wpAny_loadPart_at cls ?_
    | with_reducible refine wpAny_onRaise ?_
    | with_reducible refine wpAny_map ?_
    | wp_step))
theorem xv_call (F : ExcBaseFacts B nId iId mroB) (same : ∀ Y : String, mro.contains (.type Y) = mroB.contains (.type Y)) {us : List Value} {kw : List (Str × Value)} {fI : Addr}
    (cls : hp.get? C = some (excClassObj cn cq C N bases mro hasD sl subs abst co dd x0 x1 x2 x3 x5 nId))
    (lk : PySem.W.Looks (model pr wo) hp (typeLookup (.ref C) "__init__") (some (.ref fI))) (bd : ∀ me, PySem.W.Looks (model pr wo) hp (bindSpecial (.ref fI) me) (.ref fI, [me])) (small : us.length ≤ sizeLine)
    (q : codeAny (model pr wo) (Ar.under (.builtin "type.__call__" ⟨.ref C :: us, kw⟩)) (.call (.ref fI) ⟨.ref (hp.objs.size + 1) :: us, kw⟩) (PySem.W.InitBack (hp.objs.size + 1) Rr)
      ⟨(hp.push (PySem.W.kdv_tup us)).push (PySem.HandSPX.excO C hp.objs.size), gg, dr, tt, oo⟩) :
    codeAny (model pr wo) Ar (.call (.ref C) ⟨us, kw⟩) Rr ⟨hp, gg, dr, tt, oo⟩ := by
  have t1 := tc_lookup
  have t2 := tc_bind (.ref C)
  have isT : (⟨hp, gg, dr, tt, oo⟩ : Shared).TypeIs (.ref C) "type" := ⟨_, cls, rfl⟩
  refine codeAny_of_tree ?_; show wpAny _ _ (callAny (.ref C) _) _ _ _
  repeat (any_goals (first
    | assumption
    | with_reducible refine wpAny_loadPart_at cls ?_
    | wp_step))
  refine ⟨rfl, ?_⟩
  refine codeAny_call_builtin_at (Code.quiet_builtin _ (by decide +kernel)) entry_typeCall (xv_tcheck cls (xv_type F same cls lk bd small ?_))
  refine codeAny_mono q fun r t z => ?_
  rcases r with er | (v | _ | _ | _) <;> exact z
end
end RP
namespace RP
open PySem L2 PySem.Spec PyProof.Rows
section
variable {X : Cx} {k : Nat} {C fI : Addr} {fd : FuncData} {ps : List Str} {sp : Sp}
/-- an own exception is made, and known from then on -/
theorem run_xv {pins : List (Addr × Obj)} {σ : L2.St} {H : Hp} {s : Shared} {Q : VK} {us ww : List Value} {kw : List (Str × Value)} {vs : List V} (T : XTxt X.K C fI) (F : L2.FnOk X.prog X.w X.K X.mg X.base (L2.CX X.prog X.w) k fI fd ps sp) (hr : L2.Room (k + 1) X.A) (I : Inv X pins σ H s) (small : us.length ≤ sizeLine)
    (to : ∀ (a : Addr) (t : Shared), X.K.In t.heap → BindsTo t fd ⟨Value.ref a :: us, kw⟩ (ps.zip (Value.ref a :: ww))) (r : Vals vs ww)
    (h : ∀ a, H a = none → sp (.ref a :: vs) (upd H a (exo a C none)) (fun v H2 => v = .non ∧ Q (.ref a) H2) (fun _ _ _ => False)) : wpAny (model X.prog X.w) X.A (call (.ref C) us kw) (EP X pins σ Q) X.xe s := by
  obtain ⟨cn, cq, N, bases, mro, sl, subs, abst, co, dd, x0, x1, x2, x3, x5, cls, inB⟩ := T.o.cls
  obtain ⟨hp, gg, dr, tt, oo⟩ := s
  have top : hp.objs.size ≤ hp.objs.size + 1 := Nat.le_succ _
  have no := I.hok.fresh (a := hp.objs.size + 1) top
  have hq := h (hp.objs.size + 1) no
  have kk : ∀ b o, hp.get? b = some o → ((hp.push (PySem.W.kdv_tup us)).push (PySem.HandSPX.excO C hp.objs.size)).get? b = some o := fun b o z => Heap.get?_push_of_some _ (Heap.get?_push_of_some _ z)
  have there : ((hp.push (PySem.W.kdv_tup us)).push (PySem.HandSPX.excO C hp.objs.size)).get? (hp.objs.size + 1) = some (PySem.HandSPX.excO C hp.objs.size) := by
    have e := Heap.get?_push_size (hp.push (PySem.W.kdv_tup us)) (o := PySem.HandSPX.excO C hp.objs.size) rfl
    rwa [Heap.size_push] at e
  have I2 : Inv X pins σ (upd H (hp.objs.size + 1) (exo (hp.objs.size + 1) C none)) ⟨(hp.push (PySem.W.kdv_tup us)).push (PySem.HandSPX.excO C hp.objs.size), gg, dr, tt, oo⟩ :=
    I.laid (t' := tt) (a := hp.objs.size + 1) (o := exo (hp.objs.size + 1) C none) (h' := (hp.push (PySem.W.kdv_tup us)).push (PySem.HandSPX.excO C hp.objs.size)) kk top (exo_ok there)
  have r2 : Vals (V.ref (hp.objs.size + 1) :: vs) (Value.ref (hp.objs.size + 1) :: ww) := .cons rfl r
  refine wpAny_call (xv_call PySem.F.excBase_ValueError (fun Y => PySem.HandSPX.refsVE_contains Y mro inB) (I.kIn _ _ cls) (PySem.W.looks_findIn I.kIn T.iC) (fun me => PySem.W.bind_fn I.kIn me T.tI) small
    (codeAny_mono (F.run _ X.stack _ _ ⟨Value.ref (hp.objs.size + 1) :: us, kw⟩ (Value.ref (hp.objs.size + 1) :: ww) _ _ (fun _ _ _ => False) (hr.make C us kw) (I2.env0.make C us kw) (to _ _ I2.kIn) r2 hq) fun r t z => ?_))
  cases r with
  | error er => exact passL pins σ _ _ er t I2 z
  | ok fl =>
    cases fl with
    | ret u =>
      obtain ⟨v, H', I3, rv, ev, q3⟩ := I2.after z
      subst ev
      exact ⟨rv, ⟨V.ref (hp.objs.size + 1), H', I3, rfl, q3⟩⟩
    | next => exact False.elim z
    | brk => exact False.elim z
    | cont => exact False.elim z
end
section
variable {X : Cx} {s : Shared} {H : Hp} {σ : L2.St} {pins : List (Addr × Obj)}
theorem exd_frz {e : Addr} {fs : List (Str × V)} {o : Obj} {u : HO} : exd e fs ≠ .frz o u := fun z => by
  unfold exd at z
  cases z
theorem exd_tbl {e : Addr} {fs : List (Str × V)} {q : Array Value} : exd e fs ≠ .tbl q := fun z => by
  unfold exd at z
  cases z
/-- the dict of an exception, by its other name -/
theorem xd_inv (I : Inv X pins σ H s) {dx : Addr} {fs : List (Str × V)} (hd : H dx = some (exd dx fs)) : Inv X pins σ (upd H dx (.xd fs)) s := by
  have ne : ∀ {b : Addr}, H b = none → b ≠ dx := fun {b} h z => by
    rw [z, hd] at h
    cases h
  have up : ∀ {b : Addr}, H b = none → upd H dx (.xd fs) b = none := fun {b} h => by rw [upd_ne (ne h)]; exact h
  refine ⟨I.ok, I.os, I.bare, ⟨I.base.keep, I.base.slot, fun b o z n x => up (I.base.free b o z n x), I.base.there, fun b xs z => ?_, fun b o u z => ?_, fun b q z => ?_⟩, I.loc, I.cell, up I.free, fun x c e => up (I.freeC x c e), fun q hq => ?_, fun b o z => ?_, I.len⟩
  · have y := I.base.tups b xs z
    rw [upd_ne (fun e => by rw [e, hd] at y; exact absurd (Option.some.inj y) exd_tup)]
    exact y
  · have y := I.base.frzs b o u z
    rw [upd_ne (fun e => by rw [e, hd] at y; exact absurd (Option.some.inj y) exd_frz)]
    exact y
  · obtain ⟨more, y⟩ := I.base.tbls b q z
    refine ⟨more, ?_⟩
    rw [upd_ne (fun e => by rw [e, hd] at y; exact absurd (Option.some.inj y) exd_tbl)]
    exact y
  · obtain ⟨h1, h2, h3⟩ := I.pin q hq
    exact ⟨h1, up h2, h3⟩
  · by_cases hb : b = dx
    · subst hb
      rw [upd_same] at z
      cases z
      exact exd_at I.hok hd
    · rw [upd_ne hb] at z
      refine (I.hok b o z).stay (fun c u _ y => y) (fun c y => ?_) fun c xs y => ?_
      · rw [upd_ne (fun e => by rw [e, hd] at y; exact absurd (Option.some.inj y) exd_own)]
        exact y
      · rw [upd_ne (fun e => by rw [e, hd] at y; exact absurd (Option.some.inj y) exd_tup)]
        exact y
end
section
variable {X : Cx} {k : Nat} {C fI : Addr} {x : Str} {fd : FuncData} {ps : List Str} {e : Expr} {te : TE} {p pos : Pos} {fl : Str}
/-- what a new exception with one field leaves -/
def xvH (C : Addr) (fl : Str) (H : Hp) (v : V) (a dx : Addr) : Hp := upd (upd H dx (.xd [(fl, v)])) a (exo a C (some dx))
/-- C(..) of one value, made -/
theorem run_xv1 {pins : List (Addr × Obj)} {σ : L2.St} {H : Hp} {s : Shared} {Q : VK} {us ww : List Value} {kw : List (Str × Value)} {v : V} (T : XTxt X.K C fI) (F1 : L2.FnOk X.prog X.w X.K X.mg X.base (L2.CX X.prog X.w) k fI fd ps (spX1 C fl)) (hr : L2.Room (k + 1) X.A) (I : Inv X pins σ H s) (small : us.length ≤ sizeLine)
    (to : ∀ (a : Addr) (t : Shared), X.K.In t.heap → BindsTo t fd ⟨Value.ref a :: us, kw⟩ (ps.zip (Value.ref a :: ww))) (r : Vals [v] ww)
    (h : ∀ a dx, H a = none → H dx = none → dx ≠ a → Q (.ref a) (xvH C fl H v a dx)) : wpAny (model X.prog X.w) X.A (call (.ref C) us kw) (EP X pins σ Q) X.xe s := by
  refine thn (run_xv (Q := fun z H2 => ∃ a dx, z = V.ref a ∧ H a = none ∧ H dx = none ∧ dx ≠ a ∧ H2 = upd (upd (upd H a (exo a C none)) dx (exd dx [(fl, v)])) a (exo a C (some dx))) T F1 hr I small to r fun a ha => ⟨a, v, rfl, upd_same, fun dx hdx hne => ⟨rfl, a, dx, rfl, ha, by rw [upd_ne hne] at hdx; exact hdx, hne, rfl⟩⟩) fun u t ⟨z, H2, I2, rz, a, dx, ez, ha, hdx, hne, eH⟩ => ?_
  subst ez eH
  have at_ : upd (upd (upd H a (exo a C none)) dx (exd dx [(fl, v)])) a (exo a C (some dx)) dx = some (exd dx [(fl, v)]) := by rw [upd_ne hne, upd_same]
  have I3 := xd_inv I2 at_
  have e3 : upd (upd (upd (upd H a (exo a C none)) dx (exd dx [(fl, v)])) a (exo a C (some dx))) dx (.xd [(fl, v)]) = xvH C fl H v a dx := by
    funext b
    unfold xvH
    by_cases hb : b = dx
    · subst hb
      rw [upd_same, upd_ne hne, upd_same]
    · rw [upd_ne hb]
      by_cases hba : b = a
      · subst hba
        rw [upd_same, upd_same]
      · rw [upd_ne hba, upd_ne hb, upd_ne hba, upd_ne hba, upd_ne hb]
  rw [e3] at I3
  exact ⟨.ref a, _, I3, rz, h a dx ha hdx hne⟩
/-- C(e) -/
theorem pe_xv1 (T : XTxt X.K C fI) (F1 : L2.FnOk X.prog X.w X.K X.mg X.base (L2.CX X.prog X.w) k fI fd ps (spX1 C fl)) (hr : L2.Room (k + 1) X.A) (hb : Binds X.K fd ps []) (hg : Gl X x) (hm : X.mg x = some (.ref C)) (he : PE X e te) (hn : notStar e = true) (hdb : (x == ("__debug__" : Str)) = false) :
    PE X (.Call (.Name x p) [e] [] pos) (fun σ H Q => te σ H fun v H1 => ∀ a dx, H1 a = none → H1 dx = none → dx ≠ a → Q (.ref a) (xvH C fl H1 v a dx)) := by
  refine ⟨fun pins s σ H Q I h => wpAny_Call_Name_kw (ld_glob I hg hm ?_ hdb)⟩
  refine PySem.W.callWith_K (h₀ := X.base) I.ok.mod.kin T.o.kC (thn ((pa_cons he pa_nil (star_cons hn)).run pos pins s σ H (fun vs H1 => match vs with
    | [v] => ∀ a dx, H1 a = none → H1 dx = none → dx ≠ a → Q (.ref a) (xvH C fl H1 v a dx)
    | _ => False) I h) fun us s1 ⟨vs, H1, I1, r1, q1⟩ => ⟨I1.kIn, ?_⟩) (star_cons hn) rfl
  · show wpAny _ _ (call (.ref C) us) _ _ _
    obtain ⟨v, rfl⟩ : ∃ v, vs = [v] := by
      match vs, q1 with
      | [v], _ => exact ⟨v, rfl⟩
    have hl : us.length = 1 := r1.length.symm
    have hps : ps.length = 2 := (F1.len [V.ref C, v] (upd H1 C (exo C C none)) (fun _ _ => True) (fun _ _ _ => True) ⟨C, v, rfl, upd_same, fun _ _ _ => trivial⟩).symm
    refine run_xv1 T F1 hr I1 (by rw [hl, sizeLine_eq]; omega) (fun a t ki => ?_) r1 q1
    have b := hb t (Value.ref a :: us) ki (by rw [List.append_nil, List.length_cons, hl, hps])
    rwa [List.append_nil] at b
/-- C() -/
theorem pe_xv0 (T : XTxt X.K C fI) (F1 : L2.FnOk X.prog X.w X.K X.mg X.base (L2.CX X.prog X.w) k fI fd ps (spX0 C)) (hr : L2.Room (k + 1) X.A) (hb : Binds X.K fd ps []) (hg : Gl X x) (hm : X.mg x = some (.ref C)) (hdb : (x == ("__debug__" : Str)) = false) :
    PE X (.Call (.Name x p) [] [] pos) (fun σ H Q => ∀ a, H a = none → Q (.ref a) (upd H a (exo a C none))) := by
  refine ⟨fun pins s σ H Q I h => wpAny_Call_Name_kw (ld_glob I hg hm ?_ hdb)⟩
  refine PySem.W.callWith_K0 I.kIn T.o.kC ?_
  show wpAny _ _ (call (.ref C) []) _ _ _
  have hps : ps.length = 1 := (F1.len [V.ref C] (upd H C (exo C C none)) (fun _ _ => True) (fun _ _ _ => True) ⟨C, rfl, upd_same, trivial⟩).symm
  refine run_xv (ww := []) (vs := []) T F1 hr I (Nat.zero_le _) (fun a t ki => ?_) .nil fun a ha => ⟨a, rfl, upd_same, rfl, h a ha⟩
  have b := hb t [Value.ref a] ki (by rw [List.append_nil, List.length_cons, List.length_nil, hps])
  rwa [List.append_nil] at b
/-- C(f = e) -/
theorem pe_xvk {kn : Str} {kws : List Keyword} {tk : TA} (T : XTxt X.K C fI) (F1 : L2.FnOk X.prog X.w X.K X.mg X.base (L2.CX X.prog X.w) k fI fd ps (spX1 C fl)) (hr : L2.Room (k + 1) X.A) (hb : KBn X.K fd ps 1 [kn] (fun us ws => us ++ ws) (fun vs zs => vs ++ zs)) (hg : Gl X x) (hm : X.mg x = some (.ref C)) (hkw : PK X kws tk)
    (hall : (backToKw pos (keywordEach kws X.env)).all (·.1.isSome) = true := by rfl) (hks : (backToKw pos (keywordEach kws X.env)).filterMap (·.1) = [kn] := by rfl) (hdb : (x == ("__debug__" : Str)) = false := by decide)
    (hpl : ((backTo pos (starEach ([] : List Expr) X.env)).any (·.1) || (backToKw pos (keywordEach kws X.env)).any (·.1.isNone)) = false := by rfl) :
    PE X (.Call (.Name x p) [] kws pos) (fun σ H Q => tk σ H fun zs H1 => match zs with
      | [v] => ∀ a dx, H1 a = none → H1 dx = none → dx ≠ a → Q (.ref a) (xvH C fl H1 v a dx)
      | _ => False) := by
  refine ⟨fun pins s σ H Q I h => wpAny_Call_Name_kw (ld_glob I hg hm ?_ hdb)⟩
  refine PySem.W.callWith_KW0 (h₀ := X.base) I.ok.mod.kin T.o.kC hall ?_ hpl
  refine thn (hkw.run pos pins s σ H _ I h) fun ws s2 ⟨zs, H2, I2, rz, q2⟩ => ⟨I2.kIn, ?_⟩
  rw [hks]
  obtain ⟨v, rfl⟩ : ∃ v, zs = [v] := by
    match zs, q2 with
    | [v], _ => exact ⟨v, rfl⟩
  show wpAny _ _ (call (.ref C) [] ([kn].zip ws)) _ _ _
  exact run_xv1 (us := []) (ww := ws) T F1 hr I2 (Nat.zero_le _) (fun a t ki => hb.to t [Value.ref a] ws ki rfl rz.length.symm) rz q2
end
/-! ### asked for its class, its field read -/
/-- what is asked of the class -/
structure XAsk (K : PySem.W.Frag) (D : Addr) : Prop where
  cl : (PySem.W.clsIn K D).isSome = true
  ga : PySem.W.findIn K (.ref D) "__getattribute__" = some (some (.builtin "BaseException.__getattribute__"))
  gg : PySem.W.findIn K (.ref D) "__getattr__" = some none
  ex : PySem.W.subIn K (.ref D) (.type "BaseException") = some true
  ca : PySem.W.findIn K (.ref D) "__class__" = some (some (.builtin "object.__class__"))
  dn : PySem.W.specialIn K (.builtin "object.__class__") "__get__" = some (some (.builtin "getset_descriptor.__get__"))
  tk : PySem.W.takesIn K (.builtin "object.__class__") = some true
  hm : PySem.W.mroIn K D (Value.type "object") = some true
/-- the object, its dict -/
def XHp (H : Hp) (a D : Addr) : Prop := H a = some (exo a D none) ∨ ∃ dx fs, H a = some (exo a D (some dx)) ∧ H dx = some (.xd fs)
section
variable {X : Cx} {s : Shared} {H : Hp} {σ : L2.St} {pins : List (Addr × Obj)}
theorem inst_xv (I : Inv X pins σ H s) {a D : Addr} (h : XHp H a D) : ∃ ob od, PySem.W.InstAt s.heap a ob D od := by
  rcases h with h | ⟨dx, fs, h, hd⟩
  · obtain ⟨t, e⟩ := exo_at I.hok h
    exact ⟨_, none, e, rfl, rfl, trivial⟩
  · obtain ⟨t, e⟩ := exo_at I.hok h
    obtain ⟨mA, hns, hr⟩ := I.hok dx _ hd
    obtain ⟨od, hget, hl⟩ := lookIn_ns hns
    exact ⟨_, some od, e, rfl, rfl, hget⟩
/-- isinstance(e, c) -/
def rXis (K : PySem.W.Frag) : List V → Hp → VK → Prop := fun xs H Q => ∃ (a D : Addr) (c : V) (cv : Value) (b : Bool), xs = [.ref a, c] ∧ XHp H a D ∧ XAsk K D ∧ (∀ u, RelV c u → u = cv) ∧ PySem.W.kitOne K (.ref D) cv = some b ∧ Q (.bl b) H
theorem call_xis : CallR X (.builtin "isinstance") (rXis X.K) := by
  intro pins s σ H xs us Q I rvs h
  obtain ⟨a, D, c, cv, b, rfl, hx, A, hcv, e, q⟩ := h
  cases rvs with
  | cons rx rr =>
    cases rr with
    | cons rt rr =>
      cases rr
      cases rx
      have ec := hcv _ rt
      subst ec
      obtain ⟨ob, od, J⟩ := inst_xv I hx
      exact PySem.W.kia_one (PySem.W.kitx_exc A.cl A.ga A.gg A.ex A.ca A.dn A.tk A.hm) I.kIn J e (fun z => nomatch z) fun tk => ⟨.bl b, H, I.kept (t' := tk) fun _ _ z => z, rfl, q⟩
/-- e.f -/
theorem pe_xvget {e : Expr} {te : TE} {fn : Str} {pos : Pos} (he : PE X e te) (hbase : attributeBase e fn X.env (eval e X.env) = eval e X.env) :
    PE X (.Attribute e fn pos) (fun σ H Q => te σ H fun x H1 => ∃ (a D dx : Addr) (v : V) (fs : List (Str × V)), x = .ref a ∧ XAsk X.K D ∧ PySem.W.hasDictIn X.K D = true ∧ PySem.W.findIn X.K (.ref D) fn = some none ∧ H1 a = some (exo a D (some dx)) ∧ H1 dx = some (.xd fs) ∧ fs.lookup fn = some v ∧ Q v H1) := by
  refine ⟨fun pins s σ H Q I h => ?_⟩; refine attr_of hbase (thn (he.run pins s σ H _ I h) fun u s1 hh => ?_)
  obtain ⟨y, H1, I1, ry, a, D, dx, v, fs, ey, A, hd, no, h1, h2, h3, q⟩ := hh
  subst ey
  have eu : u = Value.ref a := ry
  subst eu
  obtain ⟨t, eo⟩ := exo_at I1.hok h1
  obtain ⟨mA, hns, hr⟩ := I1.hok dx _ h2
  obtain ⟨od, hget, hl⟩ := lookIn_ns hns
  obtain ⟨w, hw, rw_⟩ := RelO.some_of (v := v) (o := mA fn) (by rw [← h3]; exact hr fn)
  have J : PySem.W.InstAt s1.heap a _ D (some od) := ⟨eo, rfl, rfl, hget⟩
  exact HandSPX.exc_get I1.kIn J A.ga A.gg A.ex (PySem.W.findObj_own hd no rfl (by rw [hl, hw])) (handed_of rw_) ⟨v, H1, I1.tok _, rw_, q⟩
end
/-! ### as the evaluator has them -/
section
variable {X : Cx} {k : Nat} {fI : Addr} {x : Str} {fd : FuncData} {ps : List Str} {e : Expr} {p pos : Pos} {C : CC} {W : WX} {F : Hp} {c fl : Nat} {fe : DEnv → Sto → RE D}
theorem XCl.ask (h : XCl C c) (dn : PySem.W.specialIn C.K (.builtin "object.__class__") "__get__" = some (some (.builtin "getset_descriptor.__get__"))) (tk : PySem.W.takesIn C.K (.builtin "object.__class__") = some true) : XAsk C.K (C.CA c) :=
  ⟨h.cl, h.ga, h.gg, h.o.exC, h.ca, dn, tk, h.hm⟩
theorem xv_grow {s2 : Sit} {H1 : Hp} {v : V} {y : P} (hx : XCl C c) (hft : C.FT c = [fl]) (A2 : AtS C F s2 H1) (r2 : RepP C s2.G y v) {a dx : Addr} (ha : H1 a = none) (hdx : H1 dx = none) (hne : dx ≠ a) :
    ∃ s3 : Sit, s3.S = s2.S ∧ ExtS s2 s3 ∧ AtS C F s3 (xvH (C.CA c) (C.NM fl) H1 v a dx) ∧ RepP C s3.G (.exn c [y]) (.ref a) := by
  obtain ⟨A3, e3⟩ := A2.grow (p := dx) (o := .xd [(C.NM fl, v)]) hdx
  have ha3 : upd H1 dx (.xd [(C.NM fl, v)]) a = none := by rw [upd_ne (Ne.symm hne)]; exact ha
  obtain ⟨A4, e4⟩ := A3.grow (p := a) (o := exo a (C.CA c) (some dx)) ha3
  refine ⟨{ s2 with G := upd (upd s2.G dx (.xd [(C.NM fl, v)])) a (exo a (C.CA c) (some dx)) }, rfl, e3.trans e4, A4, ?_⟩
  simp only [RepP]
  refine ⟨hx, a, [v], rfl, Or.inr ⟨dx, fl, v, rfl, hft, upd_same, ?_⟩, ?_⟩
  · show upd (upd s2.G dx _) a _ dx = _
    rw [upd_ne hne, upd_same]
  · simp only [RepPs]
    exact ⟨v, [], rfl, RepP.mono (e3.trans e4).G y v r2, rfl⟩
/-- C(e) -/
theorem x_xn1 (hx : XCl C c) (hft : C.FT c = [fl]) (T : XTxt X.K (C.CA c) fI) (F1 : L2.FnOk X.prog X.w X.K X.mg X.base (L2.CX X.prog X.w) k fI fd ps (spX1 (C.CA c) (C.NM fl))) (hr : L2.Room (k + 1) X.A) (hb : Binds X.K fd ps []) (hg : Gl X x) (hm : X.mg x = some (.ref (C.CA c))) (he : PE X e (tE C W F fe)) (hn : notStar e = true) (hdb : (x == ("__debug__" : Str)) = false) :
    PE X (.Call (.Name x p) [e] [] pos) (tE C W F fun δ S => (fe δ S).bind fun d S1 => (purify d S1).bind fun y S2 => .ok (.p (.exn c [y])) S2) :=
  PE.imp (pe_xv1 T F1 hr hb hg hm he hn hdb) fun σ H Q ⟨δ, s, A, R, h⟩ => by
    refine ⟨δ, s, A, R, Wt.imp (Wt.bind h) fun d s1 H1 _ e1 A1 h1 v r1 => ?_⟩
    obtain ⟨y, s2, e2, A2, r2, h2⟩ := Wt.pur A1 r1 h1
    intro a dx ha hdx hne
    obtain ⟨s3, hS, e3, A3, r3⟩ := xv_grow hx hft A2 r2 ha hdx hne
    exact h2 s3 _ hS e3 A3 (.ref a) (by simpa only [RepD] using r3)
/-- C() -/
theorem x_xn0 (hx : XCl C c) (T : XTxt X.K (C.CA c) fI) (F1 : L2.FnOk X.prog X.w X.K X.mg X.base (L2.CX X.prog X.w) k fI fd ps (spX0 (C.CA c))) (hr : L2.Room (k + 1) X.A) (hb : Binds X.K fd ps []) (hg : Gl X x) (hm : X.mg x = some (.ref (C.CA c))) (hdb : (x == ("__debug__" : Str)) = false) :
    PE X (.Call (.Name x p) [] [] pos) (tE C W F fun _ S => .ok (.p (.exn c [])) S) :=
  PE.imp (pe_xv0 T F1 hr hb hg hm hdb) fun σ H Q ⟨δ, s, A, R, h⟩ a ha => by
    obtain ⟨A1, e1⟩ := A.grow (p := a) (o := exo a (C.CA c) none) ha
    refine h { s with G := upd s.G a (exo a (C.CA c) none) } _ rfl e1 A1 (.ref a) ?_
    simp only [RepD, RepP]
    exact ⟨hx, a, [], rfl, Or.inl ⟨rfl, upd_same⟩, by simp only [RepPs]⟩
/-- C(f = e) -/
theorem x_xnk {kn : Str} {kpos : Pos} (hx : XCl C c) (hft : C.FT c = [fl]) (T : XTxt X.K (C.CA c) fI) (F1 : L2.FnOk X.prog X.w X.K X.mg X.base (L2.CX X.prog X.w) k fI fd ps (spX1 (C.CA c) (C.NM fl))) (hr : L2.Room (k + 1) X.A) (hb : KBn X.K fd ps 1 [kn] (fun us ws => us ++ ws) (fun vs zs => vs ++ zs)) (hg : Gl X x) (hm : X.mg x = some (.ref (C.CA c))) (he : PE X e (tE C W F fe)) (hdb : (x == ("__debug__" : Str)) = false) :
    PE X (.Call (.Name x p) [] [⟨some kn, e, kpos⟩] pos) (tE C W F fun δ S => (fe δ S).bind fun d S1 => (purify d S1).bind fun y S2 => .ok (.p (.exn c [y])) S2) :=
  PE.imp (pe_xvk T F1 hr hb hg hm (pk_cons he pk_nil) rfl rfl hdb rfl) fun σ H Q ⟨δ, s, A, R, h⟩ => by
    show tE C W F fe σ H fun v H1 => ∀ a dx, H1 a = none → H1 dx = none → dx ≠ a → Q (.ref a) (xvH (C.CA c) (C.NM fl) H1 v a dx)
    refine ⟨δ, s, A, R, Wt.imp (Wt.bind h) fun d s1 H1 _ e1 A1 h1 v r1 => ?_⟩
    obtain ⟨y, s2, e2, A2, r2, h2⟩ := Wt.pur A1 r1 h1
    intro a dx ha hdx hne
    obtain ⟨s3, hS, e3, A3, r3⟩ := xv_grow hx hft A2 r2 ha hdx hne
    exact h2 s3 _ hS e3 A3 (.ref a) (by simpa only [RepD] using r3)
theorem x_xget {f : Nat} {fn : Str} (hk : C.K = X.K) (hf : C.NM f = fn) (dn : PySem.W.specialIn C.K (.builtin "object.__class__") "__get__" = some (some (.builtin "getset_descriptor.__get__"))) (tk : PySem.W.takesIn C.K (.builtin "object.__class__") = some true) (he : PE X e (tE C W F fe)) (hbase : attributeBase e fn X.env (eval e X.env) = eval e X.env) :
    PE X (.Attribute e fn pos) (tE C W F fun δ S => (fe δ S).bind fun d S1 => xgetG C.FT f d S1) :=
  PE.imp (pe_xvget he hbase) fun σ H Q ⟨δ, s, A, R, h⟩ => by
    subst hf
    refine ⟨δ, s, A, R, Wt.imp (Wt.bind h) fun d s1 H1 _ e1 A1 h1 v r1 => ?_⟩
    unfold xgetG at h1
    split at h1
    · rename_i _ c y _
      split at h1
      · rename_i hft
        simp only [RepD, RepP] at r1
        obtain ⟨hx, a, vs, rfl, xa, rs⟩ := r1
        simp only [RepPs] at rs
        obtain ⟨w, ws, ew, rw_, e0⟩ := rs
        subst e0
        rcases xa with ⟨n1, _⟩ | ⟨dx, f', v, n1, f1, k1, k2⟩
        · rw [ew] at n1
          cases n1
        · rw [ew] at n1
          cases n1
          rw [hft] at f1
          cases f1
          have ask := hx.ask dn tk
          have hd := hx.hd
          have no := hx.no f (by rw [hft]; exact List.mem_cons_self)
          rw [hk] at ask hd no
          exact ⟨a, C.CA c, dx, w, _, rfl, ask, hd, no, A1.sub _ _ k1, A1.sub _ _ k2, by simp [List.lookup], h1.ok A1 (by simpa only [RepD] using rw_)⟩
      · exact h1.elim
    · exact h1.elim
theorem x_xis {b : Expr} {yes no : List Nat} {cV : V} {cv : Value} (hk : C.K = X.K) (dn : PySem.W.specialIn C.K (.builtin "object.__class__") "__get__" = some (some (.builtin "getset_descriptor.__get__"))) (tk : PySem.W.takesIn C.K (.builtin "object.__class__") = some true) (hy : ∀ c ∈ yes, PySem.W.kitOne X.K (.ref (C.CA c)) cv = some true) (hn : ∀ c ∈ no, PySem.W.kitOne X.K (.ref (C.CA c)) cv = some false)
    (hg : Gl X "isinstance") (hm : X.mg "isinstance" = none) (ha : PE X e (tE C W F fe)) (hbE : PE X b (tC cV)) (hcv : ∀ u, RelV cV u → u = cv) (n1 : notStar e = true) (n2 : notStar b = true) :
    PE X (.Call (.Name "isinstance" p) [e, b] [] pos) (tE C W F fun δ S => (fe δ S).bind fun d S1 => xisG yes no d S1) :=
  PE.imp (pe_callB call_xis hg hm rfl (pa_cons ha (pa_cons hbE pa_nil (star_cons n2)) (star_cons n1)) (he := star_cons n1) (hpl := star_none (by simp only [List.all_cons, List.all_nil, Bool.and_true]; exact n2))) fun σ H Q ⟨δ, s, A, R, h⟩ => by
    refine ⟨δ, s, A, R, Wt.imp (Wt.bind h) fun d s1 H1 _ e1 A1 h1 v r1 => ?_⟩
    unfold xisG at h1
    split at h1
    · rename_i _ c xs _
      simp only [RepD, RepP] at r1
      obtain ⟨hx, a, vs, rfl, xa, rs⟩ := r1
      have ask := hx.ask dn tk
      rw [hk] at ask
      have xh : XHp H1 a (C.CA c) := by
        rcases xa with ⟨_, k1⟩ | ⟨dx, f', v, _, _, k1, k2⟩
        · exact Or.inl (A1.sub _ _ k1)
        · exact Or.inr ⟨dx, _, A1.sub _ _ k1, A1.sub _ _ k2⟩
      split at h1
      · rename_i hc
        exact ⟨a, C.CA c, cV, cv, true, rfl, xh, ask, hcv, hy c (by simpa using hc), h1.ok A1 (by simp only [RepD, RepP])⟩
      · split at h1
        · rename_i hc
          exact ⟨a, C.CA c, cV, cv, false, rfl, xh, ask, hcv, hn c (by simpa using hc), h1.ok A1 (by simp only [RepD, RepP])⟩
        · exact h1.elim
    · exact h1.elim
end
end RP
end

section
set_option Elab.async false
set_option linter.all false
set_option maxRecDepth 100000
set_option maxHeartbeats 2000000
/-! try with several clauses, each with or without a name. -/
namespace RP
open PySem L2 PySem.Spec PyProof.Rows
abbrev Suite := Addr → Value → Option Addr → TS
/-- one clause: the class it names, the slot of its name, its suite -/
structure Cla where
  cv : Value
  ix : Option Nat
  su : Suite
def endsAs (i : Nat) (D : Ends) : Ends := { nx := fun σ H => D.nx (σ.set i none) H, rt := D.rt, bk := fun σ H => D.bk (σ.set i none) H, ct := fun σ H => D.ct (σ.set i none) H }
def Cla.take (cl : Cla) (a : Addr) (kc : Value) (dd : Option Addr) (D : Ends) (σ : L2.St) (H : Hp) : Prop := match cl.ix with
  | none => cl.su a kc dd D σ H
  | some i => cl.su a kc dd (endsAs i D) (σ.set i (some (.ref a))) H
/-- what the clauses want of an exception, one behind the other -/
def wCla (K : PySem.W.Frag) (Wo : WX) (D : Ends) : List Cla → WX
  | [] => Wo
  | cl :: r => fun kc dd σ H => ∃ yes, PySem.W.exmOne K kc cl.cv = some yes ∧ (yes = true → ∀ a, H a = none → cl.take a kc dd D σ H) ∧ (yes = false → wCla K Wo D r kc dd σ H)
def SuOk (X : Cx) (ss : List Stmt) (su : Suite) : Prop := ∀ (a : Addr) (ob : Obj) (kc : Value) (dd : Option Addr) (pl : List (Addr × Obj)), Zc kc dd ob → (∃ vs, ob.data = .fields vs) → PSs (X.suite a ((a, ob) :: pl)) ss (su a kc dd)
inductive ClaOk (X : Cx) : List ExceptHandler → List Cla → Prop
  | nil : ClaOk X [] []
  | plain {x : Str} {cv : Value} {su : Suite} {st : Stmt} {ss : List Stmt} {p1 p2 : Pos} {hr : List ExceptHandler} {cr : List Cla} (nm : Names X x cv) (hs : SuOk X (st :: ss) su) (r : ClaOk X hr cr) :
      ClaOk X (.ExceptHandler (some (.Name x p1)) none (st :: ss) p2 :: hr) (⟨cv, none, su⟩ :: cr)
  | named {x n : Str} {i : Nat} {cv : Value} {su : Suite} {st : Stmt} {ss : List Stmt} {p1 p2 : Pos} {hr : List ExceptHandler} {cr : List Cla} (nm : Names X x cv) (hi : X.N[i]? = some n) (hl : X.env.kindOf n = some .local) (hs : SuOk X (st :: ss) su) (r : ClaOk X hr cr) :
      ClaOk X (.ExceptHandler (some (.Name x p1)) (some n) (st :: ss) p2 :: hr) (⟨cv, some i, su⟩ :: cr)
section
variable {X : Cx} {body : List Stmt} {h0 : ExceptHandler} {hr : List ExceptHandler} {l : List Cla} {pos : Pos} {tb : WX → TS} {Wo : WX}
theorem ps_try_mix (hst : X.stack = X.env :: X.outer) (hfm : X.env.frame = some X.env.locals) (hN : X.N.Nodup) (tk : Takes X Wo)
    (hbd : ∀ (Wi : WX) (pl : List (Addr × Obj)) (xf : Value → Shared → Prop), Takes (X.tr pl xf) Wi → PassesOwn (model X.prog X.w) X.A X.env xf → PSs (X.tr pl xf) body (tb Wi)) (hc : ClaOk X (h0 :: hr) l) :
    PS X (.Try body (h0 :: hr) [] [] pos) (fun D σ H => tb (wCla X.K Wo D l) D σ H) := by
  refine ⟨fun pins s σ H D I hw => ?_⟩
  have okX := I.ok
  have hfs : X.A.frames = some (X.env :: X.outer) := by rw [okX.frames, hst]
  refine wpAny_Try_except ?_
  have bd := hbd (wCla X.K Wo D l) (X.pn ++ pins) (fun ev s1 => wpAny (model X.prog X.w) X.A (noteFrame ev X.env) (fun _ s2 => wpAny (model X.prog X.w) X.A (setFlight ev none) (fun _ s3 => wpAny (model X.prog X.w) X.A (handleBy ev X.env (h0 :: hr)) (SP X pins D) X.xe s3) X.xe s2) X.xe s1)
  refine wpAny_mono ((bd (fun ev s' xw => ?_) PassesOwn.looking).run [] s σ H D (I.toTry _) hw) (fun fl s1 hsp => ?_) (fun _ _ z => z)
  · obtain ⟨a, G0, sJ, pl, σ1, H1, kc, dd, rfl, J0, nb, up, sky, na, os, ag, wc⟩ := xw
    have J : Inv X pins σ1 H1 sJ := J0.ofTry okX
    have sky1 : Sky G0 (X.env :: X.outer) a (Zc kc dd) X.env.locals s'.heap := hst ▸ sky
    show wpAny (model X.prog X.w) X.A (noteFrame (.ref a) X.env) _ _ _
    refine Sky.land Zc.steady hfs hfm sky1 fun hA fA uA => ?_
    have JA : Inv X pins σ1 H1 { s' with heap := hA } := J.landed nb fA.1 (up.trans uA) os ag
    obtain ⟨oA, vA, gA, zA, dA⟩ := fA.there
    have away : a ∉ frs (X.env :: X.outer) := fun hm => by
      obtain ⟨_, o2, e2, hnf⟩ := fA.2.2.1.mem hm
      rw [gA] at e2
      cases e2
      exact hnf _ dA
    have nLoc : a ≠ X.env.locals := fun z => away (List.mem_filterMap.mpr ⟨X.env, List.mem_cons_self, by rw [hfm, z]⟩)
    have nFs : a ∉ X.fs := fun hm => by
      obtain ⟨en, hen, qq⟩ := List.mem_filterMap.mp hm
      exact away (List.mem_filterMap.mpr ⟨en, List.mem_cons_of_mem _ hen, qq⟩)
    have SA := JA.suite gA dA na nLoc nFs
    have lookT : PySem.W.Looks (model X.prog X.w) hA (typeOf (.ref a)) kc := fun A Q E s k q => wpAny_typeOf_ref (k _ _ gA) (by rw [zA.1]; exact q)
    have test : ∀ {x : Str} {cv : Value} {p1 : Pos} {Q : Value → Shared → Prop} {E : Value → Shared → Prop}, Names X x cv → Q cv { s' with heap := hA } → wpAny (model X.prog X.w) (X.A.mark (some (.ref a))) (eval (.Name x p1) X.env) Q E { s' with heap := hA } := fun {x cv p1 Q E} nm q => by
      obtain ⟨gg, gd, m1 | ⟨m1, m2, m3⟩⟩ := nm
      · exact ld_glob (X := X.suite a ((a, oA) :: (X.pn ++ pins))) SA gg m1 q gd
      · exact ld_blt (X := X.suite a ((a, oA) :: (X.pn ++ pins))) SA gg m1 m2 q m3 gd
    have go : ∀ {hs2 : List ExceptHandler} {l2 : List Cla}, ClaOk X hs2 l2 → wCla X.K Wo D l2 kc dd σ1 H1 → wpAny (model X.prog X.w) X.A (handleBy (.ref a) X.env hs2) (SP X pins D) X.xe { s' with heap := hA } := by
      intro hs2 l2 hk
      induction hk with
      | nil =>
        intro wo
        refine wpAny_handleBy_nil ?_
        obtain ⟨_, _, _, oe, vs, T, _, _, he, _, hd, h1, _⟩ := id fA
        unfold PySem.passOn
        refine wpAny_bind (wpAny_field he hd h1 ?_)
        rw [if_neg (show ¬ ((Value.ref T == Value.none) = true) from by simp)]
        have last : wpAny (model X.prog X.w) X.A (setFlight (.ref a) X.env.frame) (fun _ s4 => wpAny (model X.prog X.w) X.A (throw (.ref a) : Sem Flow) (SP X pins D) X.xe s4) X.xe { s' with heap := hA } := by
          rw [hfm]
          exact HandSPX.setFlight_upZ fA fun h4 q4 u4 => wpAny_throw (tk _ _ ⟨a, G0, sJ, pins, σ1, H1, kc, dd, rfl, J, nb, (up.trans uA).trans u4, .inr (.inr (by rw [hst]; exact q4)), na, os, ag, wo⟩)
        first
          | exact wpAny_bind (wpAny_pure (wpAny_bind last))
          | exact wpAny_bind last
      | plain nm hs r ih =>
        rintro ⟨yes, hy, y1, y2⟩
        refine wpAny_handleBy_cons (codeAny_handlers_test ?_) (by intro q; cases q)
        refine test nm ((PySem.W.exm_one (M := model X.prog X.w) JA.kIn lookT hy).here ?_)
        cases yes with
        | false => exact ih (y2 rfl)
        | true =>
          refine codeAny_handlers_suite (HandSPX.lands_againZ fA fun hB fB uB => ?_)
          have JB : Inv X pins σ1 H1 { s' with heap := hB } := J.landed nb fB.1 ((up.trans uA).trans uB) os ag
          obtain ⟨oB, vB, gB, zB, dB⟩ := fB.there
          refine wpAny_mono ((hs a oB kc dd (X.pn ++ pins) zB ⟨_, dB⟩).run [] _ _ H1 _ (JB.suite gB dB na nLoc nFs) (y1 rfl a na)) (fun fl s6 sp6 => ?_) (fun _ _ z => False.elim z)
          cases fl with
          | ret u =>
            obtain ⟨v6, σ6, H6, S6, r6, q6⟩ := sp6
            exact ⟨v6, σ6, H6, S6.unsuite okX, r6, q6⟩
          | _ =>
            obtain ⟨σ6, H6, S6, q6⟩ := sp6
            exact ⟨σ6, H6, S6.unsuite okX, q6⟩
      | @named x n i cv su st ss p1 p2 hr cr nm hi hl hs r ih =>
        rintro ⟨yes, hy, y1, y2⟩
        refine wpAny_handleBy_cons (codeAny_handlers_test ?_) (by intro q; cases q)
        refine test nm ((PySem.W.exm_one (M := model X.prog X.w) JA.kIn lookT hy).here ?_)
        cases yes with
        | false => exact ih (y2 rfl)
        | true =>
          refine codeAny_handlers_suite_as (HandSPX.lands_againZ fA fun hB fB uB => ?_)
          have JB : Inv X pins σ1 H1 { s' with heap := hB } := J.landed nb fB.1 ((up.trans uA).trans uB) os ag
          obtain ⟨oB, vB, gB, zB, dB⟩ := fB.there
          refine store_ok (X := X.suite a ((a, oB) :: (X.pn ++ pins))) (v := .ref a) (JB.suite gB dB na nLoc nFs) hN hi (.inl hl) rfl (fun s5 S5 => ?_) (.inr hl)
          refine wpAny_mono ((hs a oB kc dd (X.pn ++ pins) zB ⟨_, dB⟩).run [] s5 _ H1 _ S5 (y1 rfl a na)) (fun fl s6 sp6 => ?_) (fun _ _ z => False.elim z)
          have gone : ∀ {σ6 : L2.St} {H6 : Hp} {Q : Shared → Prop}, Inv (X.suite a ((a, oB) :: (X.pn ++ pins))) [] σ6 H6 s6 → (∀ s7, Inv X pins (σ6.set i none) H6 s7 → Q s7) →
              wpAny (model X.prog X.w) X.A (do bindName X.env n .none; unbindBehindTheSuite X.env n p2) (fun _ s7 => Q s7) X.xe s6 := fun S6 hq => gone_ok (S6.unsuite okX) hN hi hl hq
          cases fl with
          | ret u =>
            obtain ⟨v6, σ6, H6, S6, r6, q6⟩ := sp6
            exact gone S6 fun s7 J7 => ⟨v6, _, H6, J7, r6, q6⟩
          | _ =>
            obtain ⟨σ6, H6, S6, q6⟩ := sp6
            exact gone S6 fun s7 J7 => ⟨_, H6, J7, q6⟩
    exact go hc wc
  · cases fl with
    | next =>
      obtain ⟨σ2, H2, J2, q2⟩ := hsp
      exact wpAny_execs_nil ⟨σ2, H2, J2.ofTry okX, q2⟩
    | ret u =>
      obtain ⟨v2, σ2, H2, J2, r2, q2⟩ := hsp
      exact ⟨v2, σ2, H2, J2.ofTry okX, r2, q2⟩
    | _ =>
      obtain ⟨σ2, H2, J2, q2⟩ := hsp
      exact ⟨σ2, H2, J2.ofTry okX, q2⟩
end
end RP
end

section
set_option Elab.async false
set_option linter.all false
set_option maxRecDepth 100000
set_option maxHeartbeats 2000000
/-! try, its suites. -/
namespace RP
open PySem L2 PySem.Spec PyProof.Rows
/-- what is asked of a class whose exception's field is read -/
structure XRd (K : PySem.W.Frag) (C : Addr) (f : Str) : Prop where
  ga : PySem.W.findIn K (.ref C) "__getattribute__" = some (some (.builtin "BaseException.__getattribute__"))
  gg : PySem.W.findIn K (.ref C) "__getattr__" = some none
  no : PySem.W.findIn K (.ref C) f = some none
  ex : PySem.W.subIn K (.ref C) (.type "BaseException") = some true
  hd : PySem.W.hasDictIn K C = true
/-- the exception that a suite has: its class, its value; i: the slot of its name -/
structure Has (C : CC) (cs : List Nat) (i : Option Nat) (a : Addr) (kc : Value) (dd : Option Addr) (s : Sit) (σ : L2.St) (g : Option P) : Prop where
  c : ∃ c ∈ cs, kc = .ref (C.CA c) ∧ RepX C s.G c g dd
  i : ∀ j, i = some j → σ[j]? = some (some (.ref a))
theorem Has.mono {C : CC} {cs : List Nat} {i : Option Nat} {a : Addr} {kc : Value} {dd : Option Addr} {s s' : Sit} {σ : L2.St} {g : Option P} (h : Has C cs i a kc dd s σ g) (e : ExtS s s') : Has C cs i a kc dd s' σ g := by
  obtain ⟨⟨c, hc, hk, r⟩, hi⟩ := h
  refine ⟨⟨c, hc, hk, ?_⟩, hi⟩
  cases g with
  | none => exact r
  | some x =>
    obtain ⟨d, v, h1, h2, h3⟩ := r
    exact ⟨d, v, h1, e.G _ _ h2, RepP.mono e.G x v h3⟩
section
variable (C : CC) (cs : List Nat) (i : Option Nat) (a : Addr) (kc : Value) (dd : Option Addr)
def hR (hx : HX) : TE := fun σ H Q => ∃ F δ s g, AtS C F s H ∧ RepS C s δ σ ∧ Has C cs i a kc dd s σ g ∧ match hxE g δ hx with
  | some x => ∀ v s' H', s'.S = s.S → ExtS s s' → AtS C F s' H' → RepP C s'.G x v → Q v H'
  | none => False
def hRs (hx : List HX) : TA := fun σ H Q => ∃ F δ s g, AtS C F s H ∧ RepS C s δ σ ∧ Has C cs i a kc dd s σ g ∧ match hxEs g δ hx with
  | some x => ∀ v s' H', s'.S = s.S → ExtS s s' → AtS C F s' H' → RepPs C s'.G x v → Q v H'
  | none => False
end
section
variable {C : CC} {cs : List Nat} {i : Option Nat} {a : Addr} {kc : Value} {dd : Option Addr} {X : Cx} {ob : Obj} {pl : List (Addr × Obj)} {e : Expr} {es : List Expr} {pos p : Pos} {hx : HX} {hxs : List HX} {j : Nat} {x : Str}
theorem h_non : PE X (.Constant .none j pos) (hR C cs i a kc dd .non) := PE.imp pe_non fun σ H Q ⟨F, δ, s, g, A, R, hs, h⟩ => h .non s H rfl (ExtS.refl s) A (by simp only [RepP])
theorem h_bl {b : Bool} : PE X (.Constant (.bool b) j pos) (hR C cs i a kc dd (.bl b)) := PE.imp pe_bl fun σ H Q ⟨F, δ, s, g, A, R, hs, h⟩ => h (.bl b) s H rfl (ExtS.refl s) A (by simp only [RepP])
theorem h_int {n : Int} : PE X (.Constant (.int n) j pos) (hR C cs i a kc dd (.int n)) := PE.imp pe_int fun σ H Q ⟨F, δ, s, g, A, R, hs, h⟩ => h (.int n) s H rfl (ExtS.refl s) A (by simp only [RepP])
theorem h_str {n : Str} : PE X (.Constant (.str n) j pos) (hR C cs i a kc dd (.str n)) := PE.imp pe_str fun σ H Q ⟨F, δ, s, g, A, R, hs, h⟩ => h (.str n) s H rfl (ExtS.refl s) A (by simp only [RepP])
theorem h_var (hN : X.N[j]? = some x) (hv : Vis X.env.scope x) (hd : (x == ("__debug__" : Str)) = false) (hc : (x == ("__classdict__" : Str)) = false) : PE X (.Name x pos) (hR C cs i a kc dd (.var j)) :=
  PE.imp (pe_var hN hv hd hc) fun σ H Q ⟨F, δ, s, g, A, R, hs, h⟩ => by
    simp only [hxE] at h
    split at h
    · rename_i y hy
      split at hy
      · rename_i z hz
        cases hy
        obtain ⟨v, hv, r⟩ := R.2 j _ hz
        exact ⟨v, hv, h v s H rfl (ExtS.refl s) A r⟩
      · cases hy
    · exact h.elim
theorem h_given {f : Nat} {fn : Str} {n : Str} (hf : C.NM f = fn) (hft : ∀ c ∈ cs, C.FT c = [f] ∧ XRd X.K (C.CA c) fn) (hz : Zc kc dd ob) (hd : ∃ vs, ob.data = .fields vs) (hN : X.N[j]? = some n) (hv : Vis X.env.scope n) (h1 : (n == ("__debug__" : Str)) = false) (h2 : (n == ("__classdict__" : Str)) = false) :
    PE (X.suite a ((a, ob) :: pl)) (.Attribute (.Name n p) fn pos) (hR C cs (some j) a kc dd .given) := by
  subst hf
  refine ⟨fun pins s σ H Q I h => ?_⟩
  obtain ⟨F, δ, t, g, A, R, hs, h⟩ := h
  have base : PE (X.suite a ((a, ob) :: pl)) (.Name n p) (tVar j) := pe_var hN hv h1 h2
  refine attr_of (base_plain (e := .Name n p) rfl) (thn (base.run pins s σ H (fun v H1 => v = V.ref a ∧ H1 = H) I ⟨.ref a, hs.i j rfl, rfl, rfl⟩) fun u s1 hh => ?_)
  obtain ⟨y, H1, I1, rx, ex, eH⟩ := hh
  subst ex eH
  obtain rfl : u = Value.ref a := rx
  simp only [hxE] at h
  cases g with
  | none => exact h.elim
  | some gx =>
    obtain ⟨c, hc, hk, dx, v, hdd, hG, rv⟩ := hs.c
    obtain ⟨hft1, T⟩ := hft c hc
    rw [hft1] at hG
    subst hk hdd
    obtain ⟨ha, _⟩ := I1.pin (a, ob) (List.mem_append_left _ List.mem_cons_self)
    obtain ⟨vs, hd⟩ := hd
    have hx : ObjOk X.prog X.w H1 s1.heap dx (.xd [(C.NM f, v)]) := I1.hok dx _ (A.sub _ _ hG)
    obtain ⟨mA, hns, hr⟩ := hx
    obtain ⟨od, ho, hl⟩ := lookIn_ns hns
    have l : List.lookup (C.NM f) [(C.NM f, v)] = some v := by simp [List.lookup]
    obtain ⟨u, hu, ru⟩ := RelO.some_of (v := v) (o := mA (C.NM f)) (by rw [← l]; exact hr (C.NM f))
    have J : PySem.W.InstAt s1.heap a ob (C.CA c) (some od) := ⟨ha, hz.1, by unfold PySem.W.notCls; rw [hd] <;> rfl, by rw [hz.2]; exact ho⟩
    exact HandSPX.exc_get I1.kIn J T.ga T.gg T.ex (PySem.W.findObj_own T.hd T.no rfl (by rw [hl, hu])) (handed_of ru) ⟨v, H1, I1.tok _, ru, h v t H1 rfl (ExtS.refl t) A rv⟩
theorem h_no (hN : X.N[j]? = some x) (hv : Vis X.env.scope x) (hd : (x == ("__debug__" : Str)) = false) (hc : (x == ("__classdict__" : Str)) = false) : PE X (.UnaryOp .Not (.Name x p) pos) (hR C cs i a kc dd (.no j)) :=
  PE.imp (pe_not (pe_var hN hv hd hc)) fun σ H Q ⟨F, δ, s, g, A, R, hs, h⟩ => by
    simp only [hxE] at h
    split at h
    · rename_i y hy
      split at hy
      · rename_i b hz
        cases hy
        obtain ⟨v, hv, r⟩ := R.2 j _ hz
        simp only [RepD, RepP] at r
        subst r
        exact ⟨.bl b, hv, b, rfl, h (.bl (!b)) s H rfl (ExtS.refl s) A (by simp only [RepP])⟩
      · cases hy
    · exact h.elim
theorem h_rq {e1 e2 : Expr} {hx1 hx2 : HX} {p1 p2 p3 p4 : Pos} (hk : C.K = X.K) (gd : X.A.guards = some []) (un : X.A.units + 64 < cLine) (hg : Gl X "repr") (hm : X.mg "repr" = none) (he1 : PE X e1 (hR C cs i a kc dd hx1)) (he2 : PE X e2 (hR C cs i a kc dd hx2)) (n1 : notStar e1 = true) (n2 : notStar e2 = true) :
    PE X (.Compare (.Call (.Name "repr" p1) [e1] [] p2) [.Eq] [.Call (.Name "repr" p3) [e2] [] p4] pos) (hR C cs i a kc dd (.rq hx1 hx2)) :=
  PE.imp (pe_cmpR op_eq (pe_callB (call_rpr (C := C) hk gd un) hg hm rfl (pa_cons he1 pa_nil (star_cons n1)) (he := star_cons n1)) (pe_callB (call_rpr (C := C) hk gd un) hg hm rfl (pa_cons he2 pa_nil (star_cons n2)) (he := star_cons n2)) rfl) fun σ H Q ⟨F, δ, s, g, A, R, hh, h⟩ => by
    simp only [hxE] at h
    cases h1 : hxE g δ hx1 with
    | none =>
      simp only [h1] at h
    | some y1 =>
      cases h2 : hxE g δ hx2 with
      | none =>
        simp only [h1, h2] at h
      | some y2 =>
        cases k1 : rprP y1 with
        | stuck => simp only [h1, h2, k1] at h
        | exc c z => simp only [h1, h2, k1] at h
        | ok z1 =>
          cases k2 : rprP y2 with
          | stuck => simp only [h1, h2, k1, k2] at h
          | exc c z => simp only [h1, h2, k1, k2] at h
          | ok z2 =>
            simp only [h1, h2, k1, k2] at h
            refine ⟨F, δ, s, g, A, R, hh, ?_⟩
            rw [h1]
            intro v1 s1 H1 hS1 e1 A1 r1
            obtain ⟨w1, rfl, q1⟩ := rpr_ok r1 k1
            refine q1 H1 (fun x H1 => tCB (rRpr C) (tCons (hR C cs i a kc dd hx2) tNil) σ H1 fun y H2 => rEq x y H2 Q) A1.sub ?_
            refine ⟨F, δ, s1, g, A1, R.mono e1, hh.mono e1, ?_⟩
            rw [h2]
            intro v2 s2 H2 hS2 e2 A2 r2
            obtain ⟨w2, rfl, q2⟩ := rpr_ok r2 k2
            refine q2 H2 (fun y H2 => rEq (V.str w1) y H2 Q) A2.sub ?_
            refine ⟨rfl, ?_⟩
            rw [dec_str]
            exact h (.bl (w1 == w2)) s2 H2 (hS2.trans hS1) (e1.trans e2) A2 (by simp only [RepP, P.isStr])
theorem h_nil : PA X [] (hRs C cs i a kc dd []) := PA.imp pa_nil fun σ H Q ⟨F, δ, s, g, A, R, hs, h⟩ => h [] s H rfl (ExtS.refl s) A (by simp only [RepPs])
theorem h_cons (he : PE X e (hR C cs i a kc dd hx)) (hs : PA X es (hRs C cs i a kc dd hxs)) (hn : notStar e = true) : PA X (e :: es) (hRs C cs i a kc dd (hx :: hxs)) :=
  PA.imp (pa_cons he hs (star_cons hn)) fun σ H Q ⟨F, δ, s, g, A, R, hh, h⟩ => by
    simp only [hxEs] at h
    cases h1 : hxE g δ hx with
    | none =>
      simp only [h1] at h
    | some y =>
      cases h2 : hxEs g δ hxs with
      | none =>
        simp only [h1, h2] at h
      | some ys =>
        simp only [h1, h2] at h
        refine ⟨F, δ, s, g, A, R, hh, ?_⟩
        rw [h1]
        intro v s1 H1 hS1 e1 A1 r1
        refine ⟨F, δ, s1, g, A1, R.mono e1, hh.mono e1, ?_⟩
        rw [h2]
        intro vs s2 H2 hS2 e2 A2 r2
        refine h (v :: vs) s2 H2 (hS2.trans hS1) (e1.trans e2) A2 ?_
        simp only [RepPs]
        exact ⟨v, vs, rfl, RepP.mono e2.G y v r1, r2⟩
theorem h_tup (hs : PA X es (hRs C cs i a kc dd hxs)) : PE X (.Tuple es j pos) (hR C cs i a kc dd (.tup hxs)) :=
  PE.imp (pe_tup hs) fun σ H Q ⟨F, δ, s, g, A, R, hh, h⟩ => by
    simp only [hxE] at h
    cases h2 : hxEs g δ hxs with
    | none =>
      simp only [h2] at h
    | some ys =>
      simp only [h2] at h
      refine ⟨F, δ, s, g, A, R, hh, ?_⟩
      rw [h2]
      intro vs s1 H1 hS1 e1 A1 r1
      by_cases hl : lineOk ys.length = true
      · rw [if_pos hl] at h
        rw [RepPs.len ys vs r1] at hl
        refine ⟨line_of hl, fun q hq => ?_⟩
        obtain ⟨A2, e2⟩ := A1.grow (p := q) (o := .tup vs) hq
        refine h (.ref q) { s1 with G := upd s1.G q (.tup vs) } _ hS1 (e1.trans e2) A2 ?_
        simp only [RepP]
        exact ⟨q, vs, rfl, Or.inl (Or.inl upd_same), RepPs.mono e2.G ys vs r1⟩
      · rw [if_neg hl] at h
        exact h.elim
theorem h_lst (hs : PA X es (hRs C cs i a kc dd hxs)) : PE X (.List es pos) (hR C cs i a kc dd (.lst hxs)) :=
  PE.imp (pe_lst hs) fun σ H Q ⟨F, δ, s, g, A, R, hh, h⟩ => by
    simp only [hxE] at h
    cases h2 : hxEs g δ hxs with
    | none =>
      simp only [h2] at h
    | some ys =>
      simp only [h2] at h
      refine ⟨F, δ, s, g, A, R, hh, ?_⟩
      rw [h2]
      intro vs s1 H1 hS1 e1 A1 r1
      by_cases hl : lineOk ys.length = true
      · rw [if_pos hl] at h
        rw [RepPs.len ys vs r1] at hl
        refine ⟨line_of hl, fun q hq => ?_⟩
        obtain ⟨A2, e2⟩ := A1.grow (p := q) (o := .lst vs) hq
        refine h (.ref q) { s1 with G := upd s1.G q (.lst vs) } _ hS1 (e1.trans e2) A2 ?_
        simp only [RepP]
        exact ⟨q, vs, rfl, upd_same, RepPs.mono e2.G ys vs r1⟩
      · rw [if_neg hl] at h
        exact h.elim
/-! ### the suite -/
def hS (C : CC) (cs : List Nat) (i : Option Nat) (b : HS) : Suite := fun a kc dd D σ H => ∃ F δ s g, AtS C F s H ∧ RepS C s δ σ ∧ Has C cs i a kc dd s σ g ∧ WantS C WF F s (exH g δ s.S b) D
theorem su_ret (he : PE X e (hR C cs i a kc dd hx)) : PSs X [.Return (some e) pos] (hS C cs i (.ret hx) a kc dd) :=
  PSs.imp (pss_one (ps_ret he)) fun D σ H ⟨F, δ, s, g, A, R, hh, h⟩ => by
    simp only [exH] at h
    refine ⟨F, δ, s, g, A, R, hh, ?_⟩
    cases h1 : hxE g δ hx with
    | none =>
      simp only [h1] at h
      exact h.elim
    | some y =>
      simp only [h1] at h
      exact fun v s1 H1 hS1 e1 A1 r1 => h v s1 H1 hS1 e1 A1 r1
theorem su_set {p1 : Pos} (hN : X.N.Nodup) (hi : X.N[j]? = some x) (hl : Loc X.env.scope x) (hf : X.fn x = true ∨ X.env.scope.names.lookup x = some .local) (he : PE X e (hR C cs i a kc dd hx)) (hs : notComp e = true) : PSs X [.Assign [.Name x p1] e pos] (hS C cs i (.set j hx) a kc dd) :=
  PSs.imp (pss_one (ps_set hN hi hl he (swaps_plain hs) hf)) fun D σ H ⟨F, δ, s, g, A, R, hh, h⟩ => by
    simp only [exH] at h
    refine ⟨F, δ, s, g, A, R, hh, ?_⟩
    cases h1 : hxE g δ hx with
    | none =>
      simp only [h1] at h
      exact h.elim
    | some y =>
      simp only [h1] at h
      exact fun v s1 H1 hS1 e1 A1 r1 => h _ s1 H1 hS1 e1 A1 ((R.mono e1).set (d := .p y) r1)
theorem su_inc {p1 p2 p3 p4 : Pos} {k : Int} {q : Nat} (hN : X.N.Nodup) (hi : X.N[j]? = some x) (hl : Loc X.env.scope x) (hf : X.fn x = true ∨ X.env.scope.names.lookup x = some .local) (hd : (x == ("__debug__" : Str)) = false) (hc : (x == ("__classdict__" : Str)) = false) :
    PSs X [.Assign [.Name x p1] (.BinOp (.Name x p2) .Add (.Constant (.int k) q p3) p4) pos] (hS C cs i (.inc j k) a kc dd) :=
  PSs.imp (pss_one (ps_set hN hi hl (pe_add (pe_var hi (hl.elim .inl fun z => .inr (.inl z)) hd hc) pe_int) rfl hf)) fun D σ H ⟨F, δ, s, g, A, R, hh, h⟩ => by
    simp only [exH] at h
    split at h
    · rename_i n hn
      obtain ⟨v, hv, r⟩ := R.2 j _ hn
      simp only [RepD, RepP] at r
      subst r
      exact ⟨.int n, hv, n, k, rfl, rfl, h _ s H rfl (ExtS.refl s) A (R.set (d := .p (.int (n + k))) (by simp only [RepD, RepP]))⟩
    · exact h.elim
theorem su_app {p1 ap cp : Pos} (hi : X.N[j]? = some x) (hv : Vis X.env.scope x) (hd : (x == ("__debug__" : Str)) = false) (hc : (x == ("__classdict__" : Str)) = false) (hn : notStar e = true) (hl : (ap.endLine == cp.line) = true) (he : PE X e (hR C cs i a kc dd hx)) :
    PSs X [.Expr (.Call (.Attribute (.Name x p1) "append" ap) [e] [] cp) pos] (hS C cs i (.app j hx) a kc dd) :=
  PSs.imp (pss_one (ps_expr (pe_bm PySem.F.plainAttrs_list PySem.F.slot_list_append PySem.F.type_list_append mt_append (pe_var hi hv hd hc) (pa_cons he pa_nil (star_cons hn)) (base_plain (e := .Name x p1) rfl) (few_of (by simp only [List.all_cons, List.all_nil, Bool.and_true]; exact hn) (by simp)) hl (star_cons hn) rfl) rfl)) fun D σ H ⟨F, δ, s, g, A, R, hh, h⟩ => by
    simp only [exH] at h
    split at h
    · rename_i d hd
      obtain ⟨v, hv, r⟩ := R.2 j _ hd
      split at h
      · rename_i ys hp
        obtain ⟨q, vs, rfl, hq, rq⟩ := peek_lst A r hp
        refine ⟨.ref q, hv, Or.inl ⟨rfl, vs, SqL.of hq⟩, F, δ, s, g, A, R, hh, ?_⟩
        cases h1 : hxE g δ hx with
        | none =>
          simp only [h1] at h
          exact h.elim
        | some y =>
          simp only [h1] at h
          intro w s1 H1 hS1 e1 A1 r1
          show rAppend (V.ref q) [w] H1 fun _ H2 => D.nx σ H2
          refine app_ok (W := WF) (F := F) (σ := σ) (s0 := s1) A1 (RepD.mono e1 d _ r) r1 ?_
          rw [← hS1] at h
          cases ha : appG d y s1.S with
          | stuck =>
            simp only [ha] at h
            exact h.elim
          | exc c x S' =>
            simp only [ha] at h
            exact h.elim
          | ok d' S' =>
            simp only [ha] at h
            exact fun s2 H2 hS2 e2 A2 v2 r2 => h σ s2 H2 hS2 (e1.trans e2) A2 (R.mono (e1.trans e2))
      · exact h.elim
    · exact h.elim
/-! ### try -/
theorem exH_no {W : WX} {F : Hp} {s : Sit} {g : Option P} {δ : DEnv} {S : Sto} {D : Ends} : ∀ (b : HS), WantS C W F s (exH g δ S b) D → WantS C WF F s (exH g δ S b) D := by
  intro b h
  cases b with
  | ret e =>
    simp only [exH] at h ⊢
    split at h <;> exact h
  | inc q k =>
    simp only [exH] at h ⊢
    split at h <;> exact h
  | set q e =>
    simp only [exH] at h ⊢
    split at h <;> exact h
  | app q e =>
    simp only [exH] at h ⊢
    split at h
    · split at h
      · split at h
        · split at h <;> exact h
        · exact h
      · exact h
    · exact h
theorem RepS.hide {s : Sit} {δ : DEnv} {σ : L2.St} (R : RepS C s δ σ) (j : Nat) (o : Option V) : RepS C s (δ.set j none) (σ.set j o) := by
  refine ⟨by rw [List.length_set, List.length_set]; exact R.1, fun q d hd => ?_⟩
  by_cases hq : j = q
  · subst hq
    by_cases hl : j < δ.length
    · rw [List.getElem?_set_self hl] at hd
      cases hd
    · rw [List.getElem?_eq_none (by rw [List.length_set]; omega)] at hd
      cases hd
  · rw [List.getElem?_set_ne hq] at hd ⊢
    exact R.2 q d hd
/-- the clauses' classes -/
def hsOk (C : CC) (K : PySem.W.Frag) : Hs → List Cla → Prop
  | .nil, l => l = []
  | .cons cs ns i b r, l => ∃ cv l', l = ⟨cv, i, hS C cs i b⟩ :: l' ∧ (∀ c ∈ cs, PySem.W.exmOne K (.ref (C.CA c)) cv = some true) ∧ (∀ c ∈ ns, PySem.W.exmOne K (.ref (C.CA c)) cv = some false) ∧ hsOk C K r l'
theorem hs_want {W : WX} {F : Hp} {K : PySem.W.Frag} {D : Ends} {c : Nat} {x : Option P} {dx : Option Addr} {δ : DEnv} {s : Sit} {σ : L2.St} {H : Hp} (A : AtS C F s H) (R : RepS C s δ σ) (rx : RepX C s.G c x dx) :
    ∀ (hs : Hs) (l : List Cla), hsOk C K hs l → WantS C W F s (exHs hs c x δ s.S) D → wCla K W D l (.ref (C.CA c)) dx σ H
  | .nil, l, hl, h => by
    simp only [hsOk] at hl
    subst hl
    exact h dx σ s H rfl (ExtS.refl s) A R rx
  | .cons cs ns i b r, l, hl, h => by
    simp only [hsOk] at hl
    obtain ⟨cv, l', rfl, y1, y2, hr⟩ := hl
    simp only [exHs] at h
    by_cases hc : cs.contains c = true
    · rw [if_pos hc] at h
      have hm : c ∈ cs := by simpa using hc
      by_cases hsl : slotIn i δ = true
      case neg =>
        rw [if_neg hsl] at h
        exact h.elim
      rw [if_pos hsl] at h
      refine ⟨true, y1 c hm, fun _ q hq => ?_, fun z => nomatch z⟩
      cases i with
      | none =>
        refine ⟨F, δ, s, x, A, R, ⟨⟨c, hm, rfl, rx⟩, fun j z => nomatch z⟩, exH_no (W := W) b ?_⟩
        simp only [goneSlot] at h
        cases hx : exH x δ s.S b with
        | next δ' S' =>
          rw [hx] at h
          exact h
        | _ =>
          rw [hx] at h
          exact h
      | some j =>
        have hjl : j < σ.length := by
          simp only [slotIn, decide_eq_true_eq] at hsl
          rw [← R.1]
          exact hsl
        refine ⟨F, δ.set j none, s, x, A, R.hide j _, ⟨⟨c, hm, rfl, rx⟩, fun j' z => ?_⟩, exH_no (W := W) b ?_⟩
        · cases z
          rw [List.getElem?_set_self hjl]
        · simp only [goneSlot] at h
          cases hx : exH x (δ.set j none) s.S b with
          | next δ' S' =>
            rw [hx] at h
            exact fun σ' s' H' h1 h2 h3 h4 => h (σ'.set j none) s' H' h1 h2 h3 (h4.hide j none)
          | ret d S' =>
            rw [hx] at h
            exact h
          | brk δ' S' =>
            exfalso
            revert hx
            cases b <;> simp only [exH] <;> (repeat' split) <;> intro z <;> cases z
          | cnt δ' S' =>
            exfalso
            revert hx
            cases b <;> simp only [exH] <;> (repeat' split) <;> intro z <;> cases z
          | exc c' x' δ' S' =>
            rw [hx] at h
            exact h
          | stuck =>
            rw [hx] at h
            exact h
    · rw [if_neg hc] at h
      by_cases hn : ns.contains c = true
      · rw [if_pos hn] at h
        have hm : c ∈ ns := by simpa using hn
        exact ⟨false, y2 c hm, fun z => Bool.noConfusion z, fun _ => hs_want A R rx r l' hr h⟩
      · rw [if_neg hn] at h
        exact h.elim
theorem s_try {W : WX} {F : Hp} {body : List Stmt} {h0 : ExceptHandler} {hr : List ExceptHandler} {l : List Cla} {gb : DEnv → Sto → RS} {hs : Hs} (hst : X.stack = X.env :: X.outer) (hfm : X.env.frame = some X.env.locals) (hN : X.N.Nodup) (tk : Takes X W)
    (hbd : ∀ (Wi : WX) (pl : List (Addr × Obj)) (xf : Value → Shared → Prop), Takes (X.tr pl xf) Wi → PassesOwn (model X.prog X.w) X.A X.env xf → PSs (X.tr pl xf) body (tS C Wi F gb)) (hc : ClaOk X (h0 :: hr) l) (ok : hsOk C X.K hs l) :
    PS X (.Try body (h0 :: hr) [] [] pos) (tS C W F fun δ S => match gb δ S with
      | .exc c x δ' S' => exHs hs c x δ' S'
      | r => r) := by
  refine ⟨fun pins s σ H D I h => (ps_try_mix hst hfm hN tk hbd hc).run pins s σ H D I ?_⟩
  obtain ⟨δ, t, A, R, h⟩ := h
  refine ⟨δ, t, A, R, ?_⟩
  dsimp only at h
  cases hg : gb δ t.S with
  | exc c x δ' S' =>
    rw [hg] at h
    intro dx σ' s' H' hS ex A' R' rx
    subst hS
    exact hs_want A' R' rx hs l ok (WantS.ext ex h)
  | next δ' S' =>
    rw [hg] at h
    exact h
  | ret d S' =>
    rw [hg] at h
    exact h
  | brk δ' S' =>
    rw [hg] at h
    exact h
  | cnt δ' S' =>
    rw [hg] at h
    exact h
  | stuck =>
    rw [hg] at h
    exact h
end
end RP
end


section
set_option Elab.async false
set_option linter.all false
set_option maxRecDepth 100000
set_option maxHeartbeats 2000000
/-! xs[::-1] of lists and of texts. -/
namespace RP
open PySem L2 PySem.Spec PyProof.Rows
theorem rev_ix (n : Nat) : Builtin.Str.strSliceIndices none none (-1) n = (List.range n).reverse := by
  have h : Builtin.Str.strSliceIndices none none (-1) n = sliceRange ((n : Int) - 1) (-1) (-1) := by
    have h1 : ¬ ((-1 : Int) > 0) := by decide
    simp only [Builtin.Str.strSliceIndices, h1, if_false]
  rw [h, PySem.W.krv_sliceRange, PySem.W.krv_range]
theorem rev_pick (z : Str) : ((Builtin.Str.strSliceIndices none none (-1) z.length).filterMap (z.cps[·]?)) = z.cps.toList.reverse := by
  rw [rev_ix, List.filterMap_reverse]
  have := PySem.W.krv_all z.cps
  rw [← this]
  rfl
section
variable {X : Cx}
def tRevX (K : PySem.W.Frag) (te : TE) : TE := fun σ H Q => te σ H fun x H1 => (∃ a xs, x = .ref a ∧ SqL K H1 a xs ∧ ∀ p, H1 p = none → Q (.ref p) (upd H1 p (.lst xs.reverse))) ∨ ∃ z, x = .str z ∧ z.length ≤ sizeLine ∧ Q (.str (revS z)) H1
theorem pe_revX {e : Expr} {te : TE} {k : Nat} {p1 p2 p3 pos : Pos} (he : PE X e te) : PE X (.Subscript e (.Slice none none (some (.UnaryOp .USub (.Constant (.int 1) k p1) p2)) p3) pos) (tRevX X.K te) := by
  refine ⟨fun pins s σ H Q I h => ?_⟩
  refine Subscript_ (thn (he.run pins s σ H _ I h) fun v s1 ⟨x, H1, I1, r1, q1⟩ => ?_)
  have hst : PO X (some (.UnaryOp .USub (.Constant (.int 1) k p1) p2)) (tPart (tUn (rU fun i => .int (-i)) (tC (.int 1)))) := po_some (pe_un un_neg pe_int)
  refine wpAny_Slice (thn (po_none.run pins s1 σ H1 (fun o H2 => o = none ∧ H2 = H1) I1 ⟨rfl, rfl⟩) fun vl s2 ⟨l, H2, I2, pl, el, e2⟩ => ?_)
  subst el e2
  refine thn (po_none.run pins s2 σ H2 (fun o H3 => o = none ∧ H3 = H2) I2 ⟨rfl, rfl⟩) fun vu s3 ⟨u, H3, I3, pu, eu, e3⟩ => ?_
  subst eu e3
  refine thn (hst.run pins s3 σ H3 (fun o H4 => o = some (-1) ∧ H4 = H3) I3 ⟨1, rfl, -1, rfl, rfl, rfl⟩) fun vs s4 ⟨o, H4, I4, ps, eo, e4⟩ => ?_
  subst eo e4
  have I5 : Inv X pins σ H4 { s4 with heap := s4.heap.push { cls := .type "slice", data := .fields #[vl, vu, vs] } } := I4.kept (t' := s4.toks) fun b ob q => Heap.get?_push_of_some _ q
  show wpAny (model X.prog X.w) X.A (subscriptTail e (.Slice none none (some (.UnaryOp .USub (.Constant (.int 1) k p1) p2)) p3) v (.ref s4.heap.objs.size)) (EP X pins σ Q) X.xe { s4 with heap := s4.heap.push { cls := .type "slice", data := .fields #[vl, vu, vs] } }
  rcases q1 with ⟨a, xs, ex, hx, q⟩ | ⟨z, ex, hz, q⟩
  · subst ex
    cases r1
    obtain ⟨its, r, ht, hz⟩ := I5.list hx
    have hlen := r.length
    refine tail_any (ops := [.ref a, .ref s4.heap.objs.size]) ht.isList.typeIs (PySem.slot_list_getitem.lookup) ?_ (by with_unfolding_all rfl)
    refine wpAny_getItem_list_slice ht.isList (Heap.IsSliceOf.new _ vl vu vs) pl pu ps (by decide) ?_ (by rw [List.size_toArray]; omega)
    rw [PySem.W.krv_pick]
    refine ⟨.ref _, _, I5.laid (t' := s4.toks) (o := .lst xs.reverse) (fun b ob q => Heap.get?_push_of_some _ q) (Nat.le_refl _) ?_, rfl, q _ (I5.hok.fresh (Nat.le_refl _))⟩
    exact ⟨by rw [List.length_reverse]; exact hz, _, 0, r.reverse, Heap.get?_push_size _ rfl⟩
  · subst ex
    obtain ⟨t, rfl⟩ := r1
    obtain ⟨l', rfl, hl'⟩ := IsPart.raw pl
    obtain ⟨u', rfl, hu'⟩ := IsPart.raw pu
    obtain ⟨k', rfl, hk'⟩ := IsPart.raw ps
    refine tail_any (ops := [.str z t, .ref s4.heap.objs.size]) (typeIs_str _ z t) (PySem.F.slot_str_getitem.lookup) ?_ (by with_unfolding_all rfl)
    refine wpAny_getItem_str_slice (l := l') (u := u') (st := k') ⟨_, Heap.get?_push_size _ rfl, rfl, rfl⟩ (by rw [hk']; rfl) ?_
    unfold sliceMade slicePicked
    rw [hl', hu', hk']
    show Made.post (if (((-1 : Int)) == 1 && (Builtin.Str.strSliceIndices none none (-1) z.length).length == z.length) = true then Made.val (.str z t)
      else Made.str ⟨((Builtin.Str.strSliceIndices none none (-1) z.length).filterMap (z.cps[·]?)).toArray⟩) (EP X pins σ Q) _
    rw [if_neg (by simp), rev_pick]
    exact ⟨by have hz' : z.cps.size ≤ sizeLine := hz; show z.cps.toList.reverse.toArray.size ≤ _; simpa using hz', .str _, H4, I5.tok _, ⟨_, rfl⟩, q⟩
end
end RP
end

section
set_option Elab.async false
set_option linter.all false
set_option maxRecDepth 100000
set_option maxHeartbeats 2000000
/-! Slices, chains, xs += ys. -/
namespace RP
open PySem L2
section
variable {C : CC} {W : WX} {X : Cx} {k : Nat} {Γ : Tab} {F : Hp} {a b c e o : Expr} {fa fb fc fe : DEnv → Sto → RE D} {pos p p2 : Pos} {s s1 : Sit} {σ : L2.St} {H : Hp} {δ : DEnv} {D' : Ends}
/-- an optional part of a slice -/
def tO (C : CC) (W : WX) (F : Hp) (f : DEnv → Sto → RE (Option Int)) : L2.St → Hp → (Option Int → Hp → Prop) → Prop := fun σ H Q => ∃ δ s, AtS C F s H ∧ RepS C s δ σ ∧ Wt C W F σ s (f δ s.S) fun o _ H' => Q o H'
theorem PO.imp {e : Option Expr} {t u : L2.St → Hp → (Option Int → Hp → Prop) → Prop} (h : PO X e t) (k : ∀ σ H Q, u σ H Q → t σ H Q) : PO X e u := ⟨fun pins s σ H Q I hu => h.run pins s σ H Q I (k σ H Q hu)⟩
theorem o_none : PO X none (tO C W F fun δ S => optI false (fa δ) S) := PO.imp po_none fun σ H Q ⟨δ, s, A, R, h⟩ => h s H rfl (ExtS.refl s) A
theorem o_some (ha : PE X a (tE C W F fa)) : PO X (some a) (tO C W F fun δ S => optI true (fa δ) S) := PO.imp (po_some ha) fun σ H Q ⟨δ, s, A, R, h⟩ => by
  refine ⟨δ, s, A, R, Wt.imp (Wt.bind h) fun d s' H' _ ex A' hk v r => ?_⟩
  cases d with
  | p x =>
    cases x with
    | int i =>
      simp only [RepD, RepP] at r
      exact ⟨i, r, Wt.now A' hk⟩
    | _ => exact hk.elim
  | loc n => exact hk.elim
  | cls n => exact hk.elim
theorem cut_eq {α : Type} {n d : Nat} : ∀ (o : Option Int), cutO n d o = HT.sIx n d o
  | none => rfl
  | some i => rfl
theorem reps_drop {G : Hp} : ∀ (n : Nat) (xs : List P) (vs : List V), RepPs C G xs vs → RepPs C G (xs.drop n) (vs.drop n)
  | 0, xs, vs, h => by simpa using h
  | n + 1, [], vs, h => by
    simp only [RepPs] at h
    subst h
    simp [RepPs]
  | n + 1, x :: xs, vs, h => by
    simp only [RepPs] at h
    obtain ⟨v, ws, rfl, _, h2⟩ := h
    simpa using reps_drop n xs ws h2
theorem reps_take {G : Hp} : ∀ (n : Nat) (xs : List P) (vs : List V), RepPs C G xs vs → RepPs C G (xs.take n) (vs.take n)
  | 0, xs, vs, h => by simp [RepPs]
  | n + 1, [], vs, h => by
    simp only [RepPs] at h
    subst h
    simp [RepPs]
  | n + 1, x :: xs, vs, h => by
    simp only [RepPs] at h
    obtain ⟨v, ws, rfl, h1, h2⟩ := h
    simp only [List.take_succ_cons, RepPs]
    exact ⟨v, _, rfl, h1, reps_take n xs ws h2⟩
theorem reps_cut {G : Hp} {xs : List P} {vs : List V} {lo hi : Option Int} (h : RepPs C G xs vs) : RepPs C G (cutP xs lo hi) (cutV vs lo hi) := by
  unfold cutP cutV
  rw [cut_eq (α := Unit), cut_eq (α := Unit), RepPs.len xs vs h]
  exact reps_take _ _ _ (reps_drop _ _ _ h)
theorem reps_rev {G : Hp} : ∀ (xs : List P) (vs : List V), RepPs C G xs vs → RepPs C G xs.reverse vs.reverse
  | [], vs, h => by
    simp only [RepPs] at h
    subst h
    simp [RepPs]
  | x :: xs, vs, h => by
    simp only [RepPs] at h
    obtain ⟨v, ws, rfl, h1, h2⟩ := h
    rw [List.reverse_cons, List.reverse_cons]
    exact reps_app _ _ (reps_rev xs ws h2) (by simp only [RepPs]; exact ⟨v, [], rfl, h1, rfl⟩)
def rSlc (X : Cx) : V → Option Int → Option Int → Hp → VK → Prop := fun x lo hi H Q => (rSlL X.K x lo hi H Q ∨ rSlT X.K x lo hi H Q) ∨ rSlS x lo hi H Q
theorem sl_all : SlR X (rSlc X) := (sl_list.or sl_tup).or sl_str
theorem slc_ok {d : D} {x : P} {v : V} {lo hi : Option Int} {Q : VK} (hk : C.K = X.K) (A : AtS C F s H) (r : RepD C s d v) (e : peek d s.S = some x) (h : WantE C W F (RepD C) σ s ((slcP x lo hi).lift s.S) Q) : rSlc X v lo hi H Q := by
  cases x with
  | lst xs =>
    obtain ⟨q, vs, rfl, h2, h3⟩ := peek_lst A r e
    exact .inl (.inl ⟨q, vs, rfl, .inl (.inl h2), fun p hp => want_lst A (reps_cut h3) h p hp⟩)
  | tup xs =>
    have rp := peek_pure A r e (fun _ z => by cases z)
    simp only [RepP] at rp
    obtain ⟨q, vs, rfl, h2, h3⟩ := rp
    simp only [slcP] at h
    by_cases hw : cutO xs.length 0 lo = 0 ∧ cutO xs.length xs.length hi = xs.length
    · rw [if_pos hw] at h
      exact h.elim
    · rw [if_neg hw] at h
      rw [cut_eq (α := Unit), cut_eq (α := Unit), RepPs.len xs vs h3] at hw
      exact .inl (.inr ⟨q, vs, rfl, hk ▸ sqT_mono A.sub h2, hw, fun p hp => want_tup A (reps_cut h3) h p hp⟩)
  | str z =>
    have rp := peek_pure A r e (fun _ z => by cases z)
    simp only [RepP] at rp
    subst rp
    simp only [slcP] at h
    by_cases hl : lineOk z.length = true
    · rw [if_pos hl] at h
      refine .inr ⟨z, rfl, line_of hl, ?_⟩
      have e : (⟨(cutP z.cps.toList lo hi).toArray⟩ : Str) = cutS z lo hi := by
        unfold cutP cutS
        have el : z.cps.toList.length = z.length := by
          rw [Array.length_toList]
          rfl
        rw [cut_eq (α := Unit), cut_eq (α := Unit), el]
      rw [← e]
      exact want_str A h
    · rw [if_neg hl] at h
      exact h.elim
  | _ => exact h.elim
theorem x_slc {lo hi : Option Expr} {fl fh : DEnv → Sto → RE (Option Int)} (hk : C.K = X.K) (ha : PE X a (tE C W F fa)) (hl : PO X lo (tO C W F fl)) (hh : PO X hi (tO C W F fh)) :
    PE X (.Subscript a (.Slice lo hi none p2) pos) (tE C W F fun δ S => (fa δ S).bind fun d1 S1 => (fl δ S1).bind fun o1 S2 => (fh δ S2).bind fun o2 S3 => match peek d1 S3 with
      | some x => (slcP x o1 o2).lift S3
      | none => .stuck) := by
  refine PE.imp (pe_slice sl_all ha hl hh) fun σ H Q ⟨δ, s, A, R, h⟩ => ?_
  refine ⟨δ, s, A, R, Wt.imp (Wt.bind h) fun d1 s1 H1 _ ex1 A1 h1 v r1 => ?_⟩
  refine ⟨δ, s1, A1, R.mono ex1, Wt.imp (Wt.bind h1) fun o1 s2 H2 _ ex2 A2 h2 => ?_⟩
  refine ⟨δ, s2, A2, (R.mono ex1).mono ex2, Wt.imp (Wt.bind h2) fun o2 s3 H3 _ ex3 A3 h3 => ?_⟩
  have r3 := RepD.mono (ex2.trans ex3) d1 v r1
  cases q : peek d1 s3.S with
  | none =>
    rw [q] at h3
    exact h3.elim
  | some x =>
    rw [q] at h3
    exact slc_ok hk A3 r3 q h3
theorem x_rev {j : Nat} {q1 q2 q3 : Pos} (ha : PE X a (tE C W F fa)) : PE X (.Subscript a (.Slice none none (some (.UnaryOp .USub (.Constant (.int 1) j q1) q2)) q3) pos) (tE C W F fun δ S => (fa δ S).bind fun d1 S1 => revG (peek d1 S1) S1) := by
  refine PE.imp (pe_revX ha) fun σ H Q ⟨δ, s, A, R, h⟩ => ?_
  refine ⟨δ, s, A, R, Wt.imp (Wt.bind h) fun d1 s1 H1 _ ex1 A1 h1 v r1 => ?_⟩
  cases q : peek d1 s1.S with
  | none =>
    rw [q] at h1
    exact h1.elim
  | some x =>
    rw [q] at h1
    cases x with
    | lst xs =>
      obtain ⟨l, vs, rfl, h2, h3⟩ := peek_lst A1 r1 q
      exact .inl ⟨l, vs, rfl, .inl (.inl h2), fun p hp => want_lst A1 (reps_rev _ _ h3) h1 p hp⟩
    | str z =>
      have q1 := peek_pure A1 r1 q (fun _ z => nomatch z)
      simp only [RepP] at q1
      subst q1
      simp only [revG] at h1
      split at h1
      · rename_i hm
        exact .inr ⟨z, rfl, Nat.le_trans (of_decide_eq_true hm) (Nat.le_trans (by decide) sizeLine_big), want_str A1 h1⟩
      · exact h1.elim
    | _ => exact h1.elim
def rChn (op : CmpOp) : R2 := fun x y H Q => ∃ i j b, x = .int i ∧ y = .int j ∧ icmp op i j = some b ∧ Q (.bl b) H
theorem op_chn (op : CmpOp) : OpR X (compareOp op) (rChn op) := by
  intro pins s σ H x y v u Q I rx ry h
  obtain ⟨i, j, b, rfl, rfl, hb, q⟩ := h
  cases op with
  | Lt =>
    simp only [icmp, Option.some.injEq] at hb
    subst hb
    exact op_lt pins s σ H _ _ v u Q I rx ry ⟨i, j, rfl, rfl, q⟩
  | LtE =>
    simp only [icmp, Option.some.injEq] at hb
    subst hb
    exact op_le pins s σ H _ _ v u Q I rx ry ⟨i, j, rfl, rfl, q⟩
  | _ => cases hb
theorem chain_imp {op op' : CmpOp} {Q : VK} (h : tE C W F (fun δ S => (fa δ S).bind fun d1 S1 => (fb δ S1).bind fun d2 S2 => chainD (fc δ) op op' d1 d2 S2) σ H Q) : tChain (rChn op) (rChn op') (tE C W F fa) (tE C W F fb) (tE C W F fc) σ H Q := by
  obtain ⟨δ, s, A, R, h⟩ := h
  refine ⟨δ, s, A, R, Wt.imp (Wt.bind h) fun d1 s1 H1 _ ex1 A1 h1 v r1 => ?_⟩
  refine ⟨δ, s1, A1, R.mono ex1, Wt.imp (Wt.bind h1) fun d2 s2 H2 _ ex2 A2 h2 u r2 => ?_⟩
  have r1' := RepD.mono ex2 d1 v r1
  cases d1 with
  | loc n => exact h2.elim
  | cls n => exact h2.elim
  | p x =>
    cases x with
    | int i =>
      cases d2 with
      | loc n => exact h2.elim
      | cls n => exact h2.elim
      | p y =>
        cases y with
        | int j =>
          simp only [RepD, RepP] at r1' r2
          cases q : icmp op i j with
          | none =>
            simp only [chainD, q] at h2
            exact h2.elim
          | some t =>
            refine ⟨i, j, t, r1', r2, q, t, rfl, ?_⟩
            cases t with
            | false =>
              simp only [chainD, q] at h2
              exact iteF (want_bl A2 h2)
            | true =>
              simp only [chainD, q] at h2
              refine iteT ⟨δ, s2, A2, (R.mono ex1).mono ex2, Wt.imp (Wt.bind h2) fun d3 s3 H3 _ ex3 A3 h3 w r3 => ?_⟩
              cases d3 with
              | loc n => exact h3.elim
              | cls n => exact h3.elim
              | p z =>
                cases z with
                | int k =>
                  simp only [RepD, RepP] at r3
                  cases q2 : icmp op' j k with
                  | none =>
                    simp only [q2] at h3
                    exact h3.elim
                  | some t2 =>
                    simp only [q2] at h3
                    exact ⟨j, k, t2, r2, r3, q2, want_bl A3 h3⟩
                | _ => exact h3.elim
        | _ => exact h2.elim
    | _ => exact h2.elim
theorem x_chain {op op' : CmpOp} (ha : PE X a (tE C W F fa)) (hb : PE X b (tE C W F fb)) (hc : PE X c (tE C W F fc)) (hm : lastMarks [op, op'] [b, c] = false) :
    PE X (.Compare a [op, op'] [b, c] pos) (tE C W F fun δ S => (fa δ S).bind fun d1 S1 => (fb δ S1).bind fun d2 S2 => chainD (fc δ) op op' d1 d2 S2) :=
  PE.imp (pe_chain (op_chn op) (op_chn op') ha hb hc hm) fun σ H Q h => chain_imp h
theorem x_catl (ha : PE X a (tE C W F fa)) (hb : PE X b (tE C W F fb)) :
    PE X (.BinOp a .Add b pos) (tE C W F fun δ S => (fa δ S).bind fun d1 S1 => (fb δ S1).bind fun d2 S2 => match peek d1 S2, peek d2 S2 with
      | some (.lst xs), some (.lst ys) => if lineOk xs.length && lineOk ys.length then .ok (.loc S2.length) (S2 ++ [.live (.lst (xs ++ ys))]) else .stuck
      | _, _ => .stuck) := by
  refine ⟨fun pins s σ H Q I h => wpAny_BinOp (two_of ha hb (fun pins s σ H s0 d1 d2 x y v u Q I A r1 r2 rx ry hw => ?_) I h)⟩
  split at hw
  · rename_i xs ys e1 e2
    by_cases hm : (lineOk xs.length && lineOk ys.length) = true
    · rw [if_pos hm] at hw
      unfold lineOk at hm
      simp only [Bool.and_eq_true, decide_eq_true_eq] at hm
      obtain ⟨a, vs, rfl, h1, k1⟩ := peek_lst A r1 e1
      obtain ⟨b, ws, rfl, h2, k2⟩ := peek_lst A r2 e2
      have l1 := RepPs.len xs vs k1
      have l2 := RepPs.len ys ws k2
      exact op_cat pins s σ H _ _ v u Q I rx ry ⟨a, b, vs, ws, rfl, rfl, h1, h2, Nat.le_trans (by omega) sizeLine_big, fun p hp => want_new A (reps_app xs vs k1 k2) hw p hp⟩
    · rw [if_neg hm] at hw
      exact hw.elim
  · exact hw.elim
theorem s_ext {i : Nat} {x : Str} (hN : X.N.Nodup) (hi : X.N[i]? = some x) (hx : Loc X.env.scope x) (hf : X.fn x = true ∨ X.env.scope.names.lookup x = some .local) (he : PE X e (tE C W F fe)) :
    PS X (.AugAssign (.Name x p) .Add e pos) (tS C W F fun δ S => match δ[i]? with
      | some (some d) => (fe δ S).st δ fun d2 S1 => extD i d d2 δ S1
      | _ => .stuck) := by
  refine PS.imp (ps_aug hN hi hx he (ti := rExt2) (fun pins s σ H x y v u Q I rx ry h => iop_ext pins s σ H x y v u Q I rx ry h) hf) fun D σ H ⟨δ, s, A, R, h⟩ => ?_
  cases q : δ[i]? with
  | none =>
    simp only [q] at h
    exact h.elim
  | some od =>
    cases od with
    | none =>
      simp only [q] at h
      exact h.elim
    | some d =>
      simp only [q] at h
      obtain ⟨v, hv, rv⟩ := R.2 i d q
      refine ⟨v, hv, δ, s, A, R, Wt.imp (WantS.st R h) fun d2 s1 H1 _ ex1 A1 h1 u r2 => ?_⟩
      have R1 := R.mono ex1
      have rv1 := RepD.mono ex1 d v rv
      cases d with
      | p x => exact h1.elim
      | cls n => exact h1.elim
      | loc n =>
        simp only [extD] at h1
        cases q1 : s1.S[n]? with
        | none =>
          simp only [q1] at h1
          exact h1.elim
        | some sl =>
          cases q2 : peek d2 s1.S with
          | none =>
            simp only [q1, q2] at h1
            exact h1.elim
          | some y =>
            cases sl with
            | fz z =>
              simp only [q1, q2] at h1
              exact h1.elim
            | lk z =>
              simp only [q1, q2] at h1
              exact h1.elim
            | live cl =>
              cases cl with
              | nst ds =>
                simp only [q1, q2] at h1
                exact h1.elim
              | dct ds =>
                simp only [q1, q2] at h1
                exact h1.elim
              | obj c fs =>
                simp only [q1, q2] at h1
                exact h1.elim
              | lst xs =>
                cases y with
                | lst ys =>
                  simp only [q1, q2] at h1
                  obtain ⟨a, o, k1, k2, k3, k4, vs, ho, rvs⟩ := A1.live n _ q1
                  obtain ⟨b, hb, rfl⟩ := rv1
                  rw [k1] at hb
                  cases hb
                  obtain ⟨l, ws, rfl, h2, h3⟩ := peek_lst A1 r2 q2
                  by_cases hl : (lineOk xs.length && lineOk ys.length) = true
                  · rw [if_pos hl] at h1
                    simp only [Bool.and_eq_true] at hl
                    have e1 := RepPs.len _ _ rvs
                    have e2 := RepPs.len _ _ h3
                    have l1 : xs.length ≤ 100000 := of_decide_eq_true hl.1
                    have l2 : ys.length ≤ 100000 := of_decide_eq_true hl.2
                    have big := sizeLine_big
                    refine ⟨a, l, vs, ws, rfl, rfl, by rw [k4, ho], h2, by omega, ?_⟩
                    obtain ⟨A2, ex2⟩ := A1.write (c' := .lst (xs ++ ys)) (o := .lst (vs ++ ws)) q1 k1 ⟨vs ++ ws, rfl, reps_app _ _ rvs h3⟩
                    exact h1 _ _ _ rfl ex2 A2 ((R1.mono ex2).set ⟨a, k1, rfl⟩)
                  · rw [if_neg hl] at h1
                    exact h1.elim
                | _ =>
                  simp only [q1, q2] at h1
                  exact h1.elim
end
end RP
end

section
set_option Elab.async false
set_option linter.all false
set_option maxRecDepth 100000
set_option maxHeartbeats 4000000
/-! Lists that are lent, and lists that a def has made. -/
namespace RP
open PySem L2
section
variable {C : CC} {W : WX} {X : Cx} {k : Nat} {F : Hp} {s s1 : Sit} {σ σ' : L2.St} {H : Hp} {δ : DEnv}
/-! ### a def's own new list -/
theorem flat_rep {G G' : Hp} {x : P} {v : V} (h : flatP x = true) (r : RepP C G x v) : RepP C G' x v := by
  cases x <;> first | (cases h; done) | (simp only [RepP] at r ⊢; exact r)
theorem spI_fresh {g : IFn} {xs : List P} {vs : List V} {Q : VK} (A : AtS C F s H) (r : RepPs C s.G xs vs) (h : WantE C W F (RepD C) σ s (freshG (g (xs.map D.p) []) s.S) Q) : spI C g vs H Q (WE W σ) := by
  have fr : ∀ a o, H a = some o → s.G a = none → (if s.G a = none then H a else none) = some o := fun a o h1 h2 => by rw [if_pos h2]; exact h1
  refine ⟨fun a => if s.G a = none then H a else none, ⟨s.G, [], []⟩, xs.map D.p, ⟨A.sub, rfl, fun n x e => by simp at e, fun n c e => by simp at e, fun n m c c' a e => by simp at e, fun a o e => ?_, LkOk.nil⟩, repDs_p xs vs r, ?_⟩
  · have e : (if s.G a = none then H a else none) = some o := e
    split at e
    · rename_i hn
      exact ⟨e, hn⟩
    · cases e
  · cases hg : g (xs.map D.p) [] with
    | stuck =>
      rw [hg] at h
      exact h.elim
    | exc c x S =>
      rw [hg] at h
      intro dx s' H' hS ex A' rx
      obtain ⟨A2, e2⟩ := A.call ex.G A'.sub fun a o h1 h2 => A'.frm a o (fr a o h1 h2)
      exact h dx ⟨s'.G, s.μ, s.S⟩ H' rfl e2 A2 rx
    | ok d S =>
      rw [hg] at h
      intro v s' H' hS ex A' rd
      subst hS
      cases d with
      | p x =>
        simp only [freshG] at h
        split at h
        · rename_i hf
          obtain ⟨A2, e2⟩ := A.call ex.G A'.sub fun a o h1 h2 => A'.frm a o (fr a o h1 h2)
          exact h ⟨s'.G, s.μ, s.S⟩ H' rfl e2 A2 v (flat_rep hf rd)
        · exact h.elim
      | cls c => exact h.elim
      | loc n =>
        simp only [freshG] at h
        cases hn : s'.S[n]? with
        | none =>
          rw [hn] at h
          exact h.elim
        | some sl =>
          rw [hn] at h
          cases sl with
          | fz x => exact h.elim
          | lk x => exact h.elim
          | live cl =>
            cases cl with
            | nst ds => exact h.elim
            | dct ds => exact h.elim
            | obj c fs => exact h.elim
            | lst ys =>
              dsimp only at h
              obtain ⟨a, o, m1, g1, f1, h1, rc⟩ := A'.live n _ hn
              obtain ⟨ws, rfl, rw'⟩ := rc
              obtain ⟨b, hb, rfl⟩ := rd
              rw [m1] at hb
              cases hb
              obtain ⟨A2, e2⟩ := A.call ex.G A'.sub fun a o h1 h2 => A'.frm a o (fr a o h1 h2)
              have f1 : (if s.G a = none then H a else none) = none := f1
              have away : ∀ b u, H b = some u → s.G b = none → b ≠ a := fun b u p1 p2 z => by
                rw [z] at p1 p2
                rw [fr a u p1 p2] at f1
                cases f1
              have hF : F a = none := by
                cases q : F a with
                | none => rfl
                | some u => exact absurd rfl (away a u (A.frm a u q).1 (A.frm a u q).2)
              have A3 : AtS C (upd F a (.lst ws)) ⟨s'.G, s.μ, s.S⟩ H' := ⟨A2.sub, A2.len, A2.fzn, fun n c e => by
                obtain ⟨b, u, k1, k2, k3, k4, k5⟩ := A2.live n c e
                obtain ⟨b', u', j1, j2, j3, j4, j5⟩ := A.live n c e
                have k1 : s.μ[n]? = some b := k1
                rw [j1] at k1
                cases k1
                exact ⟨b, u, j1, k2, by rw [upd_ne (away b u' j4 j2)]; exact k3, k4, k5⟩, A2.inj, fun b u e => by
                by_cases hb : b = a
                · subst hb
                  rw [upd_same] at e
                  cases e
                  exact ⟨h1, g1⟩
                · rw [upd_ne hb] at e
                  exact A2.frm b u e, A2.lk.to (ExtS.refl _) (fun n c e => e) fun b od u z _ => by rw [upd_ne (fun q => by rw [q, hF] at z; cases z)]; exact z⟩
              obtain ⟨H0, h0, A4, rfl⟩ := A3.drop hF
              exact want_new A4 rw' (Wt.ext e2 h) a h0
variable {es : List Expr} {fs : DEnv → Sto → RE (List P)} {fd : DEnv → Sto → RE (List D)} {pos p : Pos}
theorem x_fcall (sp : Spot C W X k) {x : Str} {u : Value} {g : IFn} (hg : Gl X x) (hm : X.mg x = some u) (hk : PySem.W.keepIn X.K u = true) (cal : CalI C X.prog X.w X.K X.mg X.base k u g) (hd : (x == ("__debug__" : Str)) = false) (hs : es.all notStar = true) (ha : PA X es (tAP C W F fs)) :
    PE X (.Call (.Name x p) es [] pos) (tE C W F fun δ S => (fs δ S).bind fun xs S1 => freshG (g (xs.map D.p) []) S1) := by
  refine ⟨fun pins s σ H Q I h => wpAny_Call_Name_kw (ld_glob I hg hm ?_ hd)⟩
  obtain ⟨δ, s0, A, R, hw⟩ := h
  have rd : tAP C W F fs σ H _ := ⟨δ, s0, A, R, Wt.thenA (Rel := fun s => RepPs C s.G) R hw⟩
  have run : ∀ us s1, AP X pins σ (fun vs H1 => ∃ d s1, ExtS s0 s1 ∧ AtS C F s1 H1 ∧ RepS C s1 δ σ ∧ RepPs C s1.G d vs ∧ WantE C W F (RepD C) σ s1 (freshG (g (d.map D.p) []) s1.S) Q) us s1 → wpAny (model X.prog X.w) X.A (call u us) (EP X pins σ Q) X.xe s1 := by
    rintro us s1 ⟨vs, H1, I1, rv, d, t1, e1, A1, R1, r1, w1⟩
    exact wpAny_call (cal X W X.A pins s1 σ H1 us vs Q rfl rfl rfl rfl rfl sp.tk (sp.hr.mono (Nat.le_add_right _ _)) rfl I1 rv (spI_fresh A1 r1 w1))
  cases es with
  | nil =>
    refine PySem.W.callWith_K0 I.kIn hk ?_
    have z := ha.run pos pins s σ H _ I rd
    have z' : wpAny (model X.prog X.w) X.A (pure []) (AP X pins σ _) X.xe s := z
    exact wpAny_bind (f := fun us => call u us) (wpAny_mono z' (fun us s1 q => run us s1 q) fun _ _ z => z)
  | cons e es =>
    simp only [List.all_cons, Bool.and_eq_true] at hs
    refine PySem.W.callWith_K (h₀ := X.base) I.ok.mod.kin hk (thn (ha.run pos pins s σ H _ I rd) fun us s1 q => ⟨?_, ?_⟩) (star_cons hs.1) (star_none hs.2)
    · obtain ⟨_, _, I1, _⟩ := q
      exact I1.kIn
    · exact run us s1 q
/-! ### a call that is lent lists -/
open Classical in
/-- what stands still for a moment: the lists that are lent -/
noncomputable def lentG (ds : List D) (s : Sit) (H : Hp) : Hp := fun a => match s.G a with
  | some o => some o
  | none => if ∃ (n : Nat) (ys : List P), D.loc n ∈ ds ∧ s.S[n]? = some (Slot.live (Cell.lst ys)) ∧ s.μ[n]? = some a then H a else none
variable {ds : List D}
theorem lent_old {a : Addr} {o : HO} (h : s.G a = some o) : lentG ds s H a = some o := by
  unfold lentG
  rw [h]
theorem lent_new {a : Addr} {n : Nat} {ys : List P} (h : s.G a = none) (h0 : D.loc n ∈ ds) (h1 : s.S[n]? = some (.live (.lst ys))) (h2 : s.μ[n]? = some a) : lentG ds s H a = H a := by
  unfold lentG
  rw [h]
  exact if_pos ⟨n, ys, h0, h1, h2⟩
theorem lent_none {a : Addr} (h : s.G a = none) (h1 : ¬ ∃ (n : Nat) (ys : List P), D.loc n ∈ ds ∧ s.S[n]? = some (Slot.live (Cell.lst ys)) ∧ s.μ[n]? = some a) : lentG ds s H a = none := by
  unfold lentG
  rw [h]
  exact if_neg h1
theorem lent_same (A : AtS C F s H) : Same (lentG ds s H) H := fun a o e => by
  unfold lentG at e
  split at e
  · rename_i u q
    cases e
    exact A.sub a _ q
  · split at e
    · exact e
    · cases e
theorem lent_rep (A : AtS C F s H) : ∀ (es : List D) (vs : List V) (xs : List P), (∀ d ∈ es, d ∈ ds) → RepDs C s es vs → peeks es s.S = some xs → RepPs C (lentG ds s H) xs vs
  | [], vs, xs, _, r, e => by
    simp only [peeks, Option.some.injEq] at e
    subst e
    simp only [RepPs]
    exact r
  | d :: es, vs, xs, hd, r, e => by
    obtain ⟨v, ws, rfl, r1, r2⟩ := r
    simp only [peeks] at e
    split at e
    · rename_i x ys q1 q2
      cases e
      simp only [RepPs]
      refine ⟨v, ws, rfl, ?_, lent_rep A es ws ys (fun z hz => hd z (List.mem_cons_of_mem _ hz)) r2 q2⟩
      have old : Same s.G (lentG ds s H) := fun a o z => lent_old z
      cases d with
      | p y =>
        simp only [peek, Option.some.injEq] at q1
        subst q1
        exact RepP.mono old y v r1
      | cls c => cases q1
      | loc n =>
        obtain ⟨a, ha, rfl⟩ := r1
        simp only [peek] at q1
        split at q1
        · rename_i zs q
          cases q1
          obtain ⟨b, o, k1, k2, k3, k4, k5⟩ := A.live n _ q
          rw [ha] at k1
          cases k1
          obtain ⟨us, rfl, k6⟩ := k5
          simp only [RepP]
          exact ⟨a, us, rfl, by rw [lent_new k2 (hd _ List.mem_cons_self) q ha]; exact k4, RepPs.mono old zs us k6⟩
        · rename_i z q
          cases q1
          obtain ⟨b, k1, k2⟩ := A.fzn n _ q
          rw [ha] at k1
          cases k1
          exact RepP.mono old x _ k2
        · cases q1
    · cases e
/-- behind such a call all is as it was -/
theorem lent_back (A : AtS C F s H) {G' H' : Hp} (h1 : Same (lentG ds s H) G') (h2 : Same G' H') (h3 : Frz (lentG ds s H) H G' H') : AtS C F s H' := by
  have old : Same s.G H' := fun a o z => h2 _ _ (h1 _ _ (lent_old z))
  have keep : ∀ a o, H a = some o → s.G a = none → H' a = some o := fun a o z n => by
    by_cases c : ∃ (n : Nat) (ys : List P), D.loc n ∈ ds ∧ s.S[n]? = some (Slot.live (Cell.lst ys)) ∧ s.μ[n]? = some a
    · obtain ⟨m, ys, c0, c1, c2⟩ := c
      exact h2 _ _ (h1 _ _ (by rw [lent_new n c0 c1 c2]; exact z))
    · exact (h3 a o z (lent_none n c)).1
  exact ⟨old, A.len, A.fzn, fun n c e => by
    obtain ⟨a, o, k1, k2, k3, k4, k5⟩ := A.live n c e
    exact ⟨a, o, k1, k2, k3, keep a o k4 k2, k5⟩, A.inj, fun a o e => ⟨keep a o (A.frm a o e).1 (A.frm a o e).2, (A.frm a o e).2⟩, A.lk⟩
/-! what comes back holds no lent list -/
open Classical in
noncomputable def dropG (ds : List D) (s : Sit) (G' : Hp) : Hp := fun a => if ∃ (n : Nat) (ys : List P), D.loc n ∈ ds ∧ s.S[n]? = some (Slot.live (Cell.lst ys)) ∧ s.μ[n]? = some a then none else G' a
theorem flat_clash {G : Hp} {x y : P} {v : V} (h : (flatP x != flatP y) = true) (r1 : RepP C G x v) (r2 : RepP C G y v) : False := by
  cases x <;> cases y <;> first | (simp [flatP] at h; done) | (simp only [RepP] at r1 r2; grind)
theorem clash_no {G0 G : Hp} {xs ys : List P} {vs : List V} (sm : Same G0 G) (hk : ∀ a o, G0 a = some o → C.K.lookup a = none) (h : clash xs ys = true) (r1 : RepPs C G xs vs) (r2 : RepPs C G0 ys vs) : False := by
  cases xs with
  | nil =>
    cases ys with
    | nil => cases h
    | cons y ys =>
      simp only [RepPs] at r1 r2
      subst r1
      obtain ⟨v, ws, e, _⟩ := r2
      cases e
  | cons x xs =>
    cases ys with
    | nil =>
      simp only [RepPs] at r1 r2
      subst r2
      obtain ⟨v, ws, e, _⟩ := r1
      cases e
    | cons y ys =>
      simp only [RepPs] at r1 r2
      obtain ⟨v, ws, rfl, p1, _⟩ := r1
      obtain ⟨v', ws', e, p2, _⟩ := r2
      cases e
      simp only [clash] at h
      split at h
      · simp only [RepP] at p1 p2
        obtain ⟨a, us, rfl, sq, _⟩ := p1
        obtain ⟨_, b, dx, us', e, hg, _⟩ := p2
        cases e
        have hg' := sm _ _ hg
        rcases sq with (k | ⟨o, k⟩) | ⟨o, its, n, k, _⟩
        · rw [hg'] at k
          cases k
        · rw [hg'] at k
          cases k
        · rw [hk _ _ hg] at k
          cases k
      · exact flat_clash h p1 (RepP.mono sm _ _ p2)
section
variable {G' : Hp} (A : AtS C F s H) (hk : ∀ a o, H a = some o → C.K.lookup a = none) (h1 : Same (lentG ds s H) G')
include A h1
theorem lent_place {a : Addr} (c : ∃ (n : Nat) (ys : List P), D.loc n ∈ ds ∧ s.S[n]? = some (Slot.live (Cell.lst ys)) ∧ s.μ[n]? = some a) : ∃ (n : Nat) (ys : List P) (us : List V), D.loc n ∈ ds ∧ s.S[n]? = some (Slot.live (Cell.lst ys)) ∧ s.G a = none ∧ G' a = some (.lst us) ∧ RepPs C s.G ys us := by
  obtain ⟨n, ys, c0, c1, c2⟩ := c
  obtain ⟨b, o, k1, k2, k3, k4, k5⟩ := A.live n _ c1
  rw [c2] at k1
  cases k1
  obtain ⟨us, rfl, k6⟩ := k5
  exact ⟨n, ys, us, c0, c1, k2, h1 _ _ (by rw [lent_new k2 c0 c1 c2]; exact k4), k6⟩
theorem drop_keep {a : Addr} {o : HO} (h : G' a = some o) (no : ∀ us, o ≠ .lst us) : dropG ds s G' a = some o := by
  unfold dropG
  rw [if_neg]
  · exact h
  · intro c
    obtain ⟨n, ys, us, _, _, _, e, _⟩ := lent_place A h1 c
    rw [h] at e
    cases e
    exact no us rfl
include hk
mutual
theorem sep_rep : ∀ (x : P) (v : V), sepD x ds s.S = true → RepP C G' x v → RepP C (dropG ds s G') x v
  | .non, v, _, r => by simp only [RepP] at r ⊢; exact r
  | .bl _, v, _, r => by simp only [RepP] at r ⊢; exact r
  | .int _, v, _, r => by simp only [RepP] at r ⊢; exact r
  | .str _, v, _, r => by simp only [RepP] at r ⊢; exact r
  | .scr ns, v, _, r => by
    simp only [RepP] at r ⊢
    obtain ⟨a, e, k⟩ := r
    refine ⟨a, e, ?_⟩
    rcases k with ⟨o, k⟩ | k
    · exact .inl ⟨o, drop_keep A h1 k (fun us z => by cases z)⟩
    · exact .inr k
  | .tup xs, v, hs, r => by
    simp only [RepP] at r ⊢
    obtain ⟨a, vs, e, sq, rs⟩ := r
    refine ⟨a, vs, e, ?_, sep_reps xs vs ?_ rs⟩
    · rcases sq with (k | ⟨o, k⟩) | k
      · exact .inl (.inl (drop_keep A h1 k (fun us z => by cases z)))
      · exact .inl (.inr ⟨o, drop_keep A h1 k (fun us z => by cases z)⟩)
      · exact .inr k
    · intro n ys c0 c1
      have := List.all_eq_true.mp hs _ c0
      simp only [c1, sepP] at this
      exact this
  | .lst xs, v, hs, r => by
    simp only [RepP] at r ⊢
    obtain ⟨a, vs, e, hg, rs⟩ := r
    have sep : ∀ (n : Nat) (ys : List P), D.loc n ∈ ds → s.S[n]? = some (Slot.live (Cell.lst ys)) → clash xs ys = true ∧ sepPs ys xs = true := fun n ys c0 c1 => by
      have := List.all_eq_true.mp hs _ c0
      simp only [c1, sepP, Bool.and_eq_true] at this
      exact this
    refine ⟨a, vs, e, ?_, sep_reps xs vs (fun n ys c0 c1 => (sep n ys c0 c1).2) rs⟩
    unfold dropG
    rw [if_neg]
    · exact hg
    · intro c
      obtain ⟨n, ys, us, c0, c1, _, e2, k6⟩ := lent_place A h1 c
      rw [hg] at e2
      cases e2
      exact clash_no (fun b o z => h1 _ _ (lent_old z)) (fun b o z => hk b o (A.sub _ _ z)) (sep n ys c0 c1).1 rs k6
  | .dic ks xs, v, hs, r => by
    simp only [RepP] at r ⊢
    obtain ⟨a, vs, e, hg, hl, rs⟩ := r
    refine ⟨a, vs, e, drop_keep A h1 hg (fun us z => by cases z), hl, sep_reps xs vs ?_ rs⟩
    intro n ys c0 c1
    have := List.all_eq_true.mp hs _ c0
    simp only [c1, sepP] at this
    exact this
  | .exn c xs, v, hs, r => by
    simp only [RepP] at r ⊢
    obtain ⟨t, a, vs, e, hx, rs⟩ := r
    refine ⟨t, a, vs, e, ?_, sep_reps xs vs ?_ rs⟩
    · rcases hx with ⟨n1, k1⟩ | ⟨dx, f, w, n1, f1, k1, k2⟩
      · exact Or.inl ⟨n1, drop_keep A h1 k1 (fun us z => by unfold exo at z; cases z)⟩
      · exact Or.inr ⟨dx, f, w, n1, f1, drop_keep A h1 k1 (fun us z => by unfold exo at z; cases z), drop_keep A h1 k2 (fun us z => by cases z)⟩
    · intro n ys c0 c1
      have := List.all_eq_true.mp hs _ c0
      simp only [c1, sepP] at this
      exact this
  | .ob c xs, v, hs, r => by
    simp only [RepP] at r ⊢
    obtain ⟨kn, a, dx, vs, e, hg, hl, rs⟩ := r
    refine ⟨kn, a, dx, vs, e, drop_keep A h1 hg (fun us z => by cases z), hl, sep_reps xs vs ?_ rs⟩
    intro n ys c0 c1
    have := List.all_eq_true.mp hs _ c0
    simp only [c1, sepP] at this
    exact this
theorem sep_reps : ∀ (xs : List P) (vs : List V), (∀ (n : Nat) (ys : List P), D.loc n ∈ ds → s.S[n]? = some (Slot.live (Cell.lst ys)) → sepPs ys xs = true) → RepPs C G' xs vs → RepPs C (dropG ds s G') xs vs
  | [], vs, _, r => by simp only [RepPs] at r ⊢; exact r
  | x :: xs, vs, hs, r => by
    simp only [RepPs] at r ⊢
    obtain ⟨v, ws, e, r1, r2⟩ := r
    refine ⟨v, ws, e, sep_rep x v ?_ r1, sep_reps xs ws (fun n ys c0 c1 => ?_) r2⟩
    · refine List.all_eq_true.mpr fun d hd => ?_
      cases d with
      | loc n =>
        dsimp only
        split
        · rename_i ys c1
          have := hs n ys hd c1
          simp only [sepPs, Bool.and_eq_true] at this
          exact this.1
        · rfl
      | p y => rfl
      | cls c => rfl
    · have := hs n ys c0 c1
      simp only [sepPs, Bool.and_eq_true] at this
      exact this.2
end
end
theorem drop_at (A : AtS C F s H) {G' H' : Hp} (h1 : Same (lentG ds s H) G') (h2 : Same G' H') (h3 : Frz (lentG ds s H) H G' H') : AtS C F ⟨dropG ds s G', s.μ, s.S⟩ H' ∧ ExtS s ⟨dropG ds s G', s.μ, s.S⟩ := by
  have B := lent_back A h1 h2 h3
  have ex : ExtS s ⟨dropG ds s G', s.μ, s.S⟩ := ⟨(fun a o z => by
    show dropG ds s G' a = some o
    unfold dropG
    rw [if_neg]
    · exact h1 _ _ (lent_old z)
    · intro c
      obtain ⟨n, ys, us, _, _, e, _, _⟩ := lent_place A h1 c
      rw [z] at e
      cases e), List.prefix_refl _⟩
  have none : ∀ a o, H a = some o → s.G a = none → dropG ds s G' a = none := fun a o z n => by
    unfold dropG
    by_cases c : ∃ (n : Nat) (ys : List P), D.loc n ∈ ds ∧ s.S[n]? = some (Slot.live (Cell.lst ys)) ∧ s.μ[n]? = some a
    · rw [if_pos c]
    · rw [if_neg c]
      exact (h3 a o z (lent_none n c)).2
  refine ⟨⟨fun a o z => ?_, A.len, fun n x e => ?_, fun n c e => ?_, A.inj, fun a o e => ?_, A.lk.to ex (fun n c e => e)⟩, ex⟩
  · have z : dropG ds s G' a = some o := z
    unfold dropG at z
    split at z
    · cases z
    · exact h2 _ _ z
  · obtain ⟨a, k1, k2⟩ := A.fzn n x e
    exact ⟨a, k1, RepP.mono ex.G x _ k2⟩
  · obtain ⟨a, o, k1, k2, k3, k4, k5⟩ := A.live n c e
    obtain ⟨a', o', j1, j2, j3, j4, j5⟩ := B.live n c e
    rw [k1] at j1
    cases j1
    exact ⟨a, o', k1, none a o k4 k2, k3, j4, RepC.mono ex c o' j5⟩
  · exact ⟨(B.frm a o e).1, none a o (A.frm a o e).1 (A.frm a o e).2⟩
theorem frz_at (A : AtS C F s H) {G' H' : Hp} {n : Nat} (e : s.S[n]? = some (.live (.lst []))) (h1 : Same (lentG [.loc n] s H) G') (h2 : Same G' H') (h3 : Frz (lentG [.loc n] s H) H G' H') : AtS C F ⟨G', s.μ, s.S.set n (.fz (.lst []))⟩ H' ∧ ExtS s ⟨G', s.μ, s.S.set n (.fz (.lst []))⟩ := by
  have B := lent_back A h1 h2 h3
  have ex : ExtS s ⟨G', s.μ, s.S.set n (.fz (.lst []))⟩ := ⟨fun a o z => h1 _ _ (lent_old z), List.prefix_refl _⟩
  obtain ⟨q, o, k1, k2, k3, k4, vs, ho, rf⟩ := A.live n _ e
  subst ho
  simp only [RepPs] at rf
  subst rf
  have ln : n < s.S.length := (List.getElem?_eq_some_iff.mp e).1
  refine ⟨⟨h2, by show s.μ.length = (s.S.set n _).length; rw [List.length_set]; exact A.len, fun m x z => ?_, fun m c z => ?_, fun m m' c c' a z z' p p' => ?_, fun a o z => ?_, A.lk.to ex (fun m d q => (get_set q).elim (fun z => by cases z.2) fun z => z.2)⟩, ex⟩
  · have z : (s.S.set n (.fz (.lst [])))[m]? = some (.fz x) := z
    by_cases c : n = m
    · subst c
      rw [List.getElem?_set_self ln] at z
      cases z
      refine ⟨q, k1, ?_⟩
      simp only [RepP]
      exact ⟨q, [], rfl, h1 _ _ (by rw [lent_new k2 List.mem_cons_self e k1]; exact k4), by simp only [RepPs]⟩
    · rw [List.getElem?_set_ne c] at z
      obtain ⟨a, j1, j2⟩ := A.fzn m x z
      exact ⟨a, j1, RepP.mono ex.G x _ j2⟩
  · have z : (s.S.set n (.fz (.lst [])))[m]? = some (.live c) := z
    by_cases d : n = m
    · subst d
      rw [List.getElem?_set_self ln] at z
      cases z
    · rw [List.getElem?_set_ne d] at z
      obtain ⟨a, o, j1, j2, j3, j4, j5⟩ := B.live m c z
      obtain ⟨a', o', i1, i2, i3, i4, i5⟩ := A.live m c z
      rw [i1] at j1
      cases j1
      have no : ¬ ∃ (k : Nat) (ys : List P), D.loc k ∈ [D.loc n] ∧ s.S[k]? = some (Slot.live (Cell.lst ys)) ∧ s.μ[k]? = some a := by
        rintro ⟨k, ys, l0, l1, l2⟩
        cases List.mem_singleton.mp l0
        exact d (A.inj _ _ _ _ _ l1 z l2 i1)
      exact ⟨a, o, i1, (h3 a o' i4 (lent_none i2 no)).2, i3, j4, RepC.mono ex c o j5⟩
  · have z : (s.S.set n (.fz (.lst [])))[m]? = some (.live c) := z
    have z' : (s.S.set n (.fz (.lst [])))[m']? = some (.live c') := z'
    have d : n ≠ m := fun d => by
      subst d
      rw [List.getElem?_set_self ln] at z
      cases z
    have d' : n ≠ m' := fun d => by
      subst d
      rw [List.getElem?_set_self ln] at z'
      cases z'
    rw [List.getElem?_set_ne d] at z
    rw [List.getElem?_set_ne d'] at z'
    exact A.inj m m' c c' a z z' p p'
  · refine ⟨(B.frm a o z).1, ?_⟩
    have no : ¬ ∃ (k : Nat) (ys : List P), D.loc k ∈ [D.loc n] ∧ s.S[k]? = some (Slot.live (Cell.lst ys)) ∧ s.μ[k]? = some a := by
      rintro ⟨k, ys, l0, l1, l2⟩
      obtain ⟨a', o', i1, i2, i3, i4, i5⟩ := A.live k _ l1
      rw [l2] at i1
      cases i1
      rw [i3] at z
      cases z
    exact (h3 a o (A.frm a o z).1 (lent_none (A.frm a o z).2 no)).2
theorem spP_lent {g : PFn} {ds : List D} {xs : List P} {vs : List V} {Q : VK} (A : AtS C F s H) (hk : ∀ a o, H a = some o → C.K.lookup a = none) (r : RepDs C s ds vs) (e : peeks ds s.S = some xs) (h : WantE C W F (RepD C) σ s (lentR ds (g xs) s.S) Q) : spP C g vs H Q (WE W σ) := by
  refine ⟨lentG ds s H, xs, lent_same A, lent_rep A ds vs xs (fun d hd => hd) r e, ?_⟩
  cases hg : g xs with
  | stuck =>
    rw [hg] at h
    exact h
  | exc c x =>
    rw [hg] at h
    cases x with
    | some y => exact h.elim
    | none =>
      intro dx G' H' h1 h2 h3 rx
      exact h dx s H' rfl (ExtS.refl s) (lent_back A h1 h2 h3) rx
  | ok x =>
    rw [hg] at h
    simp only [lentR] at h
    split at h
    · rename_i hf
      intro v G' H' h1 h2 h3 rx
      by_cases c : flatP x = true
      · exact h s H' rfl (ExtS.refl s) (lent_back A h1 h2 h3) v (flat_rep c rx)
      · have hs : sepD x ds s.S = true := by
          simp only [Bool.or_eq_true] at hf
          exact hf.resolve_left c
        obtain ⟨A2, ex⟩ := drop_at A h1 h2 h3
        exact h ⟨dropG ds s G', s.μ, s.S⟩ H' rfl ex A2 v (sep_rep A hk h1 x v hs rx)
    · split at h
      · rename_i n hneg
        split at h
        · rename_i q
          intro v G' H' h1 h2 h3 rx
          obtain ⟨A2, ex⟩ := frz_at A q h1 h2 h3
          exact h ⟨G', s.μ, s.S.set n (.fz (.lst []))⟩ H' rfl ex A2 v rx
        · exact h.elim
      · exact h.elim
def lentC (g : PFn) (ds : List D) (S : Sto) : RE D := match peeks ds S with
  | some xs => lentR ds (g xs) S
  | none => .stuck
theorem x_bcall (sp : Spot C W X k) {x : Str} {u : Value} {g : PFn} (hg : Gl X x) (hm : X.mg x = some u) (hk : PySem.W.keepIn X.K u = true) (cal : Cal C X.prog X.w X.K X.mg X.base k u g) (hd : (x == ("__debug__" : Str)) = false) (hs : es.all notStar = true) (ha : PA X es (tAD C W F fd)) :
    PE X (.Call (.Name x p) es [] pos) (tE C W F fun δ S => (fd δ S).bind fun ds S1 => lentC g ds S1) := by
  refine ⟨fun pins s σ H Q I h => wpAny_Call_Name_kw (ld_glob I hg hm ?_ hd)⟩
  obtain ⟨δ, s0, A, R, hw⟩ := h
  have rd : tAD C W F fd σ H _ := ⟨δ, s0, A, R, Wt.thenA (Rel := RepDs C) R hw⟩
  have run : ∀ us s1, AP X pins σ (fun vs H1 => ∃ d s1, ExtS s0 s1 ∧ AtS C F s1 H1 ∧ RepS C s1 δ σ ∧ RepDs C s1 d vs ∧ WantE C W F (RepD C) σ s1 (lentC g d s1.S) Q) us s1 → wpAny (model X.prog X.w) X.A (call u us) (EP X pins σ Q) X.xe s1 := by
    rintro us s1 ⟨vs, H1, I1, rv, d, t1, e1, A1, R1, r1, w1⟩
    unfold lentC at w1
    have hdis : ∀ a o, H1 a = some o → C.K.lookup a = none := fun a o z => by
      rw [sp.hk]
      cases e : X.K.lookup a with
      | none => rfl
      | some u =>
        have := (I1.bs a u (I1.ok.mod.kin a u e)).2
        rw [z] at this
        cases this
    split at w1
    · rename_i xs q
      exact wpAny_call (cal X W X.A pins s1 σ H1 us vs Q rfl rfl rfl rfl rfl sp.tk (sp.hr.mono (Nat.le_add_right _ _)) rfl I1 rv (spP_lent A1 hdis r1 q w1))
    · exact w1.elim
  cases es with
  | nil =>
    refine PySem.W.callWith_K0 I.kIn hk ?_
    have z := ha.run pos pins s σ H _ I rd
    have z' : wpAny (model X.prog X.w) X.A (pure []) (AP X pins σ _) X.xe s := z
    exact wpAny_bind (f := fun us => call u us) (wpAny_mono z' (fun us s1 q => run us s1 q) fun _ _ z => z)
  | cons e es =>
    simp only [List.all_cons, Bool.and_eq_true] at hs
    refine PySem.W.callWith_K (h₀ := X.base) I.ok.mod.kin hk (thn (ha.run pos pins s σ H _ I rd) fun us s1 q => ⟨?_, ?_⟩) (star_cons hs.1) (star_none hs.2)
    · obtain ⟨_, _, I1, _⟩ := q
      exact I1.kIn
    · exact run us s1 q
/-! ### a comprehension over a list that lives on -/
theorem bor_get {n : Nat} {xs : List P} {S : Sto} (h : borG n xs S = true) : S[n]? = some (.live (.lst xs)) := by
  unfold borG at h
  split at h
  · rename_i ys q
    rw [sameL_eq xs ys h]
    exact q
  · cases h
/-- the iterator gives these as long as the list stands -/
def ItOkB (C : CC) (s : Sit) (n : Nat) (xs : List P) (J : L2.It) : Prop := ∀ F s' H i, ExtS s s' → AtS C F s' H → borG n xs s'.S = true →
  (∀ x, xs[i]? = some x → J.go i H ∧ ∀ v H', J.yld i H v H' → ∃ s2, ExtS s' s2 ∧ s2.S = s'.S ∧ AtS C F s2 H' ∧ RepP C s2.G x v) ∧ (xs.length = i → J.stop i H)
theorem it_bor {n : Nat} {xs : List P} {q : Addr} (hm : s.μ[n]? = some q) : ItOkB C s n xs (Itl X.K q) := by
  intro F s' H i ex A gd
  obtain ⟨a, o, k1, k2, k3, k4, k5⟩ := A.live n _ (bor_get gd)
  have e := pre_get ex.μ hm
  rw [k1] at e
  cases e
  obtain ⟨vs, rfl, r⟩ := k5
  have hH : SqL X.K H q vs := SqL.of k4
  refine ⟨fun x hx => ?_, fun hi => ⟨vs, hH, by rw [← RepPs.len xs vs r]; omega⟩⟩
  obtain ⟨v, hv, rv⟩ := reps_at xs vs i r hx
  refine ⟨⟨vs, v, hH, hv⟩, fun w H' ⟨e, y⟩ => ?_⟩
  subst e
  have e2 := y vs hH
  rw [hv] at e2
  cases e2
  exact ⟨s', ExtS.refl s', rfl, A, rv⟩
def tIB (C : CC) (W : WX) (F : Hp) (i : Nat) : TI := fun σ H R => ∃ δ s, AtS C F s H ∧ RepS C s δ σ ∧ Wt C W F σ s (borV i δ s.S) fun nx s' H' => ∀ J, ItOkB C s' nx.1 nx.2 J → R J H'
theorem i_bor {tg : Expr} {i : Nat} {y : Str} {np : Pos} (hx : PE X (.Name y np) (tE C W F fun δ S => match δ[i]? with
    | some (some d) => .ok d S
    | _ => .stuck)) : PI X tg (.Name y np) (tIB C W F i) :=
  PI.imp (pi_seq hx) fun σ H R ⟨δ, s, A, RR, h⟩ => by
    refine ⟨δ, s, A, RR, ?_⟩
    unfold borV at h
    split at h
    · rename_i n q
      split at h
      · rename_i xs q2
        dsimp only
        rw [q]
        intro s' H' hS ex A' v r
        obtain ⟨a, hm, rfl⟩ := r
        obtain ⟨b, o, k1, k2, k3, k4, k5⟩ := A'.live n (.lst xs) (by rw [hS]; exact q2)
        rw [hm] at k1
        cases k1
        obtain ⟨vs, rfl, k6⟩ := k5
        exact .inl ⟨a, rfl, .inl ⟨⟨vs, SqL.of k4⟩, h s' H' hS ex A' _ (it_bor hm)⟩⟩
      · exact h.elim
    · exact h.elim
theorem lc_wantB {t : Tg} {i0 : Nat} {fc fe : DEnv → Sto → RE D} {lv : Bool} {Q : VK} (h : tE C W F (fun δ S => (borV i0 δ S).bind fun nx S1 => if lineOk nx.2.length then (compB (borG nx.1 nx.2) (bindT t) fc fe (wipeD δ (tgIx t)) nx.2 S1).bind (compR lv) else .stuck) σ H Q) :
    tLc (tIB C W F i0) (fun v σ H Q => ∃ F, gT C F t v σ H Q) (fun σ H Q => ∃ F, tT C WF F fc σ H Q) (fun σ H Q => ∃ F, tE C WF F fe σ H Q) (tgIx t) σ H Q := by
  obtain ⟨δ, s, A, R, h⟩ := h
  refine ⟨δ, s, A, R, Wt.imp (Wt.bind h) fun nx s1 H1 _ e1 A1 h1 J ok D hD => ?_⟩
  obtain ⟨n0, xs⟩ := nx
  dsimp only at h1 ok
  split at h1
  case isFalse => exact h1.elim
  rename_i hline
  have R1 := R.mono e1
  have hF : F D = none := A1.fnone hD
  let inv : Nat → Hp → Prop := fun i H => i ≤ xs.length ∧ ∃ s' acc vs, ExtS s1 s' ∧ AtS C (upd F D (.lst vs)) s' H ∧ RepPs C s'.G acc vs ∧ acc.length ≤ i ∧
    WantE C W F (RepD C) σ s' ((compB (borG n0 xs) (bindT t) fc fe (wipeD δ (tgIx t)) (xs.drop i) s'.S).bind fun ys S4 => compR lv (acc ++ ys) S4) Q
  refine ⟨fun i m H => m = xs.length - i ∧ inv i H, ⟨xs.length, by simp, Nat.zero_le _, s1, [], [], ExtS.refl s1, A1.frame hD, by simp only [RepPs], Nat.le_refl _, ?_⟩, ?_⟩
  · rw [List.drop_zero]
    exact h1
  rintro i m H ⟨rfl, hi, s2, acc, vs, e2, A2, ra, hacc, h2⟩
  have gd : borG n0 xs s2.S = true := by
    cases q : borG n0 xs s2.S with
    | true => rfl
    | false =>
      cases hl : xs.drop i with
      | nil =>
        rw [hl] at h2
        simp only [compB, q, Bool.false_eq_true, if_false, RE.bind] at h2
        exact h2.elim
      | cons y ys =>
        rw [hl] at h2
        simp only [compB, q, Bool.false_eq_true, if_false, RE.bind] at h2
        exact h2.elim
  obtain ⟨ok1, ok2⟩ := ok _ s2 H i e2 A2 gd
  by_cases hlt : i < xs.length
  · have hx : xs[i]? = some xs[i] := List.getElem?_eq_getElem hlt
    obtain ⟨go, yl⟩ := ok1 _ hx
    refine .inr ⟨go, inv (i + 1), fun H' q => ⟨xs.length - (i + 1), by omega, rfl, q⟩, fun v H' y => ?_⟩
    obtain ⟨s3, e3, hS, A3, r3⟩ := yl v H' y
    rw [List.drop_eq_getElem_cons hlt] at h2
    simp only [compB, gd, if_true] at h2
    have h3 := Wt.ext e3 h2
    rw [← hS] at h3
    refine ⟨_, wipeD δ (tgIx t), s3, xs[i], A3, (R1.mono (e2.trans e3)).wipe _, r3, ?_⟩
    cases hb : bindT t xs[i] (wipeD δ (tgIx t)) with
    | none =>
      rw [hb] at h3
      exact h3.elim
    | some δ' =>
      rw [hb] at h3
      intro σ' R' u'
      refine ⟨wipe_upto u', _, δ', s3, A3, R', ?_⟩
      dsimp only at h3
      cases ht : fc δ' s3.S with
      | stuck =>
        rw [ht] at h3
        exact h3.elim
      | exc c x S' =>
        rw [ht] at h3
        exact h3.elim
      | ok d S1 =>
        rw [ht] at h3
        intro s4 H4 hS4 e4 A4
        subst hS4
        cases d with
        | p z =>
          cases z with
          | bl b =>
            have h4 := Wt.ext e4 h3
            cases b with
            | false =>
              dsimp only
              rw [if_neg Bool.false_ne_true]
              exact ⟨hlt, s4, acc, vs, (e2.trans e3).trans e4, A4, RepPs.mono (e3.trans e4).G acc vs ra, Nat.le_succ_of_le hacc, h4⟩
            | true =>
              dsimp only at h4 ⊢
              rw [if_pos rfl]
              refine ⟨_, δ', s4, A4, R'.mono e4, ?_⟩
              cases hx' : fe δ' s4.S with
              | stuck =>
                rw [hx'] at h4
                exact h4.elim
              | exc c x S' =>
                rw [hx'] at h4
                exact h4.elim
              | ok d2 S2 =>
                rw [hx'] at h4
                intro s5 H5 hS5 e5 A5 w rw'
                subst hS5
                dsimp only at h4
                cases hp : purify d2 s5.S with
                | stuck =>
                  rw [hp] at h4
                  exact h4.elim
                | exc c x S' => exact (purify_not hp).elim
                | ok z S3 =>
                  rw [hp] at h4
                  obtain ⟨s6, hS6, A6, e6, r6⟩ := purify_ok A5 rw' hp
                  subst hS6
                  have hD5 := (A6.frm D _ upd_same).1
                  have ee := (e3.trans e4).trans (e5.trans e6)
                  have ra6 := RepPs.mono ee.G acc vs ra
                  have hl : vs.length < sizeLine := by
                    rw [← RepPs.len acc vs ra]
                    have q1 := line_of hline
                    omega
                  refine ⟨vs, hD5, hl, hlt, s6, acc ++ [z], vs ++ [w], e2.trans ee, A6.reframe hF, reps_app acc vs ra6 (by simp only [RepPs]; exact ⟨w, [], rfl, r6, rfl⟩), by simp; omega, ?_⟩
                  have h5 := Wt.ext (e5.trans e6) h4
                  dsimp only at h5
                  rw [RE.bind_assoc] at h5
                  simp only [RE.bind, List.append_assoc, List.cons_append, List.nil_append] at h5 ⊢
                  exact h5
          | _ => exact h3.elim
        | _ => exact h3.elim
  · have ei : i = xs.length := by omega
    subst ei
    refine .inl ⟨ok2 rfl, ?_⟩
    rw [List.drop_length] at h2
    simp only [compB, gd, if_true, RE.bind, List.append_nil] at h2
    obtain ⟨H0, h0, A0, rfl⟩ := A2.drop hF
    cases lv with
    | false => exact want_lst A0 ra h2 D h0
    | true => exact want_new A0 ra h2 D h0
variable {tg elt : Expr} {ifs : List Expr} {scope : Scope} {own : List (Str × Nat)} {t : Tg} {fc fe : DEnv → Sto → RE D} {py spos np : Pos}
theorem x_compb (lv : Bool) {i0 : Nat} {y : Str} (hc : X.calm = true) (hN : X.N.Nodup) (hx : PE X (.Name y np) (tE C W F fun δ S => match δ[i0]? with
    | some (some d) => .ok d S
    | _ => .stuck)) (ok : BlkOk X.N X.env.scope scope own) (ho : own.map (·.2) = tgIx t) (b : BlkIn C X tg elt ifs scope t fc fe) :
    PE X (.ListComp elt [⟨tg, .Name y np, ifs, 0⟩] scope pos) (tE C W F fun δ S => (borV i0 δ S).bind fun nx S1 => if lineOk nx.2.length then (compB (borG nx.1 nx.2) (bindT t) fc fe (wipeD δ (tgIx t)) nx.2 S1).bind (compR lv) else .stuck) :=
  PE.imp (pe_lc hc hN (i_bor hx) ok (fun s H A cl fp => exF_pg (b.g s H A cl fp)) (fun s H A cl fp => exF_pt (b.c s H A cl fp)) (fun s H A cl fp => exF_pe (b.e s H A cl fp)) (notSet_it rfl)) fun σ H Q h => by
    rw [ho]
    exact lc_wantB h
theorem s_setcb (lv : Bool) {i0 i : Nat} {y z : Str} {py spos : Pos} (hc : X.calm = true) (hN : X.N.Nodup) (hy : X.N[i]? = some z) (hyl : X.env.scope.names.lookup z = some .local) (hk : X.env.scope.kind = .function) (hl : (py.line == pos.line) = true) (ha : (scope.names.any fun (n, k) => n == z && (k == .local || k == .cell)) = false)
    (hx : PE X (.Name y np) (tE C W F fun δ S => match δ[i0]? with
    | some (some d) => .ok d S
    | _ => .stuck)) (ok : BlkOk X.N X.env.scope scope own) (ho : own.map (·.2) = tgIx t) (b : BlkIn C X tg elt ifs scope t fc fe) :
    PS X (.Assign [.Name z py] (.ListComp elt [⟨tg, .Name y np, ifs, 0⟩] scope pos) spos) (tS C W F fun δ S => ((borV i0 δ S).bind fun nx S1 => if lineOk nx.2.length then (compB (borG nx.1 nx.2) (bindT t) fc fe (wipeD δ (tgIx t)) nx.2 S1).bind (compR lv) else .stuck).st δ fun d S1 => .next (setSlot δ i d) S1) :=
  PS.imp (ps_setLc hc hN hy hyl (sw_true hk hyl hl ha) (i_bor hx) ok (fun s H A cl fp => exF_pg (b.g s H A cl fp)) (fun s H A cl fp => exF_pt (b.c s H A cl fp)) (fun s H A cl fp => exF_pe (b.e s H A cl fp)) (notSet_it rfl)) fun D σ H ⟨δ, s, A, R, h⟩ => by
    rw [ho]
    exact lc_wantB ⟨δ, s, A, R, Wt.imp (WantS.st R h) fun d s' H' _ ex A' hk v r => hk.next A' ((R.mono ex).set r)⟩
end
end RP
end

section
set_option Elab.async false
set_option linter.all false
set_option maxRecDepth 100000
set_option maxHeartbeats 4000000
/-! Calls with keywords; methods whose own new list goes on living. -/
namespace RP
open PySem L2
/-! ### keywords -/
section
variable (C : CC)
def spK (g : KFn) (vs zs : List V) (H : Hp) (Q : VK) (E : XK) : Prop := ∃ G xs ys, Same G H ∧ RepPs C G xs vs ∧ RepPs C G ys zs ∧ match g xs ys with
  | .ok x => ∀ v G' H', Same G G' → Same G' H' → Frz G H G' H' → RepP C G' x v → Q v H'
  | .exc c x => ∀ dx G' H', Same G G' → Same G' H' → Frz G H G' H' → RepX C G' c x dx → E (.ref (C.CA c)) dx H'
  | .stuck => False
/-- a thing that may be called with n values and keywords -/
def KCal (Pr : Program) (w : World) (K : PySem.W.Frag) (mg : Str → Option Value) (base : Heap) (k : Nat) (u : Value) (n : Nat) (ks : List Str) (g : KFn) : Prop :=
  ∀ (X : Cx) (W : WX) (pins : List (Addr × Obj)) (s : Shared) (σ : L2.St) (H : Hp) (us ws : List Value) (vs zs : List V) (Q : VK),
    X.prog = Pr → X.w = w → X.K = K → X.mg = mg → X.base = base → Takes X W → Room k X.A → Inv X pins σ H s → Vals vs us → Vals zs ws → spK C g vs zs H Q (WE W σ) →
    wpAny (model X.prog X.w) X.A (call u us (ks.zip ws)) (EP X pins σ Q) X.xe s
/-- the same, whose own new list goes on living -/
def KCalI (Pr : Program) (w : World) (K : PySem.W.Frag) (mg : Str → Option Value) (base : Heap) (k : Nat) (u : Value) (n : Nat) (ks : List Str) (g : IFn) : Prop :=
  ∀ (X : Cx) (W : WX) (pins : List (Addr × Obj)) (s : Shared) (σ : L2.St) (H : Hp) (us ws : List Value) (vs zs : List V) (Q : VK),
    X.prog = Pr → X.w = w → X.K = K → X.mg = mg → X.base = base → Takes X W → Room k X.A → Inv X pins σ H s → Vals vs us → Vals zs ws → vs.length = n → spI C g (vs ++ zs) H Q (WE W σ) →
    wpAny (model X.prog X.w) X.A (call u us (ks.zip ws)) (EP X pins σ Q) X.xe s
structure KEnt where
  i : Nat
  x : Str
  n : Nat
  ks : List Str
  f : KFn
  fi : IFn
def KfnsOk (Pr : Program) (w : World) (K : PySem.W.Frag) (mg : Str → Option Value) (base : Heap) (k : Nat) : List KEnt → Prop
  | [] => True
  | e :: l => (∃ u, mg e.x = some u ∧ PySem.W.keepIn K u = true ∧ KCal C Pr w K mg base k u e.n e.ks e.f ∧ KCalI C Pr w K mg base k u e.n e.ks e.fi) ∧ KfnsOk Pr w K mg base k l
def ImtsOk (Pr : Program) (w : World) (K : PySem.W.Frag) (mg : Str → Option Value) (base : Heap) (k : Nat) : List IEnt → Prop
  | [] => True
  | e :: l => (∃ f, Meth K (C.CA e.c) (C.NM e.m) f ∧ (∀ g ∈ C.FT e.c, C.NM g ≠ C.NM e.m) ∧ CalI C Pr w K mg base k (.ref f) e.f ∧ ∀ p ∈ e.kw, KCal C Pr w K mg base k (.ref f) 1 p.1 p.2) ∧ ImtsOk Pr w K mg base k l
def GoodI (Pr : Program) (w : World) (K : PySem.W.Frag) (mg : Str → Option Value) (base : Heap) (k : Nat) (Γ : Tab) : Prop :=
  ∀ c m g, Γ.imeth c m = some g → ∃ f, Meth K (C.CA c) (C.NM m) f ∧ (∀ f ∈ C.FT c, C.NM f ≠ C.NM m) ∧ CalI C Pr w K mg base k (.ref f) g
def GoodK (Pr : Program) (w : World) (K : PySem.W.Frag) (mg : Str → Option Value) (base : Heap) (k : Nat) (Γ : Tab) : Prop :=
  ∀ c m ks g, Γ.kmeth c m ks = some g → ∃ f, Meth K (C.CA c) (C.NM m) f ∧ (∀ f ∈ C.FT c, C.NM f ≠ C.NM m) ∧ KCal C Pr w K mg base k (.ref f) 1 ks g
end
section
variable {C : CC}
variable {P' : Program} {w : World} {K : PySem.W.Frag} {mg : Str → Option Value} {base : Heap} {k j : Nat} {f : Addr} {fd : FuncData} {ps ks : List Str} {u : Value} {n : Nat} {g : KFn}
theorem KCal.mono (h : KCal C P' w K mg base k u n ks g) (hk : k ≤ j) : KCal C P' w K mg base j u n ks g := fun X W pins s σ H us ws vs zs Q e1 e2 e3 e4 e5 tk r => h X W pins s σ H us ws vs zs Q e1 e2 e3 e4 e5 tk (r.mono hk)
theorem KCalI.mono {gi : IFn} (h : KCalI C P' w K mg base k u n ks gi) (hk : k ≤ j) : KCalI C P' w K mg base j u n ks gi := fun X W pins s σ H us ws vs zs Q e1 e2 e3 e4 e5 tk r => h X W pins s σ H us ws vs zs Q e1 e2 e3 e4 e5 tk (r.mono hk)
theorem KfnsOk.mono (hk : k ≤ j) : ∀ {l : List KEnt}, KfnsOk C P' w K mg base k l → KfnsOk C P' w K mg base j l
  | [], _ => trivial
  | _ :: _, ⟨⟨u, h1, h2, h3, h4⟩, h⟩ => ⟨⟨u, h1, h2, h3.mono hk, h4.mono hk⟩, KfnsOk.mono hk h⟩
theorem ImtsOk.mono (hk : k ≤ j) : ∀ {l : List IEnt}, ImtsOk C P' w K mg base k l → ImtsOk C P' w K mg base j l
  | [], _ => trivial
  | _ :: _, ⟨⟨u, h1, h2, h3, h4⟩, h⟩ => ⟨⟨u, h1, h2, fun X W A pins s σ H us vs Q e1 e2 e3 e4 e5 tk r => h3 X W A pins s σ H us vs Q e1 e2 e3 e4 e5 tk (r.mono hk), fun p hp => (h4 p hp).mono hk⟩, ImtsOk.mono hk h⟩
theorem KfnsOk.app : ∀ {l m : List KEnt}, KfnsOk C P' w K mg base k l → KfnsOk C P' w K mg base k m → KfnsOk C P' w K mg base k (l ++ m)
  | [], _, _, h => h
  | _ :: _, _, ⟨h1, h⟩, h2 => ⟨h1, KfnsOk.app h h2⟩
theorem ImtsOk.app : ∀ {l m : List IEnt}, ImtsOk C P' w K mg base k l → ImtsOk C P' w K mg base k m → ImtsOk C P' w K mg base k (l ++ m)
  | [], _, _, h => h
  | _ :: _, _, ⟨h1, h⟩, h2 => ⟨h1, ImtsOk.app h h2⟩
end
section
variable {C : CC} {P' : Program} {w : World} {K : PySem.W.Frag} {mg : Str → Option Value} {base : Heap} {k : Nat} {f : Addr} {fd : FuncData} {ps ks : List Str} {n : Nat}
end
section
variable {C : CC} {W : WX} {X : Cx} {k : Nat} {F : Hp} {Γ : Tab} {fo : DEnv → Sto → RE D} {o : Expr} {es : List Expr} {fs fs2 : DEnv → Sto → RE (List P)} {pos p apos : Pos}
theorem kw_args {kws : List Keyword} {env : Env} {ks : List Str} (h : kws.map Keyword.arg = ks.map some) : (backToKw pos (keywordEach kws env)).all (·.1.isSome) = true ∧ (backToKw pos (keywordEach kws env)).filterMap (·.1) = ks ∧ (backToKw pos (keywordEach kws env)).any (·.1.isNone) = false := by
  induction kws generalizing ks with
  | nil =>
    cases ks with
    | nil => exact ⟨rfl, rfl, rfl⟩
    | cons a b => cases h
  | cons kw kws ih =>
    cases ks with
    | nil => cases h
    | cons a b =>
      rw [List.map_cons, List.map_cons] at h
      obtain ⟨h1, h2⟩ := List.cons.inj h
      obtain ⟨q1, q2, q3⟩ := ih h2
      obtain ⟨nm, v, kp⟩ := kw
      have h1 : nm = some a := h1
      subst h1
      refine ⟨?_, ?_, ?_⟩
      · show (true && (backToKw pos (keywordEach kws env)).all (·.1.isSome)) = true
        rw [q1]
        rfl
      · show a :: (backToKw pos (keywordEach kws env)).filterMap (·.1) = a :: b
        rw [q2]
      · show (false || (backToKw pos (keywordEach kws env)).any (·.1.isNone)) = false
        rw [q3]
        rfl
theorem spK_of {g : KFn} {s : Sit} {σ : L2.St} {H : Hp} {xs ys : List P} {vs zs : List V} {Q : VK} (A : AtS C F s H) (r : RepPs C s.G xs vs) (r2 : RepPs C s.G ys zs) (h : WantE C W F (RepD C) σ s ((g xs ys).lift s.S) Q) : spK C g vs zs H Q (WE W σ) := by
  refine ⟨s.G, xs, ys, A.sub, r, r2, ?_⟩
  cases e : g xs ys with
  | ok x =>
    rw [e] at h
    intro v G' H' h1 h2 h3 hr
    obtain ⟨A', ex⟩ := A.call h1 h2 h3
    exact h ⟨G', s.μ, s.S⟩ H' rfl ex A' v hr
  | exc c x =>
    rw [e] at h
    intro dx G' H' h1 h2 h3 hr
    obtain ⟨A', ex⟩ := A.call h1 h2 h3
    exact h dx ⟨G', s.μ, s.S⟩ H' rfl ex A' hr
  | stuck =>
    rw [e] at h
    exact h
theorem k_nil : PK X [] (tAP C W F fun _ S => .ok [] S) := ⟨fun pos pins s σ H Q I ⟨δ, t, A, R, h⟩ => pk_nil.run pos pins s σ H Q I (h t H rfl (ExtS.refl t) A [] (by simp only [RepPs]))⟩
theorem k_cons {e : Expr} {kws : List Keyword} {nm : Option Str} {kpos : Pos} {fe : DEnv → Sto → RE D} (he : PE X e (tE C W F fe)) (hs : PK X kws (tAP C W F fs)) : PK X (⟨nm, e, kpos⟩ :: kws) (tAP C W F fun δ S => (fe δ S).bind fun d S1 => (purify d S1).bind fun x S2 => (fs δ S2).bind fun xs S3 => .ok (x :: xs) S3) := by
  refine ⟨fun pos pins s σ H Q I ⟨δ, t, A, R, h⟩ => (pk_cons he hs).run pos pins s σ H Q I ?_⟩
  refine ⟨δ, t, A, R, Wt.imp (Wt.bind h) fun d s1 H1 _ e1 A1 h1 v r1 => ?_⟩
  obtain ⟨x, s2, e2, A2, r2, h2⟩ := Wt.pur A1 r1 h1
  refine ⟨δ, s2, A2, R.mono (e1.trans e2), Wt.imp (Wt.bind h2) fun xs s3 H3 _ e3 A3 h3 vs r3 => ?_⟩
  refine h3 s3 H3 rfl (ExtS.refl s3) A3 (v :: vs) ?_
  simp only [RepPs]
  exact ⟨v, vs, rfl, RepP.mono e3.G x v r2, r3⟩
theorem kw_run (sp : Spot C W X k) {u : Value} {g : KFn} {n : Nat} {ks : List Str} {kws : List Keyword} (cal : KCal C X.prog X.w X.K X.mg X.base k u n ks g) (hks : kws.map Keyword.arg = ks.map some) (hb : PK X kws (tAP C W F fs2))
    {pins : List (Addr × Obj)} {σ : L2.St} {H1 : Hp} {s1 : Shared} {Q : VK} {us : List Value} {vs : List V} {d : List P} {t1 : Sit} {δ : DEnv} (I1 : Inv X pins σ H1 s1) (rv : Vals vs us) (A1 : AtS C F t1 H1) (R1 : RepS C t1 δ σ) (r1 : RepPs C t1.G d vs)
    (w1 : WantE C W F (RepD C) σ t1 ((fs2 δ t1.S).bind fun ys S2 => (g d ys).lift S2) Q) :
    wpAny (model X.prog X.w) X.A (evalAll ((backToKw pos (keywordEach kws X.env)).map (·.2))) (fun ws s2 => X.K.In s2.heap ∧ wpAny (model X.prog X.w) X.A (call u us (((backToKw pos (keywordEach kws X.env)).filterMap (·.1)).zip ws)) (EP X pins σ Q) X.xe s2) X.xe s1 := by
  obtain ⟨a1, a2, a3⟩ := kw_args (pos := pos) (env := X.env) hks
  have rd2 : tAP C W F fs2 σ H1 _ := ⟨δ, t1, A1, R1, Wt.thenA (Rel := fun s => RepPs C s.G) R1 w1⟩
  refine thn (hb.run pos pins s1 σ H1 _ I1 rd2) fun ws s2 hh => ?_
  obtain ⟨zs, H2, I2, rz, ys, t2, e2, A2, R2, r2, w2⟩ := hh
  refine ⟨I2.kIn, ?_⟩
  rw [a2]
  exact cal X W pins s2 σ H2 us ws vs zs Q rfl rfl rfl rfl rfl sp.tk (sp.hr.mono (Nat.le_add_right _ _)) I2 rv rz (spK_of A2 (RepPs.mono e2.G d vs r1) r2 w2)
theorem x_kcall0 (sp : Spot C W X k) {x : Str} {u : Value} {g : KFn} {n : Nat} {ks : List Str} {kws : List Keyword} (hg : Gl X x) (hm : X.mg x = some u) (hk : PySem.W.keepIn X.K u = true) (cal : KCal C X.prog X.w X.K X.mg X.base k u n ks g) (hd : (x == ("__debug__" : Str)) = false)
    (hks : kws.map Keyword.arg = ks.map some) (hb : PK X kws (tAP C W F fs2)) :
    PE X (.Call (.Name x p) [] kws pos) (tE C W F fun δ S => (RE.ok ([] : List P) S).bind fun xs S1 => (fs2 δ S1).bind fun ys S2 => (g xs ys).lift S2) := by
  refine ⟨fun pins s σ H Q I h => wpAny_Call_Name_kw (ld_glob I hg hm ?_ hd)⟩
  obtain ⟨δ, s0, A, R, hw⟩ := h
  obtain ⟨a1, a2, a3⟩ := kw_args (pos := pos) (env := X.env) hks
  exact PySem.W.callWith_KW0 (first := []) (h₀ := X.base) I.ok.mod.kin hk a1 (kw_run sp cal hks hb (us := []) (vs := []) I .nil A R (by simp only [RepPs]) hw) (by rw [a3]; rfl)
theorem x_kcall (sp : Spot C W X k) {x : Str} {u : Value} {g : KFn} {n : Nat} {ks : List Str} {kws : List Keyword} {e : Expr} (hg : Gl X x) (hm : X.mg x = some u) (hk : PySem.W.keepIn X.K u = true) (cal : KCal C X.prog X.w X.K X.mg X.base k u n ks g) (hd : (x == ("__debug__" : Str)) = false)
    (hks : kws.map Keyword.arg = ks.map some) (hs : (e :: es).all notStar = true) (ha : PA X (e :: es) (tAP C W F fs)) (hb : PK X kws (tAP C W F fs2)) :
    PE X (.Call (.Name x p) (e :: es) kws pos) (tE C W F fun δ S => (fs δ S).bind fun xs S1 => (fs2 δ S1).bind fun ys S2 => (g xs ys).lift S2) := by
  refine ⟨fun pins s σ H Q I h => wpAny_Call_Name_kw (ld_glob I hg hm ?_ hd)⟩
  obtain ⟨δ, s0, A, R, hw⟩ := h
  obtain ⟨a1, a2, a3⟩ := kw_args (pos := pos) (env := X.env) hks
  have rd : tAP C W F fs σ H _ := ⟨δ, s0, A, R, Wt.thenA (Rel := fun s => RepPs C s.G) R hw⟩
  have hs' := hs
  simp only [List.all_cons, Bool.and_eq_true] at hs'
  refine PySem.W.callWith_KW (first := []) (h₀ := X.base) I.ok.mod.kin hk a1 (thn (ha.run pos pins s σ H _ I rd) fun us s1 q => ?_) (by rw [a3, Bool.or_false]; exact star_none hs) (star_cons hs'.1)
  obtain ⟨vs, H1, I1, rv, d, t1, e1, A1, R1, r1, w1⟩ := q
  exact kw_run sp cal hks hb I1 rv A1 R1 r1 w1
theorem kw_runI (sp : Spot C W X k) {u : Value} {g : IFn} {n : Nat} {ks : List Str} {kws : List Keyword} (cal : KCalI C X.prog X.w X.K X.mg X.base k u n ks g) (hks : kws.map Keyword.arg = ks.map some) (hb : PK X kws (tAP C W F fs2))
    {pins : List (Addr × Obj)} {σ : L2.St} {H1 : Hp} {s1 : Shared} {Q : VK} {us : List Value} {vs : List V} {d : List P} {t1 : Sit} {δ : DEnv} (I1 : Inv X pins σ H1 s1) (rv : Vals vs us) (A1 : AtS C F t1 H1) (R1 : RepS C t1 δ σ) (r1 : RepPs C t1.G d vs)
    (w1 : WantE C W F (RepD C) σ t1 ((fs2 δ t1.S).bind fun ys S2 => if d.length = n then freshG (g ((d ++ ys).map D.p) []) S2 else .stuck) Q) :
    wpAny (model X.prog X.w) X.A (evalAll ((backToKw pos (keywordEach kws X.env)).map (·.2))) (fun ws s2 => X.K.In s2.heap ∧ wpAny (model X.prog X.w) X.A (call u us (((backToKw pos (keywordEach kws X.env)).filterMap (·.1)).zip ws)) (EP X pins σ Q) X.xe s2) X.xe s1 := by
  obtain ⟨a1, a2, a3⟩ := kw_args (pos := pos) (env := X.env) hks
  have rd2 : tAP C W F fs2 σ H1 _ := ⟨δ, t1, A1, R1, Wt.thenA (Rel := fun s => RepPs C s.G) R1 w1⟩
  refine thn (hb.run pos pins s1 σ H1 _ I1 rd2) fun ws s2 hh => ?_
  obtain ⟨zs, H2, I2, rz, ys, t2, e2, A2, R2, r2, w2⟩ := hh
  refine ⟨I2.kIn, ?_⟩
  rw [a2]
  by_cases hn : d.length = n
  case neg =>
    rw [if_neg hn] at w2
    exact w2.elim
  rw [if_pos hn] at w2
  exact cal X W pins s2 σ H2 us ws vs zs Q rfl rfl rfl rfl rfl sp.tk (sp.hr.mono (Nat.le_add_right _ _)) I2 rv rz (by rw [← RepPs.len d vs r1]; exact hn) (spI_fresh A2 (reps_app d vs (RepPs.mono e2.G d vs r1) r2) w2)
theorem x_fkcall (sp : Spot C W X k) {x : Str} {u : Value} {g : IFn} {n : Nat} {ks : List Str} {kws : List Keyword} {e : Expr} (hg : Gl X x) (hm : X.mg x = some u) (hk : PySem.W.keepIn X.K u = true) (cal : KCalI C X.prog X.w X.K X.mg X.base k u n ks g) (hd : (x == ("__debug__" : Str)) = false)
    (hks : kws.map Keyword.arg = ks.map some) (hs : (e :: es).all notStar = true) (ha : PA X (e :: es) (tAP C W F fs)) (hb : PK X kws (tAP C W F fs2)) :
    PE X (.Call (.Name x p) (e :: es) kws pos) (tE C W F fun δ S => (fs δ S).bind fun xs S1 => (fs2 δ S1).bind fun ys S2 => if xs.length = n then freshG (g ((xs ++ ys).map D.p) []) S2 else .stuck) := by
  refine ⟨fun pins s σ H Q I h => wpAny_Call_Name_kw (ld_glob I hg hm ?_ hd)⟩
  obtain ⟨δ, s0, A, R, hw⟩ := h
  obtain ⟨a1, a2, a3⟩ := kw_args (pos := pos) (env := X.env) hks
  have rd : tAP C W F fs σ H _ := ⟨δ, s0, A, R, Wt.thenA (Rel := fun s => RepPs C s.G) R hw⟩
  have hs' := hs
  simp only [List.all_cons, Bool.and_eq_true] at hs'
  refine PySem.W.callWith_KW (first := []) (h₀ := X.base) I.ok.mod.kin hk a1 (thn (ha.run pos pins s σ H _ I rd) fun us s1 q => ?_) (by rw [a3, Bool.or_false]; exact star_none hs) (star_cons hs'.1)
  obtain ⟨vs, H1, I1, rv, d, t1, e1, A1, R1, r1, w1⟩ := q
  exact kw_runI sp cal hks hb I1 rv A1 R1 r1 w1
/-! ### methods -/
theorem x_fmeth (sp : Spot C W X k) (gm : GoodI C X.prog X.w X.K X.mg X.base k Γ) {m : Nat} {x : Str} (hx : C.NM m = x) (hb : plainBase o = true) (hs : es.all notStar = true) (hn : es.length < 29) (hl : (apos.endLine == pos.line) = true) (ho : PE X o (tE C W F fo)) (ha : PA X es (tAP C W F fs)) :
    PE X (.Call (.Attribute o x apos) es [] pos) (tE C W F fun δ S => (fo δ S).bind fun d S1 => methF Γ m d (fs δ) S1) := by
  subst hx
  refine ⟨fun pins s σ H Q I h => ?_⟩
  obtain ⟨δ, s0, A, R, hw⟩ := h
  refine PySem.W.methodCall_KW (thn (ho.run pins s σ H _ I (tE.then A R hw)) fun u s1 ⟨y, H1, I1, ry, d, t1, e1, A1, R1, r1, w1⟩ => ?_) (meth_form hb hs hn hl)
  cases d with
  | p z =>
    cases z with
    | ob c ys =>
      have r1' := r1
      simp only [RepD, RepP] at r1'
      obtain ⟨hc, q, dx, vs, rfl, hq, hlen, rr⟩ := r1'
      cases ry
      have cf := sp.cf.one c hc
      rw [sp.hk] at cf
      cases hg : Γ.imeth c m with
      | none =>
        simp only [methF, hg] at w1
        exact w1.elim
      | some g =>
        simp only [methF, hg] at w1
        have rd : tAP C W F fs σ H1 _ := ⟨δ, t1, A1, R1, Wt.thenA (Rel := fun s => RepPs C s.G) R1 w1⟩
        obtain ⟨f, M, nf, cal⟩ := gm c m g hg
        have ln : ((((C.FT c).map C.NM).zip vs)).lookup (C.NM m) = none := zip_none _ vs fun g' hg' => by
          obtain ⟨j, hj, rfl⟩ := List.mem_map.mp hg'
          exact nf j hj
        refine getmeth_ok I1 (A1.sub _ _ hq) cf.cl M ln ?_
        have run : ∀ us s2, AP X pins σ (fun ws H2 => ∃ d s2, ExtS t1 s2 ∧ AtS C F s2 H2 ∧ RepS C s2 δ σ ∧ RepPs C s2.G d ws ∧ WantE C W F (RepD C) σ s2 (freshG (g ((P.ob c ys :: d).map D.p) []) s2.S) Q) us s2 → wpAny (model X.prog X.w) X.A (call (.ref f) (.ref q :: us)) (EP X pins σ Q) X.xe s2 := by
          rintro us s2 ⟨ws, H2, I2, rv, d, t2, e2, A2, R2, r2, w2⟩
          refine wpAny_call (cal X W X.A pins s2 σ H2 (.ref q :: us) (.ref q :: ws) Q rfl rfl rfl rfl rfl sp.tk (sp.hr.mono (Nat.le_add_right _ _)) rfl I2 (.cons rfl rv) (spI_fresh A2 ?_ w2))
          simp only [RepPs]
          exact ⟨.ref q, ws, rfl, RepP.mono e2.G _ _ r1, r2⟩
        cases es with
        | nil =>
          refine PySem.W.callWith_K0 (first := [.ref q]) I1.kIn M.kp ?_
          have z := ha.run pos pins s1 σ H1 _ I1 rd
          have z' : wpAny (model X.prog X.w) X.A (pure []) (AP X pins σ _) X.xe s1 := z
          exact wpAny_bind (f := fun us => call (.ref f) (.ref q :: us)) (wpAny_mono z' (fun us s2 q => run us s2 q) fun _ _ z => z)
        | cons e es =>
          simp only [List.all_cons, Bool.and_eq_true] at hs
          refine PySem.W.callWith_K (first := [.ref q]) (h₀ := X.base) I.ok.mod.kin M.kp (thn (ha.run pos pins s1 σ H1 _ I1 rd) fun us s2 qq => ⟨?_, ?_⟩) (star_cons hs.1) (star_none hs.2)
          · obtain ⟨_, _, I2, _⟩ := qq
            exact I2.kIn
          · exact run us s2 qq
    | _ => exact w1.elim
  | _ => exact w1.elim
theorem meth_formK {env : Env} {m : Str} {kws : List Keyword} (hb : plainBase o = true) (ha : (backToKw pos (keywordEach kws env)).all (·.1.isSome) = true) (hn : kws.length < 29) (hl : (apos.endLine == pos.line) = true) :
    eval (.Call (.Attribute o m apos) [] kws pos) env = (do
      let ov ← eval o env
      standAt apos.atName
      let (f, first) ← holding [ov] (getMethod ov m (do return (← importBound o env).getD true))
      callWith pos f first (backTo pos (starEach [] env)) (backToKw pos (keywordEach kws env))) := by
  have few : methodCallForm (([] : List Expr).length + kws.length) (backTo pos (starEach [] env)) (backToKw pos (keywordEach kws env)) = true := by
    unfold methodCallForm
    rw [ha]
    simp [backTo, starEach]
    split <;> omega
  show (attributeBase o m env (eval o env) >>= fun ov => standAt apos.atName >>= fun _ => methodCall o m apos pos env ov (([] : List Expr).length + kws.length) (backTo pos (starEach [] env)) (backToKw pos (keywordEach kws env))) = _
  rw [base_plain hb]
  unfold methodCall calleeOf methodCallPos
  rw [few, hl]
  rfl
theorem x_kmeth (sp : Spot C W X k) (gm : GoodK C X.prog X.w X.K X.mg X.base k Γ) {m : Nat} {x : Str} {ks : List Str} {kws : List Keyword} (hx : C.NM m = x) (hb : plainBase o = true) (hks : kws.map Keyword.arg = ks.map some) (hn : kws.length < 29) (hl : (apos.endLine == pos.line) = true) (ho : PE X o (tE C W F fo)) (ha : PK X kws (tAP C W F fs)) :
    PE X (.Call (.Attribute o x apos) [] kws pos) (tE C W F fun δ S => (fo δ S).bind fun d S1 => methK Γ m ks d (fs δ) S1) := by
  subst hx
  refine ⟨fun pins s σ H Q I h => ?_⟩
  obtain ⟨δ, s0, A, R, hw⟩ := h
  obtain ⟨a1, a2, a3⟩ := kw_args (pos := pos) (env := X.env) hks
  refine PySem.W.methodCall_KW (thn (ho.run pins s σ H _ I (tE.then A R hw)) fun u s1 ⟨y, H1, I1, ry, d, t1, e1, A1, R1, r1, w1⟩ => ?_) (meth_formK hb a1 hn hl)
  cases d with
  | p z =>
    cases z with
    | ob c ys =>
      have r1' := r1
      simp only [RepD, RepP] at r1'
      obtain ⟨hc, q, dx, vs, rfl, hq, hlen, rr⟩ := r1'
      cases ry
      have cf := sp.cf.one c hc
      rw [sp.hk] at cf
      cases hg : Γ.kmeth c m ks with
      | none =>
        simp only [methK, hg] at w1
        exact w1.elim
      | some g =>
        simp only [methK, hg] at w1
        obtain ⟨f, M, nf, cal⟩ := gm c m ks g hg
        have ln : ((((C.FT c).map C.NM).zip vs)).lookup (C.NM m) = none := zip_none _ vs fun g' hg' => by
          obtain ⟨j, hj, rfl⟩ := List.mem_map.mp hg'
          exact nf j hj
        refine getmeth_ok I1 (A1.sub _ _ hq) cf.cl M ln ?_
        refine PySem.W.callWith_KW0 (first := [.ref q]) (h₀ := X.base) I1.ok.mod.kin M.kp a1 ?_ (by rw [a3]; rfl)
        exact kw_run (u := .ref f) (n := 1) sp cal hks ha (us := [.ref q]) (vs := [.ref q]) (d := [.ob c ys]) I1 (.cons rfl .nil) A1 R1 (by simp only [RepPs]; exact ⟨.ref q, [], rfl, r1, rfl⟩) w1
    | _ => exact w1.elim
  | _ => exact w1.elim
end
end RP
end

section
set_option Elab.async false
set_option linter.all false
set_option maxRecDepth 100000
set_option maxHeartbeats 4000000
/-! Texts in parts, f-strings, a class called by a local name, classmethods. -/
namespace RP
open PySem L2 PySem.Spec PyProof.Rows ClX
section
variable {C : CC} {W : WX} {X : Cx} {k : Nat} {Γ : Tab} {F : Hp} {a b e o : Expr} {es : List Expr} {fa fb : DEnv → Sto → RE D} {fs : DEnv → Sto → RE (List P)} {pos p apos : Pos}
theorem reps_txts (G : Hp) : ∀ l : List Str, RepPs C G (l.map P.str) (l.map V.str)
  | [] => by simp [RepPs]
  | z :: l => by
    simp only [List.map_cons, RepPs]
    exact ⟨_, _, rfl, by simp only [RepP], reps_txts G l⟩
theorem x_spl (ha : PE X a (tE C W F fa)) (hb : PE X b (tE C W F fb)) (hpb : plainBase a = true) (hnb : notStar b = true) (hl : (apos.endLine == pos.line) = true) :
    PE X (.Call (.Attribute a "split" apos) [b] [] pos) (tE C W F fun δ S => (fa δ S).bind fun d1 S1 => match d1 with
      | .p (.str x) => (fb δ S1).bind fun d2 S2 => match d2 with
        | .p (.str y) => splR x y S2
        | _ => .stuck
      | _ => .stuck) := by
  refine PE.imp (pe_split ha hb (by rw [star_cons hnb]; rfl) (base_plain hpb) hl) fun σ H Q ⟨δ, s, A, R, h⟩ => ?_
  refine ⟨δ, s, A, R, Wt.imp (Wt.bind h) fun d1 s1 H1 _ e1 A1 h1 v r1 => ?_⟩
  cases d1 with
  | p u =>
    cases u with
    | str x =>
      simp only [RepD, RepP] at r1
      subst r1
      refine ⟨⟨x, rfl⟩, δ, s1, A1, R.mono e1, Wt.imp (Wt.bind h1) fun d2 s2 H2 _ e2 A2 h2 w r2 => ?_⟩
      cases d2 with
      | p u =>
        cases u with
        | str y =>
          simp only [RepD, RepP] at r2
          subst r2
          have h2' : WantE C W F (RepD C) σ s2 (splR x y s2.S) Q := h2
          unfold splR at h2'
          split at h2'
          · rename_i hm
            simp only [Bool.and_eq_true, decide_eq_true_eq] at hm
            refine ⟨x, y, rfl, rfl, by simpa using hm.1, ?_, fun p hp => want_lst A2 (reps_txts _ _) h2' p hp⟩
            have := sizeLine_big
            omega
          · exact h2'.elim
        | _ => exact h2.elim
      | _ => exact h2.elim
    | _ => exact h1.elim
  | _ => exact h1.elim
theorem strs_of {G : Hp} : ∀ {xs : List P} {l : List Str} {vs : List V}, strsOf xs = some l → RepPs C G xs vs → vs = l.map V.str
  | [], l, vs, h, r => by
    simp only [strsOf, Option.some.injEq] at h
    subst h
    simp only [RepPs] at r
    rw [r]
    rfl
  | x :: xs, l, vs, h, r => by
    simp only [RepPs] at r
    obtain ⟨v, ws, rfl, h1, h2⟩ := r
    cases x with
    | str z =>
      simp only [strsOf, Option.map_eq_some_iff] at h
      obtain ⟨l', e, rfl⟩ := h
      simp only [RepP] at h1
      rw [h1, strs_of e h2]
      rfl
    | _ => cases h
theorem x_joi {z : Str} {j : Nat} {q : Pos} (hk : C.K = X.K) (ha : PE X a (tE C W F fa)) (hna : notStar a = true) (hl : (apos.endLine == pos.line) = true) :
    PE X (.Call (.Attribute (.Constant (.str z) j q) "join" apos) [a] [] pos) (tE C W F fun δ S => (fa δ S).bind fun d1 S1 => joiR z (peek d1 S1) S1) := by
  refine PE.imp (pe_join (pe_str (x := z)) ha (by rw [star_cons hna]; rfl) rfl hl) fun σ H Q ⟨δ, s, A, R, h⟩ => ?_
  refine ⟨⟨z, rfl⟩, δ, s, A, R, Wt.imp (Wt.bind h) fun d1 s1 H1 _ e1 A1 h1 v r1 => ?_⟩
  cases q1 : peek d1 s1.S with
  | none =>
    rw [q1] at h1
    exact h1.elim
  | some x =>
    rw [q1] at h1
    cases x with
    | lst xs =>
      obtain ⟨p, vs, rfl, h2, h3⟩ := peek_lst A1 r1 q1
      have h1' : WantE C W F (RepD C) σ s1 (joiR z (some (.lst xs)) s1.S) Q := h1
      unfold joiR at h1'
      dsimp only at h1'
      split at h1'
      · rename_i l hs
        split at h1'
        · rename_i hm
          have e := strs_of hs h3
          subst e
          refine ⟨z, p, l, rfl, rfl, .inl (.inl (.inl h2)), Nat.le_trans (of_decide_eq_true hm) (by decide), want_str A1 h1'⟩
        · exact h1'.elim
      · exact h1'.elim
    | _ => exact h1.elim
theorem int_textX {i : Int} (h : i.natAbs.log2 < 1920) : (PySem.Str.ofString (toString i)).length ≤ 1921 := by
  rw [PySem.ofString_length]
  exact PySem.int_text_length_le (k := 1920) (by decide) h
theorem fmt_ok {s : Sit} {d : D} {v : V} {y : Str} (r : RepD C s d v) (h : fmtD d = some y) : y.length ≤ 100000 ∧ ((v = .str y ∧ y.length ≤ sizeLine) ∨ ∃ i : Int, v = .int i ∧ i.natAbs.log2 < 1920 ∧ y = Str.ofString (toString i)) := by
  unfold fmtD at h
  split at h
  · split at h
    · rename_i hm
      simp only [RepD, RepP] at r
      have := sizeLine_big
      have hm' := of_decide_eq_true hm
      cases h
      exact ⟨hm', .inl ⟨r, by omega⟩⟩
    · cases h
  · split at h
    · rename_i hm
      simp only [RepD, RepP] at r
      have hm' := of_decide_eq_true hm
      cases h
      have := int_textX hm'
      exact ⟨by omega, .inr ⟨_, r, hm', rfl⟩⟩
    · cases h
  · cases h
theorem str_len_app (a b : Str) : (a ++ b).length = a.length + b.length := by
  show (a.cps ++ b.cps).size = _
  rw [Array.size_append]
  rfl
theorem x_fs3 {z : Str} {j : Nat} {q1 q2 q3 : Pos} (hz : z.length ≤ 1000) (ha : PE X a (tE C W F fa)) (hb : PE X b (tE C W F fb)) :
    PE X (.JoinedStr [.FormattedValue a (-1) none q1, .Constant (.str z) j q2, .FormattedValue b (-1) none q3] pos) (tE C W F fun δ S => (fa δ S).bind fun d1 S1 => match fmtD d1 with
      | some x => (fb δ S1).bind fun d2 S2 => match fmtD d2 with
        | some y => fs3R x z y S2
        | none => .stuck
      | none => .stuck) := by
  refine PE.imp (pe_joined (.cons (pe_fmt ha) (.cons (pe_str (x := z)) (.cons (pe_fmt hb) .nil)))) fun σ H Q ⟨δ, s, A, R, h⟩ => ?_
  refine ⟨δ, s, A, R, Wt.imp (Wt.bind h) fun d1 s1 H1 _ e1 A1 h1 v r1 => ?_⟩
  have big := sizeLine_big
  cases q1' : fmtD d1 with
  | none =>
    rw [q1'] at h1
    exact h1.elim
  | some x =>
    rw [q1'] at h1
    obtain ⟨lx, hv⟩ := fmt_ok r1 q1'
    have rest : (Str.empty ++ x).length ≤ sizeLine ∧ tJs [tC (.str z), tFmt (tE C W F fb)] (Str.empty ++ x) σ H1 fun out H1 => Q (.str out) H1 := by
      rw [Str.empty_append]
      refine ⟨by omega, z, rfl, by rw [str_len_app]; omega, ?_⟩
      refine ⟨δ, s1, A1, R.mono e1, Wt.imp (Wt.bind h1) fun d2 s2 H2 _ e2 A2 h2 w r2 => ?_⟩
      cases q2' : fmtD d2 with
      | none =>
        rw [q2'] at h2
        exact h2.elim
      | some y =>
        rw [q2'] at h2
        obtain ⟨ly, hw⟩ := fmt_ok r2 q2'
        have h2' : WantE C W F (RepD C) σ s2 (fs3R x z y s2.S) Q := h2
        unfold fs3R at h2'
        split at h2'
        · rename_i hm
          simp only [Bool.and_eq_true, decide_eq_true_eq] at hm
          have fin : (x ++ z ++ y).length ≤ sizeLine ∧ Q (.str (x ++ z ++ y)) H2 := ⟨by omega, want_str A2 h2'⟩
          rcases hw with ⟨rfl, hl⟩ | ⟨i, rfl, hl, rfl⟩
          · exact .inl ⟨y, rfl, hl, y, rfl, fin.1, fin.2⟩
          · exact .inr ⟨i, rfl, hl, _, rfl, fin.1, fin.2⟩
        · exact h2'.elim
    rcases hv with ⟨rfl, hl⟩ | ⟨i, rfl, hl, rfl⟩
    · exact .inl ⟨x, rfl, hl, x, rfl, rest.1, rest.2⟩
    · exact .inr ⟨i, rfl, hl, _, rfl, rest.1, rest.2⟩
/-- a class that a local name holds is called -/
theorem x_lcall (sp : Spot C W X k) {i c : Nat} {x : Str} {g : PFn} (hN : X.N[i]? = some x) (hv : Vis X.env.scope x) (hk : PySem.W.keepIn X.K (.ref (C.CA c)) = true) (cal : Cal C X.prog X.w X.K X.mg X.base k (.ref (C.CA c)) g) (hdb : (x == ("__debug__" : Str)) = false) (hcd : (x == ("__classdict__" : Str)) = false) (hs : es.all notStar = true) (ha : PA X es (tAP C W F fs)) :
    PE X (.Call (.Name x p) es [] pos) (tE C W F fun δ S => match δ[i]? with
      | some (some (.cls c')) => if c' = c then ((fs δ S).bind fun xs S1 => (g xs).lift S1) else .stuck
      | _ => .stuck) := by
  refine ⟨fun pins s σ H Q I h => ?_⟩
  obtain ⟨δ, s0, A, R, hw⟩ := h
  dsimp only at hw
  cases hi : δ[i]? with
  | none =>
    rw [hi] at hw
    exact hw.elim
  | some od =>
    rw [hi] at hw
    cases od with
    | none => exact hw.elim
    | some d =>
      cases d with
      | cls c' =>
        dsimp only at hw
        by_cases ec : c' = c
        · subst ec
          rw [if_pos rfl] at hw
          have hσ : σ[i]? = some (some (.ref (C.CA c'))) := by
            obtain ⟨v, hv1, hv2⟩ := R.2 i _ hi
            simp only [RepD] at hv2
            rw [hv1, hv2]
          refine wpAny_Call_Name_kw (thn ((pe_var (pos := p) hN hv hdb hcd).run pins s σ H (fun v H1 => v = .ref (C.CA c') ∧ H1 = H) I ⟨.ref (C.CA c'), hσ, rfl, rfl⟩) fun u s1 ⟨v, H1, I1, r1, q1⟩ => ?_)
          obtain ⟨rfl, rfl⟩ := q1
          cases r1
          have rd : tAP C W F fs σ H1 _ := ⟨δ, s0, A, R, Wt.thenA (Rel := fun s => RepPs C s.G) R hw⟩
          have run : ∀ us s2, AP X pins σ (fun vs H1 => ∃ d s1, ExtS s0 s1 ∧ AtS C F s1 H1 ∧ RepS C s1 δ σ ∧ RepPs C s1.G d vs ∧ WantE C W F (RepD C) σ s1 ((g d).lift s1.S) Q) us s2 → wpAny (model X.prog X.w) X.A (call (.ref (C.CA c')) us) (EP X pins σ Q) X.xe s2 := by
            rintro us s2 ⟨vs, H1, I1, rv, d, t1, e1, A1, R1, r1, w1⟩
            exact cal_run sp cal (sp.hr.mono (Nat.le_add_right _ _)) rfl I1 A1 r1 rv w1
          cases es with
          | nil =>
            refine PySem.W.callWith_K0 I1.kIn hk ?_
            have z := ha.run pos pins s1 σ H1 _ I1 rd
            have z' : wpAny (model X.prog X.w) X.A (pure []) (AP X pins σ _) X.xe s1 := z
            exact wpAny_bind (f := fun us => call (.ref (C.CA c')) us) (wpAny_mono z' (fun us s1 q => run us s1 q) fun _ _ z => z)
          | cons e es =>
            simp only [List.all_cons, Bool.and_eq_true] at hs
            refine PySem.W.callWith_K (h₀ := X.base) I1.ok.mod.kin hk (thn (ha.run pos pins s1 σ H1 _ I1 rd) fun us s2 q => ⟨?_, ?_⟩) (star_cons hs.1) (star_none hs.2)
            · obtain ⟨_, _, I2, _⟩ := q
              exact I2.kIn
            · exact run us s2 q
        · rw [if_neg ec] at hw
          exact hw.elim
      | _ => exact hw.elim
theorem repds_ps {s : Sit} : ∀ (xs : List P) (vs : List V), RepPs C s.G xs vs → RepDs C s (xs.map D.p) vs
  | [], vs, h => by
    simp only [RepPs] at h
    simp only [List.map_nil, RepDs]
    exact h
  | x :: xs, vs, h => by
    simp only [RepPs] at h
    obtain ⟨v, ws, rfl, h1, h2⟩ := h
    simp only [List.map_cons, RepDs]
    exact ⟨v, ws, rfl, by simp only [RepD]; exact h1, repds_ps xs ws h2⟩
/-- a classmethod, by its class's name -/
theorem x_cmeth (sp : Spot C W X k) {c : Nat} {y x : Str} {g : IFn} {mc : Value} {pp f : Addr} (hg : Gl X y) (hm : X.mg y = some (.ref (C.CA c))) (hd : (y == ("__debug__" : Str)) = false) (r : CRead X.K (C.CA c) mc) (cm : CMet X.K (C.CA c) mc x pp f) (cal : CalI C X.prog X.w X.K X.mg X.base k (.ref f) g)
    (hs : (e :: es).all notStar = true) (hn : (e :: es).length < 29) (hl : (apos.endLine == pos.line) = true) (ha : PA X (e :: es) (tAP C W F fs)) :
    PE X (.Call (.Attribute (.Name y p) x apos) (e :: es) [] pos) (tE C W F fun δ S => (fs δ S).bind fun xs S1 => g (.cls c :: xs.map .p) S1) := by
  refine ⟨fun pins s σ H Q I h => ?_⟩
  obtain ⟨δ, s0, A, R, hw⟩ := h
  have rd : tAP C W F fs σ H _ := ⟨δ, s0, A, R, Wt.thenA (Rel := fun s => RepPs C s.G) R hw⟩
  have hs' := hs
  simp only [List.all_cons, Bool.and_eq_true] at hs'
  refine PySem.W.methodCall_KW (ld_glob I hg hm ?_ hd) (meth_form (o := .Name y p) rfl hs hn hl)
  refine getmethcm_ok I r cm fun s2 I2 => ?_
  refine callwith_cm I2 (base_none I (Nat.le_refl _)) cm.fi (thn (ha.run pos _ s2 σ H _ I2 rd) fun us s3 ⟨vs, H2, I3, rv, d, t1, e1, A1, R1, r1, w1⟩ => ⟨⟨pin_at I3, I3.kIn⟩, ?_⟩) (star_cons hs'.1) (star_none hs'.2)
  have rr : RepDs C t1 (.cls c :: d.map .p) (.ref (C.CA c) :: vs) := by
    simp only [RepDs]
    exact ⟨.ref (C.CA c), vs, rfl, by simp only [RepD], repds_ps d vs r1⟩
  have z : wpAny (model X.prog X.w) X.A (call (.ref s.heap.objs.size) us) (EP X _ σ Q) X.xe s3 :=
    wpAny_call (PySem.W.method_call (pin_at I3) (cal X W X.A _ s3 σ H2 (.ref (C.CA c) :: us) (.ref (C.CA c) :: vs) Q rfl rfl rfl rfl rfl sp.tk (sp.hr.mono (Nat.le_add_right _ _)) rfl I3 (.cons rfl rv) (spI_of A1 rr w1)))
  exact thn z fun _ _ y => unpinE y
end
/-- called with n values and keywords, the values being anything (a class) -/
def KCalC (C : CC) (Pr : Program) (w : World) (K : PySem.W.Frag) (mg : Str → Option Value) (base : Heap) (k : Nat) (u : Value) (n : Nat) (ks : List Str) (g : IFn) : Prop :=
  ∀ (X : Cx) (W : WX) (pins : List (Addr × Obj)) (s : Shared) (σ : L2.St) (H : Hp) (us ws : List Value) (vs zs : List V) (Q : VK),
    X.prog = Pr → X.w = w → X.K = K → X.mg = mg → X.base = base → Takes X W → Room k X.A → Inv X pins σ H s → Vals vs us → Vals zs ws → vs.length = n → spI C g (vs ++ zs) H Q (WE W σ) →
    codeAny (model X.prog X.w) X.A (.call u ⟨us, ks.zip ws⟩) (wants (EP X pins σ Q) X.xe) s
section
variable {C : CC} {P' : Program} {w : World} {K : PySem.W.Frag} {mg : Str → Option Value} {base : Heap} {k j : Nat} {f : Addr} {fd : FuncData} {ps ks : List Str} {u : Value} {n : Nat}
theorem KCalC.mono {gi : IFn} (h : KCalC C P' w K mg base k u n ks gi) (hk : k ≤ j) : KCalC C P' w K mg base j u n ks gi := fun X W pins s σ H us ws vs zs Q e1 e2 e3 e4 e5 tk r => h X W pins s σ H us ws vs zs Q e1 e2 e3 e4 e5 tk (r.mono hk)
end
section
variable {C : CC} {W : WX} {X : Cx} {k : Nat} {F : Hp} {fs : DEnv → Sto → RE (List P)} {pos p apos : Pos}
/-- a classmethod, with keywords alone -/
theorem x_kcmeth (sp : Spot C W X k) {c : Nat} {y x : Str} {gk : IFn} {mc : Value} {pp f : Addr} {ks : List Str} {kws : List Keyword} (hg : Gl X y) (hm : X.mg y = some (.ref (C.CA c))) (hd : (y == ("__debug__" : Str)) = false) (r : CRead X.K (C.CA c) mc) (cm : CMet X.K (C.CA c) mc x pp f) (cal : KCalC C X.prog X.w X.K X.mg X.base k (.ref f) 1 ks gk)
    (hks : kws.map Keyword.arg = ks.map some) (hn : kws.length < 29) (hl : (apos.endLine == pos.line) = true) (ha : PK X kws (tAP C W F fs)) :
    PE X (.Call (.Attribute (.Name y p) x apos) [] kws pos) (tE C W F fun δ S => (fs δ S).bind fun xs S1 => gk (.cls c :: xs.map .p) S1) := by
  refine ⟨fun pins s σ H Q I h => ?_⟩
  obtain ⟨δ, s0, A, R, hw⟩ := h
  obtain ⟨a1, a2, a3⟩ := kw_args (pos := pos) (env := X.env) hks
  have rd : tAP C W F fs σ H _ := ⟨δ, s0, A, R, Wt.thenA (Rel := fun s => RepPs C s.G) R hw⟩
  refine PySem.W.methodCall_KW (ld_glob I hg hm ?_ hd) (meth_formK (o := .Name y p) rfl a1 hn hl)
  refine getmethcm_ok I r cm fun s2 I2 => ?_
  refine PySem.W.callWith_of (first := []) (by rw [a3]; rfl) (PySem.W.keeps_M cm.fi) (PyProof.Rows.evalArgs_kw2_nil a1 (thn (ha.run pos _ s2 σ H _ I2 rd) fun ws s3 ⟨zs, H2, I3, rz, d, t1, e1, A1, R1, r1, w1⟩ => ⟨⟨pin_at I3, I3.kIn⟩, ?_⟩))
  rw [a2]
  have rr : RepDs C t1 (.cls c :: d.map .p) ([.ref (C.CA c)] ++ zs) := by
    simp only [List.singleton_append, RepDs]
    exact ⟨.ref (C.CA c), zs, rfl, by simp only [RepD], repds_ps d zs r1⟩
  have z : wpAny (model X.prog X.w) X.A (call (.ref s.heap.objs.size) [] (ks.zip ws)) (EP X _ σ Q) X.xe s3 :=
    wpAny_call (PySem.W.method_call (pin_at I3) (cal X W _ s3 σ H2 [.ref (C.CA c)] ws [.ref (C.CA c)] zs Q rfl rfl rfl rfl rfl sp.tk (sp.hr.mono (Nat.le_add_right _ _)) I3 (.cons rfl .nil) rz rfl (spI_of A1 rr w1)))
  exact thn z fun _ _ y => unpinE y
end
end RP
end

section
set_option Elab.async false
set_option linter.all false
set_option maxRecDepth 100000
set_option maxHeartbeats 2000000
/-! Dicts that change, things that change: expressions and short statements. -/
namespace RP
open PySem L2
section
variable {C : CC} {W : WX} {X : Cx} {k : Nat} {Γ : Tab} {F : Hp} {a b c e o i : Expr} {es : List Expr} {fa fb fc fe fo fi : DEnv → Sto → RE D} {fd : DEnv → Sto → RE (List D)} {pos p p2 apos : Pos} {s s1 : Sit} {σ : L2.St} {H : Hp} {δ : DEnv} {D' : Ends}
theorem repK_val {z : Str} : ∀ (kvs : List (Str × D)) (vs : List (Key × V)), RepK C s kvs vs → (∀ d, lookD z kvs = some d → ∃ v, valV vs (.inr z) = some v ∧ RepD C s d v) ∧ (valV vs (.inr z)).isSome = hasD z kvs
  | [], vs, h => by
    have h : vs = [] := h
    subst h
    exact ⟨fun d q => by simp [lookD] at q, rfl⟩
  | (j, d) :: kvs, vs, h => by
    obtain ⟨v, ws, rfl, h1, h2⟩ := h
    have ih := repK_val kvs ws h2 (z := z)
    by_cases q : j = z
    · subst q
      refine ⟨fun d' e => ?_, ?_⟩
      · simp only [lookD, if_true, Option.some.injEq] at e
        subst e
        exact ⟨v, valV_pos rfl, h1⟩
      · rw [valV_pos rfl]
        simp [hasD]
    · have ne : ¬ (Sum.inr j : Key) = Sum.inr z := fun e => q (by cases e; rfl)
      refine ⟨fun d' e => ?_, ?_⟩
      · simp only [lookD, if_neg q] at e
        rw [valV_neg ne]
        exact ih.1 d' e
      · rw [valV_neg ne, ih.2]
        simp [hasD, q]
theorem repK_map {z : Str} {d : D} {v : V} (r : RepD C s d v) : ∀ (kvs : List (Str × D)) (vs : List (Key × V)), RepK C s kvs vs → RepK C s (kvs.map (fun e => if e.1 = z then (e.1, d) else e)) (vs.map fun kv => if kv.1 = (Sum.inr z : Key) then (kv.1, v) else kv)
  | [], vs, h => by
    have h : vs = [] := h
    subst h
    exact rfl
  | (j, d') :: kvs, vs, h => by
    obtain ⟨w, ws, rfl, h1, h2⟩ := h
    have ih := repK_map (z := z) r kvs ws h2
    by_cases q : j = z
    · subst q
      simp only [List.map_cons, if_true]
      exact ⟨v, _, rfl, r, ih⟩
    · have ne : ¬ (Sum.inr j : Key) = Sum.inr z := fun e => q (by cases e; rfl)
      simp only [List.map_cons, if_neg q, if_neg ne]
      exact ⟨w, _, rfl, h1, ih⟩
theorem repK_snoc {z : Str} {d : D} {v : V} (r : RepD C s d v) : ∀ (kvs : List (Str × D)) (vs : List (Key × V)), RepK C s kvs vs → RepK C s (kvs ++ [(z, d)]) (vs ++ [(Sum.inr z, v)])
  | [], vs, h => by
    have h : vs = [] := h
    subst h
    exact ⟨v, [], rfl, r, rfl⟩
  | (j, d') :: kvs, vs, h => by
    obtain ⟨w, ws, rfl, h1, h2⟩ := h
    exact ⟨w, _, rfl, h1, repK_snoc r kvs ws h2⟩
theorem repK_put {z : Str} {d : D} {v : V} (r : RepD C s d v) (kvs : List (Str × D)) (vs : List (Key × V)) (h : RepK C s kvs vs) : RepK C s (putD kvs z d) (putK vs (Sum.inr z) v) := by
  unfold putD putK
  rw [valV_any, (repK_val (z := z) kvs vs h).2]
  split
  · exact repK_map r kvs vs h
  · exact repK_snoc r kvs vs h
theorem repK_drop {z : Str} : ∀ (kvs : List (Str × D)) (vs : List (Key × V)), RepK C s kvs vs → RepK C s (dropD kvs z) (dropK vs (Sum.inr z))
  | [], vs, h => by
    have h : vs = [] := h
    subst h
    exact rfl
  | (j, d') :: kvs, vs, h => by
    obtain ⟨w, ws, rfl, h1, h2⟩ := h
    have ih := repK_drop (z := z) kvs ws h2
    unfold dropD dropK at ih ⊢
    by_cases q : j = z
    · subst q
      simp only [List.filter_cons, ne_eq, not_true_eq_false, decide_false, Bool.false_eq_true, if_false]
      exact ih
    · have ne : ¬ (Sum.inr j : Key) = Sum.inr z := fun e => q (by cases e; rfl)
      simp only [List.filter_cons, ne_eq, q, ne, not_false_eq_true, decide_true, if_true]
      exact ⟨w, _, rfl, h1, ih⟩
theorem repK_len : ∀ (kvs : List (Str × D)) (vs : List (Key × V)), RepK C s kvs vs → kvs.length = vs.length
  | [], vs, h => by
    have h : vs = [] := h
    subst h
    rfl
  | (j, d') :: kvs, vs, h => by
    obtain ⟨w, ws, rfl, h1, h2⟩ := h
    simp only [List.length_cons, repK_len kvs ws h2]
theorem repK_keys {G : Hp} : ∀ (kvs : List (Str × D)) (vs : List (Key × V)), RepK C s kvs vs → RepPs C G (kvs.map fun e => .str e.1) (vs.map fun kv => kV kv.1)
  | [], vs, h => by
    have h : vs = [] := h
    subst h
    simp only [List.map_nil, RepPs]
  | (j, d') :: kvs, vs, h => by
    obtain ⟨w, ws, rfl, h1, h2⟩ := h
    simp only [List.map_cons, RepPs, kV, RepP]
    exact ⟨_, _, rfl, rfl, repK_keys kvs ws h2⟩
theorem repC_mut {cl : Cell} {u : HO} (h : RepC C s cl u) : Mut (some u) := by
  cases cl with
  | lst xs =>
    obtain ⟨vs, rfl, _⟩ := h
    trivial
  | nst xs =>
    obtain ⟨vs, rfl, _⟩ := h
    trivial
  | obj c fs =>
    obtain ⟨_, _, dx, gs, rfl, _⟩ := h
    trivial
  | dct xs =>
    obtain ⟨vs, rfl, _⟩ := h
    trivial
theorem rd_ok (A : AtS C F s H) {d : D} {v : V} {kvs : List (Str × D)} (r : RepD C s d v) (h : rdD d s.S = some kvs) : ∃ q vs, v = .ref q ∧ Rd H q (.dK vs) ∧ RepK C s kvs vs := by
  cases d with
  | loc n =>
    obtain ⟨q, hq, rfl⟩ := r
    simp only [rdD] at h
    split at h
    · rename_i kvs' e
      cases h
      obtain ⟨q', u, k1, _, _, k4, vs, rfl, k5⟩ := A.live n _ e
      rw [k1] at hq
      cases hq
      exact ⟨_, vs, rfl, .inl k4, k5⟩
    · rename_i kvs' e
      cases h
      obtain ⟨q', od, u, k1, k2, _, vs, rfl, k5⟩ := A.lk.at_ n _ e
      rw [k1] at hq
      cases hq
      exact ⟨_, vs, rfl, .inr ⟨od, (A.frm _ _ k2).1⟩, k5⟩
    · cases h
  | _ => cases h
theorem x_newd : PE X (.Dict [] [] pos) (tE C W F fun _ S => .ok (.loc S.length) (S ++ [.live (.dct [])])) :=
  PE.imp pe_dnewK fun σ H Q ⟨δ, s, A, R, h⟩ p hp => by
    obtain ⟨A', ex, r⟩ := A.alloc (c := .dct []) (o := .dK []) hp ⟨[], rfl, rfl⟩
    exact h.to A' rfl ex r
theorem x_dget (hu : X.A.units + 1 < cLine) (hs : notSlice i = true) (ha : PE X a (tE C W F fa)) (hi : PE X i (tE C W F fi)) :
    PE X (.Subscript a i pos) (tE C W F fun δ S => (fa δ S).bind fun d1 S1 => (fi δ S1).bind fun d2 S2 => dgetG d1 d2 S2) :=
  PE.imp (pe_dget hu ha hi (by intro ov iv; cases i <;> first | rfl | cases hs)) fun σ H Q ⟨δ, s, A, R, h⟩ => by
    refine ⟨δ, s, A, R, Wt.imp (Wt.bind h) fun d1 s1 H1 _ e1 A1 h1 v1 r1 => ?_⟩
    refine ⟨δ, s1, A1, R.mono e1, Wt.imp (Wt.bind h1) fun d2 s2 H2 _ e2 A2 h2 v2 r2 => ?_⟩
    have r1' := RepD.mono e2 d1 v1 r1
    unfold dgetG at h2
    cases q : rdD d1 s2.S with
    | none =>
      rw [q] at h2
      exact h2.elim
    | some kvs =>
      rw [q] at h2
      cases d2 with
      | p zz =>
        cases zz with
        | str z =>
          dsimp only at h2
          simp only [RepD, RepP] at r2
          subst r2
          obtain ⟨qa, vs, rfl, rd, rk⟩ := rd_ok A2 r1' q
          cases l : lookD z kvs with
          | none =>
            rw [l] at h2
            exact h2.elim
          | some d =>
            rw [l] at h2
            obtain ⟨v, hv, rv⟩ := (repK_val kvs vs rk).1 d l
            exact ⟨qa, v, rfl, .inl ⟨vs, .inr z, rd, rfl, hv.symm⟩, h2.ok A2 rv⟩
        | _ => exact h2.elim
      | _ => exact h2.elim
theorem din_imp {neg : Bool} {f : Bool → Bool} {Q : VK} (hf : ∀ b, (b != neg) = f b) (h : tE C W F (fun δ S => (fi δ S).bind fun d2 S1 => (fa δ S1).bind fun d1 S2 => dinG neg d2 d1 S2) σ H Q) :
    tE C W F fi σ H fun y H1 => tE C W F fa σ H1 fun x H2 => ∃ a o, x = .ref a ∧ DGet H2 a y o ∧ Q (.bl (f o.isSome)) H2 := by
  obtain ⟨δ, s, A, R, h⟩ := h
  refine ⟨δ, s, A, R, Wt.imp (Wt.bind h) fun d2 s1 H1 _ e1 A1 h1 v2 r2 => ?_⟩
  refine ⟨δ, s1, A1, R.mono e1, Wt.imp (Wt.bind h1) fun d1 s2 H2 _ e2 A2 h2 v1 r1 => ?_⟩
  have r2' := RepD.mono e2 d2 v2 r2
  unfold dinG at h2
  cases q : rdD d1 s2.S with
  | none =>
    rw [q] at h2
    exact h2.elim
  | some kvs =>
    rw [q] at h2
    cases d2 with
    | p zz =>
      cases zz with
      | str z =>
        dsimp only at h2
        simp only [RepD, RepP] at r2'
        subst r2'
        obtain ⟨qa, vs, rfl, rd, rk⟩ := rd_ok A2 r1 q
        refine ⟨qa, valV vs (.inr z), rfl, .inl ⟨vs, .inr z, rd, rfl, rfl⟩, ?_⟩
        rw [(repK_val kvs vs rk).2, ← hf]
        exact h2.ok A2 (by simp only [RepD, RepP])
      | _ => exact h2.elim
    | _ => exact h2.elim
theorem pc_dinx {neg : Bool} {op : CmpOp} (ho : op = if neg then .NotIn else .In) (hu : X.A.units + 1 < cLine) (hi : PE X i (tE C W F fi)) (ha : PE X a (tE C W F fa)) : PC X op i a (tE C W F fun δ S => (fi δ S).bind fun d2 S1 => (fa δ S1).bind fun d1 S2 => dinG neg d2 d1 S2) := by
  cases neg with
  | false =>
    subst ho
    exact ⟨fun pins s σ H Q I h => (pc_din hu hi ha).run pins s σ H Q I (din_imp (f := fun b => b) (by intro b; cases b <;> rfl) h)⟩
  | true =>
    subst ho
    exact ⟨fun pins s σ H Q I h => (pc_dnotin hu hi ha).run pins s σ H Q I (din_imp (f := fun b => !b) (by intro b; cases b <;> rfl) h)⟩
theorem x_din {neg : Bool} {op : CmpOp} (ho : op = if neg then .NotIn else .In) (hu : X.A.units + 1 < cLine) (hn : notSet a = true) (hi : PE X i (tE C W F fi)) (ha : PE X a (tE C W F fa)) : PE X (.Compare i [op] [a] pos) (tE C W F fun δ S => (fi δ S).bind fun d2 S1 => (fa δ S1).bind fun d1 S2 => dinG neg d2 d1 S2) :=
  pe_cmp (pc_dinx ho hu hi ha) (marks_none hn)
theorem t_din {neg : Bool} {op : CmpOp} (ho : op = if neg then .NotIn else .In) (hu : X.A.units + 1 < cLine) (hn : notSet a = true) (hi : PE X i (tE C W F fi)) (ha : PE X a (tE C W F fa)) : PT X (.Compare i [op] [a] pos) (tT C W F fun δ S => (fi δ S).bind fun d2 S1 => (fa δ S1).bind fun d1 S2 => dinG neg d2 d1 S2) :=
  PT.imp (pt_cmp (pc_dinx ho hu hi ha) (marks_none hn)) fun σ H Q h => tE_of_tT h
def rDEq : R2 := fun x y H Q => ∃ p q vs ws, x = .ref p ∧ y = .ref q ∧ Rd H p (.dK vs) ∧ Rd H q (.dK ws) ∧ (vs = [] ∨ ws = []) ∧ Q (.bl (vs.isEmpty && ws.isEmpty)) H
theorem op_deq (hu : X.A.units + 1 < cLine) : OpR X (compareOp .Eq) rDEq := by
  intro pins s σ H x y v u Q I rx ry h
  obtain ⟨a, b, ks, ls, rfl, rfl, ea, eb, he, q⟩ := h
  obtain rfl : v = Value.ref a := rx
  obtain rfl : u = Value.ref b := ry
  obtain ⟨_, ya, va, ra, da⟩ := dk_rd I.hok ea
  obtain ⟨_, yb, vb, rb, db⟩ := dk_rd I.hok eb
  have la : ks.length = va.length := ra.length
  have lb : ls.length = vb.length := rb.length
  refine PySem.W.rcP_dicts (knd := mixKind X.prog X.w) (r := true) ya yb da db (by omega) (fun e => ?_) _ _ ?_
  · have z : va = [] := by
      rcases he with rfl | rfl
      · exact List.length_eq_zero_iff.mp la.symm
      · exact List.length_eq_zero_iff.mp (e.trans lb.symm)
    subst z
    exact .nil
  · have e : (va.length == vb.length && true) = (ks.isEmpty && ls.isEmpty) := by
      rw [Bool.and_true, ← la, ← lb]
      rcases he with rfl | rfl
      · cases ls <;> rfl
      · cases ks <;> rfl
    rw [e]
    exact ⟨.bl _, H, I, rfl, q⟩
theorem deq_imp {Q : VK} (h : tE C W F (fun δ S => (fa δ S).bind fun d1 S1 => (fb δ S1).bind fun d2 S2 => deqG d1 d2 S2) σ H Q) : tOp rDEq (tE C W F fa) (tE C W F fb) σ H Q := by
  obtain ⟨δ, s, A, R, h⟩ := h
  refine ⟨δ, s, A, R, Wt.imp (Wt.bind h) fun d1 s1 H1 _ e1 A1 h1 v1 r1 => ?_⟩
  refine ⟨δ, s1, A1, R.mono e1, Wt.imp (Wt.bind h1) fun d2 s2 H2 _ e2 A2 h2 v2 r2 => ?_⟩
  have r1' := RepD.mono e2 d1 v1 r1
  unfold deqG at h2
  cases q1 : rdD d1 s2.S with
  | none =>
    rw [q1] at h2
    exact h2.elim
  | some xs =>
    rw [q1] at h2
    cases q2 : rdD d2 s2.S with
    | none =>
      rw [q2] at h2
      exact h2.elim
    | some ys =>
      rw [q2] at h2
      obtain ⟨a, vs, rfl, ra, ka⟩ := rd_ok A2 r1' q1
      obtain ⟨b, ws, rfl, rb, kb⟩ := rd_ok A2 r2 q2
      have la := repK_len xs vs ka
      have lb := repK_len ys ws kb
      have ea : xs.isEmpty = vs.isEmpty := by cases xs <;> cases vs <;> first | rfl | cases la
      have eb : ys.isEmpty = ws.isEmpty := by cases ys <;> cases ws <;> first | rfl | cases lb
      dsimp only at h2
      rw [ea, eb] at h2
      by_cases c : (vs.isEmpty || ws.isEmpty) = true
      · rw [if_pos c] at h2
        refine ⟨a, b, vs, ws, rfl, rfl, ra, rb, ?_, h2.ok A2 (by simp only [RepD, RepP])⟩
        rw [Bool.or_eq_true] at c
        exact c.imp List.isEmpty_iff.mp List.isEmpty_iff.mp
      · rw [if_neg c] at h2
        exact h2.elim
theorem x_deq (hu : X.A.units + 1 < cLine) (ha : PE X a (tE C W F fa)) (hb : PE X b (tE C W F fb)) : PE X (.Compare a [.Eq] [b] pos) (tE C W F fun δ S => (fa δ S).bind fun d1 S1 => (fb δ S1).bind fun d2 S2 => deqG d1 d2 S2) :=
  PE.imp (pe_cmpR (op_deq hu) ha hb (nomark b)) fun σ H Q h => deq_imp h
theorem t_deq (hu : X.A.units + 1 < cLine) (ha : PE X a (tE C W F fa)) (hb : PE X b (tE C W F fb)) : PT X (.Compare a [.Eq] [b] pos) (tT C W F fun δ S => (fa δ S).bind fun d1 S1 => (fb δ S1).bind fun d2 S2 => deqG d1 d2 S2) :=
  PT.imp (pt_cmpR (op_deq hu) ha hb (nomark b)) fun σ H Q h => deq_imp (tE_of_tT h)
theorem x_dkeys (hc : X.calm = true) (hg : Gl X "list") (hm : X.mg "list" = none) (hn : notStar a = true) (ha : PE X a (tE C W F fa)) :
    PE X (.Call (.Name "list" p) [a] [] pos) (tE C W F fun δ S => (fa δ S).bind fun d S1 => dkeysG d S1) := by
  refine PE.imp (pe_callTy (call_list_dK hc) hg hm rfl (pa_cons ha pa_nil (star_cons hn)) (he := star_cons hn)) fun σ H Q ⟨δ, s, A, R, h⟩ => ?_
  refine ⟨δ, s, A, R, Wt.imp (Wt.bind h) fun d s1 H1 _ e1 A1 h1 v r1 => ?_⟩
  cases d with
  | loc n =>
    simp only [dkeysG] at h1
    split at h1
    · rename_i kvs e
      obtain ⟨q', u, k1, _, _, k4, vs, rfl, k5⟩ := A1.live n _ e
      obtain ⟨q, hq, rfl⟩ := r1
      rw [k1] at hq
      cases hq
      exact ⟨_, vs, rfl, k4, fun l hl => want_new A1 (repK_keys kvs vs k5) h1 l hl⟩
    · exact h1.elim
  | _ => exact h1.elim
theorem isDct_ok {n : Nat} {S : Sto} (h : isDct (.loc n) S = true) : ∃ kvs, S[n]? = some (.live (.dct kvs)) := by
  simp only [isDct] at h
  split at h
  · rename_i kvs e
    exact ⟨kvs, e⟩
  · cases h
theorem x_dpop (hb : plainBase o = true) (hn : notStar e = true) (hl : (apos.endLine == pos.line) = true) (ho : PE X o (tE C W F fo)) (he : PE X e (tE C W F fe)) :
    PE X (.Call (.Attribute o "pop" apos) [e] [] pos) (tE C W F fun δ S => (fo δ S).bind fun d1 S1 => if isDct d1 S1 then (fe δ S1).bind fun d2 S2 => dpopG d1 d2 S2 else .stuck) :=
  PE.imp (pe_dpop1 ho he ⟨base_plain hb, few_of (by simp only [List.all_cons, List.all_nil, Bool.and_true]; exact hn) (by simp), hl, by rw [star_cons hn]; rfl⟩) fun σ H Q ⟨δ, s, A, R, h⟩ => by
    refine ⟨δ, s, A, R, Wt.imp (Wt.bind h) fun d1 s1 H1 _ e1 A1 h1 v1 r1 => ?_⟩
    cases d1 with
    | loc n =>
      by_cases hd : isDct (.loc n) s1.S = true
      case neg =>
        rw [if_neg hd] at h1
        exact h1.elim
      rw [if_pos hd] at h1
      obtain ⟨kvs0, e0⟩ := isDct_ok hd
      obtain ⟨q0, u0, k1, _, _, k4, vs0, rfl, k5⟩ := A1.live n _ e0
      obtain ⟨q, hq, rfl⟩ := r1
      rw [k1] at hq
      cases hq
      refine ⟨_, rfl, .inl ⟨vs0, .inl k4⟩, δ, s1, A1, R.mono e1, Wt.imp (Wt.bind h1) fun d2 s2 H2 _ e2 A2 h2 v2 r2 => ?_⟩
      simp only [dpopG] at h2
      split at h2
      · rename_i kvs e
        cases d2 with
        | p zz =>
          cases zz with
          | str z =>
            dsimp only at h2
            simp only [RepD, RepP] at r2
            subst r2
            cases l : lookD z kvs with
            | none =>
              rw [l] at h2
              exact h2.elim
            | some d =>
              rw [l] at h2
              obtain ⟨q2, u2, j1, _, _, j4, vs, rfl, j5⟩ := A2.live n _ e
              have j1' := pre_get e2.μ k1
              rw [j1] at j1'
              cases j1'
              obtain ⟨v, hv, rv⟩ := (repK_val kvs vs j5).1 d l
              obtain ⟨A3, ex⟩ := A2.write (c' := .dct (dropD kvs z)) (o := .dK (dropK vs (.inr z))) e j1 ⟨_, rfl, repK_drop kvs vs j5⟩
              exact ⟨vs, .inr z, v, j4, rfl, hv, h2.to A3 rfl ex (RepD.mono ex d v rv)⟩
          | _ => exact h2.elim
        | _ => exact h2.elim
      · exact h2.elim
    | _ => exact h1.elim
theorem x_lmeth (sp : Spot C W X k) (gm : GoodI C X.prog X.w X.K X.mg X.base k Γ) {m : Nat} {x : Str} (hx : C.NM m = x) (hb : plainBase o = true) (hs : es.all notStar = true) (hn : es.length < 29) (hl : (apos.endLine == pos.line) = true) (ho : PE X o (tE C W F fo)) (ha : PA X es (tAD C W F fd)) :
    PE X (.Call (.Attribute o x apos) es [] pos) (tE C W F fun δ S => (fo δ S).bind fun d S1 => methL Γ m d (fd δ) S1) := by
  subst hx
  refine ⟨fun pins s σ H Q I h => ?_⟩
  obtain ⟨δ, s0, A, R, hw⟩ := h
  refine PySem.W.methodCall_KW (thn (ho.run pins s σ H _ I (tE.then A R hw)) fun u s1 ⟨y, H1, I1, ry, d, t1, e1, A1, R1, r1, w1⟩ => ?_) (meth_form hb hs hn hl)
  cases d with
  | loc n =>
    simp only [methL] at w1
    split at w1
    · rename_i c fs e
      obtain ⟨q, ho', k1, k2, k3, k4, hc, hm, dx, gs, rfl, rf⟩ := A1.live n _ e
      have r1' := r1
      obtain ⟨q', hq', rfl⟩ := r1
      rw [k1] at hq'
      cases hq'
      cases ry
      have cf := sp.cf.one c hc
      rw [sp.hk] at cf
      cases hg : Γ.imeth c m with
      | none =>
        simp only [hg] at w1
        exact w1.elim
      | some g =>
        simp only [hg] at w1
        have rd : tAD C W F fd σ H1 _ := ⟨δ, t1, A1, R1, Wt.thenA (Rel := RepDs C) R1 w1⟩
        obtain ⟨f, M, nf, cal⟩ := gm c m g hg
        have ln : gs.lookup (C.NM m) = none := by
          have go : ∀ (fs : List (Nat × D)) (gs : List (Str × V)), (∀ g ∈ fs.map (·.1), g ∈ C.FT c) → RepF C t1 fs gs → gs.lookup (C.NM m) = none := by
            intro fs
            induction fs with
            | nil =>
              intro gs _ h
              have h : gs = [] := h
              subst h
              rfl
            | cons p fs ih =>
              intro gs hm h
              obtain ⟨g, d⟩ := p
              obtain ⟨v, ws, rfl, _, h2⟩ := h
              have ne : (C.NM m == C.NM g) = false := by
                have := nf g (hm g (by simp))
                rw [beq_eq_false_iff_ne]
                exact fun z => this z.symm
              simp only [List.lookup, ne]
              exact ih ws (fun g' hg' => hm g' (by simp only [List.map_cons, List.mem_cons]; exact Or.inr hg')) h2
          exact go fs gs hm rf
        refine getmeth_ok I1 k4 cf.cl M ln ?_
        have run : ∀ us s2, AP X pins σ (fun ws H2 => ∃ d s2, ExtS t1 s2 ∧ AtS C F s2 H2 ∧ RepS C s2 δ σ ∧ RepDs C s2 d ws ∧ WantE C W F (RepD C) σ s2 (g (.loc n :: d) s2.S) Q) us s2 → wpAny (model X.prog X.w) X.A (call (.ref f) (.ref q :: us)) (EP X pins σ Q) X.xe s2 := by
          rintro us s2 ⟨ws, H2, I2, rv, d, t2, e2, A2, R2, r2, w2⟩
          refine wpAny_call (cal X W X.A pins s2 σ H2 (.ref q :: us) (.ref q :: ws) Q rfl rfl rfl rfl rfl sp.tk (sp.hr.mono (Nat.le_add_right _ _)) rfl I2 (.cons rfl rv) (spI_of A2 ?_ w2))
          exact ⟨.ref q, ws, rfl, RepD.mono e2 (.loc n) _ r1', r2⟩
        cases es with
        | nil =>
          refine PySem.W.callWith_K0 (first := [.ref q]) I1.kIn M.kp ?_
          have z := ha.run pos pins s1 σ H1 _ I1 rd
          have z' : wpAny (model X.prog X.w) X.A (pure []) (AP X pins σ _) X.xe s1 := z
          exact wpAny_bind (f := fun us => call (.ref f) (.ref q :: us)) (wpAny_mono z' (fun us s2 q => run us s2 q) fun _ _ z => z)
        | cons e es =>
          simp only [List.all_cons, Bool.and_eq_true] at hs
          refine PySem.W.callWith_K (first := [.ref q]) (h₀ := X.base) I.ok.mod.kin M.kp (thn (ha.run pos pins s1 σ H1 _ I1 rd) fun us s2 qq => ⟨?_, ?_⟩) (star_cons hs.1) (star_none hs.2)
          · obtain ⟨_, _, I2, _⟩ := qq
            exact I2.kIn
          · exact run us s2 qq
    · exact w1.elim
  | _ => exact w1.elim
/-! ### statements -/
theorem s_dput (hu : X.A.units + 1 < cLine) (ho : PE X o (tE C W F fo)) (hi : PE X i (tE C W F fi)) (he : PE X e (tE C W F fe)) (hs : notComp e = true) :
    PS X (.Assign [.Subscript o i p] e pos) (tS C W F fun δ S => (fe δ S).st δ fun d S1 => (fo δ S1).st δ fun d1 S2 => (fi δ S2).st δ fun d2 S3 => dputG d d1 d2 δ S3) :=
  PS.imp (ps_dput hu ho hi he (swaps_plain hs)) fun D σ H ⟨δ, s, A, R, h⟩ => by
    refine ⟨δ, s, A, R, Wt.imp (WantS.st R h) fun d s1 H1 _ e1 A1 h1 v r => ?_⟩
    refine ⟨δ, s1, A1, R.mono e1, Wt.imp (WantS.st (R.mono e1) h1) fun d1 s2 H2 _ e2 A2 h2 v1 r1 => ?_⟩
    refine ⟨δ, s2, A2, (R.mono e1).mono e2, Wt.imp (WantS.st ((R.mono e1).mono e2) h2) fun d2 s3 H3 _ e3 A3 h3 v2 r2 => ?_⟩
    cases d1 with
    | loc n =>
      simp only [dputG] at h3
      split at h3
      · rename_i kvs e
        cases d2 with
        | p zz =>
          cases zz with
          | str z =>
            dsimp only at h3
            split at h3
            · rename_i hl
              simp only [RepD, RepP] at r2
              subst r2
              obtain ⟨q, u, k1, k2, k3, k4, vs, rfl, k5⟩ := A3.live n _ e
              obtain ⟨q', hq', rfl⟩ := RepD.mono e3 (.loc n) v1 r1
              rw [k1] at hq'
              cases hq'
              have rv := RepD.mono (e2.trans e3) d v r
              obtain ⟨A4, ex⟩ := A3.write (c' := .dct (putD kvs z d)) (o := .dK (putK vs (.inr z) v)) e k1 ⟨_, rfl, repK_put rv kvs vs k5⟩
              refine ⟨q, _, rfl, .inl ⟨vs, .inr z, k4, rfl, ?_, rfl⟩, h3 σ _ _ rfl ex A4 ((((R.mono e1).mono e2).mono e3).mono ex)⟩
              rw [← repK_len kvs vs k5]
              have := of_decide_eq_true hl
              have := sizeLine_big
              omega
            · exact h3.elim
          | _ => exact h3.elim
        | _ => exact h3.elim
      · exact h3.elim
    | _ => exact h3.elim
theorem s_incf (sp : Spot C W X k) {f : Nat} {x : Str} {neg : Bool} {n : Int} {j : Nat} {op : Operator} (hx : C.NM f = x) (hop : op = if neg then .Sub else .Add) (ho : PE X o (tE C W F fo)) :
    PS X (.AugAssign (.Attribute o x p) op (.Constant (.int n) j p2) pos) (tS C W F fun δ S => (fo δ S).st δ fun d S1 => incfG C.FT f neg n d δ S1) := by
  subst hx
  have main : ∀ {rd : V → V → Hp → VK → Prop}, InOp X op rd → (∀ (m : Int) H Q, Q (.int (if neg then m - n else m + n)) H → rd (.int m) (.int n) H Q) → PS X (.AugAssign (.Attribute o (C.NM f) p) op (.Constant (.int n) j p2) pos) (tS C W F fun δ S => (fo δ S).st δ fun d S1 => incfG C.FT f neg n d δ S1) := by
    intro rd hio hrd
    refine PS.imp (ps_fldaug ho pe_int hio) fun D σ H ⟨δ, s, A, R, h⟩ => ?_
    refine ⟨δ, s, A, R, Wt.imp (WantS.st R h) fun d s1 H1 _ e1 A1 h1 v r => ?_⟩
    cases d with
    | loc l =>
      simp only [incfG] at h1
      split at h1
      · rename_i c fs e
        split at h1
        · rename_i m hm
          split at h1
          · rename_i hl
            simp only [Bool.and_eq_true, decide_eq_true_eq, List.contains_iff_mem] at hl
            obtain ⟨q, o', k1, k2, k3, k4, hc, hmm, dx, gs, rfl, rf⟩ := A1.live l _ e
            obtain ⟨q', hq', rfl⟩ := r
            rw [k1] at hq'
            cases hq'
            have cf := sp.cf.one c hc
            rw [sp.hk] at cf
            have na := sp.fl.na c hc f hl.2
            rw [sp.hk] at na
            obtain ⟨v, hv, rv⟩ := fld_live fs gs (fun g hg => sp.fl.inj c hc g (hmm g hg) f) rf hm
            simp only [RepD, RepP] at rv
            subst rv
            refine ⟨q, C.CA c, dx, gs, .int m, rfl, k4, cf.cl, na, hv, hrd m H1 _ ?_⟩
            have r' : RepC C s1 (.obj c (setFld f (.p (.int (if neg then m - n else m + n))) fs)) (.ins (C.CA c) dx (putF (C.NM f) (.int (if neg then m - n else m + n)) gs)) := ⟨hc, fun g hg => by
              rcases setFld_mem fs g hg with z | z
              · rw [z]
                exact hl.2
              · exact hmm g z, dx, _, rfl, repF_set (d := .p (.int _)) (by simp only [RepD, RepP]) fs gs (fun g hg => sp.fl.inj c hc g (hmm g hg) f) rf⟩
            obtain ⟨A', ex⟩ := A1.write e k1 r'
            exact ⟨dx, gs, k4, by rw [← repF_len fs gs rf]; omega, h1 σ _ _ rfl ex A' ((R.mono e1).mono ex)⟩
          · exact h1.elim
        · exact h1.elim
      · exact h1.elim
    | _ => exact h1.elim
  cases neg with
  | false =>
    subst hop
    exact main in_add fun m H Q q => ⟨m, n, rfl, rfl, q⟩
  | true =>
    subst hop
    exact main in_sub fun m H Q q => ⟨m, n, rfl, rfl, q⟩
theorem sub_assign {env : Env} (hsl : notSlice i = true) (v : Value) : assign (.Subscript o i p) env v = (do
      let ov ← holding [v] (eval o env)
      let iv ← holding [v, ov] (eval i env)
      standAt p
      holding [v, ov, iv] (setItem ov iv v)
      release [v, ov, iv] []) := by
  cases i <;> first | rfl | cases hsl
theorem seti_step {y : P} {d2 d3 : D} {v u w : V} {S4 : Sto} {Q : Hp → Prop} (A : AtS C F s H) (ry : RepP C s.G y v) (r2 : RepD C s d2 u) (r3 : RepD C s d3 w) (h : setiG y d2 d3 s.S = some S4) (q : ∀ s' H', s'.S = S4 → ExtS s s' → AtS C F s' H' → Q H') : rSetL u w v H Q := by
  cases d2 with
  | loc n =>
    cases d3 with
    | p z =>
      cases z with
      | int j =>
        simp only [setiG] at h
        simp only [RepD, RepP] at r3
        subst r3
        split at h
        · rename_i xs e
          obtain ⟨qa, o', k1, k2, k3, k4, vs, rfl, rf⟩ := A.live n _ e
          obtain ⟨q', hq', rfl⟩ := r2
          rw [k1] at hq'
          cases hq'
          cases hx : setIx xs j y with
          | none =>
            rw [hx] at h
            cases h
          | some ys =>
            rw [hx] at h
            cases h
            obtain ⟨l, hj, rfl⟩ := setIx_at (RepPs.len xs vs rf) hx
            have r' : RepC C s (.lst (xs.set l y)) (.lst (vs.set l v)) := ⟨_, rfl, reps_set ry xs vs l rf⟩
            obtain ⟨A', ex⟩ := A.write e k1 r'
            exact ⟨qa, vs, j, l, rfl, rfl, k4, hj, q _ _ rfl ex A'⟩
        · cases h
      | _ => cases h
    | _ => cases h
  | _ => cases h
theorem s_seti2 {o1 i1 o2 i2 : Expr} {f1 g1 f2 g2 : DEnv → Sto → RE D} {p1 p3 : Pos} {j : Nat} (hc : X.calm = true) (hk : C.K = X.K) (hs1 : notSlice i1 = true) (hs2 : notSlice i2 = true) (ho1 : PE X o1 (tE C W F f1)) (hi1 : PE X i1 (tE C W F g1)) (ho2 : PE X o2 (tE C W F f2)) (hi2 : PE X i2 (tE C W F g2)) (he : PE X e (tE C W F fe)) (hw : swappedStores [.Tuple [.Subscript o1 i1 p1, .Subscript o2 i2 p2] j p3] e X.env = pure none) :
    PS X (.Assign [.Tuple [.Subscript o1 i1 p1, .Subscript o2 i2 p2] j p3] e pos) (tS C W F fun δ S => (fe δ S).st δ fun d S1 => match d with
      | .p (.tup [y1, y2]) => (f1 δ S1).st δ fun a1 S2 => (g1 δ S2).st δ fun b1 S3 => match setiG y1 a1 b1 S3 with
        | some S4 => (f2 δ S4).st δ fun a2 S5 => (g2 δ S5).st δ fun b2 S6 => match setiG y2 a2 b2 S6 with
          | some S7 => .next δ S7
          | none => .stuck
        | none => .stuck
      | _ => .stuck) := by
  refine PS.imp (ps_asg he (pg_tup (n := 2) hc (pgs_cons (pg_sub ho1 hi1 set_list (sub_assign hs1)) (pgs_cons (pg_sub ho2 hi2 set_list (sub_assign hs2)) pgs_nil))) sole_tup hw (one_each rfl)) fun D σ H ⟨δ, s, A, R, h⟩ => ?_
  refine ⟨δ, s, A, R, Wt.imp (WantS.st R h) fun d s1 H1 _ e1 A1 h1 v r => ?_⟩
  obtain ⟨y1, y2, rfl⟩ : ∃ y1 y2, d = .p (.tup [y1, y2]) := by
    cases d with
    | p z =>
      cases z with
      | tup l => rcases l with _ | ⟨y1, _ | ⟨y2, _ | ⟨y3, l⟩⟩⟩ <;> first | exact h1.elim | exact ⟨y1, y2, rfl⟩
      | _ => exact h1.elim
    | _ => exact h1.elim
  · simp only [RepD, RepP, RepPs] at r
    obtain ⟨q, vs, rfl, hq, v1, w1, rfl, ry1, v2, w2, rfl, ry2, rfl⟩ := r
    rw [hk] at hq
    refine ⟨q, [v1, v2], rfl, sqT_mono A1.sub hq, rfl, v1, [v2], rfl, ?_⟩
    have R1 := R.mono e1
    refine ⟨δ, s1, A1, R1, Wt.imp (WantS.st R1 h1) fun a1 s2 H2 _ e2 A2 h2 u1 r1 => ?_⟩
    refine ⟨δ, s2, A2, R1.mono e2, Wt.imp (WantS.st (R1.mono e2) h2) fun b1 s3 H3 _ e3 A3 h3 x1 r2 => ?_⟩
    have R3 := (R1.mono e2).mono e3
    cases q1 : setiG y1 a1 b1 s3.S with
    | none =>
      rw [q1] at h3
      exact h3.elim
    | some S4 =>
      rw [q1] at h3
      refine seti_step A3 (RepP.mono (e2.trans e3).G y1 v1 ry1) (RepD.mono e3 a1 u1 r1) r2 q1 fun s4 H4 hS4 e4 A4 => ?_
      subst hS4
      have R4 := R3.mono e4
      refine ⟨v2, [], rfl, ?_⟩
      have h4 := WantS.ext e4 h3
      refine ⟨δ, s4, A4, R4, Wt.imp (WantS.st R4 h4) fun a2 s5 H5 _ e5 A5 h5 u2 r3 => ?_⟩
      refine ⟨δ, s5, A5, R4.mono e5, Wt.imp (WantS.st (R4.mono e5) h5) fun b2 s6 H6 _ e6 A6 h6 x2 r4 => ?_⟩
      have R6 := (R4.mono e5).mono e6
      cases q2 : setiG y2 a2 b2 s6.S with
      | none =>
        rw [q2] at h6
        exact h6.elim
      | some S7 =>
        rw [q2] at h6
        refine seti_step A6 (RepP.mono (((e2.trans e3).trans e4).trans (e5.trans e6)).G y2 v2 ry2) (RepD.mono e6 a2 u2 r3) r4 q2 fun s7 H7 hS7 e7 A7 => ?_
        exact ⟨rfl, h6 σ s7 H7 hS7 e7 A7 (R6.mono e7)⟩
end
end RP
end

section
set_option Elab.async false
set_option linter.all false
set_option maxRecDepth 100000
set_option maxHeartbeats 2000000
/-! Going through a dict, through a list of things that change. -/
namespace RP
open PySem L2
section
variable {C : CC} {W : WX} {X : Cx} {F : Hp} {e tg iter : Expr} {fa fe fc : DEnv → Sto → RE D} {pos p cpos apos : Pos} {s s1 : Sit} {σ : L2.St} {H : Hp} {δ : DEnv} {D' : Ends} {a : Addr} {od : Obj} {u : HO} {n : Nat}
/-! ### targets -/
def gD (K : PySem.W.Frag) : List Nat → TG
  | [i] => gName i
  | [i, j] => gTup K 2 (gCons (gName i) (gCons (gName j) gNil))
  | _ => fun _ _ _ _ => False
/-- the iterator gives these, wherever the thing stands locked -/
def ItDOk (C : CC) (K : PySem.W.Frag) (a : Addr) (fz : HO) (s : Sit) (js : List Nat) (xs : List (List D)) (J : L2.It) : Prop := ∀ F s' H i δ σ, F a = some fz → ExtS s s' → AtS C F s' H → RepS C s' δ σ →
  (∀ ds δ', xs[i]? = some ds → bindD js ds δ = some δ' → J.go i H ∧ ∀ x H', J.yld i H x H' → gD K js x σ H' fun σ' H2 => ∃ s2, ExtS s' s2 ∧ s2.S = s'.S ∧ AtS C F s2 H2 ∧ RepS C s2 δ' σ' ∧ Upto js σ σ') ∧ (xs.length = i → J.stop i H)
def iSeqL (K : PySem.W.Frag) (tl : TE) : TI := fun σ H R => tl σ H fun x H1 => ∃ a xs, x = .ref a ∧ SqL K H1 a xs ∧ R (Itl K a) H1
def iD (K : PySem.W.Frag) (k : DK) (td : TE) : TI := match k with
  | .vals => iVals td
  | .itms => iItems td
  | .keys => iKeys td
  | .list => iSeqL K td
theorem repK_at : ∀ (kvs : List (Str × D)) (vs : List (Key × V)) (i : Nat) {k : Str} {d : D}, RepK C s kvs vs → kvs[i]? = some (k, d) → ∃ v, vs[i]? = some (.inr k, v) ∧ RepD C s d v
  | [], _, i, _, _, _, e => by simp at e
  | (j, d') :: kvs, vs, i, k, d, h, e => by
    obtain ⟨w, ws, rfl, h1, h2⟩ := h
    cases i with
    | zero =>
      simp only [List.getElem?_cons_zero, Option.some.injEq] at e
      cases e
      exact ⟨w, rfl, h1⟩
    | succ i =>
      simp only [List.getElem?_cons_succ] at e ⊢
      exact repK_at kvs ws i h2 e
theorem repDs_at : ∀ (ds : List D) (vs : List V) (i : Nat) {d : D}, RepDs C s ds vs → ds[i]? = some d → ∃ v, vs[i]? = some v ∧ RepD C s d v
  | [], _, i, _, _, e => by simp at e
  | d' :: ds, vs, i, d, h, e => by
    obtain ⟨w, ws, rfl, h1, h2⟩ := h
    cases i with
    | zero =>
      simp only [List.getElem?_cons_zero, Option.some.injEq] at e
      cases e
      exact ⟨w, rfl, h1⟩
    | succ i =>
      simp only [List.getElem?_cons_succ] at e ⊢
      exact repDs_at ds ws i h2 e
theorem set_upto {i : Nat} {v : Option V} : Upto [i] σ (σ.set i v) := ⟨List.length_set, fun j hj => List.getElem?_set_ne (fun z => hj (by rw [z]; exact List.mem_singleton.mpr rfl))⟩
/-- one name -/
theorem gD_one {K : PySem.W.Frag} {js : List Nat} {d : D} {δ' : DEnv} {x : V} {Q : L2.St → Hp → Prop} (hb : bindD js [d] δ = some δ') (R : RepS C s δ σ) (r : RepD C s d x) (q : ∀ σ', RepS C s δ' σ' → Upto js σ σ' → Q σ' H) : gD K js x σ H Q := by
  cases js with
  | nil => cases hb
  | cons i js =>
    cases js with
    | nil =>
      simp only [bindD, Option.some.injEq] at hb
      subst hb
      exact q _ (R.set r) set_upto
    | cons j js =>
      simp only [bindD] at hb
      cases hb
/-- two names -/
theorem gD_two {K : PySem.W.Frag} {js : List Nat} {d1 d2 : D} {δ' : DEnv} {q0 : Addr} {v w : V} {Q : L2.St → Hp → Prop} (hb : bindD js [d1, d2] δ = some δ') (R : RepS C s δ σ) (hq : H q0 = some (.tup [v, w])) (r1 : RepD C s d1 v) (r2 : RepD C s d2 w) (q : ∀ σ', RepS C s δ' σ' → Upto js σ σ' → Q σ' H) : gD K js (.ref q0) σ H Q := by
  cases js with
  | nil => cases hb
  | cons i js =>
    cases js with
    | nil =>
      simp only [bindD] at hb
      cases hb
    | cons j js =>
      cases js with
      | nil =>
        simp only [bindD, Option.some.injEq] at hb
        subst hb
        refine ⟨q0, [v, w], rfl, .inl (.inl hq), rfl, v, [w], rfl, w, [], rfl, rfl, ?_⟩
        refine q _ ((R.set r1).set r2) ⟨by rw [List.length_set, List.length_set], fun l hl => ?_⟩
        simp only [List.mem_cons, List.not_mem_nil, or_false, not_or] at hl
        rw [List.getElem?_set_ne (fun z => hl.2 z.symm), List.getElem?_set_ne (fun z => hl.1 z.symm)]
      | cons l js =>
        simp only [bindD] at hb
        cases hb
theorem it_ok {k : DK} {c : Cell} {xs : List (List D)} (hk : itmsD k c = some xs) (rc : RepC C s c u) {K : PySem.W.Frag} {js : List Nat} {td : TE} {R : L2.It → Hp → Prop} (hH : H a = some (.frz od u))
    (h : ∀ J, ItDOk C K a (.frz od u) s js xs J → R J H) (ht : ∀ Q : VK, Q (.ref a) H → td σ H Q) : iD K k td σ H R := by
  cases c with
  | lst ys => cases hk
  | obj c fs => cases hk
  | nst ds =>
    cases k with
    | list =>
      cases hk
      obtain ⟨vs, rfl, rd⟩ := rc
      refine ht _ ⟨a, vs, rfl, .inl (.inr ⟨od, hH⟩), h _ fun F s' H' i δ σ hF ex A RR => ⟨fun ds' δ' hx hb => ?_, fun hi => ?_⟩⟩
      · rw [List.getElem?_map] at hx
        obtain ⟨d, hd, rfl⟩ := Option.map_eq_some_iff.mp hx
        have hH' := (A.frm _ _ hF).1
        obtain ⟨v, hv, rv⟩ := repDs_at _ vs i rd hd
        refine ⟨⟨vs, v, .inl (.inr ⟨od, hH'⟩), hv⟩, fun x H2 ⟨e, y⟩ => ?_⟩
        subst e
        have e2 := y vs (.inl (.inr ⟨od, hH'⟩))
        rw [hv] at e2
        cases e2
        exact gD_one hb RR (RepD.mono ex d v rv) fun σ' R' up => ⟨s', ExtS.refl s', rfl, A, R', up⟩
      · have hH' := (A.frm _ _ hF).1
        rw [List.length_map, RepDs.len _ _ rd] at hi
        exact ⟨vs, .inl (.inr ⟨od, hH'⟩), by omega⟩
    | _ => cases hk
  | dct kvs =>
    obtain ⟨vs, rfl, rk⟩ := rc
    cases k with
    | list => cases hk
    | vals =>
      cases hk
      refine ht _ ⟨a, od, vs, rfl, hH, h _ fun F s' H' i δ σ hF ex A RR => ⟨fun ds' δ' hx hb => ?_, fun hi => ?_⟩⟩
      · rw [List.getElem?_map] at hx
        obtain ⟨⟨z, d⟩, hd, rfl⟩ := Option.map_eq_some_iff.mp hx
        have hH' := (A.frm _ _ hF).1
        obtain ⟨v, hv, rv⟩ := repK_at _ vs i rk hd
        refine ⟨⟨hH', (List.getElem?_eq_some_iff.mp hv).1⟩, fun x H2 ⟨e, kk, y⟩ => ?_⟩
        subst e
        rw [hv] at y
        cases y
        exact gD_one hb RR (RepD.mono ex d v rv) fun σ' R' up => ⟨s', ExtS.refl s', rfl, A, R', up⟩
      · rw [List.length_map, repK_len _ _ rk] at hi
        exact ⟨(A.frm _ _ hF).1, by omega⟩
    | keys =>
      cases hk
      refine ht _ ⟨a, od, rfl, .inl ⟨vs, hH, h _ fun F s' H' i δ σ hF ex A RR => ⟨fun ds' δ' hx hb => ?_, fun hi => ?_⟩⟩⟩
      · rw [List.getElem?_map] at hx
        obtain ⟨⟨z, d⟩, hd, rfl⟩ := Option.map_eq_some_iff.mp hx
        have hH' := (A.frm _ _ hF).1
        obtain ⟨v, hv, rv⟩ := repK_at _ vs i rk hd
        refine ⟨⟨hH', (List.getElem?_eq_some_iff.mp hv).1⟩, fun x H2 ⟨e, kk, w, y, ex'⟩ => ?_⟩
        subst e
        rw [hv] at y
        cases y
        subst ex'
        exact gD_one (d := .p (.str z)) hb RR (by simp only [RepD, RepP, kV]) fun σ' R' up => ⟨s', ExtS.refl s', rfl, A, R', up⟩
      · rw [List.length_map, repK_len _ _ rk] at hi
        exact ⟨(A.frm _ _ hF).1, by omega⟩
    | itms =>
      cases hk
      refine ht _ ⟨a, od, vs, rfl, hH, h _ fun F s' H' i δ σ hF ex A RR => ⟨fun ds' δ' hx hb => ?_, fun hi => ?_⟩⟩
      · rw [List.getElem?_map] at hx
        obtain ⟨⟨z, d⟩, hd, rfl⟩ := Option.map_eq_some_iff.mp hx
        have hH' := (A.frm _ _ hF).1
        obtain ⟨v, hv, rv⟩ := repK_at _ vs i rk hd
        refine ⟨⟨hH', (List.getElem?_eq_some_iff.mp hv).1⟩, fun x H2 ⟨T, kk, w, y, ex', hT, eH⟩ => ?_⟩
        subst ex' eH
        rw [hv] at y
        cases y
        have A2 : AtS C F s' (upd H' T (.tup [kV (.inr z), v])) := A.keep (Same.new hT)
        exact gD_two (d1 := .p (.str z)) hb RR upd_same (by simp only [RepD, RepP, kV]) (RepD.mono ex d v rv) fun σ' R' up => ⟨s', ExtS.refl s', rfl, A2, R', up⟩
      · rw [List.length_map, repK_len _ _ rk] at hi
        exact ⟨(A.frm _ _ hF).1, by omega⟩
/-! ### the thing is locked -/
def lkE (a : Addr) (od : Obj) (u : HO) (D : Ends) : Ends := ⟨fun σ' H' => H' a = some (.frz od u) ∧ D.nx σ' (upd H' a u), fun v H' => H' a = some (.frz od u) ∧ D.rt v (upd H' a u), fun σ' H' => H' a = some (.frz od u) ∧ D.bk σ' (upd H' a u), fun σ' H' => H' a = some (.frz od u) ∧ D.ct σ' (upd H' a u)⟩
theorem freeS_ok {s' : Sit} {S2 : Sto} (hF : F a = none) (ha : s'.μ[n]? = some a) (A : AtS C (upd F a (.frz od u)) s' H) (h : freeS n s'.S = some S2) : H a = some (.frz od u) ∧ AtS C F { s' with S := S2 } (upd H a u) ∧ ExtS s' { s' with S := S2 } := by
  unfold freeS at h
  split at h
  · rename_i c e
    cases h
    obtain ⟨h1, _, _, h2, h3⟩ := A.unlock hF e ha
    exact ⟨h1, h2, h3⟩
  · cases h
theorem free_want {r : RS} (ex : ExtS s s1) (hF : F a = none) (ha : s1.μ[n]? = some a) (h : WantS C W F s (freeR n r) D') : WantS C W (upd F a (.frz od u)) s1 r (lkE a od u D') := by
  cases r with
  | next δ S' =>
    intro σ s' H' hS e A R
    subst hS
    simp only [freeR] at h
    cases q : freeS n s'.S with
    | none =>
      rw [q] at h
      exact h.elim
    | some S2 =>
      rw [q] at h
      obtain ⟨h1, A2, e2⟩ := freeS_ok hF (pre_get e.μ ha) A q
      exact ⟨h1, h σ _ _ rfl (ex.trans (e.trans e2)) A2 (R.mono e2)⟩
  | brk δ S' =>
    intro σ s' H' hS e A R
    subst hS
    simp only [freeR] at h
    cases q : freeS n s'.S with
    | none =>
      rw [q] at h
      exact h.elim
    | some S2 =>
      rw [q] at h
      obtain ⟨h1, A2, e2⟩ := freeS_ok hF (pre_get e.μ ha) A q
      exact ⟨h1, h σ _ _ rfl (ex.trans (e.trans e2)) A2 (R.mono e2)⟩
  | cnt δ S' =>
    intro σ s' H' hS e A R
    subst hS
    simp only [freeR] at h
    cases q : freeS n s'.S with
    | none =>
      rw [q] at h
      exact h.elim
    | some S2 =>
      rw [q] at h
      obtain ⟨h1, A2, e2⟩ := freeS_ok hF (pre_get e.μ ha) A q
      exact ⟨h1, h σ _ _ rfl (ex.trans (e.trans e2)) A2 (R.mono e2)⟩
  | ret d S' =>
    intro v s' H' hS e A R
    subst hS
    simp only [freeR] at h
    cases q : freeS n s'.S with
    | none =>
      rw [q] at h
      exact h.elim
    | some S2 =>
      rw [q] at h
      obtain ⟨h1, A2, e2⟩ := freeS_ok hF (pre_get e.μ ha) A q
      exact ⟨h1, h v _ _ rfl (ex.trans (e.trans e2)) A2 (RepD.mono e2 d v R)⟩
  | exc c x δ S' => exact h.elim
  | stuck => exact h.elim
theorem noX_want {r : RS} (h : WantS C W F s (noX r) D') : WantS C W F s r D' := by
  cases r with
  | exc c x δ S' => exact h.elim
  | _ => exact h
theorem lockR_ok {δ : DEnv} {go : Nat → Cell → Sto → RS} (A : AtS C F s H) (h : WantS C W F s (lockR fa δ s.S go .stuck) D') :
    ∃ n c S1 c', s.S[n]? = some (.live c) ∧ fa δ (s.S.set n (.lk c)) = .ok (.loc n) S1 ∧ S1[n]? = some (.lk c') ∧ WantS C W F s (go n c' S1) D' := by
  unfold lockR at h
  split at h
  · rename_i n S0 q0
    split at h
    · rename_i c q1
      split at h
      · rename_i m S1 q2
        split at h
        · rename_i hm
          subst hm
          split at h
          · rename_i c' q3
            exact ⟨_, c, S1, c', q1, q2, q3, h⟩
          · exact h.elim
        · exact h.elim
      · exact h.elim
    · exact h.elim
  · exact h.elim
/-- the lock, and what hangs on it -/
theorem lock_want {go : DEnv → Nat → Cell → Sto → RS} {t : TS} (h : tS C W F (fun δ S => lockR fa δ S (go δ) .stuck) D' σ H)
    (k : ∀ (δ : DEnv) (s : Sit) (n : Nat) (c' : Cell) (S1 : Sto) (s0 : Sit) (a : Addr) (od : Obj) (u : HO) (H0 : Hp), ExtS s s0 → AtS C (upd F a (.frz od u)) s0 H0 → RepS C s0 δ σ → F a = none → s0.μ[n]? = some a → S1[n]? = some (.lk c') → fa δ s0.S = .ok (.loc n) S1 → WantS C W F s (go δ n c' S1) D' → t (lkE a od u D') σ H0) :
    tLock t D' σ H := by
  obtain ⟨δ, s, A, R, h⟩ := h
  obtain ⟨n, c, S1, c', q1, q2, q3, h⟩ := lockR_ok A h
  obtain ⟨a, u, k1, k2, mu, k3, k4, k5, k6⟩ := A.lock q1 fun u r => repC_mut r
  refine ⟨a, u, k2, mu, fun od => ?_⟩
  have ex : ExtS s { s with S := s.S.set n (.lk c) } := ⟨Same.refl _, List.prefix_refl _⟩
  exact k δ s n c' S1 { s with S := s.S.set n (.lk c) } a od u _ ex (k6 od) (R.mono ex) k3 k1 q3 q2 h
theorem exW_pe {X : Cx} {e : Expr} {fe : DEnv → Sto → RE D} (h : ∀ F, PE X e (tE C W F fe)) : PE X e (fun σ H Q => ∃ F, tE C W F fe σ H Q) := ⟨fun pins s σ H Q I ⟨F, q⟩ => (h F).run pins s σ H Q I q⟩
theorem exW_ps {X : Cx} {l : List Stmt} {g : DEnv → Sto → RS} (h : ∀ F, PSs X l (tS C W F g)) : PSs X l (fun D σ H => ∃ F, tS C W F g D σ H) := ⟨fun pins s σ H D I ⟨F, q⟩ => (h F).run pins s σ H D I q⟩
/-- the iterator of a locked thing -/
theorem iD_want {k : DK} {js : List Nat} {K : PySem.W.Frag} {c' : Cell} {S1 : Sto} {s0 : Sit} {H0 : Hp} {xs : List (List D)} {R : L2.It → Hp → Prop} (A : AtS C (upd F a (.frz od u)) s0 H0) (RR : RepS C s0 δ σ) (ha : s0.μ[n]? = some a) (q : S1[n]? = some (.lk c')) (hf : fa δ s0.S = .ok (.loc n) S1) (hk : itmsD k c' = some xs)
    (h : ∀ (s1 : Sit) (H1 : Hp) (J : L2.It), s1.S = S1 → ExtS s0 s1 → AtS C (upd F a (.frz od u)) s1 H1 → ItDOk C K a (.frz od u) s1 js xs J → R J H1) : iD K k (fun σ H Q => ∃ F, tE C W F fa σ H Q) σ H0 R := by
  have main : ∀ Q : VK, (∀ s1 H1, s1.S = S1 → ExtS s0 s1 → AtS C (upd F a (.frz od u)) s1 H1 → Q (.ref a) H1) → ∃ F, tE C W F fa σ H0 Q := fun Q z => ⟨_, δ, s0, A, RR, by
    rw [hf]
    intro s1 H1 hS ex A1 v r
    obtain ⟨a', ha', rfl⟩ := r
    have e := pre_get ex.μ ha
    rw [e] at ha'
    cases ha'
    exact z s1 H1 hS ex A1⟩
  have at1 : ∀ s1 H1, s1.S = S1 → ExtS s0 s1 → AtS C (upd F a (.frz od u)) s1 H1 → H1 a = some (.frz od u) ∧ RepC C s1 c' u := fun s1 H1 hS ex A1 => by
    obtain ⟨b, od', u', k1, k2, _, k4⟩ := A1.lk.at_ n c' (by rw [hS]; exact q)
    rw [pre_get ex.μ ha] at k1
    cases k1
    rw [upd_same] at k2
    cases k2
    exact ⟨(A1.frm _ _ upd_same).1, k4⟩
  cases k with
  | vals =>
    refine main _ fun s1 H1 hS ex A1 => ?_
    obtain ⟨hH, rc⟩ := at1 s1 H1 hS ex A1
    exact it_ok (k := .vals) (td := fun _ H Q => Q (.ref a) H) (σ := σ) hk rc hH (fun J ok => h s1 H1 J hS ex A1 ok) fun Q z => z
  | itms =>
    refine main _ fun s1 H1 hS ex A1 => ?_
    obtain ⟨hH, rc⟩ := at1 s1 H1 hS ex A1
    exact it_ok (k := .itms) (td := fun _ H Q => Q (.ref a) H) (σ := σ) hk rc hH (fun J ok => h s1 H1 J hS ex A1 ok) fun Q z => z
  | keys =>
    refine main _ fun s1 H1 hS ex A1 => ?_
    obtain ⟨hH, rc⟩ := at1 s1 H1 hS ex A1
    exact it_ok (k := .keys) (td := fun _ H Q => Q (.ref a) H) (σ := σ) hk rc hH (fun J ok => h s1 H1 J hS ex A1 ok) fun Q z => z
  | list =>
    refine main _ fun s1 H1 hS ex A1 => ?_
    obtain ⟨hH, rc⟩ := at1 s1 H1 hS ex A1
    exact it_ok (k := .list) (td := fun _ H Q => Q (.ref a) H) (σ := σ) hk rc hH (fun J ok => h s1 H1 J hS ex A1 ok) fun Q z => z
theorem pi_seqL {tl : TE} (hl : PE X e tl) : PI X tg e (iSeqL X.K tl) := by
  refine ⟨fun pins s σ H R I h => ?_⟩
  refine thn (hl.run pins s σ H _ I h) fun v s1 ⟨x, H1, I1, r1, a, xs, ea, hq, q⟩ => ?_
  subst ea
  cases r1
  have fp : ∀ b ∈ [s1.heap.objs.size], FpOk X pins H1 b := fun b hb => by
    have e : b = s1.heap.objs.size := by simpa using hb
    subst e
    exact I1.fpOk (Nat.le_refl _) (I1.hok.fresh (Nat.le_refl _))
  obtain ⟨its, rv, p, hz⟩ := I1.list hq
  exact wpAny_pyIter_list p.isList ⟨s1.heap.objs.size, [s1.heap.objs.size], _, _, H1, rfl, I1.kept (t' := s1.toks) fun b o e => Heap.get?_push_of_some _ e, turn_list a _, ⟨_, Heap.get?_push_size _ rfl, rfl, rfl⟩, fp, q⟩
/-! ### the loop -/
theorem s_forD {body : List Stmt} {g : DEnv → Sto → RS} {js : List Nat} {k : DK} (hp : PassesOwn (model X.prog X.w) X.A X.env X.xe) (hc : X.calm = true) (hi : PI X tg iter (iD X.K k (fun σ H Q => ∃ F, tE C W F fa σ H Q))) (hg : PG X tg (gD X.K js)) (hb : ∀ F, PSs X body (tS C W F g)) (hs : notSet iter = true) :
    PS X (.For tg iter body [] pos) (tS C W F fun δ S => lockR fa δ S (fun n c S1 => match itmsD k c with
      | some xs => freeR n (forDL js g xs δ S1)
      | none => .stuck) .stuck) :=
  PS.imp (ps_lock (ps_for hp hc hi hg (exW_ps hb) (notSet_it hs))) fun D σ H h => lock_want (go := fun δ n c S1 => match itmsD k c with
      | some xs => freeR n (forDL js g xs δ S1)
      | none => .stuck) h fun δ s n c' S1 s0 a od u H0 ex0 A0 R0 hF ha q hf h => by
    cases hk : itmsD k c' with
    | none =>
      rw [hk] at h
      exact h.elim
    | some xs =>
      rw [hk] at h
      refine iD_want (js := js) A0 R0 ha q hf hk fun s1 H1 J hS1 e1 A1 ok => ?_
      have h1 : WantS C W (upd F a (.frz od u)) s1 (forDL js g xs δ s1.S) (lkE a od u D) := by
        rw [hS1]
        exact free_want (ex0.trans e1) hF (pre_get e1.μ ha) h
      refine ⟨fun i m σ H => m = xs.length - i ∧ i ≤ xs.length ∧ ∃ δ s', AtS C (upd F a (.frz od u)) s' H ∧ RepS C s' δ σ ∧ ExtS s1 s' ∧ WantS C W (upd F a (.frz od u)) s' (forDL js g (xs.drop i) δ s'.S) (lkE a od u D), ⟨xs.length, by simp, Nat.zero_le _, δ, s1, A1, R0.mono e1, ExtS.refl s1, by rw [List.drop_zero]; exact h1⟩, ?_⟩
      rintro i m σ H ⟨rfl, hi, δ, s2, A2, R2, e2, h2⟩
      by_cases hlt : i < xs.length
      · have hx : xs[i]? = some xs[i] := List.getElem?_eq_getElem hlt
        rw [List.drop_eq_getElem_cons hlt] at h2
        simp only [forDL] at h2
        cases hb : bindD js xs[i] δ with
        | none =>
          rw [hb] at h2
          exact h2.elim
        | some δ' =>
          rw [hb] at h2
          obtain ⟨go, yl⟩ := (ok _ s2 H i δ σ upd_same e2 A2 R2).1 _ _ hx hb
          refine .inr ⟨go, fun σ H => i + 1 ≤ xs.length ∧ ∃ δ s', AtS C (upd F a (.frz od u)) s' H ∧ RepS C s' δ σ ∧ ExtS s1 s' ∧ WantS C W (upd F a (.frz od u)) s' (forDL js g (xs.drop (i + 1)) δ s'.S) (lkE a od u D), fun σ' H' q => ⟨xs.length - (i + 1), by omega, rfl, q⟩, fun v H' y => ?_⟩
          have gi : ∀ {js : List Nat} {σ : L2.St} {H : Hp} {Q Q' : L2.St → Hp → Prop}, (∀ σ H, Q σ H → Q' σ H) → gD X.K js v σ H Q → gD X.K js v σ H Q' := by
            intro js σ H Q Q' z w
            match js, w with
            | [i], w => exact z _ _ w
            | [i, j], ⟨a, xs, e1, e2, e3, v1, r1, e4, v2, r2, e5, e6, w⟩ => exact ⟨a, xs, e1, e2, e3, v1, r1, e4, v2, r2, e5, e6, z _ _ w⟩
          refine gi (fun σ' H'' q => ?_) (yl v H' y)
          obtain ⟨s3, e3, hS, A3, R3, _⟩ := q
          have h3 := WantS.ext e3 h2
          rw [← hS] at h3
          exact ⟨_, δ', s3, A3, R3, noX_want (WantS.impN (fun σ H ⟨δ, s', A, R, ex, w⟩ => ⟨hlt, δ, s', A, R, (e2.trans e3).trans ex, w⟩) (loop_wantE h3))⟩
      · have ei : i = xs.length := by omega
        subst ei
        refine .inl ⟨(ok _ s2 H _ δ σ upd_same e2 A2 R2).2 rfl, ?_⟩
        rw [List.drop_length] at h2
        exact h2.next A2 R2
/-! ### the comprehension -/
/-- what hangs on the block of such a comprehension -/
structure BlkInD (C : CC) (X : Cx) (tg elt : Expr) (ifs : List Expr) (scope : Scope) (js : List Nat) (fc fe : DEnv → Sto → RE D) : Prop where
  g : ∀ (s : Shared) (H : Hp) (A : Addr) (cl : List (Str × Addr)) (fp : List Addr), PG (X.blk s H scope (compEnvC scope cl A X.env) fp) tg (gD X.K js)
  c : ∀ (s : Shared) (H : Hp) (A : Addr) (cl : List (Str × Addr)) (fp : List Addr) (F : Hp), PTs (X.blk s H scope (compEnvC scope cl A X.env) fp) ifs (tT C WF F fc)
  e : ∀ (s : Shared) (H : Hp) (A : Addr) (cl : List (Str × Addr)) (fp : List Addr) (F : Hp), PE (X.blk s H scope (compEnvC scope cl A X.env) fp) elt (tE C WF F fe)
theorem mapM_p {G : Hp} : ∀ (ds : List D) (vs : List V) {ys : List P}, ds.mapM (fun d => match d with
    | .p y => some y
    | _ => none) = some ys → RepDs C s ds vs → RepPs C s.G ys vs
  | [], vs, ys, h, r => by
    have r : vs = [] := r
    have h : some [] = some ys := h
    cases h
    subst r
    simp [RepPs]
  | d :: ds, vs, ys, h, r => by
    obtain ⟨v, ws, rfl, r1, r2⟩ := r
    rw [List.mapM_cons] at h
    cases d with
    | p y =>
      cases q : ds.mapM (fun d => match d with
        | .p y => some y
        | _ => none) with
      | none =>
        rw [q] at h
        cases h
      | some zs =>
        rw [q] at h
        cases h
        simp only [RepPs]
        exact ⟨v, ws, rfl, r1, mapM_p (G := G) ds ws q r2⟩
    | loc n => cases h
    | cls n => cases h
theorem repDs_app : ∀ (xs ys : List D) (vs ws : List V), RepDs C s xs vs → RepDs C s ys ws → RepDs C s (xs ++ ys) (vs ++ ws)
  | [], ys, vs, ws, h, h2 => by
    have h : vs = [] := h
    subst h
    exact h2
  | x :: xs, ys, vs, ws, h, h2 => by
    obtain ⟨v, us, rfl, r1, r2⟩ := h
    exact ⟨v, us ++ ws, rfl, r1, repDs_app xs ys us ws r2 h2⟩
theorem upd_comm {D : Addr} {o u : HO} (h : D ≠ a) : upd (upd H D o) a u = upd (upd H a u) D o := by
  funext x
  by_cases hx : x = a
  · subst hx
    rw [upd_same, upd_ne (fun z => h z.symm), upd_same]
  · rw [upd_ne hx]
    by_cases hd : x = D
    · subst hd
      rw [upd_same, upd_same]
    · rw [upd_ne hd, upd_ne hd, upd_ne hx]
theorem asgD_end {pur : Bool} {x : Nat} {acc : List D} {vs : List V} {D : Addr} (R : RepS C s1 δ σ) (hF : F a = none) (ha : s1.μ[n]? = some a) (A : AtS C (upd F a (.frz od u)) s1 H) (hD : H D = none) (r : RepDs C s1 acc vs) (ex : ExtS s s1)
    (h : WantS C W F s (asgDR pur x n δ (.ok acc s1.S)) D') : (lkE a od u D').nx (σ.set x (some (.ref D))) (upd H D (.lst vs)) := by
  simp only [asgDR] at h
  cases q : freeS n s1.S with
  | none =>
    rw [q] at h
    exact h.elim
  | some S2 =>
    rw [q] at h
    obtain ⟨h1, A2, e2⟩ := freeS_ok hF ha A q
    have ne : D ≠ a := (ne_of_none h1 hD).symm
    refine ⟨by rw [upd_ne (fun z => ne z.symm)]; exact h1, ?_⟩
    rw [upd_comm ne]
    have hD2 : upd H a u D = none := by rw [upd_ne ne]; exact hD
    cases pur with
    | true =>
      dsimp only at h
      split at h
      · split at h
        · rename_i ys q2
          have rp := mapM_p (G := s1.G) acc vs q2 r
          obtain ⟨A3, e3⟩ := A2.grow (p := D) (o := .lst vs) hD2
          refine h _ _ _ rfl (ex.trans (e2.trans e3)) A3 ((R.mono (e2.trans e3)).set (d := .p (.lst ys)) ?_)
          simp only [RepD, RepP]
          exact ⟨D, vs, rfl, upd_same, RepPs.mono e3.G ys vs rp⟩
        · exact h.elim
      · rename_i z
        exact absurd rfl z
    | false =>
      obtain ⟨A3, e3, r3⟩ := A2.alloc (c := .nst acc) (o := .lst vs) hD2 ⟨vs, rfl, RepDs.mono e2 acc vs r⟩
      exact h _ _ _ rfl (ex.trans (e2.trans e3)) A3 ((R.mono (e2.trans e3)).set r3)
theorem asgD_want {js : List Nat} {xs : List (List D)} {k : DK} {pur : Bool} {x : Nat} {J : L2.It} {s1 : Sit} {H1 : Hp} {D0 : Ends} (R1 : RepS C s1 δ σ) (hF : F a = none) (ha : s1.μ[n]? = some a) (A1 : AtS C (upd F a (.frz od u)) s1 H1) (ok : ItDOk C X.K a (.frz od u) s1 js xs J) (hline : lineOk xs.length = true) (ex : ExtS s s1)
    (h1 : WantS C W F s (asgDR pur x n δ (compD pur js fc fe (wipeD δ js) xs s1.S)) D0) (D : Addr) (hD : H1 D = none) :
    ∃ W1 : Nat → Nat → Hp → Prop, (∃ m, W1 0 m (upd H1 D (.lst []))) ∧ ∀ i m H, W1 i m H →
      (J.stop i H ∧ (lkE a od u D0).nx (σ.set x (some (.ref D))) H) ∨ (J.go i H ∧ ∃ Nx : Hp → Prop, (∀ H', Nx H' → ∃ m', m' < m ∧ W1 (i + 1) m' H') ∧ ∀ x H', J.yld i H x H' → gD X.K js x (L2.wipe σ js) H' fun σ2 H2 => L2.wipe σ2 js = L2.wipe σ js ∧ (∃ F, tT C WF F fc σ2 H2 fun b H3 =>
        if b = true then ∃ F, tE C WF F fe σ2 H3 fun y H4 => ∃ acc, H4 D = some (.lst acc) ∧ acc.length < sizeLine ∧ Nx (upd H4 D (.lst (acc ++ [y]))) else Nx H3)) := by
  have hFa : upd F a (.frz od u) D = none := A1.fnone hD
  have neD : D ≠ a := fun z => by rw [z, upd_same] at hFa; cases hFa
  let inv : Nat → Hp → Prop := fun i H => i ≤ xs.length ∧ ∃ s' acc vs, ExtS s1 s' ∧ AtS C (upd (upd F a (.frz od u)) D (.lst vs)) s' H ∧ RepDs C s' acc vs ∧ acc.length ≤ i ∧
    WantS C W F s (asgDR pur x n δ ((compD pur js fc fe (wipeD δ js) (xs.drop i) s'.S).bind fun ys S4 => .ok (acc ++ ys) S4)) D0
  refine ⟨fun i m H => m = xs.length - i ∧ inv i H, ⟨xs.length, by simp, Nat.zero_le _, s1, [], [], ExtS.refl s1, A1.frame hD, rfl, Nat.le_refl _, ?_⟩, ?_⟩
  · rw [List.drop_zero]
    have e : ((compD pur js fc fe (wipeD δ js) xs s1.S).bind fun ys S4 => RE.ok ([] ++ ys) S4) = compD pur js fc fe (wipeD δ js) xs s1.S := by
      cases compD pur js fc fe (wipeD δ js) xs s1.S <;> rfl
    rw [e]
    exact h1
  rintro i m H ⟨rfl, hi, s2, acc, vs, e2, A2, ra, hacc, h2⟩
  have hfz : upd (upd F a (.frz od u)) D (.lst vs) a = some (.frz od u) := by rw [upd_ne (fun z => neD z.symm), upd_same]
  have Rw := (R1.mono e2).wipe js
  by_cases hlt : i < xs.length
  · have hx : xs[i]? = some xs[i] := List.getElem?_eq_getElem hlt
    rw [List.drop_eq_getElem_cons hlt] at h2
    simp only [compD] at h2
    cases hb : bindD js xs[i] (wipeD δ js) with
    | none =>
      rw [hb] at h2
      exact h2.elim
    | some δ' =>
      rw [hb] at h2
      dsimp only at h2
      obtain ⟨go, yl⟩ := (ok _ s2 H i _ _ hfz e2 A2 Rw).1 _ _ hx hb
      refine .inr ⟨go, inv (i + 1), fun H' q => ⟨xs.length - (i + 1), by omega, rfl, q⟩, fun v H' y => ?_⟩
      have gi : ∀ {js : List Nat} {σ : L2.St} {H : Hp} {Q Q' : L2.St → Hp → Prop}, (∀ σ H, Q σ H → Q' σ H) → gD X.K js v σ H Q → gD X.K js v σ H Q' := by
        intro js σ H Q Q' z w
        match js, w with
        | [i], w => exact z _ _ w
        | [i, j], ⟨a, xs, e1, e2, e3, v1, r1, e4, v2, r2, e5, e6, w⟩ => exact ⟨a, xs, e1, e2, e3, v1, r1, e4, v2, r2, e5, e6, z _ _ w⟩
      refine gi (fun σ' H'' q => ?_) (yl v H' y)
      obtain ⟨s3, e3, hS, A3, R3, up⟩ := q
      rw [← hS] at h2
      refine ⟨wipe_upto up, _, δ', s3, A3, R3, ?_⟩
      cases ht : fc δ' s3.S with
      | stuck =>
        rw [ht] at h2
        exact h2.elim
      | exc c x S' =>
        rw [ht] at h2
        exact h2.elim
      | ok d S1 =>
        rw [ht] at h2
        intro s4 H4 hS4 e4 A4
        subst hS4
        cases d with
        | p z =>
          cases z with
          | bl b =>
            cases b with
            | false =>
              dsimp only at h2 ⊢
              rw [if_neg Bool.false_ne_true]
              exact ⟨hlt, s4, acc, vs, (e2.trans e3).trans e4, A4, RepDs.mono (e3.trans e4) acc vs ra, Nat.le_succ_of_le hacc, h2⟩
            | true =>
              dsimp only at h2 ⊢
              rw [if_pos rfl]
              refine ⟨_, δ', s4, A4, R3.mono e4, ?_⟩
              cases hx' : fe δ' s4.S with
              | stuck =>
                rw [hx'] at h2
                exact h2.elim
              | exc c x S' =>
                rw [hx'] at h2
                exact h2.elim
              | ok d2 S2 =>
                rw [hx'] at h2
                intro s5 H5 hS5 e5 A5 w rw'
                subst hS5
                dsimp only at h2
                have big : ∀ {s6 : Sit}, ExtS s5 s6 → vs.length < sizeLine := fun {s6} _ => by
                  rw [← RepDs.len acc vs ra]
                  have q1 := line_of hline
                  omega
                cases pur with
                | true =>
                  rw [if_pos rfl] at h2
                  cases hp : purify d2 s5.S with
                  | stuck =>
                    rw [hp] at h2
                    exact h2.elim
                  | exc c x S' => exact (purify_not hp).elim
                  | ok z S3 =>
                    rw [hp] at h2
                    obtain ⟨s6, hS6, A6, e6, r6⟩ := purify_ok A5 rw' hp
                    subst hS6
                    have hD5 := (A6.frm D _ upd_same).1
                    have ee := (e3.trans e4).trans (e5.trans e6)
                    refine ⟨vs, hD5, big e6, hlt, s6, acc ++ [.p z], vs ++ [w], e2.trans ee, A6.reframe hFa, repDs_app acc [.p z] vs [w] (RepDs.mono ee acc vs ra) (show RepDs C s6 [.p z] [w] from ⟨w, [], rfl, (show RepD C s6 (.p z) w from r6), rfl⟩), by simp; omega, ?_⟩
                    dsimp only at h2
                    rw [RE.bind_assoc] at h2
                    simp only [RE.bind, List.append_assoc, List.cons_append, List.nil_append] at h2 ⊢
                    exact h2
                | false =>
                  rw [if_neg Bool.false_ne_true] at h2
                  have hD5 := (A5.frm D _ upd_same).1
                  have ee := (e3.trans e4).trans e5
                  refine ⟨vs, hD5, big (ExtS.refl s5), hlt, s5, acc ++ [d2], vs ++ [w], e2.trans ee, A5.reframe hFa, repDs_app acc _ vs _ (RepDs.mono ee acc vs ra) ⟨w, [], rfl, rw', rfl⟩, by simp; omega, ?_⟩
                  rw [RE.bind_assoc] at h2
                  simp only [RE.bind, List.append_assoc, List.cons_append, List.nil_append] at h2 ⊢
                  exact h2
          | _ => exact h2.elim
        | _ => exact h2.elim
  · have ei : i = xs.length := by omega
    subst ei
    refine .inl ⟨(ok _ s2 H _ _ _ hfz e2 A2 Rw).2 rfl, ?_⟩
    rw [List.drop_length] at h2
    simp only [compD, RE.bind, List.append_nil] at h2
    obtain ⟨H0, h0, A0, rfl⟩ := A2.drop hFa
    exact asgD_end (R1.mono e2) hF (pre_get e2.μ ha) A0 h0 ra (ex.trans e2) h2
variable {elt : Expr} {ifs : List Expr} {scope : Scope} {own : List (Str × Nat)} {py spos : Pos}
theorem s_asgD {k : DK} {pur : Bool} {j x : Nat} {y : Str} (hc : X.calm = true) (hN : X.N.Nodup) (hy : X.N[x]? = some y) (hyl : X.env.scope.names.lookup y = some .local) (hkd : X.env.scope.kind = .function) (hl : (py.line == pos.line) = true) (hnn : (scope.names.any fun (n, k) => n == y && (k == .local || k == .cell)) = false)
    (hi : PI X tg iter (iD X.K k (fun σ H Q => ∃ F, tE C W F fa σ H Q))) (ok : BlkOk X.N X.env.scope scope own) (ho : own.map (·.2) = [j]) (b : BlkInD C X tg elt ifs scope [j] fc fe) (hs : notSet iter = true) :
    PS X (.Assign [.Name y py] (.ListComp elt [⟨tg, iter, ifs, 0⟩] scope pos) spos) (tS C W F fun δ S => lockR fa δ S (fun n cl S1 => match itmsD k cl with
      | some xs => if lineOk xs.length then asgDR pur x n δ (compD pur [j] fc fe (wipeD δ [j]) xs S1) else .stuck
      | none => .stuck) .stuck) :=
  PS.imp (ps_lock (ps_setLc (te := fun σ H Q => ∃ F, tE C WF F fe σ H Q) (tt := fun σ H Q => ∃ F, tT C WF F fc σ H Q) hc hN hy hyl (sw_true hkd hyl hl hnn) hi ok (fun s H A cl fp => b.g s H A cl fp) (fun s H A cl fp => exF_pt (b.c s H A cl fp)) (fun s H A cl fp => exF_pe (b.e s H A cl fp)) (notSet_it hs))) fun D σ H h => lock_want (go := fun δ n cl S1 => match itmsD k cl with
      | some xs => if lineOk xs.length then asgDR pur x n δ (compD pur [j] fc fe (wipeD δ [j]) xs S1) else .stuck
      | none => .stuck) h fun δ s n c' S1 s0 a od u H0 ex0 A0 R0 hF ha q hf h => by
    cases hk : itmsD k c' with
    | none =>
      rw [hk] at h
      exact h.elim
    | some xs =>
      rw [hk] at h
      dsimp only at h
      split at h
      case isFalse => exact h.elim
      rename_i hline
      refine iD_want (js := [j]) A0 R0 ha q hf hk fun s1 H1 J hS1 e1 A1 okk D hD => ?_
      subst hS1
      rw [ho]
      obtain ⟨W1, w0, step⟩ := asgD_want (X := X) (k := k) (R0.mono e1) hF (pre_get e1.μ ha) A1 okk hline (ex0.trans e1) h D hD
      refine ⟨W1, w0, fun i m H w => (step i m H w).imp id fun ⟨go, Nx, n1, n2⟩ => ⟨go, Nx, n1, fun x H' y => ?_⟩⟩
      exact n2 x H' y
end
end RP
end


section
set_option Elab.async false
set_option linter.all false
set_option maxRecDepth 100000
set_option maxHeartbeats 4000000
/-! The checker: an expression of the evaluator against the text's own. -/
namespace RP
open PySem L2
/-- what is known of the module's names -/
structure Gs where
  fns : List (Str × Nat)
  ifns : List (Str × Nat) := []
  kfns : List (Nat × Str × Nat × List Str) := []
  gcs : List (Str × Nat) := []
  free : List Str
  cls : List (Str × Nat) := []
  tys : List Ty := []
  nm : List Str
  ft : FldT
  xc : List (Str × Nat) := []
  exm : Nat → Nat → Option Bool := fun _ _ => none
  xr : List Nat := []
  xv : List Nat := []
  xkn : List (Nat × Str) := []
  xis : List (Str × List Nat × List Nat) := []
  cms : List (Nat × Nat) := []
  kcms : List (Nat × Nat × Nat × List Str) := []
/-- what is known of a block's names -/
structure Ck where
  N : List Str
  sc : Scope
  fnb : Str → Bool
  top : Bool
def Ck.blk (c : Ck) (scope : Scope) : Ck := ⟨c.N, relS scope c.sc, fun x => scope.names.lookup x == some .cell, false⟩
def visB (sc : Scope) (x : Str) : Bool := (sc.names.lookup x == some .local || sc.names.lookup x == some .cell || sc.names.lookup x == some .free) && !(x == ("__debug__" : Str)) && !(x == ("__classdict__" : Str))
def locB (ck : Ck) (x : Str) : Bool := (ck.sc.names.lookup x == some .local || ck.sc.names.lookup x == some .cell) && (ck.fnb x || ck.sc.names.lookup x == some .local)
def glB (sc : Scope) (x : Str) : Bool := sc.names.lookup x == some .globalImplicit && !(x == ("__debug__" : Str))
def freeB (T : Gs) (ck : Ck) (x : Str) : Bool := glB ck.sc x && T.free.contains x
def tyN : Ty → Str
  | .int => "int"
  | .bool => "bool"
  | .str => "str"
  | .tup => "tuple"
  | .lst => "list"
  | .own _ => ""
def isOwn : Ty → Option Nat
  | .own c => some c
  | _ => none
def blkB (ck : Ck) (scope : Scope) (ix : List Nat) : Bool := scope.kind == .function && scope.names.all (fun y => scope.names.lookup y.1 == some y.2) && ix.all (fun i => decide (i < ck.N.length)) &&
  scope.names.all (fun y => !(y.2 == .free) || (ck.sc.names.lookup y.1 == some .cell || ck.sc.names.lookup y.1 == some .free)) &&
  scope.names.all (fun y => !(y.2 == .local || y.2 == .cell) || ((ix.map fun i => ck.N.getD i "").contains y.1 || !ck.N.contains y.1))
section
variable (T : Gs)
mutual
def chkTg (ck : Ck) : Tg → Expr → Bool
  | .name i, e => match e with
    | .Name x _ => ck.N[i]? == some x && locB ck x
    | _ => false
  | .tup ts, e => match e with
    | .Tuple es _ _ => es.all notStar && (es.length == tgsLen ts && chkTgs ck ts es)
    | _ => false
def chkTgs (ck : Ck) : Tgs → List Expr → Bool
  | .nil, l => l.isEmpty
  | .cons t ts, l => match l with
    | e :: es => chkTg ck t e && chkTgs ck ts es
    | [] => false
end
/-- a constant of the text -/
def constB : P → Expr → Bool
  | .str s, .Constant (.str t) _ _ => decide (s = t)
  | .int s, .Constant (.int t) _ _ => decide (s = t)
  | .bl s, .Constant (.bool t) _ _ => decide (s = t)
  | .non, .Constant .none _ _ => true
  | _, _ => false
def dspOk : List Str → List P → List (Option Expr) → List Expr → Bool
  | [], [], [], [] => true
  | k :: ks, x :: xs, some (.Constant (.str z) _ _) :: r, e :: l => decide (k = z) && (constB x e && dspOk ks xs r l)
  | _, _, _, _ => false
mutual
def chkE (ck : Ck) : E → Expr → Bool
  | .var i, e => match e with
    | .Name x _ => ck.N[i]? == some x && visB ck.sc x
    | _ => false
  | .gc k, e => match e with
    | .Name x _ => glB ck.sc x && T.gcs.lookup x == some k
    | _ => false
  | .non, e => match e with
    | .Constant .none _ _ => true
    | _ => false
  | .bl b, e => match e with
    | .Constant (.bool c) _ _ => b == c
    | _ => false
  | .int i, e => match e with
    | .Constant (.int j) _ _ => decide (i = j)
    | _ => false
  | .str s, e => match e with
    | .Constant (.str t) _ _ => s == t
    | _ => false
  | .bin op a b, e => match e with
    | .BinOp a' op' b' _ => decide (op = op') && (chkE ck a a' && chkE ck b b')
    | _ => false
  | .neg a, e => match e with
    | .UnaryOp .USub a' _ => chkE ck a a'
    | _ => false
  | .not a, e => match e with
    | .UnaryOp .Not a' _ => chkE ck a a'
    | _ => false
  | .cmp op a b, e => match e with
    | .Compare a' [op'] [b'] _ => decide (op = op') && (notSet b' && (chkE ck a a' && chkE ck b b'))
    | _ => false
  | .chain op1 op2 a b c, e => match e with
    | .Compare a' [p1, p2] [b', c'] _ => decide (op1 = p1) && (decide (op2 = p2) && (!(lastMarks [p1, p2] [b', c']) && (chkE ck a a' && (chkE ck b b' && chkE ck c c'))))
    | _ => false
  | .and a b, e => match e with
    | .BoolOp .And [a', b'] _ => chkE ck a a' && chkE ck b b'
    | .BoolOp .And (a' :: b' :: c' :: r) pos => chkE ck a a' && chkE ck b (.BoolOp .And (b' :: c' :: r) pos)
    | _ => false
  | .or a b, e => match e with
    | .BoolOp .Or [a', b'] _ => chkE ck a a' && chkE ck b b'
    | .BoolOp .Or (a' :: b' :: c' :: r) pos => chkE ck a a' && chkE ck b (.BoolOp .Or (b' :: c' :: r) pos)
    | _ => false
  | .ite t a b, e => match e with
    | .IfExp t' a' b' _ => chkE ck t t' && (chkE ck a a' && chkE ck b b')
    | _ => false
  | .tup es, e => match e with
    | .Tuple l _ _ => chkEs ck es l
    | _ => false
  | .lst es, e => match e with
    | .List l _ => chkEs ck es l
    | _ => false
  | .newl es, e => match e with
    | .List l _ => chkEs ck es l
    | _ => false
  | .dsp ks vs, e => match e with
    | .Dict keys l _ => dspOk ks vs keys l
    | _ => false
  | .newn es, e => match e with
    | .List l _ => chkEs ck es l
    | _ => false
  | .catl a b, e => match e with
    | .BinOp a' .Add b' _ => chkE ck a a' && chkE ck b b'
    | _ => false
  | .sub a i, e => match e with
    | .Subscript a' i' _ => notSlice i' && (chkE ck a a' && chkE ck i i')
    | _ => false
  | .subn a i, e => match e with
    | .Subscript a' i' _ => notSlice i' && (chkE ck a a' && chkE ck i i')
    | _ => false
  | .slc a hl lo hh hi, e => match e with
    | .Subscript a' (.Slice lo' hi' none _) _ => chkE ck a a' && ((match lo' with
      | some l => hl && chkE ck lo l
      | none => !hl) && (match hi' with
      | some l => hh && chkE ck hi l
      | none => !hh))
    | _ => false
  | .rev a, e => match e with
    | .Subscript a' (.Slice none none (some (.UnaryOp .USub (.Constant (.int 1) _ _) _)) _) _ => chkE ck a a'
    | _ => false
  | .attr a f, e => match e with
    | .Attribute a' x _ => T.nm[f]? == some x && (plainBase a' && chkE ck a a')
    | _ => false
  | .call k es, e => match e with
    | .Call (.Name x _) l [] _ => glB ck.sc x && (T.fns.lookup x == some k && (l.all notStar && chkEs ck es l))
    | _ => false
  | .icall k es, e => match e with
    | .Call (.Name x _) l [] _ => glB ck.sc x && (T.ifns.lookup x == some k && (l.all notStar && chkEs ck es l))
    | _ => false
  | .kcall k es ks, e => match e with
    | .Call (.Name x _) l kws _ => glB ck.sc x && (match T.kfns.lookup k with
      | some (y, n, names) => x == y && (decide (l.length = n) && (decide (kws.map Keyword.arg = names.map some) && (l.all notStar && (chkEs ck es l && chkKs ck ks kws))))
      | none => false)
    | _ => false
  | .meth a m es, e => match e with
    | .Call (.Attribute o x ap) l [] pos => T.nm[m]? == some x && (plainBase o && (l.all notStar && (decide (l.length < 29) && (ap.endLine == pos.line && (chkE ck a o && chkEs ck es l)))))
    | _ => false
  | .kmeth a m ks es, e => match e with
    | .Call (.Attribute o x ap) [] kws pos => T.nm[m]? == some x && (plainBase o && (decide (kws.map Keyword.arg = ks.map some) && (decide (kws.length < 29) && (ap.endLine == pos.line && (chkE ck a o && chkKs ck es kws)))))
    | _ => false
  | .app a b, e => match e with
    | .Call (.Attribute o x ap) [v] [] pos => x == ("append" : Str) && (plainBase o && (notStar v && (ap.endLine == pos.line && (chkE ck a o && chkE ck b v))))
    | _ => false
  | .clr a, e => match e with
    | .Call (.Attribute o x ap) [] [] pos => x == ("clear" : Str) && (plainBase o && (ap.endLine == pos.line && chkE ck a o))
    | _ => false
  | .b1 b a, e => match e with
    | .Call (.Name x _) [v] [] _ => x == b1N b && (freeB T ck x && (notStar v && chkE ck a v))
    | _ => false
  | .b2 b a c, e => match e with
    | .Call (.Name x _) [v, u] [] _ => x == b2N b && (freeB T ck x && (notStar v && (notStar u && (chkE ck a v && chkE ck c u))))
    | _ => false
  | .cpl a, e => match e with
    | .Call (.Name x _) [v] [] _ => x == ("list" : Str) && (freeB T ck x && (notStar v && chkE ck a v))
    | _ => false
  | .isi a t, e => match e with
    | .Call (.Name x _) [v, .Name y _] [] _ => x == ("isinstance" : Str) && (freeB T ck x && (notStar v && (T.tys.contains t && ((match isOwn t with
      | some c => glB ck.sc y && T.cls.lookup y == some c
      | none => y == tyN t && freeB T ck y) && chkE ck a v))))
    | _ => false
  | .comp lv elt tg it hc c, e => match e with
    | .ListComp elt' [⟨tg', iter', ifs', 0⟩] scope _ => chkIt ck it tg' iter' && (notSet iter' && (blkB ck scope (tgIx tg) && (chkTg (ck.blk scope) tg tg' && (chkE (ck.blk scope) elt elt' && (match ifs' with
      | [] => !hc
      | [t] => hc && chkE (ck.blk scope) c t
      | _ => false)))))
    | _ => false
  | .fcall k es, e => match e with
    | .Call (.Name x _) l [] _ => glB ck.sc x && (T.ifns.lookup x == some k && (l.all notStar && chkEs ck es l))
    | _ => false
  | .bcall k es, e => match e with
    | .Call (.Name x _) l [] _ => glB ck.sc x && (T.fns.lookup x == some k && (l.all notStar && chkEs ck es l))
    | _ => false
  | .fmeth a m es, e => match e with
    | .Call (.Attribute o x ap) l [] pos => T.nm[m]? == some x && (plainBase o && (l.all notStar && (decide (l.length < 29) && (ap.endLine == pos.line && (chkE ck a o && chkEs ck es l)))))
    | _ => false
  | .compb lv elt tg i hc c, e => match e with
    | .ListComp elt' [⟨tg', .Name y _, ifs', 0⟩] scope _ => (ck.N[i]? == some y && visB ck.sc y) && (blkB ck scope (tgIx tg) && (chkTg (ck.blk scope) tg tg' && (chkE (ck.blk scope) elt elt' && (match ifs' with
      | [] => !hc
      | [t] => hc && chkE (ck.blk scope) c t
      | _ => false))))
    | _ => false
  | .fkcall k es ks, e => match e with
    | .Call (.Name x _) (a :: l) kws _ => glB ck.sc x && (match T.kfns.lookup k with
      | some (y, n, names) => x == y && (decide (kws.map Keyword.arg = names.map some) && ((a :: l).all notStar && (chkEs ck es (a :: l) && chkKs ck ks kws)))
      | none => false)
    | _ => false
  | .compx elt tg it hc c, e => match e with
    | .ListComp elt' [⟨tg', iter', ifs', 0⟩] scope _ => ck.top && (chkIt ck it tg' iter' && (notSet iter' && (blkB ck scope (tgIx tg) && (chkTg (ck.blk scope) tg tg' && (chkE (ck.blk scope) elt elt' && (match ifs' with
      | [] => !hc
      | [t] => hc && chkE (ck.blk scope) c t
      | _ => false))))))
    | _ => false
  | .newd, e => match e with
    | .Dict [] [] _ => true
    | _ => false
  | .dget a i, e => match e with
    | .Subscript a' i' _ => notSlice i' && (chkE ck a a' && chkE ck i i')
    | _ => false
  | .din neg i a, e => match e with
    | .Compare i' [op'] [a'] _ => decide (op' = if neg then .NotIn else .In) && (notSet a' && (chkE ck i i' && chkE ck a a'))
    | _ => false
  | .xn1 c a, e => match e with
    | .Call (.Name x _) [v] [] _ => glB ck.sc x && (T.xc.lookup x == some c && (T.xv.contains c && ((T.ft c).length == 1 && (notStar v && chkE ck a v))))
    | _ => false
  | .xn0 c, e => match e with
    | .Call (.Name x _) [] [] _ => glB ck.sc x && (T.xc.lookup x == some c && (T.xv.contains c && (T.ft c).isEmpty))
    | _ => false
  | .xnk c a, e => match e with
    | .Call (.Name x _) [] [⟨some kn, v, _⟩] _ => glB ck.sc x && (T.xc.lookup x == some c && (T.xv.contains c && (T.xkn.lookup c == some kn && ((T.ft c).length == 1 && chkE ck a v))))
    | _ => false
  | .xget a f, e => match e with
    | .Attribute a' x _ => T.nm[f]? == some x && (plainBase a' && chkE ck a a')
    | _ => false
  | .xis a y yes no, e => match e with
    | .Call (.Name x _) [v, .Name z _] [] _ => x == ("isinstance" : Str) && (freeB T ck x && (notStar v && (y == z && (glB ck.sc z && (T.xis.lookup z == some (yes, no) && chkE ck a v)))))
    | _ => false
  | .rpb a, e => match e with
    | .Call (.Name x _) [v] [] _ => x == ("repr" : Str) && (freeB T ck x && (notStar v && chkE ck a v))
    | _ => false
  | .deq a b, e => match e with
    | .Compare a' [op'] [b'] _ => decide (op' = .Eq) && (chkE ck a a' && chkE ck b b')
    | _ => false
  | .dkeys a, e => match e with
    | .Call (.Name x _) [v] [] _ => x == ("list" : Str) && (freeB T ck x && (notStar v && chkE ck a v))
    | _ => false
  | .dpop a i, e => match e with
    | .Call (.Attribute o x ap) [v] [] pos => x == ("pop" : Str) && (plainBase o && (notStar v && (ap.endLine == pos.line && (chkE ck a o && chkE ck i v))))
    | _ => false
  | .lmeth a m es, e => match e with
    | .Call (.Attribute o x ap) l [] pos => T.nm[m]? == some x && (plainBase o && (l.all notStar && (decide (l.length < 29) && (ap.endLine == pos.line && (chkE ck a o && chkEs ck es l)))))
    | _ => false
  | .joi z a, e => match e with
    | .Call (.Attribute (.Constant (.str t) _ _) x ap) [v] [] pos => x == ("join" : Str) && (z == t && (notStar v && (ap.endLine == pos.line && chkE ck a v)))
    | _ => false
  | .spl a b, e => match e with
    | .Call (.Attribute o x ap) [v] [] pos => x == ("split" : Str) && (plainBase o && (notStar v && (ap.endLine == pos.line && (chkE ck a o && chkE ck b v))))
    | _ => false
  | .fs3 a z b, e => match e with
    | .JoinedStr [.FormattedValue a' k none _, .Constant (.str t) _ _, .FormattedValue b' l none _] _ => decide (k = -1) && (decide (l = -1) && (z == t && (decide (z.length ≤ 1000) && (chkE ck a a' && chkE ck b b'))))
    | _ => false
  | .lcall i c k y es, e => match e with
    | .Call (.Name x _) l [] _ => (ck.N[i]? == some x && visB ck.sc x) && (T.cls.lookup y == some c && (T.fns.lookup y == some k && (l.all notStar && chkEs ck es l)))
    | _ => false
  | .cmeth c m y es, e => match e with
    | .Call (.Attribute (.Name y' _) x ap) (v :: l) [] pos => y' == y && (glB ck.sc y' && (T.cls.lookup y' == some c && (T.nm[m]? == some x && (T.cms.contains (c, m) && ((v :: l).all notStar && (decide ((v :: l).length < 29) && (ap.endLine == pos.line && chkEs ck es (v :: l))))))))
    | _ => false
  | .kcmeth j c y es, e => match e with
    | .Call (.Attribute (.Name y' _) x ap) [] kws pos => y' == y && (glB ck.sc y' && (T.cls.lookup y' == some c && (match T.kcms.lookup j with
      | some (c', m, ks) => decide (c' = c) && (T.nm[m]? == some x && (decide (kws.map Keyword.arg = ks.map some) && (decide (kws.length < 29) && (ap.endLine == pos.line && chkKs ck es kws))))
      | none => false)))
    | _ => false
  | .comp2 elt tg it tg1 it1 hc c, e => match e with
    | .ListComp elt' [⟨tg', iter', [], 0⟩, ⟨tg1', iter1', ifs', 0⟩] scope _ => chkIt ck it tg' iter' && (notSet iter' && (notSet iter1' && (blkB ck scope (tgIx tg ++ tgIx tg1) && (chkTg (ck.blk scope) tg tg' && (chkIt (ck.blk scope) it1 tg1' iter1' && (chkTg (ck.blk scope) tg1 tg1' && (chkE (ck.blk scope) elt elt' && (match ifs' with
      | [] => !hc
      | [t] => hc && chkE (ck.blk scope) c t
      | _ => false))))))))
    | _ => false
def chkEs (ck : Ck) : Es → List Expr → Bool
  | .nil, l => l.isEmpty
  | .cons e es, l => match l with
    | a :: r => notStar a && (chkE ck e a && chkEs ck es r)
    | [] => false
  | .star e es, l => match l with
    | .Starred a _ :: r => chkE ck e a && chkEs ck es r
    | _ => false
def chkKs (ck : Ck) : Es → List Keyword → Bool
  | .nil, l => l.isEmpty
  | .cons e es, l => match l with
    | ⟨_, a, _⟩ :: r => chkE ck e a && chkKs ck es r
    | [] => false
  | .star _ _, _ => false
def chkIt (ck : Ck) : It → Expr → Expr → Bool
  | .seq e, _, a => chkE ck e a
  | .rng1 e, _, a => match a with
    | .Call (.Name x _) [v] [] _ => x == ("range" : Str) && (freeB T ck x && (notStar v && chkE ck e v))
    | _ => false
  | .rng2 e f, _, a => match a with
    | .Call (.Name x _) [v, u] [] _ => x == ("range" : Str) && (freeB T ck x && (notStar v && (notStar u && (chkE ck e v && chkE ck f u))))
    | _ => false
  | .zip e f, tg, a => match tg with
    | .Tuple _ _ _ => (match a with
      | .Call (.Name x _) [v, u] [] _ => x == ("zip" : Str) && (freeB T ck x && (notStar v && (notStar u && (chkE ck e v && chkE ck f u))))
      | _ => false)
    | _ => false
  | .enum e, tg, a => match tg with
    | .Tuple _ _ _ => (match a with
      | .Call (.Name x _) [v] [] _ => x == ("enumerate" : Str) && (freeB T ck x && (notStar v && chkE ck e v))
      | _ => false)
    | _ => false
end
end
end RP
end

section
set_option Elab.async false
set_option linter.all false
set_option maxRecDepth 100000
/-! Dicts that are written out in the text. -/
namespace RP
open PySem L2 PySem.Spec PyProof.Rows
section
variable {C : CC} {W : WX} {X : Cx} {F : Hp} {pos : Pos}
/-! ### dicts that are written out -/
theorem const_pe {x : P} {e : Expr} (h : constB x e = true) : ∃ v, PE X e (tC v) ∧ ∀ G, RepP C G x v := by
  unfold constB at h
  split at h
  · cases of_decide_eq_true h
    exact ⟨_, pe_str, fun G => by simp only [RepP]⟩
  · cases of_decide_eq_true h
    exact ⟨_, pe_int, fun G => by simp only [RepP]⟩
  · cases of_decide_eq_true h
    exact ⟨_, pe_bl, fun G => by simp only [RepP]⟩
  · exact ⟨_, pe_non, fun G => by simp only [RepP]⟩
  · cases h
theorem dsp_pps : ∀ (ks : List Str) (xs : List P) (keys : List (Option Expr)) (l : List Expr), dspOk ks xs keys l = true →
    ∃ (trs : List (TE × TE)) (vs : List V), PPs X pos keys l trs ∧ keys.all (·.isSome) = true ∧ keys.length = l.length ∧ ks.length = vs.length ∧ keys.length = ks.length ∧ (∀ G, RepPs C G xs vs) ∧ (∀ σ H Q, Q ((ks.map V.str).zip vs) H → tPairs trs σ H Q)
  | [], [], [], [], _ => ⟨[], [], pps_nil, rfl, rfl, rfl, rfl, fun G => by simp only [RepPs], fun σ H Q q => q⟩
  | [], [], [], _ :: _, h => by simp [dspOk] at h
  | [], [], _ :: _, l, h => by simp [dspOk] at h
  | [], _ :: _, r, l, h => by simp [dspOk] at h
  | _ :: _, [], r, l, h => by simp [dspOk] at h
  | k :: ks, x :: xs, [], l, h => by simp [dspOk] at h
  | k :: ks, x :: xs, some _ :: r, [], h => by simp [dspOk] at h
  | k :: ks, x :: xs, none :: r, l, h => by simp [dspOk] at h
  | k :: ks, x :: xs, some e' :: r, e :: l, h => by
    unfold dspOk at h
    split at h
    case h_1 a b c d => cases a
    case h_2 k2 ks2 x2 xs2 z2 j2 p2 r2 e2 l2 a b c d =>
      cases a
      cases b
      cases c
      cases d
      simp only [Bool.and_eq_true, decide_eq_true_eq] at h
      obtain ⟨rfl, h1, h2⟩ := h
      obtain ⟨v, pv, rv⟩ := const_pe (X := X) (C := C) h1
      obtain ⟨trs, vs, a1, a2, a3, a4, a5, a6, a7⟩ := dsp_pps _ _ _ _ h2
      refine ⟨(tC (.str k), tC v) :: trs, v :: vs, pps_cons pe_str pv a1, by simpa using a2, by simp [a3], by simp [a4], by simp [a5], fun G => by simp only [RepPs]; exact ⟨v, vs, rfl, rv G, a6 G⟩, fun σ H Q q => ?_⟩
      show tPairs trs σ H fun ps H3 => Q ((V.str k, v) :: ps) H3
      exact a7 σ H _ q
    case h_3 => cases h
theorem merge_new : ∀ (more kvs : List (Key × V)), ((kvs ++ more).map (·.1)).Nodup → mergeK kvs more = kvs ++ more
  | [], kvs, _ => by simp [mergeK]
  | p :: more, kvs, h => by
    have e : putK kvs p.1 p.2 = kvs ++ [p] := by
      unfold putK
      rw [if_neg]
      intro c
      rw [List.any_eq_true] at c
      obtain ⟨q, hq, hqp⟩ := c
      have := of_decide_eq_true hqp
      rw [List.map_append, List.map_cons] at h
      have d := (List.nodup_append.mp h).2.2 q.1 (List.mem_map_of_mem hq) p.1 List.mem_cons_self
      exact d this
    have ih := merge_new more (kvs ++ [p]) (by simpa using h)
    show mergeK (putK kvs p.1 p.2) more = _
    rw [e, ih]
    simp
theorem zip_keys (ks : List Str) (vs : List V) (hl : ks.length = vs.length) : (((ks.map (Sum.inr : Str → Key)).zip vs).map (·.1)) = ks.map Sum.inr ∧ ((ks.map (Sum.inr : Str → Key)).zip vs).map (fun kv => (kV kv.1, kv.2)) = (ks.map V.str).zip vs := by
  induction ks generalizing vs with
  | nil => exact ⟨rfl, rfl⟩
  | cons k ks ih =>
    cases vs with
    | nil => cases hl
    | cons v vs =>
      obtain ⟨a, b⟩ := ih vs (by simpa using hl)
      simp only [List.map_cons, List.zip_cons_cons]
      exact ⟨by rw [a], by rw [b]; rfl⟩
theorem x_dsp {ks : List Str} {xs : List P} {keys : List (Option Expr)} {l : List Expr} (h : dspOk ks xs keys l = true) : PE X (.Dict keys l pos) (tE C W F fun _ S => if decide (ks.length = xs.length) && (decide (xs.length ≤ 15) && (decide ks.Nodup && xs.all flatP)) then .ok (.p (.dic ks xs)) S else .stuck) := by
  obtain ⟨trs, vs, a1, a2, a3, a4, a5, a6, a7⟩ := dsp_pps (X := X) (C := C) (pos := pos) ks xs keys l h
  have mk : ∀ {σ : L2.St} {H : Hp} {Q : VK}, tE C W F (fun _ S => if decide (ks.length = xs.length) && (decide (xs.length ≤ 15) && (decide ks.Nodup && xs.all flatP)) then .ok (.p (.dic ks xs)) S else .stuck) σ H Q → ks.Nodup ∧ xs.length ≤ 15 ∧ ∀ p, H p = none → Q (.ref p) (upd H p (.dK ((ks.map Sum.inr).zip vs))) := by
    rintro σ H Q ⟨δ, s, A, R, w⟩
    dsimp only at w
    split at w
    · rename_i c
      simp only [Bool.and_eq_true, decide_eq_true_eq] at c
      refine ⟨c.2.2.1, c.2.1, fun p hp => ?_⟩
      obtain ⟨A', ex⟩ := A.grow (o := .dK ((ks.map Sum.inr).zip vs)) hp
      refine w.to A' rfl ex ?_
      simp only [RepD, RepP]
      exact ⟨p, vs, rfl, upd_same, a4, a6 _⟩
    · exact w.elim
  by_cases hz : keys = []
  · subst hz
    have kz : ks = [] := List.length_eq_zero_iff.mp (by simpa using a5.symm)
    subst kz
    have lz : l = [] := List.length_eq_zero_iff.mp (by simpa using a3.symm)
    subst lz
    refine PE.imp pe_dnewK fun σ H Q q => ?_
    intro p hp
    exact (mk q).2.2 p hp
  · by_cases hc : ks.Nodup ∧ xs.length ≤ 15
    · have lx : xs.length = vs.length := RepPs.len xs vs (a6 fun _ => none)
      refine PE.imp (pe_disp a1 a2 a3 hz (by omega)) fun σ H Q q => ?_
      obtain ⟨nd, l15, go⟩ := mk q
      intro p hp
      refine a7 _ _ _ ⟨upd_same, (ks.map Sum.inr).zip vs, (zip_keys ks vs a4).2.symm, by rw [List.length_zip, List.length_map]; omega, ?_⟩
      have mg := merge_new ((ks.map (Sum.inr : Str → Key)).zip vs) [] (by rw [List.nil_append, (zip_keys ks vs a4).1]; exact nd.map _ (fun a b ne e => ne (Sum.inr.inj e)))
      rw [mg, List.nil_append]
      have uu : ∀ (H : Hp) (o o' : HO), upd (upd H p o) p o' = upd H p o' := fun H o o' => by
        funext b
        by_cases hb : b = p
        · subst hb
          rw [upd_same, upd_same]
        · rw [upd_ne hb, upd_ne hb, upd_ne hb]
      rw [uu]
      exact go p hp
    · exact ⟨fun pins s σ H Q I q => (hc ⟨(mk q).1, (mk q).2.1⟩).elim⟩
end
end RP
end

section
set_option Elab.async false
set_option linter.all false
set_option maxRecDepth 100000
set_option maxHeartbeats 4000000
/-! The checker is sound: expressions. -/
namespace RP
open PySem L2
structure TabOk (C : CC) (Pr : Program) (w : World) (K : PySem.W.Frag) (mg : Str → Option Value) (base : Heap) (k : Nat) (Γ : Tab) (T : Gs) : Prop where
  gm : GoodM C Pr w K mg base k Γ
  fns : ∀ x i, T.fns.lookup x = some i → ∃ u g, mg x = some u ∧ PySem.W.keepIn K u = true ∧ Γ.fns.lookup i = some g ∧ Cal C Pr w K mg base k u g
  ifns : ∀ x i, T.ifns.lookup x = some i → ∃ u g, mg x = some u ∧ PySem.W.keepIn K u = true ∧ Γ.ifns.lookup i = some g ∧ CalI C Pr w K mg base k u g
  kfns : ∀ i x n ks, T.kfns.lookup i = some (x, n, ks) → ∃ u g, mg x = some u ∧ PySem.W.keepIn K u = true ∧ Γ.kfns.lookup i = some g ∧ KCal C Pr w K mg base k u n ks g
  kifns : ∀ i x n ks, T.kfns.lookup i = some (x, n, ks) → ∃ u g, mg x = some u ∧ PySem.W.keepIn K u = true ∧ Γ.kifns.lookup i = some (n, g) ∧ KCalI C Pr w K mg base k u n ks g
  imts : GoodI C Pr w K mg base k Γ
  kmts : GoodK C Pr w K mg base k Γ
  gcs : ∀ x i, T.gcs.lookup x = some i → ∃ v u p, mg x = some u ∧ RelV v u ∧ Γ.gcs.lookup i = some p ∧ ∀ G, RepP C G p v
  free : ∀ x ∈ T.free, mg x = none
  cls : ∀ x c, T.cls.lookup x = some c → mg x = some (.ref (C.CA c))
  kit : ∀ t ∈ T.tys, KitF C t
  nm : ∀ f x, T.nm[f]? = some x → C.NM f = x
  ft : C.FT = T.ft
  xinj : ∀ c g f, g ∈ C.FT c → C.NM f = C.NM g → f = g
  xc : ∀ x c, T.xc.lookup x = some c → mg x = some (.ref (C.CA c))
  x0 : ∀ x c, T.xc.lookup x = some c → T.ft c = [] → ∃ fI fd ps, XTxt K (C.CA c) fI ∧ L2.FnOk Pr w K mg base (L2.CX Pr w) k fI fd ps (spX0 (C.CA c)) ∧ Binds K fd ps []
  x1 : ∀ x c fl, T.xc.lookup x = some c → T.ft c = [fl] → ∃ fI fd ps, XTxt K (C.CA c) fI ∧ L2.FnOk Pr w K mg base (L2.CX Pr w) k fI fd ps (spX1 (C.CA c) (C.NM fl)) ∧ Binds K fd ps []
  xvk : ∀ c, T.xv.contains c = true → XCl C c
  x1k : ∀ x c fl kn, T.xc.lookup x = some c → T.ft c = [fl] → T.xkn.lookup c = some kn → ∃ fI fd ps, XTxt K (C.CA c) fI ∧ L2.FnOk Pr w K mg base (L2.CX Pr w) k fI fd ps (spX1 (C.CA c) (C.NM fl)) ∧ KBn K fd ps 1 [kn] (fun us ws => us ++ ws) (fun vs zs => vs ++ zs)
  xdn : PySem.W.specialIn K (.builtin "object.__class__") "__get__" = some (some (.builtin "getset_descriptor.__get__")) ∧ PySem.W.takesIn K (.builtin "object.__class__") = some true
  xis : ∀ z ys ns, T.xis.lookup z = some (ys, ns) → ∃ cv, ((∃ D, cv = Value.ref D ∧ mg z = some (.ref D)) ∨ (z = "ValueError" ∧ cv = .type "ValueError" ∧ mg z = none)) ∧ (∀ c ∈ ys, PySem.W.kitOne K (.ref (C.CA c)) cv = some true) ∧ ∀ c ∈ ns, PySem.W.kitOne K (.ref (C.CA c)) cv = some false
  exm : ∀ c' c b, T.exm c' c = some b → PySem.W.exmOne K (.ref (C.CA c')) (.ref (C.CA c)) = some b
  xr : ∀ c f, c ∈ T.xr → T.ft c = [f] → XRd K (C.CA c) (C.NM f)
  cms : ∀ c m, (c, m) ∈ T.cms → ∃ mc pp f g, ClX.CRead K (C.CA c) mc ∧ ClX.CMet K (C.CA c) mc (C.NM m) pp f ∧ Γ.cmeth c m = some g ∧ CalI C Pr w K mg base k (.ref f) g
  kcms : ∀ j c m ks, T.kcms.lookup j = some (c, m, ks) → ∃ mc pp f g, ClX.CRead K (C.CA c) mc ∧ ClX.CMet K (C.CA c) mc (C.NM m) pp f ∧ Γ.kcms.lookup j = some g ∧ KCalC C Pr w K mg base k (.ref f) 1 ks g
  kb : 25 ≤ k
structure Good (C : CC) (W : WX) (X : Cx) (k : Nat) (Γ : Tab) (T : Gs) (ck : Ck) : Prop where
  sp : Spot C W X k
  hr : Room (k + (eqDeep + 1)) X.A
  N : X.N = ck.N
  nd : ck.N.Nodup
  sc : X.env.scope = ck.sc
  fk : ck.sc.kind = .function
  fn : X.fn = ck.fnb
  calm : X.calm = true
  tb : TabOk C X.prog X.w X.K X.mg X.base k Γ T
  top : ck.top = true → X.stack = X.env :: X.outer ∧ X.env.frame = some X.env.locals
def isBO : Expr → Bool
  | .BoolOp _ _ _ => true
  | _ => false
/-- an expression, read in every way -/
structure EOk (C : CC) (W : WX) (X : Cx) (F : Hp) (e : Expr) (f : DEnv → Sto → RE D) : Prop where
  pe : PE X e (tE C W F f)
  pt : PT X e (tT C W F f)
  pw : isBO e = true → PW X e (tT C W F f)
section
variable {C : CC} {W : WX} {X : Cx} {k : Nat} {Γ : Tab} {T : Gs} {ck : Ck} {F : Hp} {e a b c : Expr} {f fa fb fc : DEnv → Sto → RE D} {pos : Pos}
theorem EOk.val (h : PE X e (tE C W F f)) (p : plainTest e = true) : EOk C W X F e f := ⟨h, t_val h p, fun z => by cases e <;> first | (cases p; done) | (cases z; done)⟩
theorem Good.gl (g : Good C W X k Γ T ck) {x : Str} (h : glB ck.sc x = true) : Gl X x ∧ (x == ("__debug__" : Str)) = false := by
  unfold glB at h
  simp only [Bool.and_eq_true, beq_iff_eq, Bool.not_eq_true'] at h
  refine ⟨?_, h.2⟩
  show X.env.scope.names.lookup x = _
  rw [g.sc]
  exact h.1
theorem Good.fr (g : Good C W X k Γ T ck) {x : Str} (h : freeB T ck x = true) : Gl X x ∧ (x == ("__debug__" : Str)) = false ∧ X.mg x = none := by
  unfold freeB at h
  simp only [Bool.and_eq_true] at h
  exact ⟨(g.gl h.1).1, (g.gl h.1).2, g.tb.free x (by simpa using h.2)⟩
theorem Good.vis (g : Good C W X k Γ T ck) {x : Str} (h : visB ck.sc x = true) : Vis X.env.scope x ∧ (x == ("__debug__" : Str)) = false ∧ (x == ("__classdict__" : Str)) = false := by
  unfold visB at h
  simp only [Bool.and_eq_true, Bool.or_eq_true, beq_iff_eq, Bool.not_eq_true'] at h
  obtain ⟨⟨h1, h2⟩, h3⟩ := h
  refine ⟨?_, h2, h3⟩
  unfold Vis
  rw [g.sc]
  rcases h1 with (h1 | h1) | h1
  · exact .inl h1
  · exact .inr (.inl h1)
  · exact .inr (.inr h1)
theorem Good.loc (g : Good C W X k Γ T ck) {x : Str} (h : locB ck x = true) : Loc X.env.scope x ∧ (X.fn x = true ∨ X.env.scope.names.lookup x = some .local) := by
  unfold locB at h
  simp only [Bool.and_eq_true, Bool.or_eq_true, beq_iff_eq] at h
  rw [g.sc, g.fn]
  exact h
theorem Good.ix (g : Good C W X k Γ T ck) {x : Str} {i : Nat} (h : (ck.N[i]? == some x) = true) : X.N[i]? = some x := by
  rw [g.N]
  simpa using h
theorem blk_ok (g : Good C W X k Γ T ck) {scope : Scope} {ix : List Nat} (h : blkB ck scope ix = true) : BlkOk X.N X.env.scope scope (ix.map fun i => (ck.N.getD i "", i)) ∧ scope.kind = .function := by
  unfold blkB at h
  simp only [Bool.and_eq_true, beq_iff_eq, List.all_eq_true, Bool.or_eq_true, Bool.not_eq_true', decide_eq_true_eq] at h
  obtain ⟨⟨⟨⟨h1, h2⟩, h3⟩, h4⟩, h5⟩ := h
  rw [g.N, g.sc]
  refine ⟨⟨h1, h2, fun p hp => ?_, fun y hy e => ?_, fun y hy e => ?_⟩, h1⟩
  · obtain ⟨i, hi, rfl⟩ := List.mem_map.mp hp
    have := h3 i hi
    simp [List.getElem?_eq_getElem this]
  · rcases h4 y hy with z | z
    · rw [e] at z
      cases z
    · exact z
  · rcases h5 y hy with z | z
    · rcases e with e | e <;> rw [e] at z <;> simp at z
    · rcases z with z | z
      · refine .inl ?_
        rw [List.map_map]
        simpa [Function.comp_def] using z
      · exact .inr (by simpa using z)
theorem Good.blk (g : Good C W X k Γ T ck) {scope : Scope} (hk : scope.kind = .function) (s : Shared) (H : Hp) (A : Addr) (cl : List (Str × Addr)) (fp : List Addr) : Good C WF (X.blk s H scope (compEnvC scope cl A X.env) fp) k Γ T (ck.blk scope) := by
  obtain ⟨sp, hr, hN, nd, hsc, fk, fn, calm, tb, _⟩ := g
  refine ⟨⟨sp.nd, sp.cf, sp.nm, sp.fl, sp.hk, blk_takes, sp.hr, sp.py⟩, hr, hN, nd, ?_, hk, rfl, calm, tb, fun z => by cases z⟩
  show relabel scope X.env = relS scope ck.sc
  rw [← hsc]
  rfl
theorem Good.blkx (g : Good C W X k Γ T ck) {scope : Scope} (hk : scope.kind = .function) (s : Shared) (H : Hp) (A : Addr) (cl : List (Str × Addr)) (fp : List Addr) {W2 : WX} {xe : Value → Shared → Prop} (tk : Takes ((X.blk s H scope (compEnvC scope cl A X.env) fp).tr [] xe) W2) : Good C W2 ((X.blk s H scope (compEnvC scope cl A X.env) fp).tr [] xe) k Γ T (ck.blk scope) := by
  obtain ⟨sp, hr, hN, nd, hsc, fk, fn, calm, tb, _⟩ := g
  refine ⟨⟨sp.nd, sp.cf, sp.nm, sp.fl, sp.hk, tk, sp.hr, sp.py⟩, hr, hN, nd, ?_, hk, rfl, calm, tb, fun z => by cases z⟩
  show relabel scope X.env = relS scope ck.sc
  rw [← hsc]
  rfl
theorem x_one {op : BoolOp} (h : PE X a (tE C W F f)) : PE X (.BoolOp op [a] pos) (tE C W F f) := ⟨fun pins s σ H Q I hq => h.run pins s σ H Q I hq⟩
theorem x_gc (g : Good C W X k Γ T ck) {x : Str} {j : Nat} (hg : glB ck.sc x = true) (hl : T.gcs.lookup x = some j) : PE X (.Name x pos) (tE C W F fun _ S => match Γ.gcs.lookup j with
    | some x => .ok (.p x) S
    | none => .stuck) := by
  obtain ⟨v, u, p, h1, hr, h2, h3⟩ := g.tb.gcs x j hl
  refine PE.imp (pe_glob (v := v) (g.gl hg).1 h1 hr (g.gl hg).2) fun σ H Q ⟨δ, s, A, R, h⟩ => ?_
  rw [h2] at h
  exact h.ok A (h3 _)
theorem t_chain {op op' : CmpOp} (ha : PE X a (tE C W F fa)) (hb : PE X b (tE C W F fb)) (hc : PE X c (tE C W F fc)) (hm : lastMarks [op, op'] [b, c] = false) :
    PT X (.Compare a [op, op'] [b, c] pos) (tT C W F fun δ S => (fa δ S).bind fun d1 S1 => (fb δ S1).bind fun d2 S2 => chainD (fc δ) op op' d1 d2 S2) := by
  refine PT.imp (pt_chain (op_chn op) (op_chn op') ha hb hc hm) fun σ H Q h => ?_
  exact chain_imp (tE_of_tT h)

/-! ### targets -/
mutual
theorem ckTg (g : Good C W X k Γ T ck) : ∀ (t : Tg) (e : Expr), chkTg ck t e = true → PG X e (gT C F t)
  | .name i, e, h => by
    simp only [chkTg] at h
    split at h
    · rename_i x p
      simp only [Bool.and_eq_true] at h
      exact g_name (by rw [g.N]; exact g.nd) (g.ix h.1) (g.loc h.2).1 (g.loc h.2).2
    · cases h
  | .tup ts, e, h => by
    simp only [chkTg] at h
    split at h
    · rename_i es j p
      simp only [Bool.and_eq_true, beq_iff_eq] at h
      exact g_tup g.sp.hk g.calm (ckTgs g ts es h.2.2 h.1) h.1 h.2.1
    · cases h
theorem ckTgs (g : Good C W X k Γ T ck) : ∀ (t : Tgs) (l : List Expr), chkTgs ck t l = true → l.all notStar = true → PGs X l (gTs C F t)
  | .nil, l, h, _ => by
    simp only [chkTgs, List.isEmpty_iff] at h
    subst h
    exact g_nil
  | .cons t ts, l, h, hs => by
    simp only [chkTgs] at h
    cases l with
    | nil => cases h
    | cons e es =>
      simp only [Bool.and_eq_true] at h
      simp only [List.all_cons, Bool.and_eq_true] at hs
      exact g_cons (ckTg g t e h.1) (ckTgs g ts es h.2 hs.2) hs.1
end
theorem ty_pe (g : Good C W X k Γ T ck) {t : Ty} {y : Str} {p : Pos} (h : (match isOwn t with
      | some c => glB ck.sc y && T.cls.lookup y == some c
      | none => y == tyN t && freeB T ck y) = true) : PE X (.Name y p) (tC (tyCV C t)) := by
  cases t with
  | own c =>
    simp only [isOwn, Bool.and_eq_true, beq_iff_eq] at h
    exact pe_glob (g.gl h.1).1 (g.tb.cls y c h.2) rfl (g.gl h.1).2
  | int =>
    simp only [isOwn, tyN, Bool.and_eq_true, beq_iff_eq] at h
    obtain ⟨rfl, h⟩ := h
    exact pe_bltn (u := .type "int") (g.fr h).1 (g.fr h).2.2 (by decide +kernel) rfl
  | bool =>
    simp only [isOwn, tyN, Bool.and_eq_true, beq_iff_eq] at h
    obtain ⟨rfl, h⟩ := h
    exact pe_bltn (u := .type "bool") (g.fr h).1 (g.fr h).2.2 (by decide +kernel) rfl
  | str =>
    simp only [isOwn, tyN, Bool.and_eq_true, beq_iff_eq] at h
    obtain ⟨rfl, h⟩ := h
    exact pe_bltn (u := .type "str") (g.fr h).1 (g.fr h).2.2 (by decide +kernel) rfl
  | tup =>
    simp only [isOwn, tyN, Bool.and_eq_true, beq_iff_eq] at h
    obtain ⟨rfl, h⟩ := h
    exact pe_bltn (u := .type "tuple") (g.fr h).1 (g.fr h).2.2 (by decide +kernel) rfl
  | lst =>
    simp only [isOwn, tyN, Bool.and_eq_true, beq_iff_eq] at h
    obtain ⟨rfl, h⟩ := h
    exact pe_bltn (u := .type "list") (g.fr h).1 (g.fr h).2.2 (by decide +kernel) rfl
theorem pts_of {c : Expr} {f : DEnv → Sto → RE D} (h : PT X c (tT C W F f)) : PTs X [c] (tT C W F (optT true f)) := pts_one h
theorem pts_no {f : DEnv → Sto → RE D} : PTs X [] (tT C W F (optT false f)) := ⟨fun pins s σ H Q I ⟨δ, s0, A, R, h⟩ => pts_nil.run pins s σ H Q I (want_T A h)⟩
/-! ### expressions -/
mutual
theorem ckE : ∀ (ir : E) {W : WX} {X : Cx} {ck : Ck} {F : Hp} {e : Expr}, Good C W X k Γ T ck → chkE T ck ir e = true → EOk C W X F e (evE Γ C.FT ir)
  | .var i, W, X, ck, F, e, g, h => by
    simp only [chkE] at h
    split at h
    · rename_i x p
      simp only [Bool.and_eq_true] at h
      exact .val (x_var (g.ix h.1) (g.vis h.2).1 (g.vis h.2).2.1 (g.vis h.2).2.2 C.FT) rfl
    · cases h
  | .gc j, W, X, ck, F, e, g, h => by
    simp only [chkE] at h
    split at h
    · simp only [Bool.and_eq_true, beq_iff_eq] at h
      exact .val (x_gc g h.1 h.2) rfl
    · cases h
  | .non, W, X, ck, F, e, g, h => by
    simp only [chkE] at h
    split at h
    · exact .val (x_non C.FT) rfl
    · cases h
  | .bl b, W, X, ck, F, e, g, h => by
    simp only [chkE] at h
    split at h
    · simp only [beq_iff_eq] at h
      subst h
      exact .val (x_bl C.FT) rfl
    · cases h
  | .int i, W, X, ck, F, e, g, h => by
    simp only [chkE] at h
    split at h
    · simp only [decide_eq_true_eq] at h
      subst h
      exact .val (x_int C.FT) rfl
    · cases h
  | .str z, W, X, ck, F, e, g, h => by
    simp only [chkE] at h
    split at h
    · simp only [beq_iff_eq] at h
      subst h
      exact .val (x_str C.FT) rfl
    · cases h
  | .bin op a b, W, X, ck, F, e, g, h => by
    simp only [chkE] at h
    split at h
    · simp only [Bool.and_eq_true, decide_eq_true_eq] at h
      obtain ⟨rfl, h1, h2⟩ := h
      exact .val (x_bin g.sp g.tb.gm (ckE a g h1).pe (ckE b g h2).pe) rfl
    · cases h
  | .neg a, W, X, ck, F, e, g, h => by
    simp only [chkE] at h
    split at h
    · exact .val (x_neg g.sp g.tb.gm (ckE a g h).pe) rfl
    · cases h
  | .not a, W, X, ck, F, e, g, h => by
    simp only [chkE] at h
    split at h
    · exact ⟨x_not (ckE a g h).pe, t_not (ckE a g h).pt, fun z => by cases z⟩
    · cases h
  | .cmp op a b, W, X, ck, F, e, g, h => by
    simp only [chkE] at h
    split at h
    · simp only [Bool.and_eq_true, decide_eq_true_eq] at h
      obtain ⟨rfl, h0, h1, h2⟩ := h
      exact ⟨x_cmp g.sp g.tb.gm g.hr (ckE a g h1).pe (ckE b g h2).pe h0, t_cmp g.sp g.tb.gm g.hr (ckE a g h1).pe (ckE b g h2).pe h0, fun z => by cases z⟩
    · cases h
  | .chain op1 op2 a b c, W, X, ck, F, e, g, h => by
    simp only [chkE] at h
    split at h
    · simp only [Bool.and_eq_true, decide_eq_true_eq, Bool.not_eq_true'] at h
      obtain ⟨rfl, rfl, h0, h1, h2, h3⟩ := h
      exact ⟨x_chain (ckE a g h1).pe (ckE b g h2).pe (ckE c g h3).pe h0, t_chain (ckE a g h1).pe (ckE b g h2).pe (ckE c g h3).pe h0, fun z => by cases z⟩
    · cases h
  | .and a b, W, X, ck, F, e, g, h => by
    simp only [chkE] at h
    split at h
    · rename_i a1 b1 p1
      simp only [Bool.and_eq_true] at h
      have w := w_and (pos := p1) (ckE a (F := F) g h.1).pt (pw_and1 (ckE b (F := F) g h.2).pt)
      exact ⟨x_and (ckE a g h.1).pe (x_one (ckE b g h.2).pe), w.pt, fun _ => w⟩
    · simp only [Bool.and_eq_true] at h
      have w := w_and (ckE a (F := F) g h.1).pt ((ckE b (F := F) g h.2).pw rfl)
      exact ⟨x_and (ckE a g h.1).pe (ckE b g h.2).pe, w.pt, fun _ => w⟩
    · cases h
  | .or a b, W, X, ck, F, e, g, h => by
    simp only [chkE] at h
    split at h
    · rename_i a1 b1 p1
      simp only [Bool.and_eq_true] at h
      have w := w_or (pos := p1) (ckE a (F := F) g h.1).pt (pw_or1 (ckE b (F := F) g h.2).pt)
      exact ⟨x_or (ckE a g h.1).pe (x_one (ckE b g h.2).pe), w.pt, fun _ => w⟩
    · simp only [Bool.and_eq_true] at h
      have w := w_or (ckE a (F := F) g h.1).pt ((ckE b (F := F) g h.2).pw rfl)
      exact ⟨x_or (ckE a g h.1).pe (ckE b g h.2).pe, w.pt, fun _ => w⟩
    · cases h
  | .ite t a b, W, X, ck, F, e, g, h => by
    simp only [chkE] at h
    split at h
    · simp only [Bool.and_eq_true] at h
      obtain ⟨h0, h1, h2⟩ := h
      exact ⟨x_ite (ckE t g h0).pt (ckE a g h1).pe (ckE b g h2).pe, t_ite (ckE t g h0).pt (ckE a g h1).pt (ckE b g h2).pt, fun z => by cases z⟩
    · cases h
  | .tup es, W, X, ck, F, e, g, h => by
    simp only [chkE] at h
    split at h
    · exact .val (x_tup (ckEs es g h)) rfl
    · cases h
  | .lst es, W, X, ck, F, e, g, h => by
    simp only [chkE] at h
    split at h
    · exact .val (x_lst (ckEs es g h)) rfl
    · cases h
  | .newl es, W, X, ck, F, e, g, h => by
    simp only [chkE] at h
    split at h
    · exact .val (x_newl (ckEs es g h)) rfl
    · cases h
  | .dsp ks vs, W, X, ck, F, e, g, h => by
    simp only [chkE] at h
    split at h
    · exact .val (x_dsp h) rfl
    · cases h
  | .newn es, W, X, ck, F, e, g, h => by
    simp only [chkE] at h
    split at h
    · exact .val (x_newn (ckDs es g h)) rfl
    · cases h
  | .catl a b, W, X, ck, F, e, g, h => by
    simp only [chkE] at h
    split at h
    · simp only [Bool.and_eq_true] at h
      exact .val (x_catl (ckE a g h.1).pe (ckE b g h.2).pe) rfl
    · cases h
  | .sub a i, W, X, ck, F, e, g, h => by
    simp only [chkE] at h
    split at h
    · simp only [Bool.and_eq_true] at h
      exact .val (x_sub g.hr.units g.sp.hk h.1 (ckE a g h.2.1).pe (ckE i g h.2.2).pe) rfl
    · cases h
  | .subn a i, W, X, ck, F, e, g, h => by
    simp only [chkE] at h
    split at h
    · simp only [Bool.and_eq_true] at h
      exact .val (x_subn h.1 (ckE a g h.2.1).pe (ckE i g h.2.2).pe) rfl
    · cases h
  | .slc a hl lo hh hi, W, X, ck, F, e, g, h => by
    simp only [chkE] at h
    split at h
    · rename_i a' lo' hi' q1 q2
      simp only [Bool.and_eq_true] at h
      obtain ⟨h0, h1, h2⟩ := h
      have l1 : PO X lo' (tO C W F fun δ S => optI hl (evE Γ C.FT lo δ) S) := by
        cases lo' with
        | none =>
          simp only [Bool.not_eq_true'] at h1
          subst h1
          exact o_none
        | some l =>
          simp only [Bool.and_eq_true] at h1
          obtain ⟨rfl, h1⟩ := h1
          exact o_some (ckE lo g h1).pe
      have l2 : PO X hi' (tO C W F fun δ S => optI hh (evE Γ C.FT hi δ) S) := by
        cases hi' with
        | none =>
          simp only [Bool.not_eq_true'] at h2
          subst h2
          exact o_none
        | some l =>
          simp only [Bool.and_eq_true] at h2
          obtain ⟨rfl, h2⟩ := h2
          exact o_some (ckE hi g h2).pe
      exact .val (x_slc g.sp.hk (ckE a g h0).pe l1 l2) rfl
    · cases h
  | .rev a, W, X, ck, F, e, g, h => by
    simp only [chkE] at h
    split at h
    · exact .val (x_rev (ckE a g h).pe) rfl
    · cases h
  | .attr a f, W, X, ck, F, e, g, h => by
    simp only [chkE] at h
    split at h
    · simp only [Bool.and_eq_true, beq_iff_eq] at h
      exact .val (x_attr g.sp g.tb.gm (g.tb.nm _ _ h.1) h.2.1 (ckE a g h.2.2).pe) rfl
    · cases h
  | .call j es, W, X, ck, F, e, g, h => by
    simp only [chkE] at h
    split at h
    · simp only [Bool.and_eq_true, beq_iff_eq] at h
      obtain ⟨h0, h1, h2, h3⟩ := h
      obtain ⟨u, q, k1, k2, k3, k4⟩ := g.tb.fns _ _ h1
      refine .val (PE.imp (x_call g.sp (g.gl h0).1 k1 k2 k4 (g.gl h0).2 h2 (ckEs es (F := F) g h3)) fun σ H Q hq => ?_) rfl
      simp only [evE, k3] at hq
      exact hq
    · cases h
  | .icall j es, W, X, ck, F, e, g, h => by
    simp only [chkE] at h
    split at h
    · simp only [Bool.and_eq_true, beq_iff_eq] at h
      obtain ⟨h0, h1, h2, h3⟩ := h
      obtain ⟨u, q, k1, k2, k3, k4⟩ := g.tb.ifns _ _ h1
      refine .val (PE.imp (x_icall g.sp (g.gl h0).1 k1 k2 k4 (g.gl h0).2 h2 (ckDs es (F := F) g h3)) fun σ H Q hq => ?_) rfl
      simp only [evE, k3] at hq
      exact hq
    · cases h
  | .kcall j es ks, W, X, ck, F, e, g, h => by
    simp only [chkE] at h
    split at h
    · simp only [Bool.and_eq_true] at h
      obtain ⟨h0, h1⟩ := h
      split at h1
      · rename_i y n names hk
        simp only [Bool.and_eq_true, beq_iff_eq, decide_eq_true_eq] at h1
        obtain ⟨rfl, h2, h3, h4, h5, h6⟩ := h1
        obtain ⟨u, q, k1, k2, k3, k4⟩ := g.tb.kfns _ _ _ _ hk
        rename_i l kws q1 q2
        cases l with
        | nil =>
          cases es with
          | nil =>
            refine .val (PE.imp (x_kcall0 g.sp (g.gl h0).1 k1 k2 k4 (g.gl h0).2 h3 (ckKs ks (F := F) g h6)) fun σ H Q hq => ?_) rfl
            simp only [evE, evEs, k3] at hq
            exact hq
          | cons _ _ => simp only [chkEs] at h5; cases h5
          | star _ _ => simp only [chkEs] at h5; cases h5
        | cons a l =>
          refine .val (PE.imp (x_kcall g.sp (g.gl h0).1 k1 k2 k4 (g.gl h0).2 h3 h4 (ckEs es (F := F) g h5) (ckKs ks (F := F) g h6)) fun σ H Q hq => ?_) rfl
          simp only [evE, k3] at hq
          exact hq
      · cases h1
    · cases h
  | .fmeth a m es, W, X, ck, F, e, g, h => by
    simp only [chkE] at h
    split at h
    · simp only [Bool.and_eq_true, beq_iff_eq, decide_eq_true_eq] at h
      obtain ⟨h0, h1, h2, h3, h4, h5, h6⟩ := h
      exact .val (x_fmeth g.sp g.tb.imts (g.tb.nm _ _ h0) h1 h2 h3 (by simpa using h4) (ckE a g h5).pe (ckEs es g h6)) rfl
    · cases h
  | .kmeth a m ks es, W, X, ck, F, e, g, h => by
    simp only [chkE] at h
    split at h
    · simp only [Bool.and_eq_true, beq_iff_eq, decide_eq_true_eq] at h
      obtain ⟨h0, h1, h2, h3, h4, h5, h6⟩ := h
      exact .val (x_kmeth g.sp g.tb.kmts (g.tb.nm _ _ h0) h1 h2 h3 (by simpa using h4) (ckE a g h5).pe (ckKs es g h6)) rfl
    · cases h
  | .meth a m es, W, X, ck, F, e, g, h => by
    simp only [chkE] at h
    split at h
    · simp only [Bool.and_eq_true, beq_iff_eq, decide_eq_true_eq] at h
      obtain ⟨h0, h1, h2, h3, h4, h5, h6⟩ := h
      exact .val (x_meth g.sp g.tb.gm (g.tb.nm _ _ h0) h1 h2 h3 (by simpa using h4) (ckE a g h5).pe (ckEs es g h6)) rfl
    · cases h
  | .app a b, W, X, ck, F, e, g, h => by
    simp only [chkE] at h
    split at h
    · simp only [Bool.and_eq_true, beq_iff_eq] at h
      obtain ⟨rfl, h1, h2, h3, h4, h5⟩ := h
      exact .val (x_app g.sp.hk h1 h2 (by simpa using h3) (ckE a g h4).pe (ckE b g h5).pe) rfl
    · cases h
  | .clr a, W, X, ck, F, e, g, h => by
    simp only [chkE] at h
    split at h
    · simp only [Bool.and_eq_true, beq_iff_eq] at h
      obtain ⟨rfl, h1, h2, h3⟩ := h
      exact .val (x_clr h1 (by simpa using h2) (ckE a g h3).pe) rfl
    · cases h
  | .b1 bb a, W, X, ck, F, e, g, h => by
    simp only [chkE] at h
    split at h
    · simp only [Bool.and_eq_true, beq_iff_eq] at h
      obtain ⟨h0, h1, h2, h3⟩ := h
      exact .val (x_b1 g.calm g.sp.hk g.hr.gd g.hr.units bb h0 (g.fr h1).1 (g.fr h1).2.2 h2 (ckE a g h3).pe) rfl
    · cases h
  | .b2 bb a c, W, X, ck, F, e, g, h => by
    simp only [chkE] at h
    split at h
    · simp only [Bool.and_eq_true, beq_iff_eq] at h
      obtain ⟨h0, h1, h2, h3, h4, h5⟩ := h
      exact .val (x_b2 g.calm bb h0 (g.fr h1).1 (g.fr h1).2.2 h2 h3 (ckE a g h4).pe (ckE c g h5).pe) rfl
    · cases h
  | .cpl a, W, X, ck, F, e, g, h => by
    simp only [chkE] at h
    split at h
    · simp only [Bool.and_eq_true, beq_iff_eq] at h
      obtain ⟨rfl, h1, h2, h3⟩ := h
      exact .val (x_cpl g.sp.hk (g.fr h1).1 (g.fr h1).2.2 h2 (ckE a g h3).pe) rfl
    · cases h
  | .isi a t, W, X, ck, F, e, g, h => by
    simp only [chkE] at h
    split at h
    · simp only [Bool.and_eq_true, beq_iff_eq] at h
      obtain ⟨rfl, h1, h2, h3, h4, h5⟩ := h
      exact .val (x_isi g.sp (g.tb.kit t (by simpa using h3)) (g.fr h1).1 (g.fr h1).2.2 h2 (ty_pe g h4) rfl (ckE a g h5).pe) rfl
    · cases h
  | .newd, W, X, ck, F, e, g, h => by
    simp only [chkE] at h
    split at h
    · exact .val x_newd rfl
    · cases h
  | .dget a i, W, X, ck, F, e, g, h => by
    simp only [chkE] at h
    split at h
    · simp only [Bool.and_eq_true] at h
      obtain ⟨h0, h1, h2⟩ := h
      exact .val (x_dget (by have := g.hr.units; omega) h0 (ckE a g h1).pe (ckE i g h2).pe) rfl
    · cases h
  | .din neg i a, W, X, ck, F, e, g, h => by
    simp only [chkE] at h
    split at h
    · simp only [Bool.and_eq_true, decide_eq_true_eq] at h
      obtain ⟨h0, h1, h2, h3⟩ := h
      have hu : X.A.units + 1 < cLine := by have := g.hr.units; omega
      exact ⟨x_din h0 hu h1 (ckE i g h2).pe (ckE a g h3).pe, t_din h0 hu h1 (ckE i g h2).pe (ckE a g h3).pe, fun z => by cases z⟩
    · cases h
  | .xn1 c a, W, X, ck, F, e, g, h => by
    simp only [chkE] at h
    split at h
    · simp only [Bool.and_eq_true, beq_iff_eq] at h
      obtain ⟨h0, h1, h2, h3, h4, h5⟩ := h
      obtain ⟨fl, hf⟩ := List.length_eq_one_iff.mp h3
      obtain ⟨fI, fd, ps, k1, k2, k3⟩ := g.tb.x1 _ c fl h1 hf
      exact .val (x_xn1 (g.tb.xvk c h2) (by rw [g.tb.ft]; exact hf) k1 k2 (g.hr.mono (by unfold eqDeep; omega)).r k3 (g.gl h0).1 (g.tb.xc _ c h1) (ckE a g h5).pe h4 (g.gl h0).2) rfl
    · cases h
  | .xn0 c, W, X, ck, F, e, g, h => by
    simp only [chkE] at h
    split at h
    · simp only [Bool.and_eq_true, beq_iff_eq, List.isEmpty_iff] at h
      obtain ⟨h0, h1, h2, h3⟩ := h
      obtain ⟨fI, fd, ps, k1, k2, k3⟩ := g.tb.x0 _ c h1 h3
      exact .val (x_xn0 (g.tb.xvk c h2) k1 k2 (g.hr.mono (by unfold eqDeep; omega)).r k3 (g.gl h0).1 (g.tb.xc _ c h1) (g.gl h0).2) rfl
    · cases h
  | .xnk c a, W, X, ck, F, e, g, h => by
    simp only [chkE] at h
    split at h
    · simp only [Bool.and_eq_true, beq_iff_eq] at h
      obtain ⟨h0, h1, h2, h3, h4, h5⟩ := h
      obtain ⟨fl, hf⟩ := List.length_eq_one_iff.mp h4
      obtain ⟨fI, fd, ps, k1, k2, k3⟩ := g.tb.x1k _ c fl _ h1 hf h3
      exact .val (x_xnk (g.tb.xvk c h2) (by rw [g.tb.ft]; exact hf) k1 k2 (g.hr.mono (by unfold eqDeep; omega)).r k3 (g.gl h0).1 (g.tb.xc _ c h1) (ckE a g h5).pe (g.gl h0).2) rfl
    · cases h
  | .xget a f, W, X, ck, F, e, g, h => by
    simp only [chkE] at h
    split at h
    · simp only [Bool.and_eq_true, beq_iff_eq] at h
      obtain ⟨d1, d2⟩ := g.tb.xdn
      rw [← g.sp.hk] at d1 d2
      exact .val (x_xget g.sp.hk (g.tb.nm _ _ h.1) d1 d2 (ckE a g h.2.2).pe (base_plain h.2.1)) rfl
    · cases h
  | .xis a y ys ns, W, X, ck, F, e, g, h => by
    simp only [chkE] at h
    split at h
    · simp only [Bool.and_eq_true, beq_iff_eq] at h
      obtain ⟨rfl, h1, h2, rfl, h3, h4, h5⟩ := h
      obtain ⟨d1, d2⟩ := g.tb.xdn
      rw [← g.sp.hk] at d1 d2
      obtain ⟨cv, hz, q1, q2⟩ := g.tb.xis _ ys ns h4
      rcases hz with ⟨D, rfl, hm⟩ | ⟨rfl, rfl, hm⟩
      · exact .val (x_xis (cV := .ref D) g.sp.hk d1 d2 q1 q2 (g.fr h1).1 (g.fr h1).2.2 (ckE a g h5).pe (pe_glob (g.gl h3).1 hm rfl (g.gl h3).2) (fun u r => r) h2 rfl) rfl
      · exact .val (x_xis (cV := .ty "ValueError") g.sp.hk d1 d2 q1 q2 (g.fr h1).1 (g.fr h1).2.2 (ckE a g h5).pe (pe_bltn (u := .type "ValueError") (g.gl h3).1 hm (by decide +kernel) rfl) (fun u r => r) h2 rfl) rfl
    · cases h
  | .rpb a, W, X, ck, F, e, g, h => by
    simp only [chkE] at h
    split at h
    · simp only [Bool.and_eq_true, beq_iff_eq] at h
      obtain ⟨h0, h1, h2, h3⟩ := h
      exact .val (x_rpb g.sp.hk g.sp.nd g.hr.gd g.hr.units h0 (g.fr h1).1 (g.fr h1).2.2 h2 (ckE a g h3).pe) rfl
    · cases h
  | .deq a b, W, X, ck, F, e, g, h => by
    simp only [chkE] at h
    split at h
    · simp only [Bool.and_eq_true, decide_eq_true_eq] at h
      obtain ⟨rfl, h1, h2⟩ := h
      have hu : X.A.units + 1 < cLine := by have := g.hr.units; omega
      exact ⟨x_deq hu (ckE a g h1).pe (ckE b g h2).pe, t_deq hu (ckE a g h1).pe (ckE b g h2).pe, fun z => by cases z⟩
    · cases h
  | .dkeys a, W, X, ck, F, e, g, h => by
    simp only [chkE] at h
    split at h
    · simp only [Bool.and_eq_true, beq_iff_eq] at h
      obtain ⟨rfl, h1, h2, h3⟩ := h
      exact .val (x_dkeys g.calm (g.fr h1).1 (g.fr h1).2.2 h2 (ckE a g h3).pe) rfl
    · cases h
  | .dpop a i, W, X, ck, F, e, g, h => by
    simp only [chkE] at h
    split at h
    · simp only [Bool.and_eq_true, beq_iff_eq] at h
      obtain ⟨rfl, h1, h2, h3, h4, h5⟩ := h
      exact .val (x_dpop h1 h2 (by simpa using h3) (ckE a g h4).pe (ckE i g h5).pe) rfl
    · cases h
  | .lmeth a m es, W, X, ck, F, e, g, h => by
    simp only [chkE] at h
    split at h
    · simp only [Bool.and_eq_true, beq_iff_eq, decide_eq_true_eq] at h
      obtain ⟨h0, h1, h2, h3, h4, h5, h6⟩ := h
      exact .val (x_lmeth g.sp g.tb.imts (g.tb.nm _ _ h0) h1 h2 h3 (by simpa using h4) (ckE a g h5).pe (ckDs es g h6)) rfl
    · cases h
  | .comp lv elt tg it hc c, W, X, ck, F, e, g, h => by
    simp only [chkE] at h
    split at h
    · simp only [Bool.and_eq_true] at h
      obtain ⟨h0, h1, h2, h3, h4, h5⟩ := h
      obtain ⟨bo, hk⟩ := blk_ok g h2
      refine .val (x_comp lv g.calm (by rw [g.N]; exact g.nd) (ckIt it g h0) bo (by rw [List.map_map]; simp [Function.comp_def]) ⟨fun s H A cl fp F => ckTg (g.blk hk s H A cl fp) tg _ h3, fun s H A cl fp F => ?_, fun s H A cl fp F => (ckE elt (g.blk hk s H A cl fp) h4).pe⟩ h1) rfl
      split at h5
      · simp only [Bool.not_eq_true'] at h5
        subst h5
        exact pts_no
      · simp only [Bool.and_eq_true] at h5
        obtain ⟨rfl, h5⟩ := h5
        exact pts_of (ckE c (g.blk hk s H A cl fp) h5).pt
      · cases h5
    · cases h
  | .fcall j es, W, X, ck, F, e, g, h => by
    simp only [chkE] at h
    split at h
    · simp only [Bool.and_eq_true, beq_iff_eq] at h
      obtain ⟨h0, h1, h2, h3⟩ := h
      obtain ⟨u, q, k1, k2, k3, k4⟩ := g.tb.ifns _ _ h1
      refine .val (PE.imp (x_fcall g.sp (g.gl h0).1 k1 k2 k4 (g.gl h0).2 h2 (ckEs es (F := F) g h3)) fun σ H Q hq => ?_) rfl
      simp only [evE, k3] at hq
      exact hq
    · cases h
  | .bcall j es, W, X, ck, F, e, g, h => by
    simp only [chkE] at h
    split at h
    · simp only [Bool.and_eq_true, beq_iff_eq] at h
      obtain ⟨h0, h1, h2, h3⟩ := h
      obtain ⟨u, q, k1, k2, k3, k4⟩ := g.tb.fns _ _ h1
      refine .val (PE.imp (x_bcall g.sp (g.gl h0).1 k1 k2 k4 (g.gl h0).2 h2 (ckDs es (F := F) g h3)) fun σ H Q hq => ?_) rfl
      simp only [evE, k3] at hq
      exact hq
    · cases h
  | .compb lv elt tg i hc c, W, X, ck, F, e, g, h => by
    simp only [chkE] at h
    split at h
    · simp only [Bool.and_eq_true] at h
      obtain ⟨h0, h2, h3, h4, h5⟩ := h
      obtain ⟨bo, hk⟩ := blk_ok g h2
      refine .val (x_compb lv g.calm (by rw [g.N]; exact g.nd) (x_var (Γ := Γ) (g.ix h0.1) (g.vis h0.2).1 (g.vis h0.2).2.1 (g.vis h0.2).2.2 C.FT) bo (by rw [List.map_map]; simp [Function.comp_def]) ⟨fun s H A cl fp F => ckTg (g.blk hk s H A cl fp) tg _ h3, fun s H A cl fp F => ?_, fun s H A cl fp F => (ckE elt (g.blk hk s H A cl fp) h4).pe⟩) rfl
      split at h5
      · simp only [Bool.not_eq_true'] at h5
        subst h5
        exact pts_no
      · simp only [Bool.and_eq_true] at h5
        obtain ⟨rfl, h5⟩ := h5
        exact pts_of (ckE c (g.blk hk s H A cl fp) h5).pt
      · cases h5
    · cases h
  | .fkcall j es ks, W, X, ck, F, e, g, h => by
    simp only [chkE] at h
    split at h
    · rw [Bool.and_eq_true] at h
      obtain ⟨h0, h1⟩ := h
      split at h1
      · rename_i y n names hk
        rw [Bool.and_eq_true, Bool.and_eq_true, Bool.and_eq_true, Bool.and_eq_true, beq_iff_eq, decide_eq_true_eq] at h1
        obtain ⟨rfl, h3, h4, h5, h6⟩ := h1
        obtain ⟨u, q, k1, k2, k3, k4⟩ := g.tb.kifns _ _ _ _ hk
        refine .val (PE.imp (x_fkcall g.sp (g.gl h0).1 k1 k2 k4 (g.gl h0).2 h3 h4 (ckEs es (F := F) g h5) (ckKs ks (F := F) g h6)) fun σ H Q hq => ?_) rfl
        simp only [evE, k3] at hq
        exact hq
      · cases h1
    · cases h
  | .compx elt tg it hc c, W, X, ck, F, e, g, h => by
    simp only [chkE] at h
    split at h
    · simp only [Bool.and_eq_true] at h
      obtain ⟨ht, h0, h1, h2, h3, h4, h5⟩ := h
      obtain ⟨bo, hk⟩ := blk_ok g h2
      refine .val (x_compx g.calm (by rw [g.N]; exact g.nd) (g.top ht).1 (g.top ht).2 g.sp.tk (ckIt it g h0) bo (by rw [List.map_map]; simp [Function.comp_def]) ⟨fun s H A cl fp xe F => ckTg (g.blkx hk s H A cl fp (xe := xe) (takes_no _)) tg _ h3, fun s H A cl fp xe F => ?_, fun W2 s H A cl fp xe tk F => (ckE elt (g.blkx hk s H A cl fp tk) h4).pe⟩ h1) rfl
      split at h5
      · simp only [Bool.not_eq_true'] at h5
        subst h5
        exact pts_no
      · simp only [Bool.and_eq_true] at h5
        obtain ⟨rfl, h5⟩ := h5
        exact pts_of (ckE c (g.blkx hk s H A cl fp (xe := xe) (takes_no _)) h5).pt
      · cases h5
    · cases h
  | .joi z a, W, X, ck, F, e, g, h => by
    simp only [chkE] at h
    split at h
    · simp only [Bool.and_eq_true, beq_iff_eq] at h
      obtain ⟨rfl, rfl, h2, h3, h4⟩ := h
      exact .val (x_joi g.sp.hk (ckE a g h4).pe h2 (beq_iff_eq.mpr h3)) rfl
    · cases h
  | .spl a b, W, X, ck, F, e, g, h => by
    simp only [chkE] at h
    split at h
    · simp only [Bool.and_eq_true, beq_iff_eq] at h
      obtain ⟨rfl, h1, h2, h3, h4, h5⟩ := h
      exact .val (x_spl (ckE a g h4).pe (ckE b g h5).pe h1 h2 (beq_iff_eq.mpr h3)) rfl
    · cases h
  | .fs3 a z b, W, X, ck, F, e, g, h => by
    simp only [chkE] at h
    split at h
    · simp only [Bool.and_eq_true, beq_iff_eq, decide_eq_true_eq] at h
      obtain ⟨rfl, rfl, rfl, h1, h4, h5⟩ := h
      exact .val (x_fs3 h1 (ckE a g h4).pe (ckE b g h5).pe) rfl
    · cases h
  | .lcall i c j y es, W, X, ck, F, e, g, h => by
    simp only [chkE] at h
    split at h
    · simp only [Bool.and_eq_true, beq_iff_eq] at h
      obtain ⟨⟨h0, h1⟩, h2, h3, h4, h5⟩ := h
      obtain ⟨u, q, k1, k2, k3, k4⟩ := g.tb.fns _ _ h3
      have e := (g.tb.cls _ _ h2).symm.trans k1
      cases e
      refine .val (PE.imp (x_lcall g.sp (g.ix (beq_iff_eq.mpr h0)) (g.vis h1).1 k2 k4 (g.vis h1).2.1 (g.vis h1).2.2 h4 (ckEs es (F := F) g h5)) fun σ H Q hq => ?_) rfl
      simp only [evE, k3] at hq
      exact hq
    · cases h
  | .cmeth c m y es, W, X, ck, F, e, g, h => by
    simp only [chkE] at h
    split at h
    · rename_i y' p x ap v l pos
      rw [Bool.and_eq_true, Bool.and_eq_true, Bool.and_eq_true, Bool.and_eq_true, Bool.and_eq_true, Bool.and_eq_true, Bool.and_eq_true, Bool.and_eq_true, beq_iff_eq, beq_iff_eq, beq_iff_eq, decide_eq_true_eq] at h
      obtain ⟨rfl, h0, h1, h2, h3, h4, h5, h6, h7⟩ := h
      obtain ⟨mc, pp, f, q, r1, r2, r3, r4⟩ := g.tb.cms c m (by simpa using h3)
      rw [g.tb.nm _ _ h2] at r2
      refine .val (PE.imp (x_cmeth g.sp (g.gl h0).1 (g.tb.cls _ _ h1) (g.gl h0).2 r1 r2 r4 h4 h5 h6 (ckEs es (F := F) g h7)) fun σ H Q hq => ?_) rfl
      simp only [evE, r3] at hq
      exact hq
    · cases h
  | .kcmeth j c y es, W, X, ck, F, e, g, h => by
    simp only [chkE] at h
    split at h
    · rename_i y' p x ap kws pos
      rw [Bool.and_eq_true, Bool.and_eq_true, Bool.and_eq_true, beq_iff_eq, beq_iff_eq] at h
      obtain ⟨rfl, h0, h1, h2⟩ := h
      split at h2
      · rename_i c' m ks hj
        rw [Bool.and_eq_true, Bool.and_eq_true, Bool.and_eq_true, Bool.and_eq_true, Bool.and_eq_true, beq_iff_eq, decide_eq_true_eq, decide_eq_true_eq, decide_eq_true_eq] at h2
        obtain ⟨rfl, h3, h4, h5, h6, h7⟩ := h2
        obtain ⟨mc, pp, f, q, r1, r2, r3, r4⟩ := g.tb.kcms _ _ _ _ hj
        rw [g.tb.nm _ _ h3] at r2
        refine .val (PE.imp (x_kcmeth g.sp (g.gl h0).1 (g.tb.cls _ _ h1) (g.gl h0).2 r1 r2 r4 h4 h5 h6 (ckKs es (F := F) g h7)) fun σ H Q hq => ?_) rfl
        simp only [evE, r3] at hq
        exact hq
      · cases h2
    · cases h
  | .comp2 elt tg it tg1 it1 hc c, W, X, ck, F, e, g, h => by
    simp only [chkE] at h
    split at h
    · simp only [Bool.and_eq_true] at h
      obtain ⟨h0, h1, h1', h2, h3, h6, h7, h4, h5⟩ := h
      obtain ⟨bo, hk⟩ := blk_ok g h2
      refine .val (x_comp2 (fun X F => pts_no (f := fun _ _ => .stuck)) g.calm (by rw [g.N]; exact g.nd) (ckIt it g h0) bo (by rw [List.map_map]; simp [Function.comp_def]) ⟨fun s H A cl fp F => ckTg (g.blk hk s H A cl fp) tg _ h3, fun s H A cl fp F => ckIt it1 (g.blk hk s H A cl fp) h6, fun s H A cl fp F => ckTg (g.blk hk s H A cl fp) tg1 _ h7, fun s H A cl fp F => ?_, fun s H A cl fp F => (ckE elt (g.blk hk s H A cl fp) h4).pe⟩ h1 h1') rfl
      split at h5
      · simp only [Bool.not_eq_true'] at h5
        subst h5
        exact pts_no
      · simp only [Bool.and_eq_true] at h5
        obtain ⟨rfl, h5⟩ := h5
        exact pts_of (ckE c (g.blk hk s H A cl fp) h5).pt
      · cases h5
    · cases h
theorem ckEs : ∀ (ir : Es) {W : WX} {X : Cx} {ck : Ck} {F : Hp} {l : List Expr}, Good C W X k Γ T ck → chkEs T ck ir l = true → PA X l (tAP C W F (evEs Γ C.FT ir))
  | .nil, W, X, ck, F, l, g, h => by
    simp only [chkEs, List.isEmpty_iff] at h
    subst h
    exact a_nil
  | .cons e es, W, X, ck, F, l, g, h => by
    simp only [chkEs] at h
    split at h
    · simp only [Bool.and_eq_true] at h
      exact a_cons (ckE e g h.2.1).pe (ckEs es g h.2.2) h.1
    · cases h
  | .star e es, W, X, ck, F, l, g, h => by
    simp only [chkEs] at h
    split at h
    · simp only [Bool.and_eq_true] at h
      exact a_star g.sp.hk (ckE e g h.1).pe (ckEs es g h.2)
    · cases h
theorem ckDs : ∀ (ir : Es) {W : WX} {X : Cx} {ck : Ck} {F : Hp} {l : List Expr}, Good C W X k Γ T ck → chkEs T ck ir l = true → PA X l (tAD C W F (evDs Γ C.FT ir))
  | .nil, W, X, ck, F, l, g, h => by
    simp only [chkEs, List.isEmpty_iff] at h
    subst h
    exact d_nil
  | .cons e es, W, X, ck, F, l, g, h => by
    simp only [chkEs] at h
    split at h
    · simp only [Bool.and_eq_true] at h
      exact d_cons (ckE e g h.2.1).pe (ckDs es g h.2.2) h.1
    · cases h
  | .star e es, W, X, ck, F, l, g, h => by
    simp only [chkEs] at h
    split at h
    · simp only [Bool.and_eq_true] at h
      exact ⟨fun pos pins s σ H Q I ⟨δ, s0, A, R, hq⟩ => hq.elim⟩
    · cases h
theorem ckKs : ∀ (ir : Es) {W : WX} {X : Cx} {ck : Ck} {F : Hp} {l : List Keyword}, Good C W X k Γ T ck → chkKs T ck ir l = true → PK X l (tAP C W F (evEs Γ C.FT ir))
  | .nil, W, X, ck, F, l, g, h => by
    simp only [chkKs, List.isEmpty_iff] at h
    subst h
    exact k_nil
  | .cons e es, W, X, ck, F, l, g, h => by
    simp only [chkKs] at h
    split at h
    · simp only [Bool.and_eq_true] at h
      exact k_cons (ckE e g h.1).pe (ckKs es g h.2)
    · cases h
  | .star e es, W, X, ck, F, l, g, h => by
    simp only [chkKs] at h
    cases h
theorem ckIt : ∀ (ir : It) {W : WX} {X : Cx} {ck : Ck} {F : Hp} {tg e : Expr}, Good C W X k Γ T ck → chkIt T ck ir tg e = true → PI X tg e (tI C W F (evIt Γ C.FT ir))
  | .seq a, W, X, ck, F, tg, e, g, h => by
    simp only [chkIt] at h
    exact i_seq g.sp.hk (ckE a g h).pe
  | .rng1 a, W, X, ck, F, tg, e, g, h => by
    simp only [chkIt] at h
    split at h
    · simp only [Bool.and_eq_true, beq_iff_eq] at h
      obtain ⟨rfl, h1, h2, h3⟩ := h
      exact i_rng1 (g.fr h1).1 (g.fr h1).2.2 h2 (ckE a g h3).pe
    · cases h
  | .rng2 a b, W, X, ck, F, tg, e, g, h => by
    simp only [chkIt] at h
    split at h
    · simp only [Bool.and_eq_true, beq_iff_eq] at h
      obtain ⟨rfl, h1, h2, h3, h4, h5⟩ := h
      exact i_rng2 (g.fr h1).1 (g.fr h1).2.2 h2 h3 (ckE a g h4).pe (ckE b g h5).pe
    · cases h
  | .zip a b, W, X, ck, F, tg, e, g, h => by
    simp only [chkIt] at h
    split at h
    · split at h
      · simp only [Bool.and_eq_true, beq_iff_eq] at h
        obtain ⟨rfl, h1, h2, h3, h4, h5⟩ := h
        exact i_zip g.sp.hk (g.fr h1).1 (g.fr h1).2.2 h2 h3 (ckE a g h4).pe (ckE b g h5).pe
      · cases h
    · cases h
  | .enum a, W, X, ck, F, tg, e, g, h => by
    simp only [chkIt] at h
    split at h
    · split at h
      · simp only [Bool.and_eq_true, beq_iff_eq] at h
        obtain ⟨rfl, h1, h2, h3⟩ := h
        exact i_enum g.sp.hk (g.fr h1).1 (g.fr h1).2.2 h2 (ckE a g h3).pe
      · cases h
    · cases h
end
end
end RP
end

section
set_option Elab.async false
set_option linter.all false
set_option maxRecDepth 100000
set_option maxHeartbeats 4000000
/-! The checker: statements. -/
namespace RP
open PySem L2
/-- swappedStores, told ahead -/
def isStar : Expr → Bool
  | .Starred .. => true
  | _ => false
def swN (sc : Scope) (line : Nat) : Expr → Option Str
  | .Name id pos => if sc.names.lookup id == some .local && pos.line == line then some id else none
  | _ => none
def swS (ts vs : List Expr) (sc : Scope) : Option (Option (List Str)) :=
  if (!(ts.length == 2 || ts.length == 3) || vs.length != ts.length) = true then some none
  else if vs.any isStar = true then some none
  else
    let names := ts.filterMap (swN sc ((ts.head?.map (·.pos.line)).getD 0))
    if (names.length != ts.length || names.eraseDups.length != names.length) = true then some none
    else if vs.all (foldedForSure 8) = true then some none
    else if vs.all (constantsAlone 8) = true then none else some (some names)
theorem sw_ok {ts vs : List Expr} {env : Env} {o : Option (List Str)} {k k2 : Nat} {p p2 : Pos} (hk : env.scope.kind = .function) (h : swS ts vs env.scope = some o) : swappedStores [.Tuple ts k p] (.Tuple vs k2 p2) env = pure o := by
  have hb : env.blockKind = .function := by
    unfold Env.blockKind
    rw [hk]
    rfl
  unfold swappedStores
  unfold swS at h
  simp only [hb]
  have e1 : (fun x : Expr => match x with | .Starred .. => true | _ => false) = isStar := by
    funext x
    cases x <;> rfl
  have e2 : (fun x : Expr => match x with
    | .Name id pos => if (env.kindOf id == some .local && pos.line == (ts.head?.map (·.pos.line)).getD 0) = true then some id else none
    | _ => none) = swN env.scope ((ts.head?.map (·.pos.line)).getD 0) := by
    funext x
    cases x <;> rfl
  have e3 : (ScopeKind.function != ScopeKind.function) = false := rfl
  simp only [e3, Bool.or_false]
  split at h
  · rename_i c1
    cases h
    exact if_pos c1
  · rename_i c1
    refine (if_neg c1).trans ?_
    split at h
    · rename_i c2
      cases h
      exact if_pos c2
    · rename_i c2
      refine (if_neg c2).trans ?_
      dsimp only at h
      split at h
      · rename_i c3
        cases h
        exact if_pos c3
      · rename_i c3
        refine (if_neg c3).trans ?_
        split at h
        · rename_i c4
          cases h
          exact if_pos c4
        · rename_i c4
          refine (if_neg c4).trans ?_
          split at h
          · cases h
          · rename_i c5
            cases h
            exact if_neg c5
/-- the value of a comprehension stored: is the list itself the name's -/
def swB (sc : Scope) (x : Str) (p epos : Pos) (scope : Scope) : Bool := sc.names.lookup x == some .local && p.line == epos.line && !(scope.names.any fun (n, k) => n == x && (k == .local || k == .cell))
theorem swB_no {env : Env} {elt : Expr} {gs : List Comprehension} {scope : Scope} {epos p : Pos} {x : Str} {l : Nat} (h : swB env.scope x p epos scope = false) : swapsWith (.ListComp elt gs scope epos) (some (.Name x p)) l env = pure false := by
  unfold swapsWith
  unfold swB at h
  have e : env.kindOf x = env.scope.names.lookup x := rfl
  simp only [e]
  show pure (env.blockKind == .function && env.scope.names.lookup x == some .local && p.line == epos.line && !(scope.names.any fun (n, k) => n == x && (k == .local || k == .cell))) = pure false
  rw [Bool.and_assoc, Bool.and_assoc, ← Bool.and_assoc (env.scope.names.lookup x == some .local), h, Bool.and_false]
section
variable (T : Gs) (ck : Ck)
mutual
def chkHX (i : Option Nat) (cs : List Nat) : HX → Expr → Bool
  | .non, e => match e with
    | .Constant .none _ _ => true
    | _ => false
  | .bl b, e => match e with
    | .Constant (.bool c) _ _ => b == c
    | _ => false
  | .int n, e => match e with
    | .Constant (.int m) _ _ => decide (n = m)
    | _ => false
  | .str z, e => match e with
    | .Constant (.str t) _ _ => z == t
    | _ => false
  | .var j, e => match e with
    | .Name x _ => ck.N[j]? == some x && visB ck.sc x
    | _ => false
  | .given, e => match e with
    | .Attribute (.Name n _) fn _ => (match i with
      | some j => ck.N[j]? == some n && (visB ck.sc n && cs.all fun c => T.xr.contains c && (match T.ft c with
        | [f] => T.nm[f]? == some fn
        | _ => false))
      | none => false)
    | _ => false
  | .no j, e => match e with
    | .UnaryOp .Not (.Name x _) _ => ck.N[j]? == some x && visB ck.sc x
    | _ => false
  | .rq a b, e => match e with
    | .Compare (.Call (.Name x _) [e1] [] _) [.Eq] [.Call (.Name y _) [e2] [] _] _ => x == ("repr" : Str) && (y == ("repr" : Str) && (freeB T ck "repr" && (notStar e1 && (notStar e2 && (chkHX i cs a e1 && chkHX i cs b e2)))))
    | _ => false
  | .tup xs, e => match e with
    | .Tuple es _ _ => chkHXs i cs xs es
    | _ => false
  | .lst xs, e => match e with
    | .List es _ => chkHXs i cs xs es
    | _ => false
def chkHXs (i : Option Nat) (cs : List Nat) : List HX → List Expr → Bool
  | [], l => l.isEmpty
  | x :: xs, l => match l with
    | e :: es => notStar e && (chkHX i cs x e && chkHXs i cs xs es)
    | [] => false
end
def chkSu (i : Option Nat) (cs : List Nat) : HS → List Stmt → Bool
  | .ret hx, l => match l with
    | [.Return (some e) _] => chkHX T ck i cs hx e
    | _ => false
  | .inc j n, l => match l with
    | [.Assign [.Name x _] (.BinOp (.Name y _) .Add (.Constant (.int m) _ _) _) _] => x == y && (decide (n = m) && (ck.N[j]? == some x && (locB ck x && visB ck.sc x)))
    | _ => false
  | .app j hx, l => match l with
    | [.Expr (.Call (.Attribute (.Name x _) y ap) [e] [] cp) _] => y == ("append" : Str) && (ck.N[j]? == some x && (visB ck.sc x && (notStar e && (ap.endLine == cp.line && chkHX T ck i cs hx e))))
    | _ => false
  | .set j hx, l => match l with
    | [.Assign [.Name x _] e _] => ck.N[j]? == some x && (locB ck x && (notComp e && chkHX T ck i cs hx e))
    | _ => false
/-- the clauses of a try -/
def chkHs : Hs → List ExceptHandler → Bool
  | .nil, l => l.isEmpty
  | .cons cs ns i b r, l => match l with
    | .ExceptHandler (some (.Name x _)) n ss _ :: hr => glB ck.sc x && ((match T.xc.lookup x with
      | some c => cs.all (fun d => T.exm d c == some true) && ns.all (fun d => T.exm d c == some false)
      | none => false) && ((match i, n with
      | none, none => true
      | some j, some y => ck.N[j]? == some y && ck.sc.names.lookup y == some .local
      | _, _ => false) && (chkSu T ck i cs b ss && chkHs r hr)))
    | _ => false
def chkDTg (ck : Ck) : List Nat → Expr → Bool
  | [i], e => match e with
    | .Name x _ => ck.N[i]? == some x && locB ck x
    | _ => false
  | [i, j], e => match e with
    | .Tuple [.Name x _, .Name y _] _ _ => (ck.N[i]? == some x && locB ck x) && (ck.N[j]? == some y && locB ck y)
    | _ => false
  | _, _ => false
def chkDk (k : DK) (a : E) (iter : Expr) : Bool := match k with
  | .vals => match iter with
    | .Call (.Attribute o x ap) [] [] pos => x == ("values" : Str) && (plainBase o && (ap.endLine == pos.line && chkE T ck a o))
    | _ => false
  | .itms => match iter with
    | .Call (.Attribute o x ap) [] [] pos => x == ("items" : Str) && (plainBase o && (ap.endLine == pos.line && chkE T ck a o))
    | _ => false
  | .keys => chkE T ck a iter
  | .list => chkE T ck a iter
mutual
def chkS : S → Stmt → Bool
  | .asg t e, s => match s with
    | .Assign [.Name x p] e' pos => (match t with
      | .name i => ck.N[i]? == some x && (locB ck x && (chkE T ck e e' && (notComp e' || (match e' with
        | .ListComp _ _ scope epos => !(swB ck.sc x p epos scope) || (match e with
          | .comp .. => true
          | .compb .. => true
          | .comp2 .. => true
          | _ => false)
        | _ => false))))
      | .tup _ => false)
    | .Assign [.Tuple es j p] e' pos => (match t with
      | .name _ => false
      | .tup ts => chkTg ck (.tup ts) (.Tuple es j p) && (chkE T ck e e' && (match e' with
        | .Tuple vs _ _ => swS es vs ck.sc == some none
        | _ => notTup e')))
    | _ => false
  | .par i j a b, s => match s with
    | .Assign [.Tuple [.Name x px, .Name y py] _ _] (.Tuple [a', b'] _ _) _ => ck.N[i]? == some x && (ck.N[j]? == some y && (decide (i ≠ j) && (ck.sc.names.lookup x == some .local && (ck.sc.names.lookup y == some .local && (notStar a' && (notStar b' && (swS [.Name x px, .Name y py] [a', b'] ck.sc == some (some [x, y]) && (chkE T ck a a' && chkE T ck b b'))))))))
    | _ => false
  | .par3 i j l a b c, s => match s with
    | .Assign [.Tuple [.Name x px, .Name y py, .Name z pz] _ _] (.Tuple [a', b', c'] _ _) _ => ck.N[i]? == some x && (ck.N[j]? == some y && (ck.N[l]? == some z && (decide (i ≠ j) && (decide (i ≠ l) && (decide (j ≠ l) && (ck.sc.names.lookup x == some .local && (ck.sc.names.lookup y == some .local && (ck.sc.names.lookup z == some .local && (notStar a' && (notStar b' && (notStar c' && (swS [.Name x px, .Name y py, .Name z pz] [a', b', c'] ck.sc == some (some [x, y, z]) && (chkE T ck a a' && (chkE T ck b b' && chkE T ck c c'))))))))))))))
    | _ => false
  | .setf o f e, s => match s with
    | .Assign [.Attribute o' x _] e' _ => T.nm[f]? == some x && (notComp e' && (chkE T ck o o' && chkE T ck e e'))
    | _ => false
  | .seti o i e, s => match s with
    | .Assign [.Subscript o' i' _] e' _ => notSlice i' && (notComp e' && (chkE T ck o o' && (chkE T ck i i' && chkE T ck e e')))
    | _ => false
  | .dput o i e, s => match s with
    | .Assign [.Subscript o' i' _] e' _ => notComp e' && (chkE T ck o o' && (chkE T ck i i' && chkE T ck e e'))
    | _ => false
  | .incf o f neg n, s => match s with
    | .AugAssign (.Attribute o' x _) op (.Constant (.int m) _ _) _ => T.nm[f]? == some x && (decide (op = if neg then .Sub else .Add) && (decide (n = m) && chkE T ck o o'))
    | _ => false
  | .seti2 o1 i1 o2 i2 e, s => match s with
    | .Assign [.Tuple [.Subscript o1' i1' p1, .Subscript o2' i2' p2] _ _] e' _ => notSlice i1' && (notSlice i2' && (chkE T ck o1 o1' && (chkE T ck i1 i1' && (chkE T ck o2 o2' && (chkE T ck i2 i2' && (chkE T ck e e' && (match e' with
      | .Tuple vs _ _ => swS [.Subscript o1' i1' p1, .Subscript o2' i2' p2] vs ck.sc == some none
      | _ => notTup e')))))))
    | _ => false
  | .forD js k a b, s => match s with
    | .For t' it' b' [] _ => chkDTg ck js t' && ((decide (k ≠ .itms) || js.length == 2) && (notSet it' && (chkDk T ck k a it' && chkSs b b')))
    | _ => false
  | .asgD x _ elt j k a hc c, s => match s with
    | .Assign [.Name y p] (.ListComp elt' [⟨tg', iter', ifs', 0⟩] scope epos) _ => ck.N[x]? == some y && (swB ck.sc y p epos scope && (decide (k ≠ .itms) && (chkDk T ck k a iter' && (notSet iter' && (blkB ck scope [j] && (chkDTg (ck.blk scope) [j] tg' && (chkE T (ck.blk scope) elt elt' && (match ifs' with
      | [] => !hc
      | [t] => hc && chkE T (ck.blk scope) c t
      | _ => false))))))))
    | _ => false
  | .ext i e, s => match s with
    | .AugAssign (.Name x _) .Add e' _ => ck.N[i]? == some x && (locB ck x && chkE T ck e e')
    | _ => false
  | .expr e, s => match s with
    | .Expr e' _ => notComp e' && chkE T ck e e'
    | _ => false
  | .ret e, s => match s with
    | .Return (some e') _ => chkE T ck e e'
    | _ => false
  | .retn, s => match s with
    | .Return none _ => true
    | _ => false
  | .ifs c a b, s => match s with
    | .If c' a' b' _ => chkE T ck c c' && (chkSs a a' && chkSs b b')
    | _ => false
  | .whl c b, s => match s with
    | .While c' b' [] _ => chkE T ck c c' && chkSs b b'
    | _ => false
  | .for_ t it b, s => match s with
    | .For t' it' b' [] _ => chkTg ck t t' && (notSet it' && (chkIt T ck it t' it' && chkSs b b'))
    | _ => false
  | .brk, s => match s with
    | .Break _ => true
    | _ => false
  | .cnt, s => match s with
    | .Continue _ => true
    | _ => false
  | .pass, s => match s with
    | .Pass _ => true
    | _ => false
  | .rais0 c, s => match s with
    | .Raise (some (.Call (.Name x _) [] [] _)) none _ => glB ck.sc x && (T.xc.lookup x == some c && (T.ft c).isEmpty)
    | _ => false
  | .rais1 c e, s => match s with
    | .Raise (some (.Call (.Name x _) [e'] [] _)) none _ => glB ck.sc x && (T.xc.lookup x == some c && ((T.ft c).length == 1 && (notStar e' && chkE T ck e e')))
    | _ => false
  | .tr b hs, s => match s with
    | .Try b' (h :: hr) [] [] _ => chkSs b b' && chkHs T ck hs (h :: hr)
    | _ => false
def chkSs : Ss → List Stmt → Bool
  | .nil, l => l.isEmpty
  | .cons s r, l => match l with
    | x :: xs => chkS s x && chkSs r xs
    | [] => false
end
end
end RP
end

section
set_option Elab.async false
set_option linter.all false
set_option maxRecDepth 100000
set_option maxHeartbeats 4000000
/-! The checker is sound: statements. -/
namespace RP
open PySem L2
structure GoodS (C : CC) (W : WX) (X : Cx) (k : Nat) (Γ : Tab) (T : Gs) (ck : Ck) : Prop where
  g : Good C W X k Γ T ck
  own : PassesOwn (model X.prog X.w) X.A X.env X.xe
  stk : X.stack = X.env :: X.outer
  frm : X.env.frame = some X.env.locals
section
variable {C : CC} {W : WX} {X : Cx} {k : Nat} {Γ : Tab} {T : Gs} {ck : Ck} {F : Hp} {e a b c : Expr} {fa fb fc : DEnv → Sto → RE D} {pos : Pos}
theorem s_par {i j : Nat} {x y : Str} {px py pt pt2 : Pos} {kt k2 : Nat} (hc : X.calm = true) (hN : X.N.Nodup) (hi : X.N[i]? = some x) (hj : X.N[j]? = some y) (hij : i ≠ j) (hx : X.env.scope.names.lookup x = some .local) (hy : X.env.scope.names.lookup y = some .local)
    (ha : PE X a (tE C W F fa)) (hb : PE X b (tE C W F fb)) (na : notStar a = true) (nb : notStar b = true) (hw : swappedStores [.Tuple [.Name x px, .Name y py] kt pt] (.Tuple [a, b] k2 pt2) X.env = pure (some [x, y])) :
    PS X (.Assign [.Tuple [.Name x px, .Name y py] kt pt] (.Tuple [a, b] k2 pt2) pos) (tS C W F fun δ S => (fa δ S).st δ fun d1 S1 => (fb δ S1).st δ fun d2 S2 => .next (setSlot (setSlot δ i d1) j d2) S2) :=
  PS.imp (ps_par hc hN hi hj hij hx hy (pa_cons ha (pa_cons hb pa_nil (star_cons nb)) (star_cons na)) hw) fun D σ H ⟨δ, s, A, R, h⟩ => by
    refine ⟨δ, s, A, R, Wt.imp (WantS.st R h) fun d1 s1 H1 _ e1 A1 h1 v r1 => ?_⟩
    refine ⟨δ, s1, A1, R.mono e1, Wt.imp (WantS.st (R.mono e1) h1) fun d2 s2 H2 _ e2 A2 h2 u r2 => ?_⟩
    exact ⟨v, u, rfl, h2.next A2 ((((R.mono e1).mono e2).set (RepD.mono e2 d1 v r1)).set r2)⟩
theorem s_par3 {i j l : Nat} {x y z : Str} {px py pz pt pt2 : Pos} {kt k2 : Nat} (hc : X.calm = true) (hN : X.N.Nodup) (hi : X.N[i]? = some x) (hj : X.N[j]? = some y) (hl : X.N[l]? = some z) (hij : i ≠ j) (hil : i ≠ l) (hjl : j ≠ l) (hx : X.env.scope.names.lookup x = some .local) (hy : X.env.scope.names.lookup y = some .local) (hz : X.env.scope.names.lookup z = some .local)
    (ha : PE X a (tE C W F fa)) (hb : PE X b (tE C W F fb)) (hcc : PE X c (tE C W F fc)) (na : notStar a = true) (nb : notStar b = true) (nc : notStar c = true) (hw : swappedStores [.Tuple [.Name x px, .Name y py, .Name z pz] kt pt] (.Tuple [a, b, c] k2 pt2) X.env = pure (some [x, y, z])) :
    PS X (.Assign [.Tuple [.Name x px, .Name y py, .Name z pz] kt pt] (.Tuple [a, b, c] k2 pt2) pos) (tS C W F fun δ S => (fa δ S).st δ fun d1 S1 => (fb δ S1).st δ fun d2 S2 => (fc δ S2).st δ fun d3 S3 => .next (setSlot (setSlot (setSlot δ i d1) j d2) l d3) S3) :=
  PS.imp (ps_par3 hc hN hi hj hl hij hil hjl hx hy hz (pa_cons ha (pa_cons hb (pa_cons hcc pa_nil (star_cons nc)) (star_cons nb)) (star_cons na)) hw) fun D σ H ⟨δ, s, A, R, h⟩ => by
    refine ⟨δ, s, A, R, Wt.imp (WantS.st R h) fun d1 s1 H1 _ e1 A1 h1 v r1 => ?_⟩
    refine ⟨δ, s1, A1, R.mono e1, Wt.imp (WantS.st (R.mono e1) h1) fun d2 s2 H2 _ e2 A2 h2 u r2 => ?_⟩
    refine ⟨δ, s2, A2, (R.mono e1).mono e2, Wt.imp (WantS.st ((R.mono e1).mono e2) h2) fun d3 s3 H3 _ e3 A3 h3 w r3 => ?_⟩
    exact ⟨v, u, w, rfl, h3.next A3 ((((((R.mono e1).mono e2).mono e3).set (RepD.mono (e2.trans e3) d1 v r1)).set (RepD.mono e3 d2 u r2)).set r3)⟩
/-! ### except suites -/
section
variable {cs : List Nat} {i : Option Nat} {ad : Addr} {kc : Value} {dd : Option Addr} {ob : Obj} {pl : List (Addr × Obj)}
mutual
theorem ckHX (g : Good C W X k Γ T ck) (hz : Zc kc dd ob) (hd : ∃ vs, ob.data = .fields vs) : ∀ (hx : HX) {e : Expr}, chkHX T ck i cs hx e = true → PE (X.suite ad ((ad, ob) :: pl)) e (hR C cs i ad kc dd hx)
  | .non, e, h => by
    simp only [chkHX] at h
    split at h
    · exact h_non
    · cases h
  | .bl b, e, h => by
    simp only [chkHX] at h
    split at h
    · simp only [beq_iff_eq] at h
      subst h
      exact h_bl
    · cases h
  | .int n, e, h => by
    simp only [chkHX] at h
    split at h
    · simp only [decide_eq_true_eq] at h
      subst h
      exact h_int
    · cases h
  | .str n, e, h => by
    simp only [chkHX] at h
    split at h
    · simp only [beq_iff_eq] at h
      subst h
      exact h_str
    · cases h
  | .var j, e, h => by
    simp only [chkHX] at h
    split at h
    · simp only [Bool.and_eq_true] at h
      exact h_var (X := X.suite ad ((ad, ob) :: pl)) (g.ix h.1) (g.vis h.2).1 (g.vis h.2).2.1 (g.vis h.2).2.2
    · cases h
  | .no j, e, h => by
    simp only [chkHX] at h
    split at h
    · simp only [Bool.and_eq_true] at h
      exact h_no (X := X.suite ad ((ad, ob) :: pl)) (g.ix h.1) (g.vis h.2).1 (g.vis h.2).2.1 (g.vis h.2).2.2
    · cases h
  | .rq a b, e, h => by
    simp only [chkHX] at h
    split at h
    · simp only [Bool.and_eq_true, beq_iff_eq] at h
      obtain ⟨rfl, rfl, h1, h2, h3, h4, h5⟩ := h
      exact h_rq (X := X.suite ad ((ad, ob) :: pl)) g.sp.hk g.hr.gd g.hr.units (g.fr h1).1 (g.fr h1).2.2 (ckHX g hz hd a h4) (ckHX g hz hd b h5) h2 h3
    · cases h
  | .given, e, h => by
    simp only [chkHX] at h
    split at h
    · rename_i n p fn q
      cases i with
      | none => cases h
      | some j =>
        simp only [Bool.and_eq_true, List.all_eq_true] at h
        obtain ⟨h0, h1, h2⟩ := h
        have hf : ∀ c ∈ cs, ∃ f, T.ft c = [f] ∧ T.nm[f]? = some fn ∧ XRd X.K (C.CA c) (C.NM f) := fun c hc => by
          obtain ⟨h3, h4⟩ := h2 c hc
          split at h4
          · rename_i f hf
            exact ⟨f, hf, by simpa using h4, g.tb.xr c f (by simpa using h3) hf⟩
          · cases h4
        cases cs with
        | nil => exact ⟨fun pins s σ H Q I ⟨F, δ, t, gg, A, R, hs, hq⟩ => by
            obtain ⟨⟨c, hc, _⟩, _⟩ := hs
            cases hc⟩
        | cons c0 cs' =>
          obtain ⟨f0, e0, n0, _⟩ := hf c0 List.mem_cons_self
          have nf := g.tb.nm f0 fn n0
          refine h_given (f := f0) nf (fun c hc => ?_) hz hd (g.ix h0) (g.vis h1).1 (g.vis h1).2.1 (g.vis h1).2.2
          obtain ⟨f, e1, n1, r1⟩ := hf c hc
          have e3 : f = f0 := by
            have z := g.tb.nm f fn n1
            have in0 : f0 ∈ C.FT c0 := by rw [g.tb.ft, e0]; exact List.mem_singleton.mpr rfl
            exact g.tb.xinj c0 f0 f in0 (by rw [z, nf])
          subst e3
          refine ⟨by rw [g.tb.ft, e1], ?_⟩
          rw [← nf]
          exact r1
    · cases h
  | .tup xs, e, h => by
    simp only [chkHX] at h
    split at h
    · exact h_tup (ckHXs g hz hd xs h)
    · cases h
  | .lst xs, e, h => by
    simp only [chkHX] at h
    split at h
    · exact h_lst (ckHXs g hz hd xs h)
    · cases h
theorem ckHXs (g : Good C W X k Γ T ck) (hz : Zc kc dd ob) (hd : ∃ vs, ob.data = .fields vs) : ∀ (hx : List HX) {l : List Expr}, chkHXs T ck i cs hx l = true → PA (X.suite ad ((ad, ob) :: pl)) l (hRs C cs i ad kc dd hx)
  | [], l, h => by
    simp only [chkHXs, List.isEmpty_iff] at h
    subst h
    exact h_nil
  | x :: xs, l, h => by
    simp only [chkHXs] at h
    split at h
    · simp only [Bool.and_eq_true] at h
      exact h_cons (ckHX g hz hd x h.2.1) (ckHXs g hz hd xs h.2.2) h.1
    · cases h
end
end
theorem ckSu (g : Good C W X k Γ T ck) {i : Option Nat} {cs : List Nat} {b : HS} {l : List Stmt} (h : chkSu T ck i cs b l = true) : SuOk X l (hS C cs i b) := by
  intro ad ob kc dd pl hz hd
  cases b with
  | ret hx =>
    simp only [chkSu] at h
    split at h
    · exact su_ret (ckHX g hz hd hx h)
    · cases h
  | inc j n =>
    simp only [chkSu] at h
    split at h
    · simp only [Bool.and_eq_true, beq_iff_eq, decide_eq_true_eq] at h
      obtain ⟨rfl, rfl, h1, h2, h3⟩ := h
      exact su_inc (X := X.suite ad ((ad, ob) :: pl)) (by rw [show (X.suite ad ((ad, ob) :: pl)).N = X.N from rfl, g.N]; exact g.nd) (g.ix (by simpa using h1)) (g.loc h2).1 (g.loc h2).2 (g.vis h3).2.1 (g.vis h3).2.2
    · cases h
  | app j hx =>
    simp only [chkSu] at h
    split at h
    · simp only [Bool.and_eq_true, beq_iff_eq] at h
      obtain ⟨rfl, h1, h2, h3, h4, h5⟩ := h
      exact su_app (X := X.suite ad ((ad, ob) :: pl)) (g.ix (by simpa using h1)) (g.vis h2).1 (g.vis h2).2.1 (g.vis h2).2.2 h3 (by simpa using h4) (ckHX g hz hd hx h5)
    · cases h
  | set j hx =>
    simp only [chkSu] at h
    split at h
    · simp only [Bool.and_eq_true] at h
      obtain ⟨h1, h2, h3, h4⟩ := h
      exact su_set (X := X.suite ad ((ad, ob) :: pl)) (by rw [show (X.suite ad ((ad, ob) :: pl)).N = X.N from rfl, g.N]; exact g.nd) (g.ix h1) (g.loc h2).1 (g.loc h2).2 (ckHX g hz hd hx h4) h3
    · cases h
theorem ss_ne {l : List Stmt} {b : HS} {i : Option Nat} {cs : List Nat} (h : chkSu T ck i cs b l = true) : ∃ s ss, l = s :: ss := by
  cases l with
  | nil =>
    cases b <;> simp only [chkSu] at h <;> cases h
  | cons s ss => exact ⟨s, ss, rfl⟩
theorem ckHs (g : Good C W X k Γ T ck) : ∀ (hs : Hs) {l : List ExceptHandler}, chkHs T ck hs l = true → ∃ cl, ClaOk X l cl ∧ hsOk C X.K hs cl
  | .nil, l, h => by
    simp only [chkHs, List.isEmpty_iff] at h
    subst h
    exact ⟨[], .nil, by simp only [hsOk]⟩
  | .cons cs ns i b r, l, h => by
    simp only [chkHs] at h
    split at h
    · rename_i x p n ss q hr
      simp only [Bool.and_eq_true] at h
      obtain ⟨h0, h1, h2, h3, h4⟩ := h
      obtain ⟨cl, c1, c2⟩ := ckHs g r h4
      obtain ⟨st, ss', rfl⟩ := ss_ne h3
      cases hx : T.xc.lookup x with
      | none =>
        rw [hx] at h1
        cases h1
      | some c =>
        rw [hx] at h1
        simp only [Bool.and_eq_true, List.all_eq_true, beq_iff_eq] at h1
        have nm : Names X x (.ref (C.CA c)) := ⟨(g.gl h0).1, (g.gl h0).2, .inl (g.tb.xc x c hx)⟩
        refine ⟨⟨.ref (C.CA c), i, hS C cs i b⟩ :: cl, ?_, ?_⟩
        · cases i with
          | none =>
            cases n with
            | none => exact .plain nm (ckSu g h3) c1
            | some y => cases h2
          | some j =>
            cases n with
            | none => cases h2
            | some y =>
              simp only [Bool.and_eq_true, beq_iff_eq] at h2
              refine .named nm (g.ix (by simpa using h2.1)) ?_ (ckSu g h3) c1
              show X.env.scope.names.lookup y = _
              rw [g.sc]
              exact h2.2
        · simp only [hsOk]
          exact ⟨_, _, rfl, fun d hd => g.tb.exm d c true (h1.1 d hd), fun d hd => g.tb.exm d c false (h1.2 d hd), c2⟩
    · cases h
/-! ### statements -/
theorem GoodS.nd (g : GoodS C W X k Γ T ck) : X.N.Nodup := by rw [g.g.N]; exact g.g.nd
theorem GoodS.kind (g : GoodS C W X k Γ T ck) : X.env.scope.kind = .function := by rw [g.g.sc]; exact g.g.fk
theorem GoodS.tr (g : GoodS C W X k Γ T ck) {Wi : WX} {pl : List (Addr × Obj)} {xf : Value → Shared → Prop} (tk : Takes (X.tr pl xf) Wi) (hp : PassesOwn (model X.prog X.w) X.A X.env xf) : GoodS C Wi (X.tr pl xf) k Γ T ck := by
  obtain ⟨⟨sp, hr, hN, nd, hsc, fk, fn, calm, tb, top⟩, own, stk, frm⟩ := g
  exact ⟨⟨⟨sp.nd, sp.cf, sp.nm, sp.fl, sp.hk, tk, sp.hr, sp.py⟩, hr, hN, nd, hsc, fk, fn, calm, tb, top⟩, hp, stk, frm⟩
theorem ck_setc (g : GoodS C W X k Γ T ck) {lv hc : Bool} {elt cc : E} {tg : Tg} {it : It} {i : Nat} {x : Str} {p epos : Pos} {elt' : Expr} {gs : List Comprehension} {scope : Scope} (hi : X.N[i]? = some x) (h : chkE T ck (.comp lv elt tg it hc cc) (.ListComp elt' gs scope epos) = true) (hs : swB ck.sc x p epos scope = true) :
    PS X (.Assign [.Name x p] (.ListComp elt' gs scope epos) pos) (tS C W F fun δ S => (evE Γ C.FT (.comp lv elt tg it hc cc) δ S).st δ fun d S1 => .next (setSlot δ i d) S1) := by
  unfold swB at hs
  simp only [Bool.and_eq_true, beq_iff_eq, Bool.not_eq_true'] at hs
  simp only [chkE] at h
  split at h
  · rename_i heq
    cases heq
    simp only [Bool.and_eq_true] at h
    obtain ⟨h0, h1, h2, h3, h4, h5⟩ := h
    obtain ⟨bo, hk⟩ := blk_ok g.g h2
    refine s_setc lv g.g.calm g.nd hi (by rw [g.g.sc]; exact hs.1.1) g.kind (by simpa using hs.1.2) hs.2 (ckIt it g.g h0) bo (by rw [List.map_map]; simp [Function.comp_def]) ⟨fun s H A cl fp F => ckTg (g.g.blk hk s H A cl fp) tg _ h3, fun s H A cl fp F => ?_, fun s H A cl fp F => (ckE elt (g.g.blk hk s H A cl fp) h4).pe⟩ h1
    split at h5
    · simp only [Bool.not_eq_true'] at h5
      subst h5
      exact pts_no
    · simp only [Bool.and_eq_true] at h5
      obtain ⟨rfl, h5⟩ := h5
      exact pts_of (ckE cc (g.g.blk hk s H A cl fp) h5).pt
    · cases h5
  · cases h
theorem ck_setcb (g : GoodS C W X k Γ T ck) {lv hc : Bool} {elt cc : E} {tg : Tg} {j : Nat} {i : Nat} {x : Str} {p epos : Pos} {elt' : Expr} {gs : List Comprehension} {scope : Scope} (hi : X.N[i]? = some x) (h : chkE T ck (.compb lv elt tg j hc cc) (.ListComp elt' gs scope epos) = true) (hs : swB ck.sc x p epos scope = true) :
    PS X (.Assign [.Name x p] (.ListComp elt' gs scope epos) pos) (tS C W F fun δ S => (evE Γ C.FT (.compb lv elt tg j hc cc) δ S).st δ fun d S1 => .next (setSlot δ i d) S1) := by
  unfold swB at hs
  simp only [Bool.and_eq_true, beq_iff_eq, Bool.not_eq_true'] at hs
  simp only [chkE] at h
  split at h
  · rename_i heq
    cases heq
    simp only [Bool.and_eq_true] at h
    obtain ⟨h0, h2, h3, h4, h5⟩ := h
    obtain ⟨bo, hk⟩ := blk_ok g.g h2
    refine s_setcb lv g.g.calm g.nd hi (by rw [g.g.sc]; exact hs.1.1) g.kind (by simpa using hs.1.2) hs.2 (x_var (Γ := Γ) (g.g.ix h0.1) (g.g.vis h0.2).1 (g.g.vis h0.2).2.1 (g.g.vis h0.2).2.2 C.FT) bo (by rw [List.map_map]; simp [Function.comp_def]) ⟨fun s H A cl fp F => ckTg (g.g.blk hk s H A cl fp) tg _ h3, fun s H A cl fp F => ?_, fun s H A cl fp F => (ckE elt (g.g.blk hk s H A cl fp) h4).pe⟩
    split at h5
    · simp only [Bool.not_eq_true'] at h5
      subst h5
      exact pts_no
    · simp only [Bool.and_eq_true] at h5
      obtain ⟨rfl, h5⟩ := h5
      exact pts_of (ckE cc (g.g.blk hk s H A cl fp) h5).pt
    · cases h5
  · cases h
theorem ck_setc2 (g : GoodS C W X k Γ T ck) {hc : Bool} {elt cc : E} {tg tg1 : Tg} {it it1 : It} {i : Nat} {x : Str} {p epos : Pos} {elt' : Expr} {gs : List Comprehension} {scope : Scope} (hi : X.N[i]? = some x) (h : chkE T ck (.comp2 elt tg it tg1 it1 hc cc) (.ListComp elt' gs scope epos) = true) (hs : swB ck.sc x p epos scope = true) :
    PS X (.Assign [.Name x p] (.ListComp elt' gs scope epos) pos) (tS C W F fun δ S => (evE Γ C.FT (.comp2 elt tg it tg1 it1 hc cc) δ S).st δ fun d S1 => .next (setSlot δ i d) S1) := by
  unfold swB at hs
  simp only [Bool.and_eq_true, beq_iff_eq, Bool.not_eq_true'] at hs
  simp only [chkE] at h
  split at h
  · rename_i heq
    cases heq
    simp only [Bool.and_eq_true] at h
    obtain ⟨h0, h1, h1', h2, h3, h6, h7, h4, h5⟩ := h
    obtain ⟨bo, hk⟩ := blk_ok g.g h2
    refine s_setc2 (fun X F => pts_no (f := fun _ _ => .stuck)) g.g.calm g.nd hi (by rw [g.g.sc]; exact hs.1.1) g.kind (by simpa using hs.1.2) hs.2 (ckIt it g.g h0) bo (by rw [List.map_map]; simp [Function.comp_def]) ⟨fun s H A cl fp F => ckTg (g.g.blk hk s H A cl fp) tg _ h3, fun s H A cl fp F => ckIt it1 (g.g.blk hk s H A cl fp) h6, fun s H A cl fp F => ckTg (g.g.blk hk s H A cl fp) tg1 _ h7, fun s H A cl fp F => ?_, fun s H A cl fp F => (ckE elt (g.g.blk hk s H A cl fp) h4).pe⟩ h1 h1'
    split at h5
    · simp only [Bool.not_eq_true'] at h5
      subst h5
      exact pts_no
    · simp only [Bool.and_eq_true] at h5
      obtain ⟨rfl, h5⟩ := h5
      exact pts_of (ckE cc (g.g.blk hk s H A cl fp) h5).pt
    · cases h5
  · cases h
theorem ckDTg {W : WX} {X : Cx} {ck : Ck} (g : Good C W X k Γ T ck) : ∀ (js : List Nat) (e : Expr), chkDTg ck js e = true → PG X e (gD X.K js)
  | [], e, h => by cases h
  | [i], e, h => by
    simp only [chkDTg] at h
    split at h
    · simp only [Bool.and_eq_true] at h
      exact pg_name (by rw [g.N]; exact g.nd) (g.ix h.1) (g.loc h.2).1 (g.loc h.2).2
    · cases h
  | [i, j], e, h => by
    simp only [chkDTg] at h
    split at h
    · simp only [Bool.and_eq_true] at h
      have hN : X.N.Nodup := by rw [g.N]; exact g.nd
      exact pg_tup (n := 2) g.calm (pgs_cons (pg_name hN (g.ix h.1.1) (g.loc h.1.2).1 (g.loc h.1.2).2) (pgs_cons (pg_name hN (g.ix h.2.1) (g.loc h.2.2).1 (g.loc h.2.2).2) pgs_nil))
    · cases h
  | _ :: _ :: _ :: _, e, h => by cases h
theorem ckDTg_two {ck : Ck} {js : List Nat} {e : Expr} (h : chkDTg ck js e = true) (hl : js.length = 2) : ∃ elts kk p, e = .Tuple elts kk p := by
  match js, h, hl with
  | [i, j], h, _ =>
    simp only [chkDTg] at h
    split at h
    · exact ⟨_, _, _, rfl⟩
    · cases h
theorem ckDk {W : WX} {X : Cx} {ck : Ck} (g : Good C W X k Γ T ck) {q : DK} {a : E} {iter tg : Expr} (h : chkDk T ck q a iter = true) (ht : q = .itms → ∃ elts kk p, tg = .Tuple elts kk p) : PI X tg iter (iD X.K q (fun σ H Q => ∃ F, tE C W F (evE Γ C.FT a) σ H Q)) := by
  cases q with
  | vals =>
    simp only [chkDk] at h
    split at h
    · simp only [Bool.and_eq_true, beq_iff_eq] at h
      obtain ⟨rfl, h1, h2, h3⟩ := h
      exact pi_values (exW_pe fun F => (ckE a g h3).pe) (base_plain h1) (by simpa using h2)
    · cases h
  | itms =>
    simp only [chkDk] at h
    obtain ⟨elts, kk, p, rfl⟩ := ht rfl
    split at h
    · simp only [Bool.and_eq_true, beq_iff_eq] at h
      obtain ⟨rfl, h1, h2, h3⟩ := h
      exact pi_items (exW_pe fun F => (ckE a g h3).pe) (base_plain h1) (by simpa using h2)
    · cases h
  | keys => exact pi_keys (exW_pe fun F => (ckE a g h).pe)
  | list => exact pi_seqL (exW_pe fun F => (ckE a g h).pe)
mutual
theorem ckS : ∀ (ir : S) {W : WX} {X : Cx} {F : Hp} {s : Stmt}, GoodS C W X k Γ T ck → chkS T ck ir s = true → PS X s (tS C W F (exS Γ C.FT ir))
  | .asg t e, W, X, F, s, g, h => by
    simp only [chkS] at h
    split at h
    · rename_i x p e' pos
      cases t with
      | tup ts => cases h
      | name i =>
        simp only [Bool.and_eq_true, Bool.or_eq_true] at h
        obtain ⟨h0, h1, h2, h3⟩ := h
        by_cases hn : notComp e' = true
        · exact s_set g.nd (g.g.ix h0) (g.g.loc h1).1 (g.g.loc h1).2 (ckE e g.g h2).pe (swaps_plain hn)
        · rcases h3 with h3 | h3
          · exact absurd h3 hn
          · split at h3
            · rename_i elt' gs scope epos
              by_cases hw : swB ck.sc x p epos scope = true
              · rw [hw] at h3
                cases e with
                | comp lv elt tg it hc cc => exact ck_setc g (g.g.ix h0) h2 hw
                | compb lv elt tg j hc cc => exact ck_setcb g (g.g.ix h0) h2 hw
                | comp2 elt tg it tg1 it1 hc cc => exact ck_setc2 g (g.g.ix h0) h2 hw
                | _ => cases h3
              · exact s_set g.nd (g.g.ix h0) (g.g.loc h1).1 (g.g.loc h1).2 (ckE e g.g h2).pe (swB_no (by rw [g.g.sc]; simpa using hw))
            · cases h3
    · rename_i es j p e' pos
      cases t with
      | name i => cases h
      | tup ts =>
        simp only [Bool.and_eq_true] at h
        obtain ⟨h0, h2, h3⟩ := h
        refine s_tup (ckTg g.g (.tup ts) _ h0) (ckE e g.g h2).pe ?_
        split at h3
        · simp only [beq_iff_eq] at h3
          exact sw_ok g.kind (by rw [g.g.sc]; exact h3)
        · exact swapped_plain h3
    · cases h
  | .par i j a b, W, X, F, s, g, h => by
    simp only [chkS] at h
    split at h
    · simp only [Bool.and_eq_true, beq_iff_eq, decide_eq_true_eq] at h
      obtain ⟨h0, h1, h2, h3, h4, h5, h6, h7, h8, h9⟩ := h
      exact s_par g.g.calm g.nd (g.g.ix (by simpa using h0)) (g.g.ix (by simpa using h1)) h2 (by rw [g.g.sc]; exact h3) (by rw [g.g.sc]; exact h4) (ckE a g.g h8).pe (ckE b g.g h9).pe h5 h6 (sw_ok g.kind (by rw [g.g.sc]; exact h7))
    · cases h
  | .par3 i j l a b c, W, X, F, s, g, h => by
    simp only [chkS] at h
    split at h
    · simp only [Bool.and_eq_true, beq_iff_eq, decide_eq_true_eq] at h
      obtain ⟨h0, h1, h2, h3, h4, h5, h6, h7, h8, h9, h10, h11, h12, h13, h14, h15⟩ := h
      exact s_par3 g.g.calm g.nd (g.g.ix (by simpa using h0)) (g.g.ix (by simpa using h1)) (g.g.ix (by simpa using h2)) h3 h4 h5 (by rw [g.g.sc]; exact h6) (by rw [g.g.sc]; exact h7) (by rw [g.g.sc]; exact h8) (ckE a g.g h13).pe (ckE b g.g h14).pe (ckE c g.g h15).pe h9 h10 h11 (sw_ok g.kind (by rw [g.g.sc]; exact h12))
    · cases h
  | .setf o f e, W, X, F, s, g, h => by
    simp only [chkS] at h
    split at h
    · simp only [Bool.and_eq_true, beq_iff_eq] at h
      obtain ⟨h0, h1, h2, h3⟩ := h
      exact s_setf g.g.sp (g.g.tb.nm _ _ h0) (ckE o g.g h2).pe (ckE e g.g h3).pe h1
    · cases h
  | .seti o i e, W, X, F, s, g, h => by
    simp only [chkS] at h
    split at h
    · simp only [Bool.and_eq_true] at h
      obtain ⟨h0, h1, h2, h3, h4⟩ := h
      exact s_seti h0 (ckE o g.g h2).pe (ckE i g.g h3).pe (ckE e g.g h4).pe h1
    · cases h
  | .dput o i e, W, X, F, s, g, h => by
    simp only [chkS] at h
    split at h
    · simp only [Bool.and_eq_true] at h
      obtain ⟨h0, h1, h2, h3⟩ := h
      exact s_dput (by have := g.g.hr.units; omega) (ckE o g.g h1).pe (ckE i g.g h2).pe (ckE e g.g h3).pe h0
    · cases h
  | .incf o f neg n, W, X, F, s, g, h => by
    simp only [chkS] at h
    split at h
    · simp only [Bool.and_eq_true, beq_iff_eq, decide_eq_true_eq] at h
      obtain ⟨h0, h1, rfl, h2⟩ := h
      exact s_incf g.g.sp (g.g.tb.nm _ _ h0) h1 (ckE o g.g h2).pe
    · cases h
  | .seti2 o1 i1 o2 i2 e, W, X, F, s, g, h => by
    simp only [chkS] at h
    split at h
    · simp only [Bool.and_eq_true] at h
      obtain ⟨h1, h2, h3, h4, h5, h6, h7, h8⟩ := h
      refine s_seti2 g.g.calm g.g.sp.hk h1 h2 (ckE o1 g.g h3).pe (ckE i1 g.g h4).pe (ckE o2 g.g h5).pe (ckE i2 g.g h6).pe (ckE e g.g h7).pe ?_
      split at h8
      · simp only [beq_iff_eq] at h8
        exact sw_ok g.kind (by rw [g.g.sc]; exact h8)
      · exact swapped_plain h8
    · cases h
  | .forD js q a b, W, X, F, s, g, h => by
    simp only [chkS] at h
    split at h
    · simp only [Bool.and_eq_true, Bool.or_eq_true, decide_eq_true_eq, beq_iff_eq] at h
      obtain ⟨h0, h1, h2, h3, h4⟩ := h
      exact s_forD g.own g.g.calm (ckDk g.g h3 fun z => ckDTg_two h0 (h1.resolve_left fun w => w z)) (ckDTg g.g js _ h0) (fun F => ckSs b g h4) h2
    · cases h
  | .asgD x pur elt j q a hc c, W, X, F, s, g, h => by
    simp only [chkS] at h
    split at h
    · simp only [Bool.and_eq_true, decide_eq_true_eq] at h
      obtain ⟨h0, hs, h1, h2, h3, h4, h5, h6, h7⟩ := h
      unfold swB at hs
      simp only [Bool.and_eq_true, beq_iff_eq, Bool.not_eq_true'] at hs
      obtain ⟨bo, hk⟩ := blk_ok g.g h4
      refine s_asgD g.g.calm g.nd (g.g.ix h0) (by rw [g.g.sc]; exact hs.1.1) g.kind (by simpa using hs.1.2) hs.2 (ckDk g.g h2 fun z => absurd z h1) bo (by rw [List.map_map]; simp [Function.comp_def]) ⟨fun s H A cl fp => ckDTg (g.g.blk hk s H A cl fp) [j] _ h5, fun s H A cl fp F => ?_, fun s H A cl fp F => (ckE elt (g.g.blk hk s H A cl fp) h6).pe⟩ h3
      split at h7
      · simp only [Bool.not_eq_true'] at h7
        subst h7
        exact pts_no
      · simp only [Bool.and_eq_true] at h7
        obtain ⟨rfl, h7⟩ := h7
        exact pts_of (ckE c (g.g.blk hk s H A cl fp) h7).pt
      · cases h7
    · cases h
  | .ext i e, W, X, F, s, g, h => by
    simp only [chkS] at h
    split at h
    · simp only [Bool.and_eq_true] at h
      obtain ⟨h0, h1, h2⟩ := h
      exact s_ext g.nd (g.g.ix h0) (g.g.loc h1).1 (g.g.loc h1).2 (ckE e g.g h2).pe
    · cases h
  | .expr e, W, X, F, s, g, h => by
    simp only [chkS] at h
    split at h
    · simp only [Bool.and_eq_true] at h
      exact s_expr (ckE e g.g h.2).pe h.1
    · cases h
  | .ret e, W, X, F, s, g, h => by
    simp only [chkS] at h
    split at h
    · exact s_ret (ckE e g.g h).pe
    · cases h
  | .retn, W, X, F, s, g, h => by
    simp only [chkS] at h
    split at h
    · exact s_retn
    · cases h
  | .ifs c a b, W, X, F, s, g, h => by
    simp only [chkS] at h
    split at h
    · simp only [Bool.and_eq_true] at h
      exact s_if (ckE c g.g h.1).pt (ckSs a g h.2.1) (ckSs b g h.2.2)
    · cases h
  | .whl c b, W, X, F, s, g, h => by
    simp only [chkS] at h
    split at h
    · simp only [Bool.and_eq_true] at h
      refine PS.imp (s_whl (C := C) (W := W) (F := F) fuel g.own (ckE c g.g h.1).pt (ckSs b g h.2)) fun D σ H hq => ?_
      simp only [exS] at hq
      exact hq
    · cases h
  | .for_ t it b, W, X, F, s, g, h => by
    simp only [chkS] at h
    split at h
    · simp only [Bool.and_eq_true] at h
      obtain ⟨h0, h1, h2, h3⟩ := h
      exact s_for g.own g.g.calm (ckIt it g.g h2) (ckTg g.g t _ h0) (ckSs b g h3) h1
    · cases h
  | .brk, W, X, F, s, g, h => by
    simp only [chkS] at h
    split at h
    · exact s_brk
    · cases h
  | .cnt, W, X, F, s, g, h => by
    simp only [chkS] at h
    split at h
    · exact s_cnt
    · cases h
  | .pass, W, X, F, s, g, h => by
    simp only [chkS] at h
    split at h
    · exact s_pass
    · cases h
  | .rais0 c, W, X, F, s, g, h => by
    simp only [chkS] at h
    split at h
    · simp only [Bool.and_eq_true, beq_iff_eq, List.isEmpty_iff] at h
      obtain ⟨h0, h1, h2⟩ := h
      obtain ⟨fI, fd, ps, k1, k2, k3⟩ := g.g.tb.x0 _ c h1 h2
      exact s_rais0 k1 k2 (g.g.hr.mono (by unfold eqDeep; omega)).r k3 g.g.calm g.g.sp.tk (g.g.gl h0).1 (g.g.tb.xc _ c h1) (g.g.gl h0).2
    · cases h
  | .rais1 c e, W, X, F, s, g, h => by
    simp only [chkS] at h
    split at h
    · simp only [Bool.and_eq_true, beq_iff_eq] at h
      obtain ⟨h0, h1, h2, h3, h4⟩ := h
      obtain ⟨fl, hf⟩ := List.length_eq_one_iff.mp h2
      obtain ⟨fI, fd, ps, k1, k2, k3⟩ := g.g.tb.x1 _ c fl h1 hf
      exact s_rais1 k1 (by rw [g.g.tb.ft]; exact hf) k2 (g.g.hr.mono (by unfold eqDeep; omega)).r k3 g.g.calm g.g.sp.tk (g.g.gl h0).1 (g.g.tb.xc _ c h1) (ckE e g.g h4).pe h3 (g.g.gl h0).2
    · cases h
  | .tr b hs, W, X, F, s, g, h => by
    simp only [chkS] at h
    split at h
    · simp only [Bool.and_eq_true] at h
      obtain ⟨cl, c1, c2⟩ := ckHs g.g hs h.2
      exact s_try g.stk g.frm g.nd g.g.sp.tk (fun Wi pl xf tk hp => ckSs b (g.tr tk hp) h.1) c1 c2
    · cases h
theorem ckSs : ∀ (ir : Ss) {W : WX} {X : Cx} {F : Hp} {l : List Stmt}, GoodS C W X k Γ T ck → chkSs T ck ir l = true → PSs X l (tS C W F (exSs Γ C.FT ir))
  | .nil, W, X, F, l, g, h => by
    simp only [chkSs, List.isEmpty_iff] at h
    subst h
    exact ss_nil
  | .cons s r, W, X, F, l, g, h => by
    simp only [chkSs] at h
    split at h
    · simp only [Bool.and_eq_true] at h
      exact ss_cons (ckS s g h.1) (ckSs r g h.2)
    · cases h
end
end
end RP
end

section
set_option Elab.async false
set_option linter.all false
set_option maxRecDepth 100000
set_option maxHeartbeats 4000000
/-! Defs of the text, what the top has left, and the law's end. -/
namespace RP
open PySem L2
/-! ### parameters -/
def plainPar (p : Arguments) (ps : List Str) : Bool := p.posonlyargs.isEmpty && p.vararg.isNone && p.kwonlyargs.isEmpty && p.kwarg.isNone && decide (p.args.map (·.arg) = ps)
theorem zip_lookup {α : Type} : ∀ (ps : List Str) (us : List α) (x : Str), us.length = ps.length → x ∈ ps → ((ps.zip us).lookup x).isSome = true
  | [], _, x, _, h => by cases h
  | p :: ps, [], x, hl, _ => by simp at hl
  | p :: ps, u :: us, x, hl, h => by
    rw [List.zip_cons_cons, List.lookup_cons]
    cases q : (x == p) with
    | true => rfl
    | false =>
      rcases List.mem_cons.mp h with e | h
      · rw [e] at q
        simp at q
      · exact zip_lookup ps us x (by simpa using hl) h
theorem fm_congr {α β : Type} {f g : α → Option β} : ∀ (l : List α), (∀ x ∈ l, f x = g x) → l.filterMap f = l.filterMap g
  | [], _ => rfl
  | a :: l, h => by rw [List.filterMap_cons, List.filterMap_cons, h a List.mem_cons_self, fm_congr l fun x hx => h x (List.mem_cons_of_mem _ hx)]
theorem zip_filter {α : Type} : ∀ (ps : List Str) (us : List α), us.length = ps.length → ps.Nodup → (ps.filterMap fun n => ((ps.zip us).lookup n).map (n, ·)) = ps.zip us
  | [], us, _, _ => rfl
  | p :: ps, [], hl, _ => by simp at hl
  | p :: ps, u :: us, hl, hn => by
    have hn' := List.nodup_cons.mp hn
    rw [List.filterMap_cons]
    have e0 : ((p :: ps).zip (u :: us)).lookup p = some u := by
      rw [List.zip_cons_cons, List.lookup_cons]
      simp
    rw [e0]
    simp only [Option.map_some, List.zip_cons_cons]
    congr 1
    rw [← zip_filter ps us (by simpa using hl) hn'.2, zip_filter ps us (by simpa using hl) hn'.2]
    refine Eq.trans (fm_congr ps fun x hx => ?_) (zip_filter ps us (by simpa using hl) hn'.2)
    rw [List.lookup_cons]
    have : (x == p) = false := by
      rw [beq_eq_false_iff_ne]
      intro e
      exact hn'.1 (e ▸ hx)
    rw [this]
theorem bind_plain {x qual : Str} {params : Arguments} {body : List Stmt} {scope : Scope} {kV doc pm cdv ct : Value} {an : Option Addr} {ps : List Str} {us : List Value} (h : plainPar params ps = true) (hn : ps.Nodup) (hl : us.length = ps.length) :
    bindArgs (PySem.W.fnOf x qual params body scope .none kV doc pm an cdv ct) ⟨us, []⟩ = pure (ps.zip us) := by
  unfold plainPar at h
  simp only [Bool.and_eq_true, List.isEmpty_iff, Option.isNone_iff_eq_none, decide_eq_true_eq] at h
  obtain ⟨⟨⟨⟨h1, h2⟩, h3⟩, h4⟩, h5⟩ := h
  obtain ⟨p1, p2, p3, p4, p5, p6, p7⟩ := params
  dsimp only at h1 h2 h3 h4 h5
  subst h1 h2 h3 h4
  unfold bindArgs PySem.W.fnOf
  have m : ps.filter (fun n => ((ps.zip us).lookup n).isNone) = [] := by
    rw [List.filter_eq_nil_iff]
    intro a ha
    have := zip_lookup ps us a hl ha
    simp only [Option.isNone_iff_eq_none]
    intro z
    rw [z] at this
    cases this
  have z := zip_filter ps us hl hn
  simp only [List.map_nil, List.nil_append, h5, List.append_nil]
  simp [seqItems?, notAStandIn, hl, -List.isEmpty_iff, -List.filter_eq_nil_iff, -Bool.not_eq_eq_eq_not]
  simp only [List.drop_nil, List.length_nil, Nat.sub_zero, List.take_length, m, z, List.isEmpty_nil, Bool.not_true, Bool.false_eq_true, if_false]
/-! ### a def of the text -/
def fnScB (N ps : List Str) (sc : Scope) : Bool := sc.kind == .function && !sc.isCoroutine && !sc.isGenerator && decide N.Nodup && decide (N.take ps.length = ps) && ps.all (fun x => sc.names.lookup x == some .local || sc.names.lookup x == some .cell) && sc.names.all (fun y => !(y.2 == .free))
theorem fnSc_ok {N ps : List Str} {sc : Scope} (h : fnScB N ps sc = true) : FnScope N ps sc := by
  unfold fnScB at h
  simp only [Bool.and_eq_true, beq_iff_eq, Bool.not_eq_true', decide_eq_true_eq, List.all_eq_true, Bool.or_eq_true] at h
  obtain ⟨⟨⟨⟨⟨⟨h1, h2⟩, h3⟩, h4⟩, h5⟩, h6⟩, h7⟩ := h
  exact ⟨h1, h2, h3, h4, h5, h6, fun y hy e => by
    have := h7 y hy
    rw [e] at this
    cases this⟩
theorem DD.fn {K : PySem.W.Frag} {d : DD} (e : seeF K (d.ad K) = d.told) (c : d.ok K = true) : ∃ fd, FunD K d.name d.qual d.params d.body d.scope (d.dvs K) [] (d.ad K) fd := by
  unfold DD.ok at c
  simp only [Bool.and_eq_true] at c
  obtain ⟨kp, c⟩ := c
  unfold seeF DD.told at e
  cases q : K.lookup (d.ad K) with
  | none =>
    rw [q] at c
    cases c
  | some o =>
    rw [q] at c e
    obtain ⟨oc, od, dt, osl⟩ := o
    cases dt with
    | func g =>
      obtain ⟨n1, n2, n3, n4, n5, n6, n7, n8, n9, n10, n11, n12, n13, n14, n15⟩ := g
      simp only [Option.some.injEq, Prod.mk.injEq] at e
      obtain ⟨h1, h2, h3, h4, h5, h6, h7, h8⟩ := e
      subst h1 h2 h3 h4 h5 h6 h7 h8
      simp only [Bool.and_eq_true] at c
      exact ⟨_, ⟨oc, od, n8, n9, n10, n11, n12, n13, n14, osl, rfl, q, c.1, He.dflB_ok c.2, .inl rfl⟩, kp⟩
    | _ => cases c
/-! ### the Hook -/
abbrev AlR : Type := Bool × List Seen
def lookR (ex : PySem.W.Frag → Bool) (fn : List DD) (K : PySem.W.Frag) : AlR := (ex K && fn.all (fun d => d.ok K), fn.map fun d => seeF K (d.ad K))
theorem frcL_eq {α : Type} : ∀ (l : List Addr) (k : List Addr → α), frcL l k = k l
  | [], k => rfl
  | a :: r, k => by
    show HandSHeadRun.frNat a (fun a => frcL r fun r => k (a :: r)) = _
    rw [HandSHeadRun.frNat_eq, frcL_eq]
theorem frcK_eq {α : Type} : ∀ (l : PySem.W.Frag) (k : PySem.W.Frag → α), frcK l k = k l
  | [], k => rfl
  | (a, o) :: r, k => by
    show HandSHeadRun.frNat a (fun a => frcK r fun r => k ((a, o) :: r)) = _
    rw [HandSHeadRun.frNat_eq, frcK_eq]
theorem newR_eq {α : Type} (k : List Addr → Nat → α) : ∀ (l : List Addr) (m : Nat) (r : List Addr), newR l m r k = k (newR l m r Prod.mk).1 (newR l m r Prod.mk).2
  | [], m, r => rfl
  | a :: l, m, r => by
    unfold newR
    simp only [HandSHeadRun.frNat_eq]
    cases bitB m a with
    | true => exact newR_eq k l m r
    | false => exact newR_eq k l _ _
def reachL (g : Addr → Option Obj) (n : Nat) (f : List Addr) (m : Nat) (acc : List Addr) : List Addr := reachR g n f m acc id
theorem reachR_eq {α : Type} (g : Addr → Option Obj) (k : List Addr → α) : ∀ (n : Nat) (f : List Addr) (m : Nat) (acc : List Addr), reachR g n f m acc k = k (reachL g n f m acc)
  | 0, _, _, acc => rfl
  | n + 1, f, m, acc => by
    show (newR (f.flatMap (refsG g)) m [] fun new m => reachR g n new m (acc ++ new) k) = k (newR (f.flatMap (refsG g)) m [] fun new m => reachR g n new m (acc ++ new) id)
    refine (newR_eq _ _ _ _).trans ((reachR_eq g k n _ _ _).trans (congrArg k ?_))
    exact (newR_eq (fun new m => reachR g n new m (acc ++ new) id) _ _ _).symm
theorem askR_eq {α : Type} {n : Nat} {g : Addr → Option Obj} {p : PySem.W.Frag → α} : askR n g p = p (He.frG g (reachL g n [mainGlobals, cStatics] mask0 [mainGlobals, cStatics])) := by
  unfold askR
  rw [reachR_eq, frcL_eq, frcK_eq]
def obsR (n : Nat) (ex : PySem.W.Frag → Bool) (fn : List DD) (g : Addr → Option Obj) : AlR := (askR n g ex && askR n g (okB fn), askR n g (seenL fn))
theorem obsR_is {n : Nat} {ex : PySem.W.Frag → Bool} {fn : List DD} {g : Addr → Option Obj} : obsR n ex fn g = lookR ex fn (He.frG g (reachL g n [mainGlobals, cStatics] mask0 [mainGlobals, cStatics])) := by
  unfold obsR
  rw [askR_eq, askR_eq, askR_eq]
  rfl
def hookR (n : Nat) (ex : PySem.W.Frag → Bool) (fn : List DD) : PySem.W.Hook where
  α := AlR
  obs s := obsR n ex fn s.heap.get?
  val _ := (true, fn.map DD.told)
  says _ h := ∃ K : PySem.W.Frag, K.In h ∧ lookR ex fn K = (true, fn.map DD.told)
  of _ _ e := ⟨_, He.frG_in, obsR_is.symm.trans e⟩
  keeps _ _ _ := fun ⟨K, i, c⟩ k => ⟨K, PySem.W.Frag.In.keeps i k, c⟩
theorem obsR_eq {n : Nat} {ex : PySem.W.Frag → Bool} {fn : List DD} {g : Addr → Option Obj} {s : Shared} (h : ∀ a, g a = s.heap.get? a) : obsR n ex fn g = (hookR n ex fn).obs s := by
  rw [show g = s.heap.get? from funext h]
  rfl
/-- one run, asked in parts -/
theorem run_two {α β γ : Type} {x : Option α} {f : α → β} {g : α → γ} {a : β} {b : γ} (h1 : x.map f = some a) (h2 : x.map g = some b) : x.map (fun s => (f s, g s)) = some (a, b) := by
  cases x with
  | none => cases h1
  | some s =>
    simp only [Option.map_some, Option.some.injEq] at h1 h2 ⊢
    rw [h1, h2]
theorem run_and {α : Type} {x : Option α} {f g : α → Bool} (h1 : x.map f = some true) (h2 : x.map g = some true) : x.map (fun s => f s && g s) = some true := by
  cases x with
  | none => cases h1
  | some s =>
    simp only [Option.map_some, Option.some.injEq] at h1 h2 ⊢
    rw [h1, h2]
    rfl
theorem look_ex {ex : PySem.W.Frag → Bool} {fn : List DD} {K : PySem.W.Frag} (c : lookR ex fn K = (true, fn.map DD.told)) : ex K = true := by
  have := congrArg Prod.fst c
  unfold lookR at this
  simp only [Bool.and_eq_true] at this
  exact this.1
theorem look_fn {ex : PySem.W.Frag → Bool} {fn : List DD} {K : PySem.W.Frag} (c : lookR ex fn K = (true, fn.map DD.told)) {d : DD} (h : d ∈ fn) : ∃ fd, FunD K d.name d.qual d.params d.body d.scope (d.dvs K) [] (d.ad K) fd := by
  have c1 := congrArg Prod.fst c
  have c2 := congrArg Prod.snd c
  unfold lookR at c1 c2
  simp only [Bool.and_eq_true, List.all_eq_true] at c1
  exact DD.fn (List.map_inj_left.mp c2 d h) (c1.2 d h)
end RP
end

section
set_option Elab.async false
set_option linter.all false
set_option maxRecDepth 100000
set_option maxHeartbeats 4000000
/-! From the checked text to tables of defs. -/
namespace RP
open PySem L2
/-- what is known whatever the level -/
structure Stat (C : CC) (Pr : Program) (w : World) (K : PySem.W.Frag) (mg : Str → Option Value) (base : Heap) (T : Gs) (gcs : List (Nat × P)) : Prop where
  cf : ClsFs C
  nm : NmOk C
  fl : FldOk C
  hk : C.K = K
  gcs : ∀ x i, T.gcs.lookup x = some i → ∃ v u p, mg x = some u ∧ RelV v u ∧ gcs.lookup i = some p ∧ ∀ G, RepP C G p v
  free : ∀ x ∈ T.free, mg x = none
  cls : ∀ x c, T.cls.lookup x = some c → mg x = some (.ref (C.CA c))
  kit : ∀ t ∈ T.tys, KitF C t
  nmT : ∀ f x, T.nm[f]? = some x → C.NM f = x
  ft : C.FT = T.ft
  xinj : ∀ c g f, g ∈ C.FT c → C.NM f = C.NM g → f = g
  xc : ∀ x c, T.xc.lookup x = some c → mg x = some (.ref (C.CA c))
  x0 : ∀ x c, T.xc.lookup x = some c → T.ft c = [] → ∃ fI fd ps, XTxt K (C.CA c) fI ∧ L2.FnOk Pr w K mg base (L2.CX Pr w) 1 fI fd ps (spX0 (C.CA c)) ∧ Binds K fd ps []
  x1 : ∀ x c fl, T.xc.lookup x = some c → T.ft c = [fl] → ∃ fI fd ps, XTxt K (C.CA c) fI ∧ L2.FnOk Pr w K mg base (L2.CX Pr w) 1 fI fd ps (spX1 (C.CA c) (C.NM fl)) ∧ Binds K fd ps []
  exm : ∀ c' c b, T.exm c' c = some b → PySem.W.exmOne K (.ref (C.CA c')) (.ref (C.CA c)) = some b
  xr : ∀ c f, c ∈ T.xr → T.ft c = [f] → XRd K (C.CA c) (C.NM f)
  ns : base.NoSeer
  nl : base.NoLimit
  nd : base.NoDigits
  tr : Pr.given.tree = none
  xvk : ∀ c, T.xv.contains c = true → XCl C c
  x1k : ∀ x c fl kn, T.xc.lookup x = some c → T.ft c = [fl] → T.xkn.lookup c = some kn → ∃ fI fd ps, XTxt K (C.CA c) fI ∧ L2.FnOk Pr w K mg base (L2.CX Pr w) 1 fI fd ps (spX1 (C.CA c) (C.NM fl)) ∧ KBn K fd ps 1 [kn] (fun us ws => us ++ ws) (fun vs zs => vs ++ zs)
  xdn : PySem.W.specialIn K (.builtin "object.__class__") "__get__" = some (some (.builtin "getset_descriptor.__get__")) ∧ PySem.W.takesIn K (.builtin "object.__class__") = some true
  xis : ∀ z ys ns, T.xis.lookup z = some (ys, ns) → ∃ cv, ((∃ D, cv = Value.ref D ∧ mg z = some (.ref D)) ∨ (z = "ValueError" ∧ cv = .type "ValueError" ∧ mg z = none)) ∧ (∀ c ∈ ys, PySem.W.kitOne K (.ref (C.CA c)) cv = some true) ∧ ∀ c ∈ ns, PySem.W.kitOne K (.ref (C.CA c)) cv = some false
section
variable (C : CC) (Pr : Program) (w : World) (K : PySem.W.Frag) (mg : Str → Option Value) (base : Heap) (k : Nat)
def FnsOk : List (Str × Nat × PFn) → Prop
  | [] => True
  | e :: l => (∃ u, mg e.1 = some u ∧ PySem.W.keepIn K u = true ∧ Cal C Pr w K mg base k u e.2.2) ∧ FnsOk l
def IfnsOk : List (Str × Nat × IFn) → Prop
  | [] => True
  | e :: l => (∃ u, mg e.1 = some u ∧ PySem.W.keepIn K u = true ∧ CalI C Pr w K mg base k u e.2.2) ∧ IfnsOk l
/-- a method: the names of the class's fields are others -/
def MtsOk : List MEnt → Prop
  | [] => True
  | e :: l => (∃ f, Meth K (C.CA e.c) (C.NM e.m) f ∧ (∀ g ∈ C.FT e.c, C.NM g ≠ C.NM e.m) ∧ Cal C Pr w K mg base k (.ref f) e.f ∧ ∀ op, opM op = some e.m → PySem.W.findIn K (.ref (C.CA e.c)) (PySem.dunderR op.info.2) = some none) ∧ MtsOk l
def PrsOk : List MEnt → Prop
  | [] => True
  | e :: l => (∃ p f, PropOf K (C.CA e.c) (C.NM e.m) p f ∧ Cal C Pr w K mg base k (.ref f) e.f) ∧ PrsOk l
end
/-- a classmethod -/
def CmsOk (C : CC) (Pr : Program) (w : World) (K : PySem.W.Frag) (mg : Str → Option Value) (base : Heap) (k : Nat) : List IEnt → Prop
  | [] => True
  | e :: l => (∃ mc pp f, ClX.CRead K (C.CA e.c) mc ∧ ClX.CMet K (C.CA e.c) mc (C.NM e.m) pp f ∧ CalI C Pr w K mg base k (.ref f) e.f) ∧ CmsOk C Pr w K mg base k l
/-- a classmethod called with keywords -/
structure CEnt where
  j : Nat
  c : Nat
  m : Nat
  ks : List Str
  f : IFn
def KcsOk (C : CC) (Pr : Program) (w : World) (K : PySem.W.Frag) (mg : Str → Option Value) (base : Heap) (k : Nat) : List CEnt → Prop
  | [] => True
  | e :: l => (∃ mc pp f, ClX.CRead K (C.CA e.c) mc ∧ ClX.CMet K (C.CA e.c) mc (C.NM e.m) pp f ∧ KCalC C Pr w K mg base k (.ref f) 1 e.ks e.f) ∧ KcsOk C Pr w K mg base k l
section
variable {C : CC} {Pr : Program} {w : World} {K : PySem.W.Frag} {mg : Str → Option Value} {base : Heap} {k j : Nat} {T : Gs} {Γ : Tab} {G0 : List (Nat × P)}
theorem CalI.mono {u : Value} {g : IFn} (h : CalI C Pr w K mg base k u g) (hk : k ≤ j) : CalI C Pr w K mg base j u g := fun X W A pins s σ H us vs Q e1 e2 e3 e4 e5 tk r => h X W A pins s σ H us vs Q e1 e2 e3 e4 e5 tk (r.mono hk)
theorem CmsOk.mono (hk : k ≤ j) : ∀ {l : List IEnt}, CmsOk C Pr w K mg base k l → CmsOk C Pr w K mg base j l
  | [], _ => trivial
  | _ :: _, ⟨⟨mc, pp, f, h1, h2, h3⟩, h⟩ => ⟨⟨mc, pp, f, h1, h2, h3.mono hk⟩, CmsOk.mono hk h⟩
theorem CmsOk.app : ∀ {l m : List IEnt}, CmsOk C Pr w K mg base k l → CmsOk C Pr w K mg base k m → CmsOk C Pr w K mg base k (l ++ m)
  | [], _, _, h => h
  | _ :: _, _, ⟨h1, h⟩, h2 => ⟨h1, CmsOk.app h h2⟩
theorem CmsOk.get : ∀ {l : List IEnt}, CmsOk C Pr w K mg base k l → ∀ c m, (c, m) ∈ l.map (fun e => (e.c, e.m)) → ∃ mc pp f g, ClX.CRead K (C.CA c) mc ∧ ClX.CMet K (C.CA c) mc (C.NM m) pp f ∧ findI c m l = some g ∧ CalI C Pr w K mg base k (.ref f) g
  | [], _, c, m, h => by cases h
  | e :: l, h, c, m, q => by
    simp only [findI]
    by_cases z : (e.c == c && e.m == m) = true
    · rw [if_pos z]
      simp only [Bool.and_eq_true, beq_iff_eq] at z
      obtain ⟨rfl, rfl⟩ := z
      obtain ⟨mc, pp, f, h1, h2, h3⟩ := h.1
      exact ⟨mc, pp, f, e.f, h1, h2, rfl, h3⟩
    · rw [if_neg z]
      rw [List.map_cons] at q
      rcases List.mem_cons.mp q with r | r
      · exfalso
        apply z
        cases r
        simp
      · exact CmsOk.get h.2 c m r
theorem KcsOk.mono (hk : k ≤ j) : ∀ {l : List CEnt}, KcsOk C Pr w K mg base k l → KcsOk C Pr w K mg base j l
  | [], _ => trivial
  | _ :: _, ⟨⟨mc, pp, f, h1, h2, h3⟩, h⟩ => ⟨⟨mc, pp, f, h1, h2, h3.mono hk⟩, KcsOk.mono hk h⟩
theorem KcsOk.app : ∀ {l m : List CEnt}, KcsOk C Pr w K mg base k l → KcsOk C Pr w K mg base k m → KcsOk C Pr w K mg base k (l ++ m)
  | [], _, _, h => h
  | _ :: _, _, ⟨h1, h⟩, h2 => ⟨h1, KcsOk.app h h2⟩
theorem KcsOk.get : ∀ {l : List CEnt}, KcsOk C Pr w K mg base k l → ∀ i c m ks, (l.map fun e => (e.j, e.c, e.m, e.ks)).lookup i = some (c, m, ks) → ∃ mc pp f g, ClX.CRead K (C.CA c) mc ∧ ClX.CMet K (C.CA c) mc (C.NM m) pp f ∧ (l.map fun e => (e.j, e.f)).lookup i = some g ∧ KCalC C Pr w K mg base k (.ref f) 1 ks g
  | [], _, i, c, m, ks, h => by cases h
  | e :: l, h, i, c, m, ks, q => by
    rw [List.map_cons, List.lookup_cons] at q
    rw [List.map_cons, List.lookup_cons]
    cases z : i == e.j with
    | true =>
      rw [z] at q
      cases q
      obtain ⟨mc, pp, f, a1, a2, a3⟩ := h.1
      exact ⟨mc, pp, f, e.f, a1, a2, rfl, a3⟩
    | false =>
      rw [z] at q
      exact KcsOk.get h.2 i c m ks q
theorem FnsOk.mono (hk : k ≤ j) : ∀ {l : List (Str × Nat × PFn)}, FnsOk C Pr w K mg base k l → FnsOk C Pr w K mg base j l
  | [], _ => trivial
  | _ :: _, ⟨⟨u, h1, h2, h3⟩, h⟩ => ⟨⟨u, h1, h2, h3.mono hk⟩, FnsOk.mono hk h⟩
theorem IfnsOk.mono (hk : k ≤ j) : ∀ {l : List (Str × Nat × IFn)}, IfnsOk C Pr w K mg base k l → IfnsOk C Pr w K mg base j l
  | [], _ => trivial
  | _ :: _, ⟨⟨u, h1, h2, h3⟩, h⟩ => ⟨⟨u, h1, h2, h3.mono hk⟩, IfnsOk.mono hk h⟩
theorem MtsOk.mono (hk : k ≤ j) : ∀ {l : List MEnt}, MtsOk C Pr w K mg base k l → MtsOk C Pr w K mg base j l
  | [], _ => trivial
  | _ :: _, ⟨⟨u, h1, h2, h3, h4⟩, h⟩ => ⟨⟨u, h1, h2, h3.mono hk, h4⟩, MtsOk.mono hk h⟩
theorem PrsOk.mono (hk : k ≤ j) : ∀ {l : List MEnt}, PrsOk C Pr w K mg base k l → PrsOk C Pr w K mg base j l
  | [], _ => trivial
  | _ :: _, ⟨⟨p, f, h1, h2⟩, h⟩ => ⟨⟨p, f, h1, h2.mono hk⟩, PrsOk.mono hk h⟩
theorem FnsOk.app : ∀ {l m : List (Str × Nat × PFn)}, FnsOk C Pr w K mg base k l → FnsOk C Pr w K mg base k m → FnsOk C Pr w K mg base k (l ++ m)
  | [], _, _, h => h
  | _ :: _, _, ⟨h1, h⟩, h2 => ⟨h1, FnsOk.app h h2⟩
theorem IfnsOk.app : ∀ {l m : List (Str × Nat × IFn)}, IfnsOk C Pr w K mg base k l → IfnsOk C Pr w K mg base k m → IfnsOk C Pr w K mg base k (l ++ m)
  | [], _, _, h => h
  | _ :: _, _, ⟨h1, h⟩, h2 => ⟨h1, IfnsOk.app h h2⟩
theorem MtsOk.app : ∀ {l m : List MEnt}, MtsOk C Pr w K mg base k l → MtsOk C Pr w K mg base k m → MtsOk C Pr w K mg base k (l ++ m)
  | [], _, _, h => h
  | _ :: _, _, ⟨h1, h⟩, h2 => ⟨h1, MtsOk.app h h2⟩
theorem PrsOk.app : ∀ {l m : List MEnt}, PrsOk C Pr w K mg base k l → PrsOk C Pr w K mg base k m → PrsOk C Pr w K mg base k (l ++ m)
  | [], _, _, h => h
  | _ :: _, _, ⟨h1, h⟩, h2 => ⟨h1, PrsOk.app h h2⟩
theorem find_mem {c m : Nat} {g : PFn} : ∀ {l : List MEnt}, findM c m l = some g → ⟨c, m, g⟩ ∈ l
  | [], h => by cases h
  | e :: l, h => by
    simp only [findM] at h
    split at h
    · rename_i q
      simp only [Bool.and_eq_true, beq_iff_eq] at q
      cases h
      obtain ⟨c', m', f'⟩ := e
      obtain ⟨rfl, rfl⟩ := q
      exact List.mem_cons_self
    · exact List.mem_cons_of_mem _ (find_mem h)
theorem MtsOk.at_ : ∀ {l : List MEnt} {e : MEnt}, MtsOk C Pr w K mg base k l → e ∈ l → ∃ f, Meth K (C.CA e.c) (C.NM e.m) f ∧ (∀ g ∈ C.FT e.c, C.NM g ≠ C.NM e.m) ∧ Cal C Pr w K mg base k (.ref f) e.f ∧ ∀ op, opM op = some e.m → PySem.W.findIn K (.ref (C.CA e.c)) (PySem.dunderR op.info.2) = some none
  | a :: l, e, h, m => by
    rcases List.mem_cons.mp m with q | q
    · rw [q]
      exact h.1
    · exact MtsOk.at_ h.2 q
theorem PrsOk.at_ : ∀ {l : List MEnt} {e : MEnt}, PrsOk C Pr w K mg base k l → e ∈ l → ∃ p f, PropOf K (C.CA e.c) (C.NM e.m) p f ∧ Cal C Pr w K mg base k (.ref f) e.f
  | a :: l, e, h, m => by
    rcases List.mem_cons.mp m with q | q
    · rw [q]
      exact h.1
    · exact PrsOk.at_ h.2 q
theorem goodM_of (hm : MtsOk C Pr w K mg base k Γ.mts) (hp : PrsOk C Pr w K mg base k Γ.prs) : GoodM C Pr w K mg base k Γ :=
  ⟨fun c m g h => by
    obtain ⟨f, h1, h2, h3, _⟩ := hm.at_ (find_mem h)
    exact ⟨f, h1, h2, h3⟩, fun c m g h => hp.at_ (find_mem h), fun c g op m ho h => by
    obtain ⟨f, _, _, _, h4⟩ := hm.at_ (find_mem h)
    exact h4 op ho⟩
theorem lk_fn {α : Type} : ∀ {l : List (Str × Nat × α)} {x : Str} {i : Nat}, (l.map fun e => (e.1, e.2.1)).lookup x = some i → ∃ e ∈ l, e.1 = x ∧ e.2.1 = i
  | [], x, i, h => by cases h
  | e :: l, x, i, h => by
    rw [List.map_cons, List.lookup_cons] at h
    split at h
    · rename_i q
      cases h
      exact ⟨e, List.mem_cons_self, (eq_of_beq q).symm, rfl⟩
    · obtain ⟨e', h1, h2⟩ := lk_fn h
      exact ⟨e', List.mem_cons_of_mem _ h1, h2⟩
theorem lk_ix {α : Type} : ∀ {l : List (Str × Nat × α)} {e : Str × Nat × α}, (l.map fun e => e.2.1).Nodup → e ∈ l → (l.map fun e => (e.2.1, e.2.2)).lookup e.2.1 = some e.2.2
  | a :: l, e, hn, h => by
    rw [List.map_cons] at hn ⊢
    rw [List.lookup_cons]
    have hn' := List.nodup_cons.mp hn
    rcases List.mem_cons.mp h with q | q
    · rw [q]
      simp
    · have : (e.2.1 == a.2.1) = false := by
        rw [beq_eq_false_iff_ne]
        intro z
        exact hn'.1 (by rw [← z]; exact List.mem_map.mpr ⟨e, q, rfl⟩)
      rw [this]
      exact lk_ix hn'.2 q
theorem FnsOk.at_ : ∀ {l : List (Str × Nat × PFn)} {e : Str × Nat × PFn}, FnsOk C Pr w K mg base k l → e ∈ l → ∃ u, mg e.1 = some u ∧ PySem.W.keepIn K u = true ∧ Cal C Pr w K mg base k u e.2.2
  | a :: l, e, h, m => by
    rcases List.mem_cons.mp m with q | q
    · rw [q]
      exact h.1
    · exact FnsOk.at_ h.2 q
theorem IfnsOk.at_ : ∀ {l : List (Str × Nat × IFn)} {e : Str × Nat × IFn}, IfnsOk C Pr w K mg base k l → e ∈ l → ∃ u, mg e.1 = some u ∧ PySem.W.keepIn K u = true ∧ CalI C Pr w K mg base k u e.2.2
  | a :: l, e, h, m => by
    rcases List.mem_cons.mp m with q | q
    · rw [q]
      exact h.1
    · exact IfnsOk.at_ h.2 q
/-- the table of these defs -/
def tabOf (fs : List (Str × Nat × PFn)) (is : List (Str × Nat × IFn)) (ms ps : List MEnt) (gcs : List (Nat × P)) (ks : List KEnt := []) (js : List IEnt := []) (cs : List IEnt := []) (ds : List CEnt := []) : Tab := ⟨fs.map fun e => (e.2.1, e.2.2), is.map fun e => (e.2.1, e.2.2), ms, ps, gcs, ks.map fun e => (e.i, e.f), js, ks.map (fun e => (e.i, e.n, e.fi)), cs, ds.map fun e => (e.j, e.f)⟩
def namesOf (T : Gs) (fs : List (Str × Nat × PFn)) (is : List (Str × Nat × IFn)) (ks : List KEnt := []) (cs : List IEnt := []) (ds : List CEnt := []) : Gs := { T with cms := cs.map fun e => (e.c, e.m), kcms := ds.map fun e => (e.j, e.c, e.m, e.ks), fns := fs.map fun e => (e.1, e.2.1), ifns := is.map fun e => (e.1, e.2.1), kfns := ks.map fun e => (e.i, e.x, e.n, e.ks) }
theorem KfnsOk.get : ∀ {l : List KEnt}, KfnsOk C Pr w K mg base k l → ∀ i x n ks, (l.map fun e => (e.i, e.x, e.n, e.ks)).lookup i = some (x, n, ks) → ∃ u g, mg x = some u ∧ PySem.W.keepIn K u = true ∧ (l.map fun e => (e.i, e.f)).lookup i = some g ∧ KCal C Pr w K mg base k u n ks g
  | [], _, i, x, n, ks, h => by cases h
  | e :: l, h, i, x, n, ks, q => by
    rw [List.map_cons, List.lookup_cons] at q
    rw [List.map_cons, List.lookup_cons]
    cases c : i == e.i with
    | true =>
      rw [c] at q
      cases q
      obtain ⟨u, a1, a2, a3, _⟩ := h.1
      exact ⟨u, e.f, a1, a2, rfl, a3⟩
    | false =>
      rw [c] at q
      exact KfnsOk.get h.2 i x n ks q
theorem KfnsOk.getI : ∀ {l : List KEnt}, KfnsOk C Pr w K mg base k l → ∀ i x n ks, (l.map fun e => (e.i, e.x, e.n, e.ks)).lookup i = some (x, n, ks) → ∃ u g, mg x = some u ∧ PySem.W.keepIn K u = true ∧ (l.map fun e => (e.i, e.n, e.fi)).lookup i = some (n, g) ∧ KCalI C Pr w K mg base k u n ks g
  | [], _, i, x, n, ks, h => by cases h
  | e :: l, h, i, x, n, ks, q => by
    rw [List.map_cons, List.lookup_cons] at q
    rw [List.map_cons, List.lookup_cons]
    cases c : i == e.i with
    | true =>
      rw [c] at q
      cases q
      obtain ⟨u, a1, a2, _, a3⟩ := h.1
      exact ⟨u, e.fi, a1, a2, rfl, a3⟩
    | false =>
      rw [c] at q
      exact KfnsOk.getI h.2 i x n ks q
theorem lk_kw : ∀ {l : List (List Str × KFn)} {ks : List Str} {g : KFn}, l.lookup ks = some g → (ks, g) ∈ l
  | [], ks, g, h => by cases h
  | (a, b) :: l, ks, g, h => by
    rw [List.lookup_cons] at h
    split at h
    · rename_i q
      cases h
      rw [eq_of_beq q]
      exact List.mem_cons_self
    · exact List.mem_cons_of_mem _ (lk_kw h)
theorem ImtsOk.getK : ∀ {l : List IEnt}, ImtsOk C Pr w K mg base k l → ∀ c m ks g, findK c m ks l = some g → ∃ f, Meth K (C.CA c) (C.NM m) f ∧ (∀ g ∈ C.FT c, C.NM g ≠ C.NM m) ∧ KCal C Pr w K mg base k (.ref f) 1 ks g
  | [], _, c, m, ks, g, h => by cases h
  | e :: l, h, c, m, ks, g, q => by
    simp only [findK] at q
    split at q
    · rename_i z
      simp only [Bool.and_eq_true, beq_iff_eq] at z
      obtain ⟨rfl, rfl⟩ := z
      obtain ⟨f, h1, h2, _, h4⟩ := h.1
      exact ⟨f, h1, h2, h4 _ (lk_kw q)⟩
    · exact ImtsOk.getK h.2 c m ks g q
theorem ImtsOk.get : ∀ {l : List IEnt}, ImtsOk C Pr w K mg base k l → ∀ c m g, findI c m l = some g → ∃ f, Meth K (C.CA c) (C.NM m) f ∧ (∀ g ∈ C.FT c, C.NM g ≠ C.NM m) ∧ CalI C Pr w K mg base k (.ref f) g
  | [], _, c, m, g, h => by cases h
  | e :: l, h, c, m, g, q => by
    simp only [findI] at q
    split at q
    · rename_i z
      simp only [Bool.and_eq_true, beq_iff_eq] at z
      cases q
      obtain ⟨rfl, rfl⟩ := z
      obtain ⟨f, h1, h2, h3, _⟩ := h.1
      exact ⟨f, h1, h2, h3⟩
    · exact ImtsOk.get h.2 c m g q
theorem tab_of {fs : List (Str × Nat × PFn)} {is : List (Str × Nat × IFn)} {ms ps : List MEnt} {ks : List KEnt} {js cs : List IEnt} {ds : List CEnt} (st : Stat C Pr w K mg base T G0) (h1 : FnsOk C Pr w K mg base k fs) (h2 : IfnsOk C Pr w K mg base k is) (h3 : MtsOk C Pr w K mg base k ms) (h4 : PrsOk C Pr w K mg base k ps)
    (n1 : (fs.map fun e => e.2.1).Nodup) (n2 : (is.map fun e => e.2.1).Nodup) (hk : 25 ≤ k) (h5 : KfnsOk C Pr w K mg base k ks := by trivial) (h6 : ImtsOk C Pr w K mg base k js := by trivial) (h7 : CmsOk C Pr w K mg base k cs := by trivial) (h8 : KcsOk C Pr w K mg base k ds := by trivial) : TabOk C Pr w K mg base k (tabOf fs is ms ps G0 ks js cs ds) (namesOf T fs is ks cs ds) :=
  ⟨goodM_of h3 h4, fun x i h => by
    obtain ⟨e, m, rfl, rfl⟩ := lk_fn h
    obtain ⟨u, a, b, c⟩ := h1.at_ m
    exact ⟨u, e.2.2, a, b, lk_ix n1 m, c⟩, fun x i h => by
    obtain ⟨e, m, rfl, rfl⟩ := lk_fn h
    obtain ⟨u, a, b, c⟩ := h2.at_ m
    exact ⟨u, e.2.2, a, b, lk_ix n2 m, c⟩, h5.get, h5.getI, h6.get, h6.getK, st.gcs, st.free, st.cls, st.kit, st.nmT, st.ft, st.xinj, st.xc, fun x c h z => by
    obtain ⟨fI, fd, ps, a, b, d⟩ := st.x0 x c h z
    exact ⟨fI, fd, ps, a, b.mono (by omega), d⟩, fun x c fl h z => by
    obtain ⟨fI, fd, ps, a, b, d⟩ := st.x1 x c fl h z
    exact ⟨fI, fd, ps, a, b.mono (by omega), d⟩, st.xvk, fun x c fl kn h z q => by
    obtain ⟨fI, fd, ps, a, b, d⟩ := st.x1k x c fl kn h z q
    exact ⟨fI, fd, ps, a, b.mono (by omega), d⟩, st.xdn, st.xis, st.exm, st.xr, h7.get, h8.get, hk⟩
/-! ### a def -/
theorem room_py {A : Around} (h : 25 ≤ k) (hr : Room (k + (eqDeep + 1)) A) : A.depth + Builtin.pylongFrames < recursionLimit := by
  have h1 := hr.dp
  have h2 : Builtin.pylongFrames = 100 := rfl
  have h3 : eqDeep = 6 := rfl
  omega
theorem def_ok {x qual : Str} {params : Arguments} {body : List Stmt} {scope : Scope} {dvs : List V} {f : Addr} {fd : FuncData} {N ps : List Str} {ir : Ss} (Fd : FunD K x qual params body scope dvs [] f fd) (Sc : fnScB N ps scope = true)
    (st : Stat C Pr w K mg base T G0) {T' : Gs} (tb : TabOk C Pr w K mg base k Γ T') (h : chkSs T' ⟨N, scope, fun _ => true, true⟩ ir body = true) :
    FnOk Pr w K mg base (L2.CX Pr w) (k + (eqDeep + 1) + 1) f fd ps (nArg ps.length (spI C (runI Γ C.FT N.length ir))) := by
  obtain ⟨oc, od, dV, kV, doc, pm, an, cdv, ct, osl, rfl, lk, hcd, _, _⟩ := Fd.ex
  have S := fnSc_ok Sc
  have z := fn_imp (k := k + (eqDeep + 1)) (C := C) (P' := Pr) (w := w) (mg := mg) (base := base) (g := exSs Γ C.FT ir) lk hcd S fun A outer s H E F hr => by
    refine ckSs ir ⟨⟨⟨st.nd, st.cf, st.nm, st.fl, st.hk, takes_of rfl rfl rfl rfl, hr.mono (by omega), fun hf s1 hb => PySem.PylongRoom.of (st.nl.keeps hb) (room_py tb.kb hr) (PySem.SeerAt.of (st.ns.keeps hb) st.tr hf S.gen S.co rfl rfl)⟩, hr, rfl, S.nd, rfl, S.kind, rfl, rfl, tb, fun _ => ⟨rfl, rfl⟩⟩, passes_of rfl, rfl, rfl⟩ h
  refine Eq.mp (congrArg (fun g => FnOk Pr w K mg base (L2.CX Pr w) (k + (eqDeep + 1) + 1) f _ ps (nArg ps.length (spI C g))) ?_) z
  funext ds S
  unfold runI
  generalize exSs Γ C.FT ir (ds.map some ++ List.replicate (N.length - ds.length) none) S = r
  cases r <;> rfl
/-- the def, called with data -/
def fnP (FT : FldT) (Γ : Tab) (n np : Nat) (ir : Ss) : PFn := fun xs => if xs.length = np then pureOf (runI Γ FT n ir) xs else .stuck
def fnI (FT : FldT) (Γ : Tab) (n np : Nat) (ir : Ss) : IFn := fun ds S => if ds.length = np then runI Γ FT n ir ds S else .stuck
theorem calP {f : Addr} {fd : FuncData} {ps : List Str} {g : IFn} (F : FnOk Pr w K mg base (L2.CX Pr w) k f fd ps (nArg ps.length (spI C g))) (hb : Binds K fd ps []) : Cal C Pr w K mg base k (.ref f) (fun xs => if xs.length = ps.length then pureOf g xs else .stuck) := by
  have z := cal_of (dxs := []) F hb .nil fun G => by simp only [RepPs]
  simp only [List.append_nil] at z
  exact z
theorem binds_plain {x qual : Str} {params : Arguments} {body : List Stmt} {scope : Scope} {f : Addr} {fd : FuncData} {ps : List Str} (Fd : FunD K x qual params body scope [] [] f fd) (h : plainPar params ps = true) (hn : ps.Nodup) : Binds K fd ps [] :=
  Fd.bindsN fun _ _ _ _ _ _ us hl => bind_plain h hn hl
end
end RP
end

section
set_option Elab.async false
set_option linter.all false
set_option maxRecDepth 100000
set_option maxHeartbeats 4000000
/-! The layout of a program: its classes, names, fields; what the top must have left of them. -/
namespace RP
open PySem L2
def Lay.exm (L : Lay) (c' c : Nat) : Option Bool := if (L.xs.lookup c').isSome && (L.xs.lookup c).isSome then some (c' == c) else none
def Lay.T (L : Lay) : Gs := { fns := [], gcs := L.gcs.map fun e => (e.1, e.2.1), free := L.free, cls := L.own.map fun e => (e.2, e.1), tys := L.tys, nm := L.nm, ft := L.ft, xc := L.xs.map fun e => (e.2.1, e.1), exm := L.exm, xr := (L.xs.filter fun e => e.2.2.length == 1).map (·.1), xv := L.xv, xkn := L.xkn, xis := L.xis }
def Lay.G0 (L : Lay) : List (Nat × P) := L.gcs.map fun e => (e.2.1, e.2.2.p)
/-! ### looks -/
theorem clsB_ok {K : Fr} {c : Addr} (h : clsB K c = true) : ClsF K c := by
  unfold clsB ooB at h
  simp only [Bool.and_eq_true, decide_eq_true_eq] at h
  obtain ⟨⟨⟨⟨⟨⟨⟨⟨⟨h1, h2⟩, h3⟩, h4⟩, h5⟩, h6⟩, h7⟩, h8⟩, h9⟩, h10⟩ := h
  exact ⟨⟨h1, h2, h3, h4⟩, h5, h6, h7, h8, h9, h10⟩
theorem baseB_ok {K : Fr} {c : Addr} (h : baseB K c = true) : BaseT K c := by
  unfold baseB ooB at h
  simp only [Bool.and_eq_true, decide_eq_true_eq] at h
  refine ⟨h.1.1, ?_, h.2⟩
  have h2 := h.1.2
  split at h2
  · rename_i n e
    rw [e, eq_of_beq h2]
  · cases h2
theorem oexB_ok {K : Fr} {c : Addr} (h : oexB K c = true) : OexC K c := by
  unfold oexB ooB at h
  simp only [Bool.and_eq_true, decide_eq_true_eq] at h
  obtain ⟨⟨⟨⟨h1, h2⟩, h3⟩, h4⟩, h5⟩ := h
  refine ⟨?_, h2, h3, h4, h5⟩
  split at h1
  · rename_i o ho
    obtain ⟨oc, od, dt, sl⟩ := o
    dsimp only at h1
    split at h1
    · rename_i t cd k0 k1 k2 k3 n k5 hs
      simp only [Bool.and_eq_true, beq_iff_eq, Bool.not_eq_true'] at h1
      obtain ⟨⟨⟨⟨rfl, rfl⟩, hd⟩, hdel⟩, hm⟩ := h1
      obtain ⟨nm, bs, mro, ns, qn, hdd, sn, sub, ab, col, del⟩ := cd
      dsimp only at hm hd hdel
      subst hd hdel
      have hsl : sl = #[k0, k1, k2, k3, some (.builtin "ValueError.__new__"), k5] := by
        obtain ⟨l⟩ := sl
        exact congrArg Array.mk hs
      subst hsl
      split at hm
      · rename_i c' bm
        simp only [Bool.and_eq_true, beq_iff_eq] at hm
        obtain ⟨rfl, hb⟩ := hm
        exact ⟨_, _, _, _, _, _, _, _, _, _, _, _, _, _, _, ho, hb⟩
      · cases hm
    · cases h1
  · cases h1
theorem xrdB_ok {K : Fr} {c : Addr} {f : Str} (h : xrdB K c f = true) : XRd K c f := by
  unfold xrdB ooB at h
  simp only [Bool.and_eq_true, decide_eq_true_eq] at h
  obtain ⟨⟨⟨⟨h1, h2⟩, h3⟩, h4⟩, h5⟩ := h
  exact ⟨h1, h2, h3, h4, h5⟩
theorem lk_own {α : Type} : ∀ {l : List (Nat × α)} {c : Nat} {x : α}, l.lookup c = some x → (c, x) ∈ l
  | [], c, x, h => by cases h
  | (d, y) :: l, c, x, h => by
    rw [List.lookup_cons] at h
    split at h
    · rename_i q
      cases h
      rw [eq_of_beq q]
      exact List.mem_cons_self
    · exact List.mem_cons_of_mem _ (lk_own h)
theorem lk_str {α : Type} : ∀ {l : List (Str × α)} {c : Str} {x : α}, l.lookup c = some x → (c, x) ∈ l
  | [], c, x, h => by cases h
  | (d, y) :: l, c, x, h => by
    rw [List.lookup_cons] at h
    split at h
    · rename_i q
      cases h
      rw [eq_of_beq q]
      exact List.mem_cons_self
    · exact List.mem_cons_of_mem _ (lk_str h)
theorem kitB_ok {L : Lay} {K : Fr} {t : Ty} (h : kitB L K t = true) : KitF (L.cc K) t := by
  unfold kitB at h
  simp only [Bool.and_eq_true, decide_eq_true_eq, List.all_eq_true] at h
  obtain ⟨⟨⟨⟨⟨⟨⟨h1, h2⟩, h3⟩, h4⟩, h5⟩, h6⟩, h8⟩, h7⟩ := h
  intro x b hx hi
  show PySem.W.kitOne K _ _ = _
  cases x with
  | non => simp only [isiP, Option.some.injEq] at hi; subst hi; exact h1
  | bl _ => simp only [isiP, Option.some.injEq] at hi; subst hi; exact h2
  | int _ => simp only [isiP, Option.some.injEq] at hi; subst hi; exact h3
  | str _ => simp only [isiP, Option.some.injEq] at hi; subst hi; exact h4
  | tup _ => simp only [isiP, Option.some.injEq] at hi; subst hi; exact h5
  | lst _ => simp only [isiP, Option.some.injEq] at hi; subst hi; exact h6
  | scr _ => cases hi
  | exn _ _ => cases hi
  | dic _ _ => simp only [isiP, Option.some.injEq] at hi; subst hi; exact h8
  | ob c xs =>
    simp only [isiP, Option.some.injEq] at hi
    subst hi
    have hc : (L.own.lookup c).isSome = true := hx
    obtain ⟨y, hy⟩ := Option.isSome_iff_exists.mp hc
    have z := h7 _ (lk_own hy)
    have e : L.cn c = y := by
      unfold Lay.cn
      rw [hy]
    show PySem.W.kitOne K (.ref (He.ga K (L.cn c))) _ = _
    rw [e]
    exact z
/-! ### all of it -/
/-- what must hold of the layout itself -/
def Lay.ok (L : Lay) : Bool := decide L.nm.Nodup && L.nm.all (fun x => !(x == ("" : Str))) && decide (L.nm.take 8 = ([("__add__" : Str), "__sub__", "__mul__", "__neg__", "__eq__", "__lt__", "__le__", "append"] : List Str)) &&
  decide (L.own.map (·.1)).Nodup && decide (L.own.map (·.2)).Nodup && decide (L.xs.map (·.1)).Nodup && decide (L.xs.map (·.2.1)).Nodup && L.own.all (fun e => (L.xs.lookup e.1).isNone) && decide (L.gcs.map (·.2.1)).Nodup && decide (L.gcs.map (·.1)).Nodup &&
  L.flds.all (fun e => e.2.all fun f => decide (f < L.nm.length)) && L.xs.all (fun e => e.2.2.all fun f => decide (f < L.nm.length)) && L.flds.all (fun e => (L.xs.lookup e.1).isNone) &&
  L.mts.all (fun e => (L.ft e.1).all fun f => !(L.NM f == L.NM e.2))

structure LayOk (L : Lay) : Prop where
  nd : L.nm.Nodup
  ne : ∀ x ∈ L.nm, x ≠ ("" : Str)
  tk : L.nm.take 8 = ([("__add__" : Str), "__sub__", "__mul__", "__neg__", "__eq__", "__lt__", "__le__", "append"] : List Str)
  on : (L.own.map (·.1)).Nodup
  os : (L.own.map (·.2)).Nodup
  xn : (L.xs.map (·.1)).Nodup
  xs : (L.xs.map (·.2.1)).Nodup
  ox : ∀ e ∈ L.own, L.xs.lookup e.1 = none
  gn : (L.gcs.map (·.2.1)).Nodup
  gs : (L.gcs.map (·.1)).Nodup
  fl : ∀ e ∈ L.flds, ∀ f ∈ e.2, f < L.nm.length
  xf : ∀ e ∈ L.xs, ∀ f ∈ e.2.2, f < L.nm.length
  fx : ∀ e ∈ L.flds, L.xs.lookup e.1 = none
  mf : ∀ e ∈ L.mts, ∀ f ∈ L.ft e.1, L.NM f ≠ L.NM e.2
theorem lay_ok {L : Lay} (h : L.ok = true) : LayOk L := by
  unfold Lay.ok at h
  simp only [Bool.and_eq_true] at h
  obtain ⟨⟨⟨⟨⟨⟨⟨⟨⟨⟨⟨⟨⟨a1, a2⟩, a3⟩, a4⟩, a5⟩, a6⟩, a7⟩, a8⟩, a9⟩, a10⟩, a11⟩, a12⟩, a13⟩, a14⟩ := h
  simp only [List.all_eq_true, decide_eq_true_eq, Option.isNone_iff_eq_none, Bool.not_eq_true', beq_eq_false_iff_ne] at *
  exact ⟨a1, a2, a3, a4, a5, a6, a7, a8, a9, a10, a11, a12, a13, a14⟩
structure LookOk (L : Lay) (K : Fr) : Prop where
  own : ∀ e ∈ L.own, gloB K e.2 = true ∧ clsB K (He.ga K e.2) = true
  two : ∀ e ∈ L.own, ∀ d ∈ L.own, e.1 = d.1 ∨ (PySem.W.subIn K (.ref (He.ga K e.2)) (.ref (He.ga K d.2)) = some false ∧ He.ga K e.2 ≠ He.ga K d.2)
  na : ∀ e ∈ L.own, ∀ f ∈ L.ft e.1, PySem.W.findIn K (.ref (He.ga K e.2)) (L.NM f) = some none
  kit : ∀ t ∈ L.tys, kitB L K t = true
  free : ∀ x ∈ L.free, PySem.W.nsIn K mainGlobals x = some none
  gcs : ∀ e ∈ L.gcs, gcB K e.1 e.2.2 = true
  bg : gloB K L.bas = true
  bb : baseB K (He.ga K L.bas) = true
  xs : ∀ e ∈ L.xs, ((gloB K e.2.1 = true ∧ oexB K (He.ga K e.2.1) = true) ∧ PySem.W.findIn K (.ref (He.ga K e.2.1)) "__init__" = some (some (.ref (He.ma K (He.ga K e.2.1) "__init__")))) ∧ PySem.W.typeIn K (.ref (He.ma K (He.ga K e.2.1) "__init__")) = some (.type "function")
  exm : ∀ e ∈ L.xs, ∀ d ∈ L.xs, PySem.W.exmOne K (.ref (He.ga K e.2.1)) (.ref (He.ga K d.2.1)) = some (e.1 == d.1)
  xr : ∀ e ∈ L.xs, (match e.2.2 with
    | [f] => xrdB K (He.ga K e.2.1) (L.NM f)
    | _ => true) = true
  mts : ∀ e ∈ L.mts, methB K (He.ga K (L.cn e.1)) (L.NM e.2) = true ∧ norB K (He.ga K (L.cn e.1)) e.2 = true
  prs : ∀ e ∈ L.prs, propB K (He.ga K (L.cn e.1)) (L.NM e.2) = true
  mks : ∀ c ∈ L.mks, gloB K (L.cn c) = true ∧ mkB K (He.ga K (L.cn c)) = true
  glo : ∀ x ∈ L.glo, gloB K x = true
  cms : ∀ e ∈ L.cms, cmB K (He.ga K (L.cn e.1)) (L.NM e.2) = true
  xv : ∀ c ∈ L.xv, xclB L K c = true
  xis : ∀ e ∈ L.xis, xisB L K e = true
  xdn : xdnB K = true
theorem look_ok {L : Lay} {K : Fr} (h : L.look K = true) : LookOk L K := by
  unfold Lay.look ooB at h
  simp only [Bool.and_eq_true] at h
  obtain ⟨⟨⟨⟨⟨⟨⟨⟨⟨⟨⟨⟨⟨⟨⟨⟨⟨⟨a1, a2⟩, a3⟩, a4⟩, a5⟩, a6⟩, a7⟩, a8⟩, a9⟩, a10⟩, a11⟩, a12⟩, a13⟩, a14⟩, a15⟩, a16⟩, a17⟩, a18⟩, a19⟩ := h
  simp only [List.all_eq_true, decide_eq_true_eq, Bool.and_eq_true, Bool.or_eq_true, beq_iff_eq, Bool.not_eq_true', beq_eq_false_iff_ne] at a1 a2 a3 a4 a5 a6 a9 a10 a11 a12 a13 a14 a15 a16 a17 a18
  exact ⟨a1, a2, a3, a4, a5, a6, a7, a8, a9, a10, a11, a12, a13, a14, a15, a16, a17, a18, a19⟩
section
variable {L : Lay} {K : Fr} {Pr : Program} {w : World} {h : Heap} {mg : Str → Option Value} {base : Heap}
theorem glo_mg (X : K.In h) (G : h.Ns mainGlobals mg) {x : Str} (c : gloB K x = true) : mg x = some (.ref (He.ga K x)) := PySem.W.mg_of X G (of_decide_eq_true c)
theorem nm_inj (ho : LayOk L) {f g : Nat} (hg : g < L.nm.length) (e : L.NM f = L.NM g) : f = g := by
  have eg : L.NM g = L.nm[g] := by
    unfold Lay.NM
    rw [List.getD_eq_getElem?_getD, List.getElem?_eq_getElem hg]
    rfl
  by_cases hf : f < L.nm.length
  · have ef : L.NM f = L.nm[f] := by
      unfold Lay.NM
      rw [List.getD_eq_getElem?_getD, List.getElem?_eq_getElem hf]
      rfl
    rw [ef, eg] at e
    exact (List.getElem_inj ho.nd).mp e
  · have ef : L.NM f = "" := by
      unfold Lay.NM
      rw [List.getD_eq_getElem?_getD, List.getElem?_eq_none (by omega)]
      rfl
    rw [ef, eg] at e
    exact absurd e.symm (ho.ne _ (List.getElem_mem hg))
theorem ft_lt (ho : LayOk L) {c g : Nat} (hg : g ∈ L.ft c) : g < L.nm.length := by
  unfold Lay.ft at hg
  split at hg
  · rename_i l hl
    exact ho.fl _ (lk_own hl) g hg
  · split at hg
    · rename_i e he
      exact ho.xf _ (lk_own he) g hg
    · cases hg
theorem lk_swap {α : Type} : ∀ {l : List (Nat × Str × α)} {x : Str} {c : Nat}, (l.map fun e => (e.2.1, e.1)).lookup x = some c → ∃ y, (c, x, y) ∈ l
  | [], x, c, h => by cases h
  | (d, z, y) :: l, x, c, h => by
    rw [List.map_cons, List.lookup_cons] at h
    split at h
    · rename_i q
      cases h
      rw [eq_of_beq q]
      exact ⟨y, List.mem_cons_self⟩
    · obtain ⟨y', hy⟩ := lk_swap h
      exact ⟨y', List.mem_cons_of_mem _ hy⟩
theorem lk_mem {α : Type} : ∀ {l : List (Nat × α)} {c : Nat} {x : α}, (l.map (·.1)).Nodup → (c, x) ∈ l → l.lookup c = some x
  | (d, y) :: l, c, x, hn, h => by
    rw [List.map_cons] at hn
    have hn' := List.nodup_cons.mp hn
    rw [List.lookup_cons]
    rcases List.mem_cons.mp h with q | q
    · cases q
      simp
    · have : (c == d) = false := by
        rw [beq_eq_false_iff_ne]
        intro z
        exact hn'.1 (by rw [← z]; exact List.mem_map.mpr ⟨(c, x), q, rfl⟩)
      rw [this]
      exact lk_mem hn'.2 q
theorem lk_no {α : Type} : ∀ {l : List (Nat × α)} {c : Nat}, (∀ e ∈ l, e.1 ≠ c) → l.lookup c = none
  | [], c, _ => rfl
  | (d, y) :: l, c, h => by
    rw [List.lookup_cons]
    have : (c == d) = false := by
      rw [beq_eq_false_iff_ne]
      intro z
      exact h (d, y) List.mem_cons_self z.symm
    rw [this]
    exact lk_no fun e he => h e (List.mem_cons_of_mem _ he)
/-- an exception's number: its name, its fields -/
theorem xs_cn (ho : LayOk L) {c : Nat} {x : Str} {l : List Nat} (hm : (c, x, l) ∈ L.xs) : L.cn c = x ∧ L.ft c = l := by
  have e := lk_mem ho.xn hm
  have n1 : L.own.lookup c = none := lk_no fun d hd z => by
    have := ho.ox d hd
    rw [z, e] at this
    cases this
  have n2 : L.flds.lookup c = none := lk_no fun d hd z => by
    have := ho.fx d hd
    rw [z, e] at this
    cases this
  unfold Lay.cn Lay.ft
  rw [n1, n2, e]
  exact ⟨rfl, rfl⟩
theorem own_cn {c : Nat} {x : Str} (hm : L.own.lookup c = some x) : L.cn c = x := by
  unfold Lay.cn
  rw [hm]
/-- the __init__ of an exception with a value, without one: its text -/
def xini (bas : Str) (d : DD) (fl : Option Str) : Bool := match d.body with
  | .Expr (.Call (.Attribute (.Name bn _) ini q2) [.Name s1 _, .Constant (.str _) _ _] [] q5) _ :: r => bn == bas && (ini == ("__init__" : Str) && (q2.endLine == q5.line && (glB d.scope bn && (visB d.scope s1 && (d.scope.names.lookup s1 == some .local && (d.dfl.isEmpty && (match r, fl with
    | [], none => fnScB [s1] [s1] d.scope && plainPar d.params [s1]
    | [.Assign [.Attribute (.Name s2 _) f _] (.Name y _) _], some fl => s2 == s1 && (f == fl && (visB d.scope y && (d.scope.names.lookup y == some .local && (fnScB [s1, y] [s1, y] d.scope && plainPar d.params [s1, y]))))
    | _, _ => false)))))))
  | _ => false
theorem reps_strs {C : CC} {G : Hp} : ∀ l : List Str, RepPs C G (l.map P.str) ((l.map He.Dv.str).map (He.Dv.v K))
  | [] => by simp [RepPs]
  | a :: l => by
    simp only [List.map_cons, RepPs]
    exact ⟨_, _, rfl, by simp only [RepP, He.Dv.v], reps_strs l⟩
theorem vis_nd {sc : Scope} {x : Str} (h : visB sc x = true) : (x == ("__debug__" : Str)) = false ∧ (x == ("__classdict__" : Str)) = false := by
  unfold visB at h
  simp only [Bool.and_eq_true, Bool.not_eq_true'] at h
  exact ⟨h.1.2, h.2⟩
/-- the parameters of such an __init__ -/
def DD.xps (d : DD) : List Str := match d.body with
  | .Expr (.Call _ [.Name s1 _, _] _ _) _ :: r => match r with
    | [.Assign _ (.Name y _) _] => [s1, y]
    | _ => [s1]
  | _ => []
theorem kbn_app {K : Fr} {name qual : Str} {params : Arguments} {body : List Stmt} {scope : Scope} {f : Addr} {fd : FuncData} {ps : List Str} {n : Nat} {ks : List Str} (Fd : FunD K name qual params body scope [] [] f fd) (h : ∀ (kV doc pm : Value) (an : Option Addr) (cdv ct : Value) (us ws : List Value), us.length = n → ws.length = ks.length → bindArgs (PySem.W.fnOf name qual params body scope .none kV doc pm an cdv ct) ⟨us, ks.zip ws⟩ = pure (ps.zip (us ++ ws))) :
    KBn K fd ps n ks (fun us ws => us ++ ws) (fun vs zs => vs ++ zs) := by
  obtain ⟨oc, od, dV, kV, doc, pm, an, cdv, ct, osl, rfl, lk, hcd, hD, hK⟩ := Fd.ex
  rcases hD with ⟨_, rfl⟩ | ⟨e, _⟩
  · exact ⟨fun s us ws X l1 l2 => .of_eq (h kV doc pm an cdv ct us ws l1 l2), fun r1 r2 => r1.append r2⟩
  · exact absurd rfl e
theorem xini_0 {d : DD} {bas : Str} {fd : FuncData} {fI C B : Addr} (h : xini bas d none = true) (Fd : FunD K d.name d.qual d.params d.body d.scope (d.dvs K) [] fI fd) (T : BaseT K B) (O : OexC K C) (hm : mg bas = some (.ref B)) :
    ∃ ps, L2.FnOk Pr w K mg base (L2.CX Pr w) 1 fI fd ps (spX0 C) ∧ Binds K fd ps [] := by
  unfold xini at h
  obtain ⟨ad, name, qual, params, body, scope, dfl⟩ := d
  dsimp only [DD.dvs] at h Fd
  split at h
  · simp only [Bool.and_eq_true, beq_iff_eq, List.isEmpty_iff] at h
    obtain ⟨rfl, rfl, h3, h4, h5, h6, h7, h8⟩ := h
    subst h7
    split at h8
    · simp only [Bool.and_eq_true] at h8
      obtain ⟨oc, od, dV, kV, doc, pm, an, cdv, ct, osl, e, lk, hcd, _, _⟩ := Fd.ex
      have bd := binds_plain Fd h8.2 (fnSc_ok h8.1).nd
      subst e
      unfold glB at h4
      simp only [Bool.and_eq_true, beq_iff_eq, Bool.not_eq_true'] at h4
      exact ⟨_, fn_x0 (k := 0) lk hcd (fnSc_ok h8.1) T O h4.1 hm h4.2 (by simpa using h3) h6 (vis_nd h5).1 (vis_nd h5).2, bd⟩
    · rename_i hh
      cases hh
    · cases h8
  · cases h
theorem xini_1 {d : DD} {bas fl : Str} {fd : FuncData} {fI C B : Addr} (h : xini bas d (some fl) = true) (Fd : FunD K d.name d.qual d.params d.body d.scope (d.dvs K) [] fI fd) (T : BaseT K B) (O : OexC K C) (hm : mg bas = some (.ref B)) (hfl : PySem.W.findIn K (.ref C) fl = some none) :
    ∃ ps, L2.FnOk Pr w K mg base (L2.CX Pr w) 1 fI fd ps (spX1 C fl) ∧ Binds K fd ps [] ∧ ps = d.xps := by
  unfold xini at h
  obtain ⟨ad, name, qual, params, body, scope, dfl⟩ := d
  dsimp only [DD.dvs] at h Fd
  split at h
  · simp only [Bool.and_eq_true, beq_iff_eq, List.isEmpty_iff] at h
    obtain ⟨rfl, rfl, h3, h4, h5, h6, h7, h8⟩ := h
    subst h7
    split at h8
    · rename_i hh
      cases hh
    · rename_i s2 q7 f q8 y q9 qa fl' hh
      cases hh
      simp only [Bool.and_eq_true, beq_iff_eq] at h8
      obtain ⟨rfl, rfl, g3, g4, g5, g6⟩ := h8
      obtain ⟨oc, od, dV, kV, doc, pm, an, cdv, ct, osl, e, lk, hcd, _, _⟩ := Fd.ex
      have bd := binds_plain Fd g6 (fnSc_ok g5).nd
      subst e
      unfold glB at h4
      simp only [Bool.and_eq_true, beq_iff_eq, Bool.not_eq_true'] at h4
      exact ⟨_, fn_x1 (k := 0) lk hcd (fnSc_ok g5) T O hfl h4.1 hm h4.2 (by simpa using h3) h6 g4 (vis_nd h5).1 (vis_nd g3).1 (vis_nd h5).2 (vis_nd g3).2, bd, rfl⟩
    · cases h8
  · cases h
theorem xcl_ok (ho : LayOk L) {c : Nat} (h : xclB L K c = true) : XCl (L.cc K) c := by
  unfold xclB ooB at h
  simp only [Bool.and_eq_true, decide_eq_true_eq, List.all_eq_true, Bool.not_eq_true', beq_eq_false_iff_ne, Bool.or_eq_true, beq_iff_eq] at h
  obtain ⟨⟨⟨⟨⟨⟨⟨⟨⟨⟨⟨h0, h1⟩, h2⟩, h3⟩, h4⟩, h5⟩, h6⟩, h7⟩, h8⟩, h9⟩, h10⟩, h11⟩ := h
  refine ⟨oexB_ok h0, h1, h2, h3, h4, h5, h6, h7, fun c' hc => ?_, fun c' e => ?_⟩
  · obtain ⟨x, hx⟩ := Option.isSome_iff_exists.mp (show (L.own.lookup c').isSome = true from hc)
    show PySem.W.subIn K _ (.ref (He.ga K (L.cn c'))) = _
    rw [own_cn hx]
    exact h8 _ (lk_own hx)
  · have e : He.ga K (L.cn c') = He.ga K (L.cn c) := e
    cases ho1 : L.own.lookup c' with
    | some x =>
      rw [own_cn ho1] at e
      exact absurd e (h10 _ (lk_own ho1))
    | none => cases ho2 : L.xs.lookup c' with
      | some x =>
        have q := lk_own ho2
        rw [(xs_cn ho (x := x.1) (l := x.2) q).1] at e
        rcases h11 _ q with z | z
        · exact z
        · exact absurd e z
      | none =>
        have : L.cn c' = "" := by unfold Lay.cn; rw [ho1, ho2]
        rw [this] at e
        exact absurd e h9
theorem xdn_ok (h : xdnB K = true) : PySem.W.specialIn K (.builtin "object.__class__") "__get__" = some (some (.builtin "getset_descriptor.__get__")) ∧ PySem.W.takesIn K (.builtin "object.__class__") = some true := by
  unfold xdnB ooB at h
  simp only [Bool.and_eq_true, decide_eq_true_eq] at h
  exact h
theorem stat_of (ho : LayOk L) (hl : LookOk L K) (X : K.In h) (G : h.Ns mainGlobals mg) (xd : List (Nat × DD)) (hx : ∀ e ∈ L.xs, ∃ d fd, xd.lookup e.1 = some d ∧ d.ad K = He.ma K (He.ga K e.2.1) "__init__" ∧ xini L.bas d (e.2.2.head?.map L.NM) = true ∧ FunD K d.name d.qual d.params d.body d.scope (d.dvs K) [] (d.ad K) fd ∧ ∀ kn, L.xkn.lookup e.1 = some kn → KBn K fd d.xps 1 [kn] (fun us ws => us ++ ws) (fun vs zs => vs ++ zs)) :
    (ns : base.NoSeer) → (nl : base.NoLimit) → (nd : base.NoDigits) → (tr : Pr.given.tree = none) → Stat (L.cc K) Pr w K mg base L.T L.G0 := by
  intro ns nl nd tr
  refine ⟨?_, ?_, ?_, rfl, ?_, ?_, ?_, ?_, ?_, rfl, ?_, ?_, ?_, ?_, ?_, ?_, ns, nl, nd, tr, ?_, ?_, xdn_ok hl.xdn, ?_⟩
  · refine ⟨fun c hc => ?_, fun c d hc hd hne => ?_⟩
    · obtain ⟨x, hx⟩ := Option.isSome_iff_exists.mp (show (L.own.lookup c).isSome = true from hc)
      show ClsF K (He.ga K (L.cn c))
      rw [own_cn hx]
      exact clsB_ok (hl.own _ (lk_own hx)).2
    · obtain ⟨x, hx⟩ := Option.isSome_iff_exists.mp (show (L.own.lookup c).isSome = true from hc)
      obtain ⟨y, hy⟩ := Option.isSome_iff_exists.mp (show (L.own.lookup d).isSome = true from hd)
      show PySem.W.subIn K (.ref (He.ga K (L.cn c))) (.ref (He.ga K (L.cn d))) = some false ∧ He.ga K (L.cn c) ≠ He.ga K (L.cn d)
      rw [own_cn hx, own_cn hy]
      rcases hl.two _ (lk_own hx) _ (lk_own hy) with z | z
      · exact absurd z hne
      · exact z
  · have at8 : ∀ i, i < 8 → L.NM i = (L.nm.take 8).getD i "" := fun i hi => by
      unfold Lay.NM
      rw [List.getD_eq_getElem?_getD, List.getD_eq_getElem?_getD, List.getElem?_take_of_lt hi]
    rw [ho.tk] at at8
    exact ⟨at8 0 (by decide), at8 1 (by decide), at8 2 (by decide), at8 3 (by decide), at8 4 (by decide), at8 5 (by decide), at8 6 (by decide), at8 7 (by decide)⟩
  · refine ⟨fun c _ g hg f e => nm_inj ho (ft_lt ho hg) e, fun c hc g hg => ?_⟩
    obtain ⟨x, hx⟩ := Option.isSome_iff_exists.mp (show (L.own.lookup c).isSome = true from hc)
    show PySem.W.findIn K (.ref (He.ga K (L.cn c))) (L.NM g) = some none
    rw [own_cn hx]
    exact hl.na _ (lk_own hx) g hg
  · intro x i hi
    obtain ⟨⟨y, j, l⟩, hm, rfl, rfl⟩ := lk_fn (l := L.gcs) hi
    have z := lk_ix (l := L.gcs.map fun e => (e.1, e.2.1, e.2.2.p)) (e := (y, j, l.p)) (by rw [List.map_map]; exact ho.gn) (List.mem_map.mpr ⟨_, hm, rfl⟩)
    rw [List.map_map] at z
    have hg := hl.gcs _ hm
    cases l with
    | txs l =>
      simp only [gcB, Bool.and_eq_true] at hg
      refine ⟨.ref (He.ga K y), _, .tup (l.map P.str), glo_mg X G hg.1, rfl, z, fun G' => ?_⟩
      have t := He.tupB_ok hg.2 G'
      simp only [RepP]
      refine ⟨He.ga K y, _, rfl, t, ?_⟩
      exact reps_strs _
    | num i =>
      simp only [gcB, icB] at hg
      split at hg
      · rename_i j' t e
        have hj := of_decide_eq_true hg
        subst hj
        exact ⟨.int j', .int j' t, .int j', PySem.W.mg_of X G e, ⟨t, rfl⟩, z, fun G' => by simp only [RepP]⟩
      · cases hg
  · intro x hx
    exact PySem.W.mg_none_of X G (hl.free x hx)
  · intro x c hc
    have hm : (c, x) ∈ L.own := by
      have z := lk_str (show (L.own.map fun e => (e.2, e.1)).lookup x = some c from hc)
      obtain ⟨⟨a, b⟩, h1, h2⟩ := List.mem_map.mp z
      cases h2
      exact h1
    show mg x = some (.ref (He.ga K (L.cn c)))
    rw [own_cn (lk_mem ho.on hm)]
    exact glo_mg X G (hl.own _ hm).1
  · intro t ht
    exact kitB_ok (hl.kit t ht)
  · intro f x hf
    have hf : L.nm[f]? = some x := hf
    show L.NM f = x
    unfold Lay.NM
    rw [List.getD_eq_getElem?_getD, hf]
    rfl
  · intro c g f hg e
    exact nm_inj ho (ft_lt ho hg) e
  · intro x c hc
    obtain ⟨l, hm⟩ := lk_swap (l := L.xs) hc
    show mg x = some (.ref (He.ga K (L.cn c)))
    rw [(xs_cn ho hm).1]
    exact glo_mg X G (hl.xs _ hm).1.1.1
  · intro x c hc hf
    obtain ⟨l, hm⟩ := lk_swap (l := L.xs) hc
    have hfl : l = [] := by
      rw [← (xs_cn ho hm).2]
      exact hf
    subst hfl
    obtain ⟨d, fd, _, ha, hi, Fd, hkn⟩ := hx _ hm
    obtain ⟨⟨⟨_, o⟩, iC⟩, tI⟩ := hl.xs _ hm
    have ec : (L.cc K).CA c = He.ga K x := congrArg (He.ga K) (xs_cn ho hm).1
    rw [ha] at Fd
    rw [ec]
    obtain ⟨ps, F0, B⟩ := xini_0 (Pr := Pr) (w := w) (base := base) hi Fd (baseB_ok hl.bb) (oexB_ok o) (glo_mg X G hl.bg)
    exact ⟨_, fd, ps, ⟨oexB_ok o, iC, tI⟩, F0, B⟩
  · intro x c fl hc hf
    obtain ⟨l, hm⟩ := lk_swap (l := L.xs) hc
    have hfl : l = [fl] := by
      rw [← (xs_cn ho hm).2]
      exact hf
    subst hfl
    obtain ⟨d, fd, _, ha, hi, Fd, hkn⟩ := hx _ hm
    obtain ⟨⟨⟨_, o⟩, iC⟩, tI⟩ := hl.xs _ hm
    have ec : (L.cc K).CA c = He.ga K x := congrArg (He.ga K) (xs_cn ho hm).1
    rw [ha] at Fd
    rw [ec]
    have xr := xrdB_ok (hl.xr _ hm)
    obtain ⟨ps, F0, B, _⟩ := xini_1 (Pr := Pr) (w := w) (base := base) hi Fd (baseB_ok hl.bb) (oexB_ok o) (glo_mg X G hl.bg) xr.no
    exact ⟨_, fd, ps, ⟨oexB_ok o, iC, tI⟩, F0, B⟩
  · intro c' c b hb
    have hb : L.exm c' c = some b := hb
    unfold Lay.exm at hb
    split at hb
    · rename_i q
      simp only [Bool.and_eq_true] at q
      obtain ⟨e', he'⟩ := Option.isSome_iff_exists.mp q.1
      obtain ⟨e, he⟩ := Option.isSome_iff_exists.mp q.2
      cases hb
      have z := hl.exm _ (lk_own he') _ (lk_own he)
      show PySem.W.exmOne K (.ref (He.ga K (L.cn c'))) (.ref (He.ga K (L.cn c))) = _
      rw [(xs_cn ho (lk_own he')).1, (xs_cn ho (lk_own he)).1]
      exact z
    · cases hb
  · intro c f hc hf
    obtain ⟨⟨c0, x, l⟩, h1, rfl⟩ := List.mem_map.mp (show c ∈ (L.xs.filter fun e => e.2.2.length == 1).map (·.1) from hc)
    have hm := (List.mem_filter.mp h1).1
    have hfl : l = [f] := by
      rw [← (xs_cn ho hm).2]
      exact hf
    subst hfl
    show XRd K (He.ga K (L.cn c0)) (L.NM f)
    rw [(xs_cn ho hm).1]
    exact xrdB_ok (hl.xr _ hm)
  · intro c hc
    exact xcl_ok ho (hl.xv c (by simpa using (show L.xv.contains c = true from hc)))
  · intro x c fl kn hc hf hn
    obtain ⟨l, hm⟩ := lk_swap (l := L.xs) hc
    have hfl : l = [fl] := by
      rw [← (xs_cn ho hm).2]
      exact hf
    subst hfl
    obtain ⟨d, fd, _, ha, hi, Fd, hkn⟩ := hx _ hm
    obtain ⟨⟨⟨_, o⟩, iC⟩, tI⟩ := hl.xs _ hm
    have ec : (L.cc K).CA c = He.ga K x := congrArg (He.ga K) (xs_cn ho hm).1
    rw [ha] at Fd
    rw [ec]
    have xr := xrdB_ok (hl.xr _ hm)
    obtain ⟨ps, F0, B, rfl⟩ := xini_1 (Pr := Pr) (w := w) (base := base) hi Fd (baseB_ok hl.bb) (oexB_ok o) (glo_mg X G hl.bg) xr.no
    exact ⟨_, fd, _, ⟨oexB_ok o, iC, tI⟩, F0, hkn kn hn⟩
  · intro z ys nos hz
    have b := hl.xis _ (lk_str (show L.xis.lookup z = some (ys, nos) from hz))
    unfold xisB at b
    simp only [Bool.and_eq_true, List.all_eq_true, decide_eq_true_eq] at b
    obtain ⟨⟨b1, b2⟩, b3⟩ := b
    refine ⟨xisV K z, ?_, b2, b3⟩
    unfold xisV
    by_cases e : z = "ValueError"
    · rw [if_pos e] at b1 ⊢
      subst e
      exact Or.inr ⟨rfl, rfl, PySem.W.mg_none_of X G (of_decide_eq_true b1)⟩
    · rw [if_neg e] at b1 ⊢
      exact Or.inl ⟨_, rfl, glo_mg X G b1⟩
end
end RP
end

section
set_option Elab.async false
set_option linter.all false
set_option maxRecDepth 100000
set_option maxHeartbeats 4000000
/-! The entries of the tables, and the law's end. -/
namespace RP
open PySem L2
section
variable {L : Lay} {K : Fr} {Pr : Program} {w : World} {h : Heap} {mg : Str → Option Value} {base : Heap} {k : Nat} {Γ : Tab} {T' : Gs} {N ps : List Str} {ir : Ss} {name qual : Str} {params : Arguments} {body : List Stmt} {scope : Scope} {fd : FuncData} {f : Addr} {dvs : List V}
/-- a def's text is as told -/
structure Txt (T' : Gs) (N ps : List Str) (ir : Ss) (params : Arguments) (body : List Stmt) (scope : Scope) : Prop where
  sc : fnScB N ps scope = true
  ck : chkSs T' ⟨N, scope, fun _ => true, true⟩ ir body = true
  pl : plainPar params ps = true
theorem txt_of {b : Bool} (hb : b = (fnScB N ps scope && chkSs T' ⟨N, scope, fun _ => true, true⟩ ir body && plainPar params ps)) (h : b = true) : Txt T' N ps ir params body scope := by
  subst hb
  simp only [Bool.and_eq_true] at h
  exact ⟨h.1.1, h.1.2, h.2⟩
theorem ent_fn {x : Str} (X : K.In h) (G : h.Ns mainGlobals mg) (st : Stat (L.cc K) Pr w K mg base L.T L.G0) (tb : TabOk (L.cc K) Pr w K mg base k Γ T') (hg : gloB K x = true) (Fd : FunD K name qual params body scope [] [] (gA x K) fd) (t : Txt T' N ps ir params body scope) :
    ∃ u, mg x = some u ∧ PySem.W.keepIn K u = true ∧ Cal (L.cc K) Pr w K mg base (k + 9) u (fnP L.ft Γ N.length ps.length ir) :=
  ⟨_, glo_mg X G hg, Fd.kp, Cal.mono (calP (def_ok Fd t.sc st tb t.ck) (binds_plain Fd t.pl (List.Nodup.sublist (List.take_sublist ps.length N) (fnSc_ok t.sc).nd |> fun z => (fnSc_ok t.sc).pre ▸ z))) (by unfold eqDeep; omega)⟩
theorem ent_ifn {x : Str} (X : K.In h) (G : h.Ns mainGlobals mg) (st : Stat (L.cc K) Pr w K mg base L.T L.G0) (tb : TabOk (L.cc K) Pr w K mg base k Γ T') (hg : gloB K x = true) (Fd : FunD K name qual params body scope [] [] (gA x K) fd) (t : Txt T' N ps ir params body scope) :
    ∃ u, mg x = some u ∧ PySem.W.keepIn K u = true ∧ CalI (L.cc K) Pr w K mg base (k + 9) u (fnI L.ft Γ N.length ps.length ir) :=
  ⟨_, glo_mg X G hg, Fd.kp, CalI.mono (cal_ofI (def_ok Fd t.sc st tb t.ck) (binds_plain Fd t.pl (List.Nodup.sublist (List.take_sublist ps.length N) (fnSc_ok t.sc).nd |> fun z => (fnSc_ok t.sc).pre ▸ z))) (by unfold eqDeep; omega)⟩
/-! ### keywords -/
/-- the law itself -/
theorem sp_law {C : CC} {g : IFn} {S' : Sto} {H : Hp} {a : Addr} {ns : List Int} (hO : Only H) (hS : SqL C.K H a (ns.map V.int)) (hg : g [.p (.scr ns)] [] = .ok (.p (.bl true)) S') : nArg 1 (spI C g) [.ref a] H (fun v _ => v = .bl true) (fun _ _ _ => False) := by
  have hs : Scr C.K H a (ns.map V.int) := by
    rcases hS with (h | h) | h
    · rcases hO a with z | ⟨o, xs, z⟩
      · rw [z] at h
        cases h
      · rw [z] at h
        cases h
    · exact .inl h
    · exact .inr h
  refine ⟨rfl, fun _ => none, ⟨H, [], []⟩, [.p (.scr ns)], ⟨Same.refl _, rfl, fun n x e => by simp at e, fun n c e => by simp at e, fun n m c c' a e => by simp at e, fun a o e => (by cases e), LkOk.nil⟩, ⟨_, [], rfl, ?_, rfl⟩, ?_⟩
  · simp only [RepD, RepP]
    exact ⟨a, rfl, hs⟩
  · rw [hg]
    intro v s' H' _ _ _ r
    simpa only [RepD, RepP] using r

end
open PySem.Spec PyProof.Rows in
/-- a law's call: the heap behind the top, less the script, is the base -/
theorem call_law {Pr : Program} {w : World} {K : PySem.W.Frag} {mg mb : Str → Option Value} {k : Nat} {fa a : Addr} {fd : FuncData} {x : Str} {sp : Sp} {s1 : Shared} {vs : List Value} {ns : List Int}
    (kx : K.In s1.heap) (gx : s1.heap.Ns mainGlobals mg) (bx : s1.heap.Ns builtinsNs mb) (bb : ∀ x : Str, x ≠ "__name__" → mb x = bootBuiltins x) (nl : s1.heap.NoLimit) (ndg : s1.heap.NoDigits) (sr : s1.heap.NoSeer) (gn : s1.gens = #[])
    (ha : s1.heap.get? a = some { cls := .type "list", data := .seq vs.toArray }) (hi : IntsAre vs ns) (hl : ns.length ≤ sizeLine) (hr : Room k callerA)
    (F : ∀ base : Heap, K.In base → base.Ns mainGlobals mg → base.NoSeer → base.NoLimit → base.NoDigits → FnOk Pr w K mg base (L2.CX Pr w) k fa fd [x] sp) (bn : ∀ (s : Shared) (u : Value), BindsTo s fd ⟨[u], []⟩ [(x, u)])
    (hsp : ∀ H : Hp, Only H → SqL K H a (ns.map V.int) → sp [.ref a] H (fun v _ => v = .bl true) fun _ _ _ => False) (hx : ∀ H e s', L2.CX Pr w [] H s1 (fun _ _ _ => False) e s' → False) :
    codeAny (model Pr w) callerA (.call (.ref fa) ⟨[.ref a], []⟩) (fun r s' => r = .ok (.ret (.bool true)) ∧ OldK s1.heap s'.heap ∧ s'.os = s1.os ∧ AllBare s'.gens) s1 := by
  have vals := vals_ints hi
  have key : ∀ H : Hp, Only H → (∀ b, b ≠ a → H b = none) → (∀ o, K.lookup a = some o → H a = none) → SqL K H a (ns.map V.int) → HOk Pr w H s1.heap →
      codeAny (model Pr w) callerA (.call (.ref fa) ⟨[.ref a], []⟩) (fun r s' => r = .ok (.ret (.bool true)) ∧ OldK s1.heap s'.heap ∧ s'.os = s1.os ∧ AllBare s'.gens) s1 := by
    intro H only off own sq hok
    have away : ∀ {b : Addr} {o : Obj}, s1.heap.get? b = some o → o.cls ≠ .type "list" → (hidT s1.heap H).get? b = some o := fun {b o} e n => hidT_get e (off b fun z => by
      subst z
      rw [ha] at e
      cases e
      exact n rfl)
    have dict : ∀ {b : Addr} {m : Str → Option Value}, s1.heap.Ns b m → (hidT s1.heap H).Ns b m := fun {b m} q => by
      obtain ⟨o, es, ep, e, d, r⟩ := q
      refine ⟨o, es, ep, hidT_get e (off b fun z => ?_), d, r⟩
      subst z
      rw [ha] at e
      cases e
      have d' : Data.seq vs.toArray _ = Data.dict es ep := d
      cases d'
    have kin : K.In (hidT s1.heap H) := fun b o e => by
      refine hidT_get (kx b o e) ?_
      by_cases z : b = a
      · subst z
        exact own o e
      · exact off b z
    have lim : (hidT s1.heap H).NoLimit := by
      obtain ⟨mc, q1, q2⟩ := nl
      exact ⟨mc, dict q1, q2⟩
    have dig : (hidT s1.heap H).NoDigits := by
      obtain ⟨mc, q1, q2⟩ := ndg
      exact ⟨mc, dict q1, q2⟩
    have see : (hidT s1.heap H).NoSeer := by
      obtain ⟨m1, p1, p2⟩ := sr.statics
      obtain ⟨m2, p3, p4⟩ := sr.mods
      obtain ⟨m3, p5, p6⟩ := sr.imp
      obtain ⟨m4, bm, ob, p7, p8, p9, p10, p11⟩ := sr.main
      exact ⟨⟨m1, dict p1, p2⟩, ⟨m2, dict p3, p4⟩, ⟨m3, dict p5, p6⟩, ⟨m4, bm, ob, dict p7, p8, away p9 (by rw [p10]; simp), p10, p11⟩⟩
    have ent : Env0 Pr w K mg (hidT s1.heap H) callerA [] s1 H := ⟨rfl, ⟨kin, dict gx, ⟨mb, dict bx, bb⟩, lim⟩, fun _ _ => of_hidT, Nat.le_of_eq (hidT_size _ _), trivial, fun b q => (by have q' : b ∈ ([] : List Addr) := q; cases q'), hok, .of_eq gn⟩
    have go := (F _ kin (dict gx) see lim dig).run callerA [] s1 H ⟨[.ref a], []⟩ [.ref a] [.ref a] _ _ hr ent (bn s1 (.ref a)) (.cons rfl .nil) (hsp H only sq)
    refine codeAny_mono go fun r s' q => ?_
    match r, q with
    | .error e, q => exact (hx H e s' q).elim
    | .ok .next, q => exact q.elim
    | .ok .brk, q => exact q.elim
    | .ok .cont, q => exact q.elim
    | .ok (.ret u), q =>
      obtain ⟨v, H2, hos, bare, un, hok2, rel, e⟩ := q
      have e' : v = .bl true := e
      subst e'
      have eu : u = Value.bool true := rel
      subst eu
      refine ⟨rfl, .of_keep fun b o hb => ?_, hos, bare⟩
      rcases only b with z | ⟨ob, xs, z⟩
      · exact un.keep b o hb z (fun q => by have q' : b ∈ ([] : List Addr) := q; cases q') (by simp)
      · obtain ⟨t1, _⟩ := hok b _ z
        obtain ⟨t2, _⟩ := hok2 b _ (un.frzs b ob _ z)
        rw [hb] at t1
        cases t1
        exact t2
  cases hk : K.lookup a with
  | some o =>
    have e := kx a o hk
    rw [ha] at e
    cases e
    exact key (fun _ => none) (fun _ => .inl rfl) (fun _ _ => rfl) (fun _ _ => rfl) (.inr ⟨_, vs.toArray, _, hk, rfl, rfl, rfl, by rw [List.size_toArray, hi.length]; exact hl, by simpa using vals⟩) fun b u z => nomatch z
  | none =>
    let H0 : Hp := fun b => if b = a then some (.frz { cls := .type "list", data := .seq vs.toArray } (.lst (ns.map V.int))) else none
    have at_ : H0 a = some (.frz { cls := .type "list", data := .seq vs.toArray } (.lst (ns.map V.int))) := if_pos rfl
    have off : ∀ b, b ≠ a → H0 b = none := fun b n => if_neg n
    refine key H0 (fun b => ?_) off (fun o z => by rw [hk] at z; cases z) (.inl (.inr ⟨_, at_⟩)) fun b u z => ?_
    · by_cases q : b = a
      · exact .inr ⟨_, _, by rw [q]; exact at_⟩
      · exact .inl (off b q)
    · by_cases q : b = a
      · subst q
        rw [at_] at z
        cases z
        exact ⟨ha, by rw [List.length_map]; exact hl, vs, _, vals, ha⟩
      · rw [off b q] at z
        cases z
/-- a law's end: what leaves a def depends on the world -/
theorem walk_r {l : PySem.W.OpenLaw} {n k : Nat} {q : Program} {loose : List Str} {XP : (Str → Option Value) → Heap → Prop} {YP : World → Heap → Prop} {d : DefRec} {x : Str}
    (hn : l.most = some n) (hs : n ≤ sizeLine) (hd : d.params.defaults = []) (hr : Room k callerA) (hi : PyProof.Rows.importsNone q = true)
    (F : ∀ (w : World) (mg : Str → Option Value) (fa : Addr) (h : Heap), YP w h → h.Ns mainGlobals mg → h.NoSeer → h.NoLimit → h.NoDigits → mg d.name = some (.ref fa) →
      ∃ (K : PySem.W.Frag) (fd : FuncData) (sp : Sp), K.In h ∧ (∀ (s : Shared) (u : Value), BindsTo s fd ⟨[u], []⟩ [(x, u)]) ∧ (∀ (H : Hp) (a : Addr) (ns : List Int), ns.length ≤ n → Only H → SqL K H a (ns.map V.int) → sp [.ref a] H (fun v _ => v = .bl true) fun _ _ _ => False) ∧
        ∀ base : Heap, K.In base → base.Ns mainGlobals mg → base.NoSeer → base.NoLimit → base.NoDigits → FnOk l.prog w K mg base (L2.CX l.prog w) k fa fd [x] sp) :
    PySem.W.WalkO q loose XP YP l.row.toRowW d [] (fun f vs => PySem.call f vs) := by
  refine Att.attach_call hn hd fun w s0 s1 mg mb fa o pm cd doc a vs ns G Y h1 h2 h3 h4 h5 h6 h7 h8 => ?_
  obtain ⟨K, fd, sp, i1, i2, i3, i4⟩ := F w mg fa _ Y G.T.g (G.T.seer hi) G.T.nolimit G.T.nodigits h4
  exact call_law i1 G.T.g G.T.b G.T.builtins G.T.nolimit G.T.nodigits (G.T.seer hi) h8 h5 h6 (Nat.le_trans h7 hs) hr i4 i2 (fun H z1 z2 => i3 H a ns h7 z1 z2) fun H e s' ⟨_, _, _, _, _, z⟩ => by
    obtain ⟨_, _, _, _, _, _, _, z⟩ := z
    exact z
end RP
end

section
set_option Elab.async false
set_option linter.all false
set_option maxRecDepth 100000
/-! The run of the top, joined of its parts. -/
namespace RP
open PySem L2 PySem.W PySem.Calls PyProof.Rows
theorem runEq_of {r : OpenRow} {q : Program} {n M : Nat} {ex : Frag → Bool} {fn : List DD} {loose : List PySem.Str} {w : World}
    (a : ∀ os : OsState, (HandSHeadRun.endF (HandSHeadRun.stepQ (HandSHeadRun.denQ HandSHeadRun.tabQ) r.prog w) M r.prog w os).map (fun s => HandSHeadRun.looksF r.prog (boot_heap w.params) s.abs) = some true)
    (b : ∀ os : OsState, (HandSHeadRun.endF (HandSHeadRun.stepQ (HandSHeadRun.denQ HandSHeadRun.tabQ) r.prog w) M r.prog w os).map (fun s => HandSHeadRun.seenQ q loose (importedModules r.prog.main.body) (fun s => xlAt q [] s && recOk r.toRowW.records s) s.abs) = some (openGood q loose))
    (c : ∀ os : OsState, (HandSHeadRun.endF (HandSHeadRun.stepQ (HandSHeadRun.denQ HandSHeadRun.tabQ) r.prog w) M r.prog w os).map (fun s => askR n (HandSHeadRun.getT s) ex) = some true)
    (d : ∀ os : OsState, (HandSHeadRun.endF (HandSHeadRun.stepQ (HandSHeadRun.denQ HandSHeadRun.tabQ) r.prog w) M r.prog w os).map (fun s => askR n (HandSHeadRun.getT s) (okB fn)) = some true)
    (e : ∀ os : OsState, (HandSHeadRun.endF (HandSHeadRun.stepQ (HandSHeadRun.denQ HandSHeadRun.tabQ) r.prog w) M r.prog w os).map (fun s => askR n (HandSHeadRun.getT s) (seenL fn)) = some (fn.map DD.told)) :
    HandSHeadRun.RunEq r q (hookR n ex fn) (fun s => obsR n ex fn (HandSHeadRun.getT s)) M loose w := fun os => run_two (a os) (run_two (b os) (run_two (run_and (c os) (d os)) (e os)))
end RP
end

section
set_option Elab.async false
set_option linter.all false
set_option maxRecDepth 100000
set_option maxHeartbeats 4000000
namespace RP
open PySem L2
abbrev ft : FldT := L.ft
/-! ### the defs -/
def i_l_cell : Ss := (.cons (.ret (.ite (.cmp .Lt (.var 1) (.b1 .len (.var 0))) (.sub (.var 0) (.var 1)) (.int 0))) .nil)
def i_l_take : Ss := (.cons (.ifs (.cmp .GtE (.sub (.var 0) (.int 0)) (.bin .Pow (.int 10) (.int 18))) (.cons (.asg (.name 3) (.bin .Mod (.b1 .int (.sub (.var 0) (.int 0))) (.var 1))) (.cons (.seti (.var 0) (.int 0) (.bin .FloorDiv (.sub (.var 0) (.int 0)) (.var 1))) (.cons (.ret (.var 3)) .nil))) .nil) (.cons (.seti (.var 0) (.int 1) (.bin .Add (.sub (.var 0) (.int 1)) (.int 1))) (.cons (.asg (.name 2) (.bin .Mod (.bin .Pow (.b1 .int (.bin .Add (.bin .Add (.bin .Mult (.bin .Add (.sub (.var 0) (.int 0)) (.int 7)) (.int 69069)) (.bin .Mult (.sub (.var 0) (.int 1)) (.int 40692))) (.sub (.var 0) (.int 2)))) (.int 3)) (.int 2147483647))) (.cons (.asg (.name 2) (.bin .Mod (.bin .Pow (.b1 .int (.bin .Add (.var 2) (.bin .Mult (.sub (.var 0) (.int 1)) (.int 17389)))) (.int 3)) (.int 2147483399))) (.cons (.ret (.bin .Mod (.b1 .int (.bin .FloorDiv (.var 2) (.int 64))) (.var 1))) .nil)))))
def i_l_same : Ss := (.cons (.ret (.and (.cmp .Eq (.b1 .rpr (.var 0)) (.b1 .rpr (.var 1))) (.cmp .Eq (.isi (.var 0) .bool) (.isi (.var 1) .bool)))) .nil)
def i_l_kinds : Ss := (.cons (.asg (.name 1) (.lst (.cons (.xis (.var 0) (Str.ofString "BadNumber") [101] [104, 105, 106, 107, 108, 110, 111, 112, 113, 114, 119, 120, 125, 126, 116, 100, 102, 103, 109, 121, 122, 123, 124, 127, 128, 117, 118, 115]) (.cons (.xis (.var 0) (Str.ofString "BadSize") [104] [101, 105, 106, 107, 108, 110, 111, 112, 113, 114, 119, 120, 125, 126, 116, 100, 102, 103, 109, 121, 122, 123, 124, 127, 128, 117, 118, 115]) (.cons (.xis (.var 0) (Str.ofString "BadRoot") [105] [101, 104, 106, 107, 108, 110, 111, 112, 113, 114, 119, 120, 125, 126, 116, 100, 102, 103, 109, 121, 122, 123, 124, 127, 128, 117, 118, 115]) .nil))))) (.cons (.asg (.name 1) (.bin .Add (.var 1) (.lst (.cons (.xis (.var 0) (Str.ofString "BadFee") [106] [101, 104, 105, 107, 108, 110, 111, 112, 113, 114, 119, 120, 125, 126, 116, 100, 102, 103, 109, 121, 122, 123, 124, 127, 128, 117, 118, 115]) (.cons (.xis (.var 0) (Str.ofString "BadGood") [107] [101, 104, 105, 106, 108, 110, 111, 112, 113, 114, 119, 120, 125, 126, 116, 100, 102, 103, 109, 121, 122, 123, 124, 127, 128, 117, 118, 115]) (.cons (.xis (.var 0) (Str.ofString "BadAmount") [108] [101, 104, 105, 106, 107, 110, 111, 112, 113, 114, 119, 120, 125, 126, 116, 100, 102, 103, 109, 121, 122, 123, 124, 127, 128, 117, 118, 115]) .nil)))))) (.cons (.asg (.name 1) (.bin .Add (.var 1) (.lst (.cons (.xis (.var 0) (Str.ofString "NoWay") [110] [101, 104, 105, 106, 107, 108, 111, 112, 113, 114, 119, 120, 125, 126, 116, 100, 102, 103, 109, 121, 122, 123, 124, 127, 128, 117, 118, 115]) (.cons (.xis (.var 0) (Str.ofString "BadName") [111] [101, 104, 105, 106, 107, 108, 110, 112, 113, 114, 119, 120, 125, 126, 116, 100, 102, 103, 109, 121, 122, 123, 124, 127, 128, 117, 118, 115]) (.cons (.xis (.var 0) (Str.ofString "InUse") [112] [101, 104, 105, 106, 107, 108, 110, 111, 113, 114, 119, 120, 125, 126, 116, 100, 102, 103, 109, 121, 122, 123, 124, 127, 128, 117, 118, 115]) .nil)))))) (.cons (.asg (.name 1) (.bin .Add (.var 1) (.lst (.cons (.xis (.var 0) (Str.ofString "NoPosition") [113] [101, 104, 105, 106, 107, 108, 110, 111, 112, 114, 119, 120, 125, 126, 116, 100, 102, 103, 109, 121, 122, 123, 124, 127, 128, 117, 118, 115]) (.cons (.xis (.var 0) (Str.ofString "NoPool") [114] [101, 104, 105, 106, 107, 108, 110, 111, 112, 113, 119, 120, 125, 126, 116, 100, 102, 103, 109, 121, 122, 123, 124, 127, 128, 117, 118, 115]) (.cons (.xis (.var 0) (Str.ofString "BadWeb") [119] [101, 104, 105, 106, 107, 108, 110, 111, 112, 113, 114, 120, 125, 126, 116, 100, 102, 103, 109, 121, 122, 123, 124, 127, 128, 117, 118, 115]) .nil)))))) (.cons (.asg (.name 1) (.bin .Add (.var 1) (.lst (.cons (.xis (.var 0) (Str.ofString "NoGood") [120] [101, 104, 105, 106, 107, 108, 110, 111, 112, 113, 114, 119, 125, 126, 116, 100, 102, 103, 109, 121, 122, 123, 124, 127, 128, 117, 118, 115]) (.cons (.xis (.var 0) (Str.ofString "BadShare") [125] [101, 104, 105, 106, 107, 108, 110, 111, 112, 113, 114, 119, 120, 126, 116, 100, 102, 103, 109, 121, 122, 123, 124, 127, 128, 117, 118, 115]) (.cons (.xis (.var 0) (Str.ofString "BadDeed") [126] [101, 104, 105, 106, 107, 108, 110, 111, 112, 113, 114, 119, 120, 125, 116, 100, 102, 103, 109, 121, 122, 123, 124, 127, 128, 117, 118, 115]) .nil)))))) (.cons (.asg (.name 1) (.bin .Add (.var 1) (.lst (.cons (.xis (.var 0) (Str.ofString "Short") [116] [101, 104, 105, 106, 107, 108, 110, 111, 112, 113, 114, 119, 120, 125, 126, 100, 102, 103, 109, 121, 122, 123, 124, 127, 128, 117, 118, 115]) (.cons (.xis (.var 0) (Str.ofString "ByZero") [100] [101, 104, 105, 106, 107, 108, 110, 111, 112, 113, 114, 119, 120, 125, 126, 116, 102, 103, 109, 121, 122, 123, 124, 127, 128, 117, 118, 115]) (.cons (.xis (.var 0) (Str.ofString "BadText") [102] [101, 104, 105, 106, 107, 108, 110, 111, 112, 113, 114, 119, 120, 125, 126, 116, 100, 103, 109, 121, 122, 123, 124, 127, 128, 117, 118, 115]) .nil)))))) (.cons (.asg (.name 1) (.bin .Add (.var 1) (.lst (.cons (.xis (.var 0) (Str.ofString "BadRange") [103] [101, 104, 105, 106, 107, 108, 110, 111, 112, 113, 114, 119, 120, 125, 126, 116, 100, 102, 109, 121, 122, 123, 124, 127, 128, 117, 118, 115]) (.cons (.xis (.var 0) (Str.ofString "Lacking") [109] [101, 104, 105, 106, 107, 108, 110, 111, 112, 113, 114, 119, 120, 125, 126, 116, 100, 102, 103, 121, 122, 123, 124, 127, 128, 117, 118, 115]) (.cons (.xis (.var 0) (Str.ofString "BadRoute") [121] [101, 104, 105, 106, 107, 108, 110, 111, 112, 113, 114, 119, 120, 125, 126, 116, 100, 102, 103, 109, 122, 123, 124, 127, 128, 117, 118, 115]) .nil)))))) (.cons (.asg (.name 1) (.bin .Add (.var 1) (.lst (.cons (.xis (.var 0) (Str.ofString "TooMuch") [122] [101, 104, 105, 106, 107, 108, 110, 111, 112, 113, 114, 119, 120, 125, 126, 116, 100, 102, 103, 109, 121, 123, 124, 127, 128, 117, 118, 115]) (.cons (.xis (.var 0) (Str.ofString "UnlikeFees") [123] [101, 104, 105, 106, 107, 108, 110, 111, 112, 113, 114, 119, 120, 125, 126, 116, 100, 102, 103, 109, 121, 122, 124, 127, 128, 117, 118, 115]) (.cons (.xis (.var 0) (Str.ofString "BadPrices") [124] [101, 104, 105, 106, 107, 108, 110, 111, 112, 113, 114, 119, 120, 125, 126, 116, 100, 102, 103, 109, 121, 122, 123, 127, 128, 117, 118, 115]) .nil)))))) (.cons (.asg (.name 1) (.bin .Add (.var 1) (.lst (.cons (.xis (.var 0) (Str.ofString "BadSplit") [127] [101, 104, 105, 106, 107, 108, 110, 111, 112, 113, 114, 119, 120, 125, 126, 116, 100, 102, 103, 109, 121, 122, 123, 124, 128, 117, 118, 115]) (.cons (.xis (.var 0) (Str.ofString "BadRing") [128] [101, 104, 105, 106, 107, 108, 110, 111, 112, 113, 114, 119, 120, 125, 126, 116, 100, 102, 103, 109, 121, 122, 123, 124, 127, 117, 118, 115]) (.cons (.xis (.var 0) (Str.ofString "NothingToUndo") [117] [101, 104, 105, 106, 107, 108, 110, 111, 112, 113, 114, 119, 120, 125, 126, 116, 100, 102, 103, 109, 121, 122, 123, 124, 127, 128, 118, 115]) .nil)))))) (.cons (.asg (.name 1) (.bin .Add (.var 1) (.lst (.cons (.xis (.var 0) (Str.ofString "NothingToRedo") [118] [101, 104, 105, 106, 107, 108, 110, 111, 112, 113, 114, 119, 120, 125, 126, 116, 100, 102, 103, 109, 121, 122, 123, 124, 127, 128, 117, 115]) (.cons (.xis (.var 0) (Str.ofString "BadLine") [115] [101, 104, 105, 106, 107, 108, 110, 111, 112, 113, 114, 119, 120, 125, 126, 116, 100, 102, 103, 109, 121, 122, 123, 124, 127, 128, 117, 118]) .nil))))) (.cons (.ret (.b1 .len (.comp false (.var 2) (.name 2) (.seq (.var 1)) true (.var 2)))) .nil)))))))))))
def i_l_box : Ss := (.cons (.ret (.newl (.cons (.b1 .abs (.b1 .int (.call 45 (.cons (.var 0) (.cons (.var 1) .nil))))) (.cons (.int 0) (.cons (.bin .Add (.bin .Mult (.int 40503) (.var 1)) (.int 911)) .nil))))) .nil)
def i_l_bases : Ss := (.cons (.asg (.name 0) (.lst (.cons (.xn1 101 (.str (Str.ofString "x"))) (.cons (.xn1 104 (.str (Str.ofString "x"))) (.cons (.xn1 105 (.str (Str.ofString "x"))) (.cons (.xn1 106 (.str (Str.ofString "x"))) (.cons (.xn1 107 (.str (Str.ofString "x"))) (.cons (.xn1 108 (.str (Str.ofString "x"))) .nil)))))))) (.cons (.asg (.name 0) (.bin .Add (.var 0) (.lst (.cons (.xn1 110 (.str (Str.ofString "x"))) (.cons (.xn1 111 (.str (Str.ofString "x"))) (.cons (.xn1 112 (.str (Str.ofString "x"))) (.cons (.xn1 113 (.str (Str.ofString "x"))) (.cons (.xn1 114 (.str (Str.ofString "x"))) (.cons (.xn1 119 (.str (Str.ofString "x"))) .nil))))))))) (.cons (.asg (.name 0) (.bin .Add (.var 0) (.lst (.cons (.xn1 120 (.str (Str.ofString "x"))) (.cons (.xn1 125 (.str (Str.ofString "x"))) (.cons (.xn1 126 (.str (Str.ofString "x"))) (.cons (.xn1 116 (.str (Str.ofString "x"))) (.cons (.xn0 100) (.cons (.xn0 102) .nil))))))))) (.cons (.asg (.name 0) (.bin .Add (.var 0) (.lst (.cons (.xn0 103) (.cons (.xn0 109) (.cons (.xn0 121) (.cons (.xn0 122) (.cons (.xn0 123) (.cons (.xn0 124) .nil))))))))) (.cons (.asg (.name 0) (.bin .Add (.var 0) (.lst (.cons (.xn0 127) (.cons (.xn0 128) (.cons (.xn0 117) (.cons (.xn0 118) (.cons (.xn1 115 (.int 1)) .nil)))))))) (.cons (.asg (.name 1) (.comp false (.var 2) (.name 2) (.seq (.var 0)) true (.or (.not (.xis (.var 2) (Str.ofString "PoolError") [101, 104, 105, 106, 107, 108, 110, 111, 112, 113, 114, 119, 120, 125, 126, 116, 100, 102, 103, 109, 121, 122, 123, 124, 127, 128, 117, 118, 115] [])) (.not (.xis (.var 2) (Str.ofString "ValueError") [101, 104, 105, 106, 107, 108, 110, 111, 112, 113, 114, 119, 120, 125, 126, 116, 100, 102, 103, 109, 121, 122, 123, 124, 127, 128, 117, 118, 115] []))))) (.cons (.ret (.and (.cmp .Eq (.var 1) (.lst .nil)) (.cmp .Eq (.comp false (.var 2) (.name 2) (.seq (.var 0)) true (.cmp .NotEq (.call 242 (.cons (.var 2) .nil)) (.int 1))) (.lst .nil)))) .nil)))))))
def b_law_0 : Ss := (.cons (.asg (.name 7) (.ite (.cmp .Eq (.bin .Mod (.var 6) (.int 2)) (.int 0)) (.var 2) (.var 3))) (.cons (.ifs (.or (.not (.call 114 (.cons (.sub (.var 4) (.var 6)) (.cons (.var 7) .nil)))) (.not (.call 114 (.cons (.sub (.var 5) (.var 6)) (.cons (.var 7) .nil))))) (.cons (.ret (.bl false)) .nil) .nil) .nil))
def i_law : Ss := (.cons (.asg (.name 1) (.icall 13 (.cons (.var 0) (.cons (.int 0) .nil)))) (.cons (.asg (.name 2) (.sub (.lst (.cons (.str (Str.ofString "p")) (.cons (.int 0) (.cons .non (.cons (.neg (.int 3)) (.cons (.tup (.cons (.int 1) (.cons (.int 2) .nil))) (.cons (.lst (.cons (.str (Str.ofString "x")) .nil)) (.cons (.bl true) .nil)))))))) (.icall 1 (.cons (.var 1) (.cons (.int 7) .nil))))) (.cons (.asg (.name 3) (.sub (.lst (.cons (.dsp [(Str.ofString "k")] [P.int 1]) (.cons (.bin .Pow (.int 10) (.int 30)) (.cons (.str (Str.ofString "")) (.cons (.tup (.cons (.str (Str.ofString "q")) .nil)) (.cons (.bl false) .nil)))))) (.icall 1 (.cons (.var 1) (.cons (.int 5) .nil))))) (.cons (.asg (.name 4) (.lst (.cons (.xget (.xn1 101 (.var 2)) 19) (.cons (.xget (.xn1 104 (.var 3)) 19) (.cons (.xget (.xn1 105 (.var 2)) 19) (.cons (.xget (.xn1 106 (.var 3)) 19) (.cons (.xget (.xn1 107 (.var 2)) 19) .nil))))))) (.cons (.asg (.name 4) (.bin .Add (.var 4) (.lst (.cons (.xget (.xn1 108 (.var 3)) 19) (.cons (.xget (.xn1 110 (.var 2)) 19) (.cons (.xget (.xn1 111 (.var 3)) 19) (.cons (.xget (.xn1 112 (.var 2)) 19) (.cons (.xget (.xn1 113 (.var 3)) 19) .nil)))))))) (.cons (.asg (.name 4) (.bin .Add (.var 4) (.lst (.cons (.xget (.xn1 114 (.var 2)) 19) (.cons (.xget (.xn1 119 (.var 3)) 19) (.cons (.xget (.xn1 120 (.var 2)) 19) (.cons (.xget (.xn1 125 (.var 3)) 19) (.cons (.xget (.xn1 126 (.var 2)) 19) .nil)))))))) (.cons (.asg (.name 4) (.bin .Add (.var 4) (.lst (.cons (.xget (.xn1 116 (.var 3)) 19) .nil)))) (.cons (.asg (.name 5) (.lst (.cons (.xget (.xnk 101 (.var 2)) 19) (.cons (.xget (.xnk 104 (.var 3)) 19) (.cons (.xget (.xnk 105 (.var 2)) 19) (.cons (.xget (.xnk 106 (.var 3)) 19) .nil)))))) (.cons (.asg (.name 5) (.bin .Add (.var 5) (.lst (.cons (.xget (.xnk 107 (.var 2)) 19) (.cons (.xget (.xnk 108 (.var 3)) 19) (.cons (.xget (.xnk 110 (.var 2)) 19) (.cons (.xget (.xnk 111 (.var 3)) 19) .nil))))))) (.cons (.asg (.name 5) (.bin .Add (.var 5) (.lst (.cons (.xget (.xnk 112 (.var 2)) 19) (.cons (.xget (.xnk 113 (.var 3)) 19) (.cons (.xget (.xnk 114 (.var 2)) 19) (.cons (.xget (.xnk 119 (.var 3)) 19) .nil))))))) (.cons (.asg (.name 5) (.bin .Add (.var 5) (.lst (.cons (.xget (.xnk 120 (.var 2)) 19) (.cons (.xget (.xnk 125 (.var 3)) 19) (.cons (.xget (.xnk 126 (.var 2)) 19) (.cons (.xget (.xnk 116 (.var 3)) 19) .nil))))))) (.cons (.for_ (.name 6) (.rng1 (.int 16)) b_law_0) (.cons (.ifs (.or (.not (.call 114 (.cons (.xget (.xn1 115 (.var 2)) 65) (.cons (.var 2) .nil)))) (.not (.call 114 (.cons (.xget (.xnk 115 (.var 3)) 65) (.cons (.var 3) .nil))))) (.cons (.ret (.bl false)) .nil) .nil) (.cons (.ret (.call 241 .nil)) .nil))))))))))))))
/-! ### the tables -/
def fs0 : List (Str × Nat × PFn) := []
def is0 : List (Str × Nat × IFn) := []
def ms0 : List MEnt := []
def ps0 : List MEnt := []
def ks0 : List KEnt := []
def js0 : List IEnt := []
def cs0 : List IEnt := []
def ds0 : List CEnt := []
def g0 : Tab := tabOf fs0 is0 ms0 ps0 L.G0 ks0 js0 cs0 ds0
def t0 : Gs := namesOf L.T fs0 is0 ks0 cs0 ds0
def f_l_cell : PFn := fnP ft g0 2 2 i_l_cell
def f_l_take : IFn := fnI ft g0 4 2 i_l_take
def f_l_same : PFn := fnP ft g0 2 2 i_l_same
def f_l_kinds : PFn := fnP ft g0 3 1 i_l_kinds
def fs1 : List (Str × Nat × PFn) := [((Str.ofString "_law_cell"), 45, f_l_cell), ((Str.ofString "_law_same"), 114, f_l_same), ((Str.ofString "_law_kinds"), 242, f_l_kinds)]
def is1 : List (Str × Nat × IFn) := [((Str.ofString "_law_take"), 1, f_l_take)]
def ms1 : List MEnt := []
def ps1 : List MEnt := []
def ks1 : List KEnt := []
def js1 : List IEnt := []
def cs1 : List IEnt := []
def ds1 : List CEnt := []
def g1 : Tab := tabOf fs1 is1 ms1 ps1 L.G0 ks1 js1 cs1 ds1
def t1 : Gs := namesOf L.T fs1 is1 ks1 cs1 ds1
def f_l_box : IFn := fnI ft g1 2 2 i_l_box
def f_l_bases : PFn := fnP ft g1 3 0 i_l_bases
def fs2 : List (Str × Nat × PFn) := [((Str.ofString "_law_cell"), 45, f_l_cell), ((Str.ofString "_law_same"), 114, f_l_same), ((Str.ofString "_law_kinds"), 242, f_l_kinds), ((Str.ofString "_law_bases"), 241, f_l_bases)]
def is2 : List (Str × Nat × IFn) := [((Str.ofString "_law_take"), 1, f_l_take), ((Str.ofString "_law_box"), 13, f_l_box)]
def ms2 : List MEnt := []
def ps2 : List MEnt := []
def ks2 : List KEnt := []
def js2 : List IEnt := []
def cs2 : List IEnt := []
def ds2 : List CEnt := []
def g2 : Tab := tabOf fs2 is2 ms2 ps2 L.G0 ks2 js2 cs2 ds2
def t2 : Gs := namesOf L.T fs2 is2 ks2 cs2 ds2
/-- the law as a function of the script -/
def lawR (ns : List Int) : RE D := runI g2 ft 8 i_law [.p (.scr ns)] []
/-! ### look-ups -/
@[simp] theorem lf_1_45 : g1.fns.lookup 45 = some f_l_cell := rfl
@[simp] theorem lf_1_242 : g1.fns.lookup 242 = some f_l_kinds := rfl
@[simp] theorem lf_2_241 : g2.fns.lookup 241 = some f_l_bases := rfl
@[simp] theorem lf_2_13 : g2.ifns.lookup 13 = some f_l_box := rfl
@[simp] theorem lf_2_114 : g2.fns.lookup 114 = some f_l_same := rfl
@[simp] theorem lf_2_1 : g2.ifns.lookup 1 = some f_l_take := rfl
end RP
end

section
set_option Elab.async false
set_option linter.all false
set_option maxRecDepth 100000
set_option maxHeartbeats 4000000
namespace RP
open PySem L2
def n_l_cell : List Str := [(Str.ofString "_law_script"), (Str.ofString "_law_k")]
def p_l_cell : List Str := [(Str.ofString "_law_script"), (Str.ofString "_law_k")]
theorem c_l_cell : (fnScB n_l_cell p_l_cell (defScope (top 32)) && chkSs t0 ⟨n_l_cell, defScope (top 32), fun _ => true, true⟩ i_l_cell (defBody (top 32)) && plainPar (defArgs (top 32)) p_l_cell) = true := by decide +kernel
def n_l_take : List Str := [(Str.ofString "_law_box_here"), (Str.ofString "_law_many"), (Str.ofString "_law_mixed"), (Str.ofString "_law_digit")]
def p_l_take : List Str := [(Str.ofString "_law_box_here"), (Str.ofString "_law_many")]
theorem c_l_take : (fnScB n_l_take p_l_take (defScope (top 34)) && chkSs t0 ⟨n_l_take, defScope (top 34), fun _ => true, true⟩ i_l_take (defBody (top 34)) && plainPar (defArgs (top 34)) p_l_take) = true := by decide +kernel
def n_l_same : List Str := [(Str.ofString "_law_one"), (Str.ofString "_law_other")]
def p_l_same : List Str := [(Str.ofString "_law_one"), (Str.ofString "_law_other")]
theorem c_l_same : (fnScB n_l_same p_l_same (defScope (top 35)) && chkSs t0 ⟨n_l_same, defScope (top 35), fun _ => true, true⟩ i_l_same (defBody (top 35)) && plainPar (defArgs (top 35)) p_l_same) = true := by decide +kernel
def n_l_kinds : List Str := [(Str.ofString "_law_e"), (Str.ofString "_law_found"), (Str.ofString "_law_bit")]
def p_l_kinds : List Str := [(Str.ofString "_law_e")]
theorem c_l_kinds : (fnScB n_l_kinds p_l_kinds (defScope (top 36)) && chkSs t0 ⟨n_l_kinds, defScope (top 36), fun _ => true, true⟩ i_l_kinds (defBody (top 36)) && plainPar (defArgs (top 36)) p_l_kinds) = true := by decide +kernel
def n_l_box : List Str := [(Str.ofString "_law_script"), (Str.ofString "_law_k")]
def p_l_box : List Str := [(Str.ofString "_law_script"), (Str.ofString "_law_k")]
theorem c_l_box : (fnScB n_l_box p_l_box (defScope (top 33)) && chkSs t1 ⟨n_l_box, defScope (top 33), fun _ => true, true⟩ i_l_box (defBody (top 33)) && plainPar (defArgs (top 33)) p_l_box) = true := by decide +kernel
def n_l_bases : List Str := [(Str.ofString "_law_made"), (Str.ofString "_law_bad"), (Str.ofString "_law_e")]
def p_l_bases : List Str := []
theorem c_l_bases : (fnScB n_l_bases p_l_bases (defScope (top 37)) && chkSs t1 ⟨n_l_bases, defScope (top 37), fun _ => true, true⟩ i_l_bases (defBody (top 37)) && plainPar (defArgs (top 37)) p_l_bases) = true := by decide +kernel
def n_law : List Str := [(Str.ofString "_law_script"), (Str.ofString "_law_box_here"), (Str.ofString "_law_a"), (Str.ofString "_law_b"), (Str.ofString "_law_kept"), (Str.ofString "_law_more"), (Str.ofString "_law_k"), (Str.ofString "_law_passed")]
def p_law : List Str := [(Str.ofString "_law_script")]
theorem c_law : (fnScB n_law p_law (defScope (top 38)) && chkSs t2 ⟨n_law, defScope (top 38), fun _ => true, true⟩ i_law (defBody (top 38)) && plainPar (defArgs (top 38)) p_law) = true := by decide +kernel
theorem cx_ByZero : xini "PoolError" dx_ByZero none = true := by decide +kernel
theorem cx_BadNumber : xini "PoolError" dx_BadNumber (some (Str.ofString "given")) = true := by decide +kernel
theorem cx_BadText : xini "PoolError" dx_BadText none = true := by decide +kernel
theorem cx_BadRange : xini "PoolError" dx_BadRange none = true := by decide +kernel
theorem cx_BadSize : xini "PoolError" dx_BadSize (some (Str.ofString "given")) = true := by decide +kernel
theorem cx_BadRoot : xini "PoolError" dx_BadRoot (some (Str.ofString "given")) = true := by decide +kernel
theorem cx_BadFee : xini "PoolError" dx_BadFee (some (Str.ofString "given")) = true := by decide +kernel
theorem cx_BadGood : xini "PoolError" dx_BadGood (some (Str.ofString "given")) = true := by decide +kernel
theorem cx_BadAmount : xini "PoolError" dx_BadAmount (some (Str.ofString "given")) = true := by decide +kernel
theorem cx_Lacking : xini "PoolError" dx_Lacking none = true := by decide +kernel
theorem cx_NoWay : xini "PoolError" dx_NoWay (some (Str.ofString "given")) = true := by decide +kernel
theorem cx_BadName : xini "PoolError" dx_BadName (some (Str.ofString "given")) = true := by decide +kernel
theorem cx_InUse : xini "PoolError" dx_InUse (some (Str.ofString "given")) = true := by decide +kernel
theorem cx_NoPosition : xini "PoolError" dx_NoPosition (some (Str.ofString "given")) = true := by decide +kernel
theorem cx_NoPool : xini "PoolError" dx_NoPool (some (Str.ofString "given")) = true := by decide +kernel
theorem cx_BadLine : xini "PoolError" dx_BadLine (some (Str.ofString "line")) = true := by decide +kernel
theorem cx_Short : xini "PoolError" dx_Short (some (Str.ofString "given")) = true := by decide +kernel
theorem cx_NothingToUndo : xini "PoolError" dx_NothingToUndo none = true := by decide +kernel
theorem cx_NothingToRedo : xini "PoolError" dx_NothingToRedo none = true := by decide +kernel
theorem cx_BadWeb : xini "PoolError" dx_BadWeb (some (Str.ofString "given")) = true := by decide +kernel
theorem cx_NoGood : xini "PoolError" dx_NoGood (some (Str.ofString "given")) = true := by decide +kernel
theorem cx_BadRoute : xini "PoolError" dx_BadRoute none = true := by decide +kernel
theorem cx_TooMuch : xini "PoolError" dx_TooMuch none = true := by decide +kernel
theorem cx_UnlikeFees : xini "PoolError" dx_UnlikeFees none = true := by decide +kernel
theorem cx_BadPrices : xini "PoolError" dx_BadPrices none = true := by decide +kernel
theorem cx_BadShare : xini "PoolError" dx_BadShare (some (Str.ofString "given")) = true := by decide +kernel
theorem cx_BadDeed : xini "PoolError" dx_BadDeed (some (Str.ofString "given")) = true := by decide +kernel
theorem cx_BadSplit : xini "PoolError" dx_BadSplit none = true := by decide +kernel
theorem cx_BadRing : xini "PoolError" dx_BadRing none = true := by decide +kernel
def xd : List (Nat × DD) := [(100, dx_ByZero), (101, dx_BadNumber), (102, dx_BadText), (103, dx_BadRange), (104, dx_BadSize), (105, dx_BadRoot), (106, dx_BadFee), (107, dx_BadGood), (108, dx_BadAmount), (109, dx_Lacking), (110, dx_NoWay), (111, dx_BadName), (112, dx_InUse), (113, dx_NoPosition), (114, dx_NoPool), (115, dx_BadLine), (116, dx_Short), (117, dx_NothingToUndo), (118, dx_NothingToRedo), (119, dx_BadWeb), (120, dx_NoGood), (121, dx_BadRoute), (122, dx_TooMuch), (123, dx_UnlikeFees), (124, dx_BadPrices), (125, dx_BadShare), (126, dx_BadDeed), (127, dx_BadSplit), (128, dx_BadRing)]
theorem lay : LayOk L := lay_ok (by decide +kernel)
section
variable {Pr : Program} {w : World} {K : Fr} {mg : Str → Option Value} {base : Heap}
structure Have (Pr : Program) (K : Fr) (h : Heap) (mg : Str → Option Value) : Prop where
  X : K.In h
  G : h.Ns mainGlobals mg
  c : lookR L.look fn K = (true, fn.map DD.told)
  ns : h.NoSeer
  nl : h.NoLimit
  nd : h.NoDigits
  tr : Pr.given.tree = none
theorem st_of (a : Have Pr K base mg) : Stat (L.cc K) Pr w K mg base L.T L.G0 := by
  refine stat_of lay (look_ok (look_ex a.c)) a.X a.G xd (fun e he => ?_) a.ns a.nl a.nd a.tr
  have he : e ∈ [(100, (Str.ofString "ByZero"), ([] : List Nat)), (101, (Str.ofString "BadNumber"), ([19] : List Nat)), (102, (Str.ofString "BadText"), ([] : List Nat)), (103, (Str.ofString "BadRange"), ([] : List Nat)), (104, (Str.ofString "BadSize"), ([19] : List Nat)), (105, (Str.ofString "BadRoot"), ([19] : List Nat)), (106, (Str.ofString "BadFee"), ([19] : List Nat)), (107, (Str.ofString "BadGood"), ([19] : List Nat)), (108, (Str.ofString "BadAmount"), ([19] : List Nat)), (109, (Str.ofString "Lacking"), ([] : List Nat)), (110, (Str.ofString "NoWay"), ([19] : List Nat)), (111, (Str.ofString "BadName"), ([19] : List Nat)), (112, (Str.ofString "InUse"), ([19] : List Nat)), (113, (Str.ofString "NoPosition"), ([19] : List Nat)), (114, (Str.ofString "NoPool"), ([19] : List Nat)), (115, (Str.ofString "BadLine"), ([65] : List Nat)), (116, (Str.ofString "Short"), ([19] : List Nat)), (117, (Str.ofString "NothingToUndo"), ([] : List Nat)), (118, (Str.ofString "NothingToRedo"), ([] : List Nat)), (119, (Str.ofString "BadWeb"), ([19] : List Nat)), (120, (Str.ofString "NoGood"), ([19] : List Nat)), (121, (Str.ofString "BadRoute"), ([] : List Nat)), (122, (Str.ofString "TooMuch"), ([] : List Nat)), (123, (Str.ofString "UnlikeFees"), ([] : List Nat)), (124, (Str.ofString "BadPrices"), ([] : List Nat)), (125, (Str.ofString "BadShare"), ([19] : List Nat)), (126, (Str.ofString "BadDeed"), ([19] : List Nat)), (127, (Str.ofString "BadSplit"), ([] : List Nat)), (128, (Str.ofString "BadRing"), ([] : List Nat))] := he
  simp only [List.mem_cons, List.not_mem_nil, or_false] at he
  rcases he with rfl | rfl | rfl | rfl | rfl | rfl | rfl | rfl | rfl | rfl | rfl | rfl | rfl | rfl | rfl | rfl | rfl | rfl | rfl | rfl | rfl | rfl | rfl | rfl | rfl | rfl | rfl | rfl | rfl
  · obtain ⟨fd, F⟩ := look_fn a.c (d := dx_ByZero) (List.mem_of_getElem? (i := 7) rfl)
    exact ⟨dx_ByZero, fd, rfl, rfl, cx_ByZero, F, (fun kn h => by cases h)⟩
  · obtain ⟨fd, F⟩ := look_fn a.c (d := dx_BadNumber) (List.mem_of_getElem? (i := 8) rfl)
    exact ⟨dx_BadNumber, fd, rfl, rfl, cx_BadNumber, F, (fun kn h => by cases h; exact kbn_app F (fun _ _ _ _ _ _ us ws h1 h2 => match us, ws, h1, h2 with | [_], [_], _, _ => rfl))⟩
  · obtain ⟨fd, F⟩ := look_fn a.c (d := dx_BadText) (List.mem_of_getElem? (i := 9) rfl)
    exact ⟨dx_BadText, fd, rfl, rfl, cx_BadText, F, (fun kn h => by cases h)⟩
  · obtain ⟨fd, F⟩ := look_fn a.c (d := dx_BadRange) (List.mem_of_getElem? (i := 10) rfl)
    exact ⟨dx_BadRange, fd, rfl, rfl, cx_BadRange, F, (fun kn h => by cases h)⟩
  · obtain ⟨fd, F⟩ := look_fn a.c (d := dx_BadSize) (List.mem_of_getElem? (i := 11) rfl)
    exact ⟨dx_BadSize, fd, rfl, rfl, cx_BadSize, F, (fun kn h => by cases h; exact kbn_app F (fun _ _ _ _ _ _ us ws h1 h2 => match us, ws, h1, h2 with | [_], [_], _, _ => rfl))⟩
  · obtain ⟨fd, F⟩ := look_fn a.c (d := dx_BadRoot) (List.mem_of_getElem? (i := 12) rfl)
    exact ⟨dx_BadRoot, fd, rfl, rfl, cx_BadRoot, F, (fun kn h => by cases h; exact kbn_app F (fun _ _ _ _ _ _ us ws h1 h2 => match us, ws, h1, h2 with | [_], [_], _, _ => rfl))⟩
  · obtain ⟨fd, F⟩ := look_fn a.c (d := dx_BadFee) (List.mem_of_getElem? (i := 13) rfl)
    exact ⟨dx_BadFee, fd, rfl, rfl, cx_BadFee, F, (fun kn h => by cases h; exact kbn_app F (fun _ _ _ _ _ _ us ws h1 h2 => match us, ws, h1, h2 with | [_], [_], _, _ => rfl))⟩
  · obtain ⟨fd, F⟩ := look_fn a.c (d := dx_BadGood) (List.mem_of_getElem? (i := 14) rfl)
    exact ⟨dx_BadGood, fd, rfl, rfl, cx_BadGood, F, (fun kn h => by cases h; exact kbn_app F (fun _ _ _ _ _ _ us ws h1 h2 => match us, ws, h1, h2 with | [_], [_], _, _ => rfl))⟩
  · obtain ⟨fd, F⟩ := look_fn a.c (d := dx_BadAmount) (List.mem_of_getElem? (i := 15) rfl)
    exact ⟨dx_BadAmount, fd, rfl, rfl, cx_BadAmount, F, (fun kn h => by cases h; exact kbn_app F (fun _ _ _ _ _ _ us ws h1 h2 => match us, ws, h1, h2 with | [_], [_], _, _ => rfl))⟩
  · obtain ⟨fd, F⟩ := look_fn a.c (d := dx_Lacking) (List.mem_of_getElem? (i := 16) rfl)
    exact ⟨dx_Lacking, fd, rfl, rfl, cx_Lacking, F, (fun kn h => by cases h)⟩
  · obtain ⟨fd, F⟩ := look_fn a.c (d := dx_NoWay) (List.mem_of_getElem? (i := 17) rfl)
    exact ⟨dx_NoWay, fd, rfl, rfl, cx_NoWay, F, (fun kn h => by cases h; exact kbn_app F (fun _ _ _ _ _ _ us ws h1 h2 => match us, ws, h1, h2 with | [_], [_], _, _ => rfl))⟩
  · obtain ⟨fd, F⟩ := look_fn a.c (d := dx_BadName) (List.mem_of_getElem? (i := 18) rfl)
    exact ⟨dx_BadName, fd, rfl, rfl, cx_BadName, F, (fun kn h => by cases h; exact kbn_app F (fun _ _ _ _ _ _ us ws h1 h2 => match us, ws, h1, h2 with | [_], [_], _, _ => rfl))⟩
  · obtain ⟨fd, F⟩ := look_fn a.c (d := dx_InUse) (List.mem_of_getElem? (i := 19) rfl)
    exact ⟨dx_InUse, fd, rfl, rfl, cx_InUse, F, (fun kn h => by cases h; exact kbn_app F (fun _ _ _ _ _ _ us ws h1 h2 => match us, ws, h1, h2 with | [_], [_], _, _ => rfl))⟩
  · obtain ⟨fd, F⟩ := look_fn a.c (d := dx_NoPosition) (List.mem_of_getElem? (i := 20) rfl)
    exact ⟨dx_NoPosition, fd, rfl, rfl, cx_NoPosition, F, (fun kn h => by cases h; exact kbn_app F (fun _ _ _ _ _ _ us ws h1 h2 => match us, ws, h1, h2 with | [_], [_], _, _ => rfl))⟩
  · obtain ⟨fd, F⟩ := look_fn a.c (d := dx_NoPool) (List.mem_of_getElem? (i := 21) rfl)
    exact ⟨dx_NoPool, fd, rfl, rfl, cx_NoPool, F, (fun kn h => by cases h; exact kbn_app F (fun _ _ _ _ _ _ us ws h1 h2 => match us, ws, h1, h2 with | [_], [_], _, _ => rfl))⟩
  · obtain ⟨fd, F⟩ := look_fn a.c (d := dx_BadLine) (List.mem_of_getElem? (i := 22) rfl)
    exact ⟨dx_BadLine, fd, rfl, rfl, cx_BadLine, F, (fun kn h => by cases h; exact kbn_app F (fun _ _ _ _ _ _ us ws h1 h2 => match us, ws, h1, h2 with | [_], [_], _, _ => rfl))⟩
  · obtain ⟨fd, F⟩ := look_fn a.c (d := dx_Short) (List.mem_of_getElem? (i := 23) rfl)
    exact ⟨dx_Short, fd, rfl, rfl, cx_Short, F, (fun kn h => by cases h; exact kbn_app F (fun _ _ _ _ _ _ us ws h1 h2 => match us, ws, h1, h2 with | [_], [_], _, _ => rfl))⟩
  · obtain ⟨fd, F⟩ := look_fn a.c (d := dx_NothingToUndo) (List.mem_of_getElem? (i := 24) rfl)
    exact ⟨dx_NothingToUndo, fd, rfl, rfl, cx_NothingToUndo, F, (fun kn h => by cases h)⟩
  · obtain ⟨fd, F⟩ := look_fn a.c (d := dx_NothingToRedo) (List.mem_of_getElem? (i := 25) rfl)
    exact ⟨dx_NothingToRedo, fd, rfl, rfl, cx_NothingToRedo, F, (fun kn h => by cases h)⟩
  · obtain ⟨fd, F⟩ := look_fn a.c (d := dx_BadWeb) (List.mem_of_getElem? (i := 26) rfl)
    exact ⟨dx_BadWeb, fd, rfl, rfl, cx_BadWeb, F, (fun kn h => by cases h; exact kbn_app F (fun _ _ _ _ _ _ us ws h1 h2 => match us, ws, h1, h2 with | [_], [_], _, _ => rfl))⟩
  · obtain ⟨fd, F⟩ := look_fn a.c (d := dx_NoGood) (List.mem_of_getElem? (i := 27) rfl)
    exact ⟨dx_NoGood, fd, rfl, rfl, cx_NoGood, F, (fun kn h => by cases h; exact kbn_app F (fun _ _ _ _ _ _ us ws h1 h2 => match us, ws, h1, h2 with | [_], [_], _, _ => rfl))⟩
  · obtain ⟨fd, F⟩ := look_fn a.c (d := dx_BadRoute) (List.mem_of_getElem? (i := 28) rfl)
    exact ⟨dx_BadRoute, fd, rfl, rfl, cx_BadRoute, F, (fun kn h => by cases h)⟩
  · obtain ⟨fd, F⟩ := look_fn a.c (d := dx_TooMuch) (List.mem_of_getElem? (i := 29) rfl)
    exact ⟨dx_TooMuch, fd, rfl, rfl, cx_TooMuch, F, (fun kn h => by cases h)⟩
  · obtain ⟨fd, F⟩ := look_fn a.c (d := dx_UnlikeFees) (List.mem_of_getElem? (i := 30) rfl)
    exact ⟨dx_UnlikeFees, fd, rfl, rfl, cx_UnlikeFees, F, (fun kn h => by cases h)⟩
  · obtain ⟨fd, F⟩ := look_fn a.c (d := dx_BadPrices) (List.mem_of_getElem? (i := 31) rfl)
    exact ⟨dx_BadPrices, fd, rfl, rfl, cx_BadPrices, F, (fun kn h => by cases h)⟩
  · obtain ⟨fd, F⟩ := look_fn a.c (d := dx_BadShare) (List.mem_of_getElem? (i := 32) rfl)
    exact ⟨dx_BadShare, fd, rfl, rfl, cx_BadShare, F, (fun kn h => by cases h; exact kbn_app F (fun _ _ _ _ _ _ us ws h1 h2 => match us, ws, h1, h2 with | [_], [_], _, _ => rfl))⟩
  · obtain ⟨fd, F⟩ := look_fn a.c (d := dx_BadDeed) (List.mem_of_getElem? (i := 33) rfl)
    exact ⟨dx_BadDeed, fd, rfl, rfl, cx_BadDeed, F, (fun kn h => by cases h; exact kbn_app F (fun _ _ _ _ _ _ us ws h1 h2 => match us, ws, h1, h2 with | [_], [_], _, _ => rfl))⟩
  · obtain ⟨fd, F⟩ := look_fn a.c (d := dx_BadSplit) (List.mem_of_getElem? (i := 34) rfl)
    exact ⟨dx_BadSplit, fd, rfl, rfl, cx_BadSplit, F, (fun kn h => by cases h)⟩
  · obtain ⟨fd, F⟩ := look_fn a.c (d := dx_BadRing) (List.mem_of_getElem? (i := 35) rfl)
    exact ⟨dx_BadRing, fd, rfl, rfl, cx_BadRing, F, (fun kn h => by cases h)⟩
structure Lv0 (Pr : Program) (w : World) (K : Fr) (mg : Str → Option Value) (base : Heap) : Prop where
  f : FnsOk (L.cc K) Pr w K mg base 26 fs0
  i : IfnsOk (L.cc K) Pr w K mg base 26 is0
  m : MtsOk (L.cc K) Pr w K mg base 26 ms0
  p : PrsOk (L.cc K) Pr w K mg base 26 ps0
  k : KfnsOk (L.cc K) Pr w K mg base 26 ks0
  j : ImtsOk (L.cc K) Pr w K mg base 26 js0
  c : CmsOk (L.cc K) Pr w K mg base 26 cs0
  d : KcsOk (L.cc K) Pr w K mg base 26 ds0
theorem lv0 (a : Have Pr K base mg) : Lv0 Pr w K mg base := ⟨trivial, trivial, trivial, trivial, trivial, trivial, trivial, trivial⟩
structure Lv1 (Pr : Program) (w : World) (K : Fr) (mg : Str → Option Value) (base : Heap) : Prop where
  f : FnsOk (L.cc K) Pr w K mg base 35 fs1
  i : IfnsOk (L.cc K) Pr w K mg base 35 is1
  m : MtsOk (L.cc K) Pr w K mg base 35 ms1
  p : PrsOk (L.cc K) Pr w K mg base 35 ps1
  k : KfnsOk (L.cc K) Pr w K mg base 35 ks1
  j : ImtsOk (L.cc K) Pr w K mg base 35 js1
  c : CmsOk (L.cc K) Pr w K mg base 35 cs1
  d : KcsOk (L.cc K) Pr w K mg base 35 ds1
theorem lv1 (a : Have Pr K base mg) : Lv1 Pr w K mg base := by
  have z := lv0 (Pr := Pr) (w := w) (base := base) a
  have s : Stat (L.cc K) Pr w K mg base L.T L.G0 := st_of a
  have b : TabOk (L.cc K) Pr w K mg base 26 g0 t0 := tab_of s z.f z.i z.m z.p (by decide +kernel) (by decide +kernel) (by decide) z.k z.j z.c z.d
  obtain ⟨fd_l_cell, F_l_cell⟩ := look_fn a.c (d := d_l_cell) (List.mem_of_getElem? (i := 0) rfl)
  obtain ⟨fd_l_take, F_l_take⟩ := look_fn a.c (d := d_l_take) (List.mem_of_getElem? (i := 1) rfl)
  obtain ⟨fd_l_same, F_l_same⟩ := look_fn a.c (d := d_l_same) (List.mem_of_getElem? (i := 2) rfl)
  obtain ⟨fd_l_kinds, F_l_kinds⟩ := look_fn a.c (d := d_l_kinds) (List.mem_of_getElem? (i := 3) rfl)
  have f1 : FnsOk (L.cc K) Pr w K mg base 35 [((Str.ofString "_law_cell"), 45, f_l_cell), ((Str.ofString "_law_same"), 114, f_l_same), ((Str.ofString "_law_kinds"), 242, f_l_kinds)] := ⟨ent_fn a.X a.G s b ((look_ok (look_ex a.c)).glo _ (by decide +kernel)) F_l_cell (txt_of rfl c_l_cell), ⟨ent_fn a.X a.G s b ((look_ok (look_ex a.c)).glo _ (by decide +kernel)) F_l_same (txt_of rfl c_l_same), ⟨ent_fn a.X a.G s b ((look_ok (look_ex a.c)).glo _ (by decide +kernel)) F_l_kinds (txt_of rfl c_l_kinds), trivial⟩⟩⟩
  have i1 : IfnsOk (L.cc K) Pr w K mg base 35 [((Str.ofString "_law_take"), 1, f_l_take)] := ⟨ent_ifn a.X a.G s b ((look_ok (look_ex a.c)).glo _ (by decide +kernel)) F_l_take (txt_of rfl c_l_take), trivial⟩
  have m1 : MtsOk (L.cc K) Pr w K mg base 35 [] := trivial
  have p1 : PrsOk (L.cc K) Pr w K mg base 35 [] := trivial
  have k1 : KfnsOk (L.cc K) Pr w K mg base 35 [] := trivial
  have j1 : ImtsOk (L.cc K) Pr w K mg base 35 [] := trivial
  have c1 : CmsOk (L.cc K) Pr w K mg base 35 [] := trivial
  have d1 : KcsOk (L.cc K) Pr w K mg base 35 [] := trivial
  exact ⟨(z.f.mono (by decide)).app f1, (z.i.mono (by decide)).app i1, (z.m.mono (by decide)).app m1, (z.p.mono (by decide)).app p1, (z.k.mono (by decide)).app k1, (z.j.mono (by decide)).app j1, (z.c.mono (by decide)).app c1, (z.d.mono (by decide)).app d1⟩
structure Lv2 (Pr : Program) (w : World) (K : Fr) (mg : Str → Option Value) (base : Heap) : Prop where
  f : FnsOk (L.cc K) Pr w K mg base 44 fs2
  i : IfnsOk (L.cc K) Pr w K mg base 44 is2
  m : MtsOk (L.cc K) Pr w K mg base 44 ms2
  p : PrsOk (L.cc K) Pr w K mg base 44 ps2
  k : KfnsOk (L.cc K) Pr w K mg base 44 ks2
  j : ImtsOk (L.cc K) Pr w K mg base 44 js2
  c : CmsOk (L.cc K) Pr w K mg base 44 cs2
  d : KcsOk (L.cc K) Pr w K mg base 44 ds2
theorem lv2 (a : Have Pr K base mg) : Lv2 Pr w K mg base := by
  have z := lv1 (Pr := Pr) (w := w) (base := base) a
  have s : Stat (L.cc K) Pr w K mg base L.T L.G0 := st_of a
  have b : TabOk (L.cc K) Pr w K mg base 35 g1 t1 := tab_of s z.f z.i z.m z.p (by decide +kernel) (by decide +kernel) (by decide) z.k z.j z.c z.d
  obtain ⟨fd_l_box, F_l_box⟩ := look_fn a.c (d := d_l_box) (List.mem_of_getElem? (i := 4) rfl)
  obtain ⟨fd_l_bases, F_l_bases⟩ := look_fn a.c (d := d_l_bases) (List.mem_of_getElem? (i := 5) rfl)
  have f1 : FnsOk (L.cc K) Pr w K mg base 44 [((Str.ofString "_law_bases"), 241, f_l_bases)] := ⟨ent_fn a.X a.G s b ((look_ok (look_ex a.c)).glo _ (by decide +kernel)) F_l_bases (txt_of rfl c_l_bases), trivial⟩
  have i1 : IfnsOk (L.cc K) Pr w K mg base 44 [((Str.ofString "_law_box"), 13, f_l_box)] := ⟨ent_ifn a.X a.G s b ((look_ok (look_ex a.c)).glo _ (by decide +kernel)) F_l_box (txt_of rfl c_l_box), trivial⟩
  have m1 : MtsOk (L.cc K) Pr w K mg base 44 [] := trivial
  have p1 : PrsOk (L.cc K) Pr w K mg base 44 [] := trivial
  have k1 : KfnsOk (L.cc K) Pr w K mg base 44 [] := trivial
  have j1 : ImtsOk (L.cc K) Pr w K mg base 44 [] := trivial
  have c1 : CmsOk (L.cc K) Pr w K mg base 44 [] := trivial
  have d1 : KcsOk (L.cc K) Pr w K mg base 44 [] := trivial
  exact ⟨(z.f.mono (by decide)).app f1, (z.i.mono (by decide)).app i1, (z.m.mono (by decide)).app m1, (z.p.mono (by decide)).app p1, (z.k.mono (by decide)).app k1, (z.j.mono (by decide)).app j1, (z.c.mono (by decide)).app c1, (z.d.mono (by decide)).app d1⟩
theorem facts {fd : FuncData} (a : Have Pr K base mg) (F : FunD K d_law.name d_law.qual d_law.params d_law.body d_law.scope (d_law.dvs K) [] (d_law.ad K) fd) : (∀ (s : Shared) (u : Value), BindsTo s fd ⟨[u], []⟩ [((Str.ofString "_law_script"), u)]) ∧ FnOk Pr w K mg base (L2.CX Pr w) 53 (gA "law" K) fd [(Str.ofString "_law_script")] (nArg 1 (spI (L.cc K) (runI g2 ft 8 i_law))) := by
  have z := lv2 (Pr := Pr) (w := w) (base := base) a
  have s : Stat (L.cc K) Pr w K mg base L.T L.G0 := st_of a
  have b : TabOk (L.cc K) Pr w K mg base 44 g2 t2 := tab_of s z.f z.i z.m z.p (by decide +kernel) (by decide +kernel) (by decide) z.k z.j z.c z.d
  have t : Txt t2 n_law p_law i_law (defArgs (top 38)) (defBody (top 38)) (defScope (top 38)) := txt_of rfl c_law
  refine ⟨fun s u => ?_, (def_ok F t.sc s b t.ck).mono (by decide)⟩
  have z := FunD.bindsA (ps := p_law) F (fun _ _ _ _ _ _ us hl => bind_plain t.pl (by decide +kernel) hl) s [u] rfl
  exact z
end
end RP
end

section
set_option Elab.async false
set_option linter.all false
set_option maxRecDepth 100000
set_option maxHeartbeats 4000000
namespace RP
open PySem L2 PySem.W PySem.Calls PyProof.Rows
/-! ### the head -/
abbrev hk : PySem.W.Hook := hookR 6 L.look fn
def ob (s : PySem.W.SharedT) : AlR := obsR 6 L.look fn (HandSHeadRun.getT s)
theorem ob_eq (s : PySem.W.SharedT) : ob s = hk.obs s.abs := obsR_eq (HandSHeadRun.getT_eq s)
theorem run_all (w : World) : HandSHeadRun.RunEq R (PySem.W.view R.prog [38]) hk ob 60000 loose w := runEq_of (run_a w) (run_b w) (run_c w) (run_d w) (run_e w)
/-- the law holds if the evaluator says so -/
theorem holds_of (hm : ∀ ns : List Int, ns.length ≤ 63 → ∃ S, lawR ns = .ok (.p (.bl true)) S) : PySem.Challenge.rw_rangepools_k01_errors.Holds := by
  open PySem PySem.W PySem.Calls PyProof.Rows in
  w_on; o_law
  refine HandSHeadRun.head_any (r := PySem.W.OpenLaw.row PySem.Challenge.rw_rangepools_k01_errors) (q := PySem.W.view (PySem.W.OpenLaw.row PySem.Challenge.rw_rangepools_k01_errors).prog [38]) (H := hk) (ob := ob) (M := 60000) (loose := loose) (d := HandSHeadRun.topDef (PySem.W.OpenLaw.row PySem.Challenge.rw_rangepools_k01_errors).prog 38) (kwd := []) ob_eq
    (by kernel_rfl) (fun s => by kernel_rfl) run_all (by kernel_rfl) (by kernel_rfl) (by kernel_rfl) (by rfl) (by first | assumption | decide +kernel) (by decide +kernel) ⟨rfl, rfl, rfl, rfl, rfl, by decide +kernel⟩ ?hw ?hc
  case hw => w_witness2
  case hc =>
    refine walk_r (l := PySem.Challenge.rw_rangepools_k01_errors) (n := 63) (k := 53) (x := (Str.ofString "_law_script")) rfl (by decide) (by kernel_rfl) ⟨⟨rfl, by decide, by decide⟩, by rfl⟩ (by kernel_rfl) ?F
    intro w mg fa h Y G ns nl nd hmg0
    obtain ⟨K, KX, c⟩ := Y
    have tr : (PySem.Challenge.pw_rangepools_k01_errors).given.tree = none := by kernel_rfl
    have a : Have PySem.Challenge.pw_rangepools_k01_errors K h mg := ⟨KX, G, c, ns, nl, nd, tr⟩
    have e : (HandSHeadRun.topDef (PySem.W.OpenLaw.row PySem.Challenge.rw_rangepools_k01_errors).prog 38).name = ("law" : PySem.Str) := by kernel_rfl
    rw [e] at hmg0
    have efa := hmg0.symm.trans (glo_mg KX G ((look_ok (look_ex c)).glo "law" (by decide +kernel)))
    cases efa
    obtain ⟨fd, F⟩ := look_fn c (d := d_law) (List.mem_of_getElem? (i := 6) rfl)
    obtain ⟨hb, _⟩ := facts (Pr := PySem.Challenge.pw_rangepools_k01_errors) (w := w) (base := h) a F
    refine ⟨K, fd, nArg 1 (spI (L.cc K) (runI g2 ft 8 i_law)), KX, hb, fun H a ns hl hO hS => ?_, fun base kb gb ns nl nd => ?_⟩
    · obtain ⟨S, hS2⟩ := hm ns hl
      exact sp_law (C := L.cc K) hO hS hS2
    · exact (facts (Pr := PySem.Challenge.pw_rangepools_k01_errors) (w := w) (base := base) ⟨kb, gb, c, ns, nl, nd, tr⟩ F).2
end RP
end

section
set_option Elab.async false
set_option linter.all false
set_option maxRecDepth 100000
set_option maxHeartbeats 4000000
/-! The evaluator's equations, for simp. -/
namespace RP
open PySem
section
variable (Γ : Tab) (FT : FldT) (δ : DEnv) (S1 : Sto)
@[simp] theorem ev_var (i : Nat) : evE Γ FT (.var i) δ S1 = match δ[i]? with
    | some (some d) => .ok d S1
    | _ => .stuck := rfl
@[simp] theorem ev_gc (k : Nat) : evE Γ FT (.gc k) δ S1 = match Γ.gcs.lookup k with
    | some x => .ok (.p x) S1
    | none => .stuck := rfl
@[simp] theorem ev_non : evE Γ FT .non δ S1 = .ok (.p .non) S1 := rfl
@[simp] theorem ev_bl (b : Bool) : evE Γ FT (.bl b) δ S1 = .ok (.p (.bl b)) S1 := rfl
@[simp] theorem ev_int (i : Int) : evE Γ FT (.int i) δ S1 = .ok (.p (.int i)) S1 := rfl
@[simp] theorem ev_str (i : Str) : evE Γ FT (.str i) δ S1 = .ok (.p (.str i)) S1 := rfl
@[simp] theorem ev_bin (op : Operator) (a b : E) : evE Γ FT (.bin op a b) δ S1 = (evE Γ FT a δ S1).bind fun d1 S1 => (evE Γ FT b δ S1).bind fun d2 S2 => match peek d1 S2, peek d2 S2 with
    | some x, some y => (Γ.bin op x y).lift S2
    | _, _ => .stuck := rfl
@[simp] theorem ev_neg (a : E) : evE Γ FT (.neg a) δ S1 = (evE Γ FT a δ S1).bind fun d S1 => match d with
    | .p x => (Γ.neg x).lift S1
    | _ => .stuck := rfl
@[simp] theorem ev_not (a : E) : evE Γ FT (.not a) δ S1 = (evE Γ FT a δ S1).bind fun d S1 => match d with
    | .p (.bl b) => .ok (.p (.bl (!b))) S1
    | _ => .stuck := rfl
@[simp] theorem ev_cmp (op : CmpOp) (a b : E) : evE Γ FT (.cmp op a b) δ S1 = (evE Γ FT a δ S1).bind fun d1 S1 => (evE Γ FT b δ S1).bind fun d2 S2 => match peek d1 S2, peek d2 S2 with
    | some x, some y => (Γ.cmp op x y).lift S2
    | _, _ => .stuck := rfl
@[simp] theorem ev_and (a b : E) : evE Γ FT (.and a b) δ S1 = (evE Γ FT a δ S1).bind fun d S1 => match d with
    | .p (.bl true) => evE Γ FT b δ S1
    | .p (.bl false) => .ok (.p (.bl false)) S1
    | _ => .stuck := rfl
@[simp] theorem ev_or (a b : E) : evE Γ FT (.or a b) δ S1 = (evE Γ FT a δ S1).bind fun d S1 => match d with
    | .p (.bl true) => .ok (.p (.bl true)) S1
    | .p (.bl false) => evE Γ FT b δ S1
    | _ => .stuck := rfl
@[simp] theorem ev_ite (t a b : E) : evE Γ FT (.ite t a b) δ S1 = (evE Γ FT t δ S1).bind fun d S1 => match d with
    | .p (.bl true) => evE Γ FT a δ S1
    | .p (.bl false) => evE Γ FT b δ S1
    | _ => .stuck := rfl
@[simp] theorem ev_tup (es : Es) : evE Γ FT (.tup es) δ S1 = (evEs Γ FT es δ S1).bind fun xs S1 => if lineOk xs.length then .ok (.p (.tup xs)) S1 else .stuck := rfl
@[simp] theorem ev_lst (es : Es) : evE Γ FT (.lst es) δ S1 = (evEs Γ FT es δ S1).bind fun xs S1 => if lineOk xs.length then .ok (.p (.lst xs)) S1 else .stuck := rfl
@[simp] theorem ev_newl (es : Es) : evE Γ FT (.newl es) δ S1 = (evEs Γ FT es δ S1).bind fun xs S1 => if lineOk xs.length then .ok (.loc S1.length) (S1 ++ [.live (.lst xs)]) else .stuck := rfl
@[simp] theorem ev_dsp (ks : List Str) (vs : List P) : evE Γ FT (.dsp ks vs) δ S1 = if decide (ks.length = vs.length) && (decide (vs.length ≤ 15) && (decide ks.Nodup && vs.all flatP)) then .ok (.p (.dic ks vs)) S1 else .stuck := rfl
@[simp] theorem ev_kmeth (a : E) (m : Nat) (ks : List Str) (es : Es) : evE Γ FT (.kmeth a m ks es) δ S1 = (evE Γ FT a δ S1).bind fun d S1 => methK Γ m ks d (evEs Γ FT es δ) S1 := rfl
@[simp] theorem ev_newn (es : Es) : evE Γ FT (.newn es) δ S1 = (evDs Γ FT es δ S1).bind fun ds S1 => if lineOk ds.length then .ok (.loc S1.length) (S1 ++ [.live (.nst ds)]) else .stuck := rfl
@[simp] theorem ev_compx (elt : E) (tg : Tg) (it : It) (hc : Bool) (c : E) : evE Γ FT (.compx elt tg it hc c) δ S1 = (evIt Γ FT it δ S1).bind fun xs S1 => if lineOk xs.length then (compLx (bindT tg) (optT hc (evE Γ FT c)) (evE Γ FT elt) (wipeD δ (tgIx tg)) xs S1).bind (compR false) else .stuck := rfl
@[simp] theorem ev_joi (z : Str) (a : E) : evE Γ FT (.joi z a) δ S1 = (evE Γ FT a δ S1).bind fun d1 S1 => joiR z (peek d1 S1) S1 := rfl
@[simp] theorem ev_spl (a b : E) : evE Γ FT (.spl a b) δ S1 = (evE Γ FT a δ S1).bind fun d1 S1 => match d1 with
    | .p (.str x) => (evE Γ FT b δ S1).bind fun d2 S2 => match d2 with
      | .p (.str y) => splR x y S2
      | _ => .stuck
    | _ => .stuck := rfl
@[simp] theorem ev_lcall (i c k : Nat) (y : Str) (es : Es) : evE Γ FT (.lcall i c k y es) δ S1 = match δ[i]? with
    | some (some (.cls c')) => if c' = c then ((evEs Γ FT es δ S1).bind fun xs S1 => match Γ.fns.lookup k with
      | some f => (f xs).lift S1
      | none => .stuck) else .stuck
    | _ => .stuck := rfl
@[simp] theorem ev_cmeth (c m : Nat) (y : Str) (es : Es) : evE Γ FT (.cmeth c m y es) δ S1 = (evEs Γ FT es δ S1).bind fun xs S1 => match Γ.cmeth c m with
    | some f => f (.cls c :: xs.map .p) S1
    | none => .stuck := rfl
@[simp] theorem ev_kcmeth (j c : Nat) (y : Str) (es : Es) : evE Γ FT (.kcmeth j c y es) δ S1 = (evEs Γ FT es δ S1).bind fun xs S1 => match Γ.kcms.lookup j with
    | some f => f (.cls c :: xs.map .p) S1
    | none => .stuck := rfl
@[simp] theorem ev_subn (a i : E) : evE Γ FT (.subn a i) δ S1 = (evE Γ FT a δ S1).bind fun d1 S1 => (evE Γ FT i δ S1).bind fun d2 S2 => subN d1 d2 S2 := rfl
@[simp] theorem ev_sub (a i : E) : evE Γ FT (.sub a i) δ S1 = (evE Γ FT a δ S1).bind fun d1 S1 => (evE Γ FT i δ S1).bind fun d2 S2 => match peek d1 S2, d2 with
    | some x, .p y => (subP x y).lift S2
    | _, _ => .stuck := rfl
@[simp] theorem ev_slc (a lo hi : E) (hl hh : Bool) : evE Γ FT (.slc a hl lo hh hi) δ S1 = (evE Γ FT a δ S1).bind fun d1 S1 => (optI hl (evE Γ FT lo δ) S1).bind fun o1 S2 => (optI hh (evE Γ FT hi δ) S2).bind fun o2 S3 => match peek d1 S3 with
    | some x => (slcP x o1 o2).lift S3
    | none => .stuck := rfl
@[simp] theorem ev_rev (a : E) : evE Γ FT (.rev a) δ S1 = (evE Γ FT a δ S1).bind fun d S1 => revG (peek d S1) S1 := rfl
@[simp] theorem revG_lst (xs : List P) : revG (some (.lst xs)) S1 = .ok (.p (.lst xs.reverse)) S1 := rfl
@[simp] theorem ev_attr (a : E) (f : Nat) : evE Γ FT (.attr a f) δ S1 = (evE Γ FT a δ S1).bind fun d S1 => match d with
    | .p (.ob c xs) => match fldIx f (FT c) xs with
      | some y => .ok (.p y) S1
      | none => match Γ.prop c f with
        | some g => match g [.ob c xs] with
          | .ok y => .ok (.p y) S1
          | _ => .stuck
        | none => .stuck
    | .loc n => match S1[n]? with
      | some (.live (.obj _ fs)) => match fs.lookup f with
        | some d => .ok d S1
        | none => .stuck
      | _ => .stuck
    | _ => .stuck := rfl
@[simp] theorem ev_call (k : Nat) (es : Es) : evE Γ FT (.call k es) δ S1 = (evEs Γ FT es δ S1).bind fun xs S1 => match Γ.fns.lookup k with
    | some f => (f xs).lift S1
    | none => .stuck := rfl
@[simp] theorem ev_icall (k : Nat) (es : Es) : evE Γ FT (.icall k es) δ S1 = (evDs Γ FT es δ S1).bind fun ds S1 => match Γ.ifns.lookup k with
    | some f => f ds S1
    | none => .stuck := rfl
@[simp] theorem ev_meth (a : E) (m : Nat) (es : Es) : evE Γ FT (.meth a m es) δ S1 = (evE Γ FT a δ S1).bind fun d S1 => methG Γ m d (evEs Γ FT es δ) S1 := rfl
@[simp] theorem ev_app (a e : E) : evE Γ FT (.app a e) δ S1 = (evE Γ FT a δ S1).bind fun d S1 => match peek d S1 with
    | some (.lst _) => (evE Γ FT e δ S1).bind fun d2 S2 => (purify d2 S2).bind fun x S3 => appG d x S3
    | _ => .stuck := rfl
@[simp] theorem ev_b1 (b : B1) (a : E) : evE Γ FT (.b1 b a) δ S1 = (evE Γ FT a δ S1).bind fun d S1 => match peek d S1 with
    | some x => (b1P b x).lift S1
    | none => .stuck := rfl
@[simp] theorem ev_b2 (b : B2) (a c : E) : evE Γ FT (.b2 b a c) δ S1 = (evE Γ FT a δ S1).bind fun d1 S1 => (evE Γ FT c δ S1).bind fun d2 S2 => match d1, d2 with
    | .p x, .p y => (b2P b x y).lift S2
    | _, _ => .stuck := rfl
@[simp] theorem ev_isi (a : E) (t : Ty) : evE Γ FT (.isi a t) δ S1 = (evE Γ FT a δ S1).bind fun d S1 => match d with
    | .p x => match isiP t x with
      | some b => .ok (.p (.bl b)) S1
      | none => .stuck
    | _ => .stuck := rfl
@[simp] theorem ev_comp2 (elt : E) (tg tg1 : Tg) (it it1 : It) (hc : Bool) (c : E) : evE Γ FT (.comp2 elt tg it tg1 it1 hc c) δ S1 = (evIt Γ FT it δ S1).bind fun xs S1 => if lineOk xs.length then (comp2L (bindT tg) (evIt Γ FT it1) (bindT tg1) (optT hc (evE Γ FT c)) (evE Γ FT elt) (tgIx tg1) (wipeD δ (tgIx tg ++ tgIx tg1)) 0 xs S1).bind fun ys S2 => .ok (.p (.lst ys)) S2 else .stuck := rfl
@[simp] theorem ev_comp (lv : Bool) (elt : E) (tg : Tg) (it : It) (hc : Bool) (c : E) : evE Γ FT (.comp lv elt tg it hc c) δ S1 = (evIt Γ FT it δ S1).bind fun xs S1 => if lineOk xs.length then (compL (bindT tg) (optT hc (evE Γ FT c)) (evE Γ FT elt) (wipeD δ (tgIx tg)) xs S1).bind (compR lv) else .stuck := rfl
@[simp] theorem ev_fcall (k : Nat) (es : Es) : evE Γ FT (.fcall k es) δ S1 = (evEs Γ FT es δ S1).bind fun xs S1 => match Γ.ifns.lookup k with
    | some f => freshG (f (xs.map D.p) []) S1
    | none => .stuck := rfl
@[simp] theorem ev_bcall (k : Nat) (es : Es) : evE Γ FT (.bcall k es) δ S1 = (evDs Γ FT es δ S1).bind fun ds S1 => match peeks ds S1 with
    | some xs => match Γ.fns.lookup k with
      | some f => lentR ds (f xs) S1
      | none => .stuck
    | none => .stuck := rfl
@[simp] theorem ev_compb (lv : Bool) (elt : E) (tg : Tg) (i : Nat) (hc : Bool) (c : E) : evE Γ FT (.compb lv elt tg i hc c) δ S1 = (borV i δ S1).bind fun nx S1 => if lineOk nx.2.length then (compB (borG nx.1 nx.2) (bindT tg) (optT hc (evE Γ FT c)) (evE Γ FT elt) (wipeD δ (tgIx tg)) nx.2 S1).bind (compR lv) else .stuck := rfl
@[simp] theorem ev_clr (a : E) : evE Γ FT (.clr a) δ S1 = (evE Γ FT a δ S1).bind fun d S1 => clrG d S1 := rfl
@[simp] theorem ev_cpl (a : E) : evE Γ FT (.cpl a) δ S1 = (evE Γ FT a δ S1).bind fun d S1 => cplG (peek d S1) S1 := rfl
@[simp] theorem ev_fmeth (a : E) (m : Nat) (es : Es) : evE Γ FT (.fmeth a m es) δ S1 = (evE Γ FT a δ S1).bind fun d S1 => methF Γ m d (evEs Γ FT es δ) S1 := rfl
@[simp] theorem ev_kcall (k : Nat) (es ks : Es) : evE Γ FT (.kcall k es ks) δ S1 = (evEs Γ FT es δ S1).bind fun xs S1 => (evEs Γ FT ks δ S1).bind fun ys S2 => match Γ.kfns.lookup k with
    | some f => (f xs ys).lift S2
    | none => .stuck := rfl
@[simp] theorem ev_fkcall (k : Nat) (es ks : Es) : evE Γ FT (.fkcall k es ks) δ S1 = (evEs Γ FT es δ S1).bind fun xs S1 => (evEs Γ FT ks δ S1).bind fun ys S2 => match Γ.kifns.lookup k with
    | some nf => if xs.length = nf.1 then freshG (nf.2 ((xs ++ ys).map D.p) []) S2 else .stuck
    | none => .stuck := rfl
@[simp] theorem evs_nil : evEs Γ FT .nil δ S1 = .ok [] S1 := rfl
@[simp] theorem evs_cons (e : E) (es : Es) : evEs Γ FT (.cons e es) δ S1 = (evE Γ FT e δ S1).bind fun d S1 => (purify d S1).bind fun x S2 => (evEs Γ FT es δ S2).bind fun xs S3 => .ok (x :: xs) S3 := rfl
@[simp] theorem evs_star (e : E) (es : Es) : evEs Γ FT (.star e es) δ S1 = (evE Γ FT e δ S1).bind fun d S1 => match peek d S1 with
    | some (.lst ys) => (evEs Γ FT es δ S1).bind fun xs S2 => .ok (ys ++ xs) S2
    | some (.tup ys) => (evEs Γ FT es δ S1).bind fun xs S2 => .ok (ys ++ xs) S2
    | _ => .stuck := rfl
@[simp] theorem evd_nil : evDs Γ FT .nil δ S1 = .ok [] S1 := rfl
@[simp] theorem evd_cons (e : E) (es : Es) : evDs Γ FT (.cons e es) δ S1 = (evE Γ FT e δ S1).bind fun d S1 => (evDs Γ FT es δ S1).bind fun ds S2 => .ok (d :: ds) S2 := rfl
@[simp] theorem evi_seq (e : E) : evIt Γ FT (.seq e) δ S1 = (evE Γ FT e δ S1).bind fun d S1 => (purify d S1).bind fun x S2 => match x with
    | .lst xs => .ok xs S2
    | .tup xs => .ok xs S2
    | .str z => .ok (signsP z) S2
    | _ => .stuck := rfl
@[simp] theorem evi_enum (e : E) : evIt Γ FT (.enum e) δ S1 = (evE Γ FT e δ S1).bind fun d S1 => (purify d S1).bind fun x S2 => match x with
    | .lst xs => .ok (enumP 0 xs) S2
    | .tup xs => .ok (enumP 0 xs) S2
    | _ => .stuck := rfl
@[simp] theorem evi_rng1 (e : E) : evIt Γ FT (.rng1 e) δ S1 = (evE Γ FT e δ S1).bind fun d S1 => match d with
    | .p (.int j) => if rngOk j then .ok (rangeP 0 j.toNat) S1 else .stuck
    | _ => .stuck := rfl
@[simp] theorem evi_zip (a b : E) : evIt Γ FT (.zip a b) δ S1 = (evE Γ FT a δ S1).bind fun d S1 => (purify d S1).bind fun x S2 => (evE Γ FT b δ S2).bind fun d2 S3 => (purify d2 S3).bind fun y S4 => match seqOf x, seqOf y with
    | some xs, some ys => .ok (zipP xs ys) S4
    | _, _ => .stuck := rfl
@[simp] theorem ex_asg (i : Nat) (e : E) : exS Γ FT (.asg (.name i) e) δ S1 = (evE Γ FT e δ S1).st δ fun d S1 => .next (setSlot δ i d) S1 := rfl
@[simp] theorem ex_asgt (ts : Tgs) (e : E) : exS Γ FT (.asg (.tup ts) e) δ S1 = (evE Γ FT e δ S1).st δ fun d S1 => match peek d S1 with
      | some (.tup xs) => match bindTs ts xs δ with
        | some δ' => .next δ' S1
        | none => .stuck
      | some (.lst xs) => match d with
        | .p _ => match bindTs ts xs δ with
          | some δ' => .next δ' S1
          | none => .stuck
        | _ => .stuck
      | _ => .stuck := rfl
@[simp] theorem ex_par (i j : Nat) (a b : E) : exS Γ FT (.par i j a b) δ S1 = (evE Γ FT a δ S1).st δ fun d1 S1 => (evE Γ FT b δ S1).st δ fun d2 S2 => .next (setSlot (setSlot δ i d1) j d2) S2 := rfl
@[simp] theorem ex_setf (o : E) (f : Nat) (e : E) : exS Γ FT (.setf o f e) δ S1 = (evE Γ FT e δ S1).st δ fun d S1 => (evE Γ FT o δ S1).st δ fun d2 S2 => match d2 with
    | .loc n => match S2[n]? with
      | some (.live (.obj c fs)) => if decide (fs.length < 100) && (FT c).contains f then .next δ (S2.set n (.live (.obj c (setFld f d fs)))) else .stuck
      | _ => .stuck
    | _ => .stuck := rfl
@[simp] theorem ex_seti (o i e : E) : exS Γ FT (.seti o i e) δ S1 = (evE Γ FT e δ S1).st δ fun d S1 => (purify d S1).st δ fun y S2 => (evE Γ FT o δ S2).st δ fun d2 S3 => (evE Γ FT i δ S3).st δ fun d3 S4 => match d2, d3 with
    | .loc n, .p (.int k) => match S4[n]? with
      | some (.live (.lst xs)) => match setIx xs k y with
        | some ys => .next δ (S4.set n (.live (.lst ys)))
        | none => .stuck
      | some (.live (.nst ds)) => match setIx ds k (.p y) with
        | some ys => .next δ (S4.set n (.live (.nst ys)))
        | none => .stuck
      | _ => .stuck
    | _, _ => .stuck := rfl
@[simp] theorem ex_expr (e : E) : exS Γ FT (.expr e) δ S1 = (evE Γ FT e δ S1).st δ fun _ S1 => .next δ S1 := rfl
@[simp] theorem ex_ret (e : E) : exS Γ FT (.ret e) δ S1 = (evE Γ FT e δ S1).st δ fun d S1 => .ret d S1 := rfl
@[simp] theorem ex_ifs (c : E) (a b : Ss) : exS Γ FT (.ifs c a b) δ S1 = (evE Γ FT c δ S1).st δ fun d S1 => match d with
    | .p (.bl true) => exSs Γ FT a δ S1
    | .p (.bl false) => exSs Γ FT b δ S1
    | _ => .stuck := rfl
@[simp] theorem ex_for (t : Tg) (it : It) (b : Ss) : exS Γ FT (.for_ t it b) δ S1 = (evIt Γ FT it δ S1).st δ fun xs S1 => forL (bindT t) (exSs Γ FT b) xs δ S1 := rfl
@[simp] theorem ex_brk : exS Γ FT .brk δ S1 = .brk δ S1 := rfl
@[simp] theorem ex_cnt : exS Γ FT .cnt δ S1 = .cnt δ S1 := rfl
@[simp] theorem ex_pass : exS Γ FT .pass δ S1 = .next δ S1 := rfl
@[simp] theorem ex_rais0 (c : Nat) : exS Γ FT (.rais0 c) δ S1 = .exc c none δ S1 := rfl
@[simp] theorem ex_rais1 (c : Nat) (e : E) : exS Γ FT (.rais1 c e) δ S1 = (evE Γ FT e δ S1).st δ fun d S1 => (purify d S1).st δ fun x S2 => .exc c (some x) δ S2 := rfl
@[simp] theorem ex_tr (b : Ss) (hs : Hs) : exS Γ FT (.tr b hs) δ S1 = match exSs Γ FT b δ S1 with
    | .exc c x δ' S' => exHs hs c x δ' S'
    | r => r := rfl
@[simp] theorem exs_nil : exSs Γ FT .nil δ S1 = .next δ S1 := rfl
@[simp] theorem exs_cons (s : S) (r : Ss) : exSs Γ FT (.cons s r) δ S1 = (exS Γ FT s δ S1).bind (exSs Γ FT r) := rfl
end
@[simp] theorem st_ok {α : Type} (a : α) (S1 : Sto) (δ : DEnv) (f : α → Sto → RS) : (RE.ok a S1).st δ f = f a S1 := rfl
@[simp] theorem st_exc {α : Type} (c : Nat) (x : Option P) (S1 : Sto) (δ : DEnv) (f : α → Sto → RS) : (RE.exc c x S1 : RE α).st δ f = .exc c x δ S1 := rfl
@[simp] theorem bd_next (δ : DEnv) (S1 : Sto) (f : DEnv → Sto → RS) : (RS.next δ S1).bind f = f δ S1 := rfl
@[simp] theorem bd_ret (d : D) (S1 : Sto) (f : DEnv → Sto → RS) : (RS.ret d S1).bind f = .ret d S1 := rfl
@[simp] theorem bd_brk (δ : DEnv) (S1 : Sto) (f : DEnv → Sto → RS) : (RS.brk δ S1).bind f = .brk δ S1 := rfl
@[simp] theorem bd_cnt (δ : DEnv) (S1 : Sto) (f : DEnv → Sto → RS) : (RS.cnt δ S1).bind f = .cnt δ S1 := rfl
@[simp] theorem bd_exc (c : Nat) (x : Option P) (δ : DEnv) (S1 : Sto) (f : DEnv → Sto → RS) : (RS.exc c x δ S1).bind f = .exc c x δ S1 := rfl
@[simp] theorem le_next (δ : DEnv) (S1 : Sto) (on : DEnv → Sto → RS) : loopEnd (.next δ S1) on = on δ S1 := rfl
@[simp] theorem le_cnt (δ : DEnv) (S1 : Sto) (on : DEnv → Sto → RS) : loopEnd (.cnt δ S1) on = on δ S1 := rfl
@[simp] theorem le_brk (δ : DEnv) (S1 : Sto) (on : DEnv → Sto → RS) : loopEnd (.brk δ S1) on = .next δ S1 := rfl
@[simp] theorem le_ret (d : D) (S1 : Sto) (on : DEnv → Sto → RS) : loopEnd (.ret d S1) on = .ret d S1 := rfl
@[simp] theorem le_exc (c : Nat) (x : Option P) (δ : DEnv) (S1 : Sto) (on : DEnv → Sto → RS) : loopEnd (.exc c x δ S1) on = .exc c x δ S1 := rfl
@[simp] theorem for_nil (b : P → DEnv → Option DEnv) (f : DEnv → Sto → RS) (δ : DEnv) (S1 : Sto) : forL b f [] δ S1 = .next δ S1 := rfl
@[simp] theorem bt_name (i : Nat) (x : P) (δ : DEnv) : bindT (.name i) x δ = some (setSlot δ i (.p x)) := by simp only [bindT]
@[simp] theorem bt_tup (ts : Tgs) (xs : List P) (δ : DEnv) : bindT (.tup ts) (.tup xs) δ = bindTs ts xs δ := by simp only [bindT]
@[simp] theorem bts_nil (δ : DEnv) : bindTs .nil [] δ = some δ := by simp only [bindTs]
@[simp] theorem bts_cons (t : Tg) (ts : Tgs) (x : P) (xs : List P) (δ : DEnv) : bindTs (.cons t ts) (x :: xs) δ = (bindT t x δ).bind (bindTs ts xs) := by simp only [bindTs]
@[simp] theorem slot_eq (δ : DEnv) (i : Nat) (d : D) : setSlot δ i d = δ.set i (some d) := rfl
@[simp] theorem optI_f (f : Sto → RE D) (S1 : Sto) : optI false f S1 = .ok none S1 := rfl
@[simp] theorem optI_t (f : Sto → RE D) (S1 : Sto) : optI true f S1 = (f S1).bind fun d S1 => match d with
    | .p (.int i) => .ok (some i) S1
    | _ => .stuck := rfl
@[simp] theorem optT_f (f : DEnv → Sto → RE D) : optT false f = fun _ S1 => .ok (.p (.bl true)) S1 := rfl
@[simp] theorem optT_t (f : DEnv → Sto → RE D) : optT true f = f := rfl
@[simp] theorem compR_f (ys : List P) (S1 : Sto) : compR false ys S1 = .ok (.p (.lst ys)) S1 := rfl
@[simp] theorem compR_t (ys : List P) (S1 : Sto) : compR true ys S1 = .ok (.loc S1.length) (S1 ++ [.live (.lst ys)]) := rfl
@[simp] theorem line_lit (n : Nat) (h : n ≤ 100000) : lineOk n = true := decide_eq_true h
/-! ### data -/
section
variable (Γ : Tab)
@[simp] theorem bin_add (i j : Int) : Γ.bin .Add (.int i) (.int j) = .ok (.int (i + j)) := rfl
@[simp] theorem bin_sub (i j : Int) : Γ.bin .Sub (.int i) (.int j) = .ok (.int (i - j)) := rfl
theorem bin_mul (i j : Int) (h : mulOk i j = true) : Γ.bin .Mult (.int i) (.int j) = .ok (.int (i * j)) := by simp only [Tab.bin, h, if_true]
theorem bin_div (i j : Int) (h : divOk j = true) : Γ.bin .FloorDiv (.int i) (.int j) = .ok (.int (i.fdiv j)) := by simp only [Tab.bin, h, if_true]
theorem bin_mod (i j : Int) (h : j ≠ 0) : Γ.bin .Mod (.int i) (.int j) = .ok (.int (i.fmod j)) := by
  have : (j == 0) = false := by simpa using h
  simp only [Tab.bin, this]
  rfl
theorem bin_pow (i j : Int) (h : powOk i j = true) : Γ.bin .Pow (.int i) (.int j) = .ok (.int (i ^ j.toNat)) := by simp only [Tab.bin, h, if_true]
@[simp] theorem neg_int (i : Int) : Γ.neg (.int i) = .ok (.int (-i)) := rfl
@[simp] theorem cmp_lt (i j : Int) : Γ.cmp .Lt (.int i) (.int j) = .ok (.bl (decide (i < j))) := rfl
@[simp] theorem cmp_le (i j : Int) : Γ.cmp .LtE (.int i) (.int j) = .ok (.bl (decide (i ≤ j))) := rfl
@[simp] theorem cmp_gt (i j : Int) : Γ.cmp .Gt (.int i) (.int j) = .ok (.bl (decide (j < i))) := rfl
@[simp] theorem cmp_ge (i j : Int) : Γ.cmp .GtE (.int i) (.int j) = .ok (.bl (decide (j ≤ i))) := rfl
@[simp] theorem cmp_is (x : P) : Γ.cmp .Is x .non = .ok (.bl (isNon x)) := rfl
@[simp] theorem cmp_isn (x : P) : Γ.cmp .IsNot x .non = .ok (.bl (!isNon x)) := rfl
@[simp] theorem cmp_eq (x y : P) : Γ.cmp .Eq x y = Γ.eq x y := rfl
@[simp] theorem cmp_ne (x y : P) : Γ.cmp .NotEq x y = notR (Γ.eq x y) := rfl
@[simp] theorem eq_int (i j : Int) : Γ.eq (.int i) (.int j) = .ok (.bl (decide (i = j))) := by
  unfold Tab.eq eqDeep
  simp only [eqN, eq0]
  rfl
@[simp] theorem eq_str (i j : Str) : Γ.eq (.str i) (.str j) = .ok (.bl (decide (i = j))) := by
  unfold Tab.eq eqDeep
  simp only [eqN, eq0]
  congr 2
@[simp] theorem notR_bl (b : Bool) : notR (.ok (.bl b)) = .ok (.bl (!b)) := rfl
@[simp] theorem isi_int_int (i : Int) : isiP .int (.int i) = some true := rfl
@[simp] theorem isi_int_bl (i : Bool) : isiP .int (.bl i) = some true := rfl
@[simp] theorem isi_int_non  : isiP .int (.non) = some false := rfl
@[simp] theorem isi_int_str (i : Str) : isiP .int (.str i) = some false := rfl
@[simp] theorem isi_int_tup (i : List P) : isiP .int (.tup i) = some false := rfl
@[simp] theorem isi_int_lst (i : List P) : isiP .int (.lst i) = some false := rfl
@[simp] theorem isi_int_ob (c : Nat) (i : List P) : isiP .int (.ob c i) = some false := rfl
@[simp] theorem isi_bool_int (i : Int) : isiP .bool (.int i) = some false := rfl
@[simp] theorem isi_bool_bl (i : Bool) : isiP .bool (.bl i) = some true := rfl
@[simp] theorem isi_bool_non  : isiP .bool (.non) = some false := rfl
@[simp] theorem isi_bool_str (i : Str) : isiP .bool (.str i) = some false := rfl
@[simp] theorem isi_bool_tup (i : List P) : isiP .bool (.tup i) = some false := rfl
@[simp] theorem isi_bool_lst (i : List P) : isiP .bool (.lst i) = some false := rfl
@[simp] theorem isi_bool_ob (c : Nat) (i : List P) : isiP .bool (.ob c i) = some false := rfl
@[simp] theorem isi_str_int (i : Int) : isiP .str (.int i) = some false := rfl
@[simp] theorem isi_str_bl (i : Bool) : isiP .str (.bl i) = some false := rfl
@[simp] theorem isi_str_non  : isiP .str (.non) = some false := rfl
@[simp] theorem isi_str_str (i : Str) : isiP .str (.str i) = some true := rfl
@[simp] theorem isi_str_tup (i : List P) : isiP .str (.tup i) = some false := rfl
@[simp] theorem isi_str_lst (i : List P) : isiP .str (.lst i) = some false := rfl
@[simp] theorem isi_str_ob (c : Nat) (i : List P) : isiP .str (.ob c i) = some false := rfl
@[simp] theorem isi_tup_int (i : Int) : isiP .tup (.int i) = some false := rfl
@[simp] theorem isi_tup_bl (i : Bool) : isiP .tup (.bl i) = some false := rfl
@[simp] theorem isi_tup_non  : isiP .tup (.non) = some false := rfl
@[simp] theorem isi_tup_str (i : Str) : isiP .tup (.str i) = some false := rfl
@[simp] theorem isi_tup_tup (i : List P) : isiP .tup (.tup i) = some true := rfl
@[simp] theorem isi_tup_lst (i : List P) : isiP .tup (.lst i) = some false := rfl
@[simp] theorem isi_tup_ob (c : Nat) (i : List P) : isiP .tup (.ob c i) = some false := rfl
@[simp] theorem isi_lst_int (i : Int) : isiP .lst (.int i) = some false := rfl
@[simp] theorem isi_lst_bl (i : Bool) : isiP .lst (.bl i) = some false := rfl
@[simp] theorem isi_lst_non  : isiP .lst (.non) = some false := rfl
@[simp] theorem isi_lst_str (i : Str) : isiP .lst (.str i) = some false := rfl
@[simp] theorem isi_lst_tup (i : List P) : isiP .lst (.tup i) = some false := rfl
@[simp] theorem isi_lst_lst (i : List P) : isiP .lst (.lst i) = some true := rfl
@[simp] theorem isi_lst_ob (c : Nat) (i : List P) : isiP .lst (.ob c i) = some false := rfl
@[simp] theorem isi_own_int (d : Nat) (i : Int) : isiP (.own d) (.int i) = some false := rfl
@[simp] theorem isi_own_bl (d : Nat) (i : Bool) : isiP (.own d) (.bl i) = some false := rfl
@[simp] theorem isi_own_non (d : Nat)  : isiP (.own d) (.non) = some false := rfl
@[simp] theorem isi_own_str (d : Nat) (i : Str) : isiP (.own d) (.str i) = some false := rfl
@[simp] theorem isi_own_tup (d : Nat) (i : List P) : isiP (.own d) (.tup i) = some false := rfl
@[simp] theorem isi_own_lst (d : Nat) (i : List P) : isiP (.own d) (.lst i) = some false := rfl
@[simp] theorem isi_own_ob (d c : Nat) (i : List P) : isiP (.own d) (.ob c i) = some (decide (d = c)) := by
  show some (Ty.own d == Ty.own c) = _
  congr 1
  by_cases h : d = c
  · subst h
    simp
  · have : ¬ (Ty.own d = Ty.own c) := fun z => h (by cases z; rfl)
    simp [h, this]
@[simp] theorem isNon_non : isNon .non = true := rfl
@[simp] theorem isNon_tup (xs : List P) : isNon (.tup xs) = false := rfl
@[simp] theorem isNon_ob (c : Nat) (xs : List P) : isNon (.ob c xs) = false := rfl
@[simp] theorem isNon_lst (xs : List P) : isNon (.lst xs) = false := rfl
@[simp] theorem isNon_int (i : Int) : isNon (.int i) = false := rfl
@[simp] theorem b1_abs (i : Int) : b1P .abs (.int i) = .ok (.int (if i < 0 then -i else i)) := rfl
@[simp] theorem b1_int (i : Int) : b1P .int (.int i) = .ok (.int i) := rfl
@[simp] theorem b1_len (xs : List P) : b1P .len (.lst xs) = .ok (.int xs.length) := rfl
@[simp] theorem b1_lens (xs : List Int) : b1P .len (.scr xs) = .ok (.int xs.length) := rfl
@[simp] theorem sub_t0 (x : P) (xs : List P) : subP (.tup (x :: xs)) (.int 0) = .ok x := rfl
@[simp] theorem sub_t1 (x y : P) (xs : List P) : subP (.tup (x :: y :: xs)) (.int 1) = .ok y := rfl
@[simp] theorem sub_t2 (x y z : P) (xs : List P) : subP (.tup (x :: y :: z :: xs)) (.int 2) = .ok z := rfl
@[simp] theorem sub_l0 (x : P) (xs : List P) : subP (.lst (x :: xs)) (.int 0) = .ok x := rfl
@[simp] theorem sub_l1 (x y : P) (xs : List P) : subP (.lst (x :: y :: xs)) (.int 1) = .ok y := rfl
@[simp] theorem sub_l2 (x y z : P) (xs : List P) : subP (.lst (x :: y :: z :: xs)) (.int 2) = .ok z := rfl
@[simp] theorem sub_l3 (x y z u : P) (xs : List P) : subP (.lst (x :: y :: z :: u :: xs)) (.int 3) = .ok u := rfl
end
/-- a def with so many values, told -/
theorem fnP_eq (FT : FldT) (Γ : Tab) (n np : Nat) (ir : Ss) (xs : List P) (h : xs.length = np) : fnP FT Γ n np ir xs = match exSs Γ FT ir (xs.map (fun x => some (.p x)) ++ List.replicate (n - np) none) [] with
    | .next _ _ => .ok .non
    | .ret d S1 => (match purify d S1 with
      | .ok x _ => .ok x
      | _ => .stuck)
    | .exc c x _ _ => .exc c x
    | _ => .stuck := by
  unfold fnP pureOf runI
  rw [if_pos h, List.map_map, List.length_map, h]
  simp only [Function.comp_def]
  generalize exSs Γ FT ir (xs.map (fun x => some (.p x)) ++ List.replicate (n - np) none) [] = r
  cases r <;> rfl
end RP
end

section
set_option Elab.async false
set_option linter.all false
set_option maxRecDepth 100000
set_option maxHeartbeats 4000000
/-! Ratios: what the defs reckon. -/
namespace RP
open PySem
/-- a Ratio -/
def rt (q : Rat) : P := .ob 0 [.int q.num, .int (q.den : Int)]
/-! ### the greatest common divisor -/
/-! ### Ratio(a, b) -/
end RP
end

section
set_option Elab.async false
set_option linter.all false
set_option maxRecDepth 100000
set_option maxHeartbeats 4000000
set_option exponentiation.threshold 20000
/-! Bits. -/
namespace RP
open PySem
theorem log2_lt_of {n k : Nat} (h : n < 2 ^ k) (hk : 0 < k) : n.log2 < k := by
  rcases Nat.eq_zero_or_pos n with z | z
  · rw [z]
    simpa using hk
  · exact (Nat.log2_lt (by omega)).mpr h
theorem log_lt {x n k : Nat} (h : x < 2 ^ n) (hk : n < k) : x.log2 < k := by
  rcases Nat.eq_zero_or_pos x with z | z
  · rw [z]
    simp
    omega
  · exact Nat.lt_trans ((Nat.log2_lt (by omega)).mpr h) hk
theorem mul_ok {i j : Int} {n m : Nat} (h1 : i.natAbs < 2 ^ n) (h2 : j.natAbs < 2 ^ m) (h : n + m ≤ 90000000) : mulOk i j = true := by
  have a := log_lt (k := n + 1) h1 (by omega)
  have b := log_lt (k := m + 1) h2 (by omega)
  unfold mulOk
  exact decide_eq_true (by omega)
end RP
end

section
set_option Elab.async false
set_option linter.all false
set_option maxRecDepth 100000
set_option maxHeartbeats 4000000
set_option exponentiation.threshold 20000
/-! Draws. -/
namespace RP
open PySem
/-- a box of draws -/
def bx (a b c : Int) : Slot := .live (.lst [.int a, .int b, .int c])
structure BxOk (n : Nat) (a b c : Int) : Prop where
  a0 : 0 ≤ a
  b0 : 0 ≤ b
  b1 : b ≤ n
  c0 : 0 ≤ c
  c1 : c ≤ 100000000
theorem small_log {i : Int} {k : Nat} (h : i.natAbs < 2 ^ k) (hk : 0 < k) : i.natAbs.log2 < k := log2_lt_of h hk
theorem pow_ten (Γ : Tab) : Γ.bin .Pow (.int 10) (.int 18) = .ok (.int 1000000000000000000) := by
  rw [bin_pow _ _ _ (by decide)]
  rfl
theorem pow3 (Γ : Tab) (x : Int) (h : x.natAbs < 2 ^ 200) : Γ.bin .Pow (.int x) (.int 3) = .ok (.int (x ^ 3)) := by
  rw [bin_pow]
  · rfl
  · unfold powOk
    simp only [Bool.and_eq_true, decide_eq_true_eq]
    exact ⟨⟨by decide, by decide⟩, Nat.lt_trans (small_log h (by decide)) (by decide)⟩
theorem mul_small (Γ : Tab) (x y : Int) (hx : x.natAbs < 2 ^ 200) (hy : y.natAbs < 2 ^ 200) : Γ.bin .Mult (.int x) (.int y) = .ok (.int (x * y)) := bin_mul _ _ _ (mul_ok hx hy (by decide))
theorem div_small (Γ : Tab) (x y : Int) (h0 : 0 < y) (hy : y.natAbs < 2 ^ 200) : Γ.bin .FloorDiv (.int x) (.int y) = .ok (.int (x.fdiv y)) := bin_div _ _ _ (by
  unfold divOk
  exact decide_eq_true (by omega))
theorem take_ok {n : Nat} {a b c many : Int} (R : Sto) (B : BxOk n a b c) (hn : n ≤ 1000000) (hm : 0 < many) (hm2 : many.natAbs < 2 ^ 200) :
    ∃ v a' b', f_l_take [.loc 0, .p (.int many)] (bx a b c :: R) = .ok (.p (.int v)) (bx a' b' c :: R) ∧ 0 ≤ v ∧ v < many ∧ BxOk (n + 1) a' b' c := by
  obtain ⟨a0, b0, b1, c0, c1⟩ := B
  have mz : many ≠ 0 := by omega
  have dm : ∀ x, g0.bin .FloorDiv (.int x) (.int many) = .ok (.int (x.fdiv many)) := fun x => div_small _ _ _ hm hm2
  have mm : ∀ x, g0.bin .Mod (.int x) (.int many) = .ok (.int (x.fmod many)) := fun x => bin_mod _ _ _ mz
  by_cases h : 1000000000000000000 ≤ a
  · refine ⟨a.fmod many, a.fdiv many, b, ?_, Int.fmod_nonneg_of_pos _ hm, Int.fmod_lt_of_pos _ hm, ?_, b0, by omega, c0, c1⟩
    · simp [f_l_take, fnI, runI, i_l_take, bx, pow_ten, h, mm, dm, setIx, List.set]
    · rw [Int.fdiv_eq_ediv_of_nonneg _ (by omega)]
      exact Int.ediv_nonneg a0 (by omega)
  · have hx1 : (a + 7).natAbs < 2 ^ 200 := by
      have : (2 : Nat) ^ 200 = 1606938044258990275541962092341162602522202993782792835301376 := by decide
      omega
    have hx2 : (b + 1).natAbs < 2 ^ 200 := by
      have : (2 : Nat) ^ 200 = 1606938044258990275541962092341162602522202993782792835301376 := by decide
      omega
    have k1 := mul_small g0 (a + 7) 69069 hx1 (by decide)
    have k2 := mul_small g0 (b + 1) 40692 hx2 (by decide)
    have k3 := mul_small g0 (b + 1) 17389 hx2 (by decide)
    have k4 := pow3 g0 ((a + 7) * 69069 + (b + 1) * 40692 + c) (by
      have : (2 : Nat) ^ 200 = 1606938044258990275541962092341162602522202993782792835301376 := by decide
      omega)
    generalize hX : ((a + 7) * 69069 + (b + 1) * 40692 + c) ^ 3 = X at k4
    have k5 : g0.bin .Mod (.int X) (.int 2147483647) = .ok (.int (X.fmod 2147483647)) := bin_mod _ _ _ (by decide)
    have l1 : X.fmod 2147483647 < 2147483647 := Int.fmod_lt_of_pos _ (by decide)
    have l2 : 0 ≤ X.fmod 2147483647 := Int.fmod_nonneg_of_pos _ (by decide)
    generalize X.fmod 2147483647 = Y at k5 l1 l2
    have k6 := pow3 g0 (Y + (b + 1) * 17389) (by
      have : (2 : Nat) ^ 200 = 1606938044258990275541962092341162602522202993782792835301376 := by decide
      omega)
    generalize (Y + (b + 1) * 17389) ^ 3 = Z at k6
    have k7 : g0.bin .Mod (.int Z) (.int 2147483399) = .ok (.int (Z.fmod 2147483399)) := bin_mod _ _ _ (by decide)
    have k8 := div_small g0 (Z.fmod 2147483399) 64 (by decide) (by decide)
    refine ⟨((Z.fmod 2147483399).fdiv 64).fmod many, a, b + 1, ?_, Int.fmod_nonneg_of_pos _ hm, Int.fmod_lt_of_pos _ hm, a0, by omega, by omega, c0, c1⟩
    simp [f_l_take, fnI, runI, i_l_take, bx, pow_ten, h, mm, k1, k2, k3, k4, k5, k6, k7, k8, setIx, List.set]
end RP
end

section
set_option Elab.async false
set_option linter.all false
set_option maxRecDepth 100000
set_option maxHeartbeats 4000000
set_option exponentiation.threshold 20000
/-! Places, fees, amounts, books. -/
namespace RP
open PySem
theorem cell_ok (ns : List Int) (k : Nat) : ∃ i, f_l_cell [.scr ns, .int k] = .ok (.int i) := by
  by_cases h : k < ns.length
  · refine ⟨ns[k], ?_⟩
    have e : ns[k]? = some ns[k] := List.getElem?_eq_getElem h
    simp [f_l_cell, fnP_eq, i_l_cell, h, subP, e]
  · refine ⟨0, ?_⟩
    simp [f_l_cell, fnP_eq, i_l_cell, h]
theorem box_ok (ns : List Int) (S1 : Sto) : ∃ a : Int, f_l_box [.p (.scr ns), .p (.int 0)] S1 = .ok (.loc S1.length) (S1 ++ [bx a 0 911]) ∧ BxOk 0 a 0 911 := by
  obtain ⟨i, hi⟩ := cell_ok ns 0
  have hi : f_l_cell [.scr ns, .int 0] = .ok (.int i) := hi
  refine ⟨if i < 0 then -i else i, ?_, by split <;> omega, by decide, by decide, by decide, by decide⟩
  have m0 := mul_small g1 40503 0 (by decide) (by decide)
  simp [f_l_box, fnI, runI, i_l_box, hi, m0, bx]
end RP
end

section
set_option Elab.async false
set_option linter.all false
set_option maxRecDepth 100000
set_option maxHeartbeats 4000000
/-! The law on errors: a few draws, and what is left is reckoned out. -/
namespace RP
open PySem
def aV : Nat → P
  | 0 => .str (Str.ofString "p")
  | 1 => .int 0
  | 2 => .non
  | 3 => .int (-3)
  | 4 => .tup [.int 1, .int 2]
  | 5 => .lst [.str (Str.ofString "x")]
  | _ => .bl true
def bV : Nat → P
  | 0 => .dic [Str.ofString "k"] [.int 1]
  | 1 => .int (10 ^ 30)
  | 2 => .str (Str.ofString "")
  | 3 => .tup [.str (Str.ofString "q")]
  | _ => .bl false
def dropS : Nat → Ss → Ss
  | n + 1, .cons _ r => dropS n r
  | _, s => s
theorem rest_ok (ns : List Int) (a b c : Int) (i j : Nat) (hi : i < 7) (hj : j < 5) : exSs g2 ft (dropS 3 i_law) [some (.p (.scr ns)), some (.loc 0), some (.p (aV i)), some (.p (bV j)), none, none, none, none] [bx a b c] = .ret (.p (.bl true)) [bx a b c] := by
  have h1 : i = 0 ∨ i = 1 ∨ i = 2 ∨ i = 3 ∨ i = 4 ∨ i = 5 ∨ i = 6 := by omega
  have h2 : j = 0 ∨ j = 1 ∨ j = 2 ∨ j = 3 ∨ j = 4 := by omega
  rcases h1 with rfl | rfl | rfl | rfl | rfl | rfl | rfl <;> rcases h2 with rfl | rfl | rfl | rfl | rfl <;> kernel_rfl
end RP
end

section
set_option Elab.async false
set_option linter.all false
set_option maxRecDepth 100000
set_option maxHeartbeats 4000000
namespace RP
open PySem
theorem pick_a (v : Int) (h0 : 0 ≤ v) (h1 : v < 7) : subP (.lst [.str (Str.ofString "p"), .int 0, .non, .int (-3), .tup [.int 1, .int 2], .lst [.str (Str.ofString "x")], .bl true]) (.int v) = .ok (aV v.toNat) := by
  have h : v = 0 ∨ v = 1 ∨ v = 2 ∨ v = 3 ∨ v = 4 ∨ v = 5 ∨ v = 6 := by omega
  rcases h with rfl | rfl | rfl | rfl | rfl | rfl | rfl <;> rfl
theorem pick_b (v : Int) (h0 : 0 ≤ v) (h1 : v < 5) : subP (.lst [.dic [Str.ofString "k"] [.int 1], .int (10 ^ 30), .str (Str.ofString ""), .tup [.str (Str.ofString "q")], .bl false]) (.int v) = .ok (bV v.toNat) := by
  have h : v = 0 ∨ v = 1 ∨ v = 2 ∨ v = 3 ∨ v = 4 := by omega
  rcases h with rfl | rfl | rfl | rfl | rfl <;> rfl
def headS (n : Nat) : S := match dropS n i_law with
  | .cons s _ => s
  | .nil => .pass
theorem law_is : i_law = .cons (headS 0) (.cons (headS 1) (.cons (headS 2) (dropS 3 i_law))) := by kernel_rfl
section
variable (ns : List Int) (a b c : Int)
theorem st0 : ∃ a : Int, exS g2 ft (headS 0) [some (.p (.scr ns)), none, none, none, none, none, none, none] [] = .next [some (.p (.scr ns)), some (.loc 0), none, none, none, none, none, none] [bx a 0 911] ∧ BxOk 0 a 0 911 := by
  obtain ⟨a, h, B⟩ := box_ok ns []
  refine ⟨a, ?_, B⟩
  have e : headS 0 = .asg (.name 1) (.icall 13 (.cons (.var 0) (.cons (.int 0) .nil))) := rfl
  rw [e]
  simp [h]
theorem st1 {n : Nat} {a b c : Int} (B : BxOk n a b c) (hn : n ≤ 1000000) : ∃ v a' b', exS g2 ft (headS 1) [some (.p (.scr ns)), some (.loc 0), none, none, none, none, none, none] [bx a b c] = .next [some (.p (.scr ns)), some (.loc 0), some (.p (aV v)), none, none, none, none, none] [bx a' b' c] ∧ v < 7 ∧ BxOk (n + 1) a' b' c := by
  obtain ⟨v, a', b', h, h0, h1, B'⟩ := take_ok (many := 7) [] B hn (by decide) (by decide)
  refine ⟨v.toNat, a', b', ?_, by omega, B'⟩
  have p := pick_a v h0 h1
  have e : headS 1 = .asg (.name 2) (.sub (.lst (.cons (.str (Str.ofString "p")) (.cons (.int 0) (.cons .non (.cons (.neg (.int 3)) (.cons (.tup (.cons (.int 1) (.cons (.int 2) .nil))) (.cons (.lst (.cons (.str (Str.ofString "x")) .nil)) (.cons (.bl true) .nil)))))))) (.icall 1 (.cons (.var 1) (.cons (.int 7) .nil)))) := rfl
  rw [e]
  simp [h, p, Tab.neg]
theorem st2 {n : Nat} {a b c : Int} (x : P) (B : BxOk n a b c) (hn : n ≤ 1000000) : ∃ v a' b', exS g2 ft (headS 2) [some (.p (.scr ns)), some (.loc 0), some (.p x), none, none, none, none, none] [bx a b c] = .next [some (.p (.scr ns)), some (.loc 0), some (.p x), some (.p (bV v)), none, none, none, none] [bx a' b' c] ∧ v < 5 ∧ BxOk (n + 1) a' b' c := by
  obtain ⟨v, a', b', h, h0, h1, B'⟩ := take_ok (many := 5) [] B hn (by decide) (by decide)
  refine ⟨v.toNat, a', b', ?_, by omega, B'⟩
  have p := pick_b v h0 h1
  have pw : g2.bin .Pow (.int 10) (.int 30) = .ok (.int (10 ^ 30)) := by
    rw [bin_pow _ _ _ (by decide)]
    rfl
  have e : headS 2 = .asg (.name 3) (.sub (.lst (.cons (.dsp [(Str.ofString "k")] [P.int 1]) (.cons (.bin .Pow (.int 10) (.int 30)) (.cons (.str (Str.ofString "")) (.cons (.tup (.cons (.str (Str.ofString "q")) .nil)) (.cons (.bl false) .nil)))))) (.icall 1 (.cons (.var 1) (.cons (.int 5) .nil)))) := rfl
  rw [e]
  simp [h, p, pw, flatP, -Int.reducePow]
end
theorem law_true (ns : List Int) : ∃ S, lawR ns = .ok (.p (.bl true)) S := by
  obtain ⟨a, h0, B0⟩ := st0 ns
  obtain ⟨i, a1, b1, h1, hi, B1⟩ := st1 ns B0 (by decide)
  obtain ⟨j, a2, b2, h2, hj, B2⟩ := st2 ns (aV i) B1 (by decide)
  have h3 := rest_ok ns a2 b2 911 i j hi hj
  refine ⟨[bx a2 b2 911], ?_⟩
  have e : exSs g2 ft i_law [some (.p (.scr ns)), none, none, none, none, none, none, none] [] = .ret (.p (.bl true)) [bx a2 b2 911] := by
    rw [law_is]
    simp only [exSs, RS.bind, h0, h1, h2]
    exact h3
  show runI g2 ft 8 i_law [.p (.scr ns)] [] = _
  unfold runI
  have e2 : (List.map some [D.p (.scr ns)] ++ List.replicate (8 - [D.p (.scr ns)].length) none) = [some (.p (.scr ns)), none, none, none, none, none, none, none] := rfl
  rw [e2, e]
end RP
end

theorem PySem.Challenge.cw_rangepools_k01_errors_holds : PySem.Challenge.rw_rangepools_k01_errors.Holds := by
  exact RP.holds_of fun ns _ => RP.law_true ns
