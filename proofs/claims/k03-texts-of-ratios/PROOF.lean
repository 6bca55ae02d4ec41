import PyProof.Rows.All
import PySem.Syntax
import PyProof.PureStr
import PyProof.ReprRoads
import PyProof.StrBlock2
import PyProof.StrBlockL
import HandS.Text
import HandS.ForMost
import HandS.ForExc
import HandS.CallSlots
import HandS.IsInst
import KE.KOpsOwn
import HandS.Wide
import HandS.Property
import HandS.OwnEq
import PyProof.NeKinds
import HandS.Star
import HandS.List
import HandS.NoneIn
import HandS.Iter
import KE.GoesMore
import HandS.Zip
import HandS.Comp
import HandS.WordsExc
import HandS.ExcInit
import HandS.TryMany
import HandS.Style
import KE.KRevSl
import HandS.TupAny
import HandS.Defaults
import HandS.MakeKw
import HandS.MakeKwOnly
import HandS.FStr
import HandS.ClsMeth
import HandS.Dict
import HandS.HeadEnd
import HandS.HeadHook2
import HandS.Head2
import PySem.Challenge.RW_rangepools_k03_texts_of_ratios
import KE.IntTextLaws
import KE.KIntText
section
set_option Elab.async false
set_option linter.all false
/-! The evaluator: pure data P, a store of cells, expressions E, statements S, and what they evaluate to. -/
namespace RP
open PySem

inductive P where
  | non | bl (b : Bool) | int (i : Int) | str (s : Str)
  | tup (xs : List P) | lst (xs : List P) | ob (c : Nat) (xs : List P) | scr (ns : List Int)
  | dic (ks : List Str) (vs : List P)
  deriving Inhabited

inductive D where
  | p (x : P) | loc (n : Nat) | cls (c : Nat)

inductive Cell where
  | lst (xs : List P)
  | obj (c : Nat) (fs : List (Nat × D))
  | nst (ds : List D)

/-- a place of the store: a thing that changes, or one that stays from now on -/
inductive Slot where
  | live (c : Cell) | fz (x : P)
abbrev Sto := List Slot
abbrev DEnv := List (Option D)

/-- what an expression comes to -/
inductive RE (α : Type) where
  | ok (a : α) (S : Sto) | exc (c : Nat) (x : Option P) (S : Sto) | stuck
/-- what a pure def comes to -/
inductive RP where
  | ok (x : P) | exc (c : Nat) (x : Option P) | stuck
abbrev PFn := List P → RP
/-- what a statement comes to -/
inductive RS where
  | next (δ : DEnv) (S : Sto) | ret (d : D) (S : Sto) | brk (δ : DEnv) (S : Sto) | cnt (δ : DEnv) (S : Sto) | exc (c : Nat) (x : Option P) (δ : DEnv) (S : Sto) | stuck

@[simp] def RE.bind {α β : Type} (r : RE α) (f : α → Sto → RE β) : RE β := match r with
  | .ok a S => f a S
  | .exc c x S => .exc c x S
  | .stuck => .stuck
@[simp] def RP.lift (r : RP) (S : Sto) : RE D := match r with
  | .ok x => .ok (.p x) S
  | .exc c x => .exc c x S
  | .stuck => .stuck

/-- a method's or an operator's own def: class, name, what it does -/
structure MEnt where
  c : Nat
  m : Nat
  f : PFn
/-- an impure def -/
abbrev IFn := List D → Sto → RE D
/-- a def called with values and keywords -/
abbrev KFn := List P → List P → RP
structure IEnt where
  c : Nat
  m : Nat
  f : IFn
  kw : List (List Str × KFn) := []
structure Tab where
  fns : List (Nat × PFn)
  ifns : List (Nat × IFn)
  mts : List MEnt
  prs : List MEnt
  gcs : List (Nat × P) := []
  kfns : List (Nat × KFn) := []
  imts : List IEnt := []
  kifns : List (Nat × Nat × IFn) := []
  cms : List IEnt := []
  kcms : List (Nat × IFn) := []
def findI (c m : Nat) : List IEnt → Option IFn
  | [] => none
  | e :: r => if e.c == c && e.m == m then some e.f else findI c m r
def findM (c m : Nat) : List MEnt → Option PFn
  | [] => none
  | e :: r => if e.c == c && e.m == m then some e.f else findM c m r
def Tab.meth (Γ : Tab) (c m : Nat) : Option PFn := findM c m Γ.mts
def findK (c m : Nat) (ks : List Str) : List IEnt → Option KFn
  | [] => none
  | e :: r => if e.c == c && e.m == m then e.kw.lookup ks else findK c m ks r
def Tab.kmeth (Γ : Tab) (c m : Nat) (ks : List Str) : Option KFn := findK c m ks Γ.imts
def Tab.imeth (Γ : Tab) (c m : Nat) : Option IFn := findI c m Γ.imts
def Tab.cmeth (Γ : Tab) (c m : Nat) : Option IFn := findI c m Γ.cms
def Tab.prop (Γ : Tab) (c m : Nat) : Option PFn := findM c m Γ.prs
/-- ids of names: the operators' first -/
abbrev mAdd : Nat := 0
abbrev mSub : Nat := 1
abbrev mMul : Nat := 2
abbrev mNeg : Nat := 3
abbrev mEq : Nat := 4
abbrev mLt : Nat := 5
abbrev mLe : Nat := 6
abbrev mAppend : Nat := 7
abbrev mClear : Nat := 8

inductive Ty where
  | int | bool | str | tup | lst | own (c : Nat)
  deriving DecidableEq
/-- built-ins of one, of two values -/
inductive B1 where
  | len | int | abs | list | tuple | all | sum | rpr | str
  deriving DecidableEq
inductive B2 where
  | min | max
  deriving DecidableEq

mutual
inductive E where
  | var (i : Nat) | gc (k : Nat)
  | non | bl (b : Bool) | int (i : Int) | str (s : Str)
  | bin (op : Operator) (a b : E) | neg (a : E) | not (a : E)
  | cmp (op : CmpOp) (a b : E) | chain (op op' : CmpOp) (a b c : E)
  | and (a b : E) | or (a b : E) | ite (t a b : E)
  | tup (es : Es) | lst (es : Es) | newl (es : Es) | newn (es : Es) | dsp (ks : List Str) (vs : List P) | catl (a b : E)
  | sub (a i : E) | subn (a i : E) | slc (a : E) (hl : Bool) (lo : E) (hh : Bool) (hi : E) | rev (a : E)
  | attr (a : E) (f : Nat)
  | call (k : Nat) (es : Es) | icall (k : Nat) (es : Es) | kcall (k : Nat) (es ks : Es)
  | meth (a : E) (m : Nat) (es : Es) | app (a e : E) | clr (a : E)
  | b1 (b : B1) (a : E) | b2 (b : B2) (a c : E) | cpl (a : E)
  | isi (a : E) (t : Ty)
  | comp (lv : Bool) (elt : E) (tg : Tg) (it : It) (hc : Bool) (c : E)
  | fcall (k : Nat) (es : Es) | bcall (k : Nat) (es : Es)
  | compb (lv : Bool) (elt : E) (tg : Tg) (i : Nat) (hc : Bool) (c : E)
  | fmeth (a : E) (m : Nat) (es : Es)
  | kmeth (a : E) (m : Nat) (ks : List Str) (es : Es)
  | comp2 (elt : E) (tg : Tg) (it : It) (tg1 : Tg) (it1 : It) (hc : Bool) (c : E)
  | fkcall (k : Nat) (es ks : Es)
  | spl (a b : E) | fs3 (a : E) (z : Str) (b : E)
  | lcall (i c k : Nat) (y : Str) (es : Es) | cmeth (c m : Nat) (y : Str) (es : Es) | kcmeth (j c : Nat) (y : Str) (es : Es)
inductive Es where
  | nil | cons (e : E) (es : Es) | star (e : E) (es : Es)
inductive Tg where
  | name (i : Nat) | tup (ts : Tgs)
inductive Tgs where
  | nil | cons (t : Tg) (ts : Tgs)
inductive It where
  | seq (e : E) | rng1 (e : E) | rng2 (a b : E) | zip (a b : E) | enum (e : E)
end

/-- a text backward -/
def revS (z : Str) : Str := ⟨z.cps.toList.reverse.toArray⟩
def revG (o : Option P) (S : Sto) : RE D := match o with
  | some (.lst xs) => .ok (.p (.lst xs.reverse)) S
  | some (.str z) => if decide (z.length ≤ 100000) then .ok (.p (.str (revS z))) S else .stuck
  | _ => .stuck
/-- a text in parts -/
def splR (x y : Str) (S : Sto) : RE D := if decide (y.length ≠ 0) && decide (x.length ≤ 100000) then .ok (.p (.lst ((PySem.Txt.split x y).map .str))) S else .stuck
/-- a part of an f-string -/
def fmtD (d : D) : Option Str := match d with
  | .p (.str y) => if decide (y.length ≤ 100000) then some y else none
  | .p (.int i) => if decide (i.natAbs.log2 < 1920) then some (Str.ofString (toString i)) else none
  | _ => none
def fs3R (x z y : Str) (S : Sto) : RE D := if decide ((x ++ z).length ≤ 100000) && decide ((x ++ z ++ y).length ≤ 100000) then .ok (.p (.str (x ++ z ++ y))) S else .stuck
/-- a value becomes pure: a live list is given away -/
@[simp] def purify (d : D) (S : Sto) : RE P := match d with
  | .p x => .ok x S
  | .loc n => match S[n]? with
    | some (.live (.lst xs)) => .ok (.lst xs) (S.set n (.fz (.lst xs)))
    | some (.fz x) => .ok x S
    | _ => .stuck
  | .cls _ => .stuck
/-- a value looked at, at once -/
@[simp] def peek (d : D) (S : Sto) : Option P := match d with
  | .p x => some x
  | .loc n => match S[n]? with
    | some (.live (.lst xs)) => some (.lst xs)
    | some (.fz x) => some x
    | _ => none
  | .cls _ => none

def b2i (b : Bool) : Int := if b then 1 else 0
/-- == of flat data, and of data of unlike kinds -/
def eq0 : P → P → Option Bool
  | .non, .non => some true
  | .bl a, .bl b => some (a == b)
  | .int a, .int b => some (a == b)
  | .bl a, .int b => some ((if a then 1 else 0) == b)
  | .int a, .bl b => some (a == (if b then 1 else 0))
  | .str a, .str b => some (a == b)
  | .ob _ _, _ => none
  | _, .ob _ _ => none
  | .scr _, _ => none
  | _, .scr _ => none
  | .dic _ _, _ => none
  | _, .dic _ _ => none
  | .tup _, .tup _ => none
  | .lst _, .lst _ => none
  | _, _ => some false
def eqL (f : P → P → Option Bool) : List P → List P → Option Bool
  | x :: xs, y :: ys => match f x y with
    | some true => eqL f xs ys
    | some false => some false
    | none => none
  | _, _ => some true
/-- == of data, at most n deep; feq: the own __eq__ -/
def eqN (feq : Nat → P → P → Option Bool) : Nat → P → P → Option Bool
  | 0, _, _ => none
  | n + 1, x, y => match x with
    | .ob c xs => feq c (.ob c xs) y
    | .tup xs => match y with
      | .tup ys => if xs.length == ys.length then eqL (eqN feq n) xs ys else none
      | y => eq0 (.tup xs) y
    | .lst xs => match y with
      | .lst ys => if xs.length == ys.length then eqL (eqN feq n) xs ys else some false
      | y => eq0 (.lst xs) y
    | x => eq0 x y
mutual
def sameP : P → P → Bool
  | .non, .non => true
  | .bl a, .bl b => a == b
  | .int a, .int b => decide (a = b)
  | .str a, .str b => decide (a = b)
  | .tup xs, .tup ys => sameL xs ys
  | .lst xs, .lst ys => sameL xs ys
  | .ob c xs, .ob d ys => decide (c = d) && sameL xs ys
  | .scr a, .scr b => decide (a = b)
  | .dic a xs, .dic b ys => decide (a = b) && sameL xs ys
  | _, _ => false
def sameL : List P → List P → Bool
  | [], [] => true
  | x :: xs, y :: ys => sameP x y && sameL xs ys
  | _, _ => false
end
mutual
theorem same_refl : ∀ x : P, sameP x x = true
  | .non => by simp only [sameP]
  | .bl b => by simp [sameP]
  | .int b => by simp [sameP]
  | .str b => by simp [sameP]
  | .tup xs => by simp only [sameP]; exact sameL_refl xs
  | .lst xs => by simp only [sameP]; exact sameL_refl xs
  | .ob c xs => by simp only [sameP, decide_true, Bool.true_and]; exact sameL_refl xs
  | .scr b => by simp [sameP]
  | .dic c xs => by simp only [sameP, decide_true, Bool.true_and]; exact sameL_refl xs
theorem sameL_refl : ∀ x : List P, sameL x x = true
  | [] => by simp only [sameL]
  | x :: xs => by simp only [sameL, Bool.and_eq_true]; exact ⟨same_refl x, sameL_refl xs⟩
end
mutual
theorem same_eq : ∀ x y : P, sameP x y = true → x = y
  | .non, y, h => by cases y <;> simp [sameP] at h ⊢
  | .bl b, y, h => by cases y <;> simp [sameP] at h ⊢ <;> exact h
  | .int b, y, h => by cases y <;> simp [sameP] at h ⊢ <;> exact h
  | .str b, y, h => by cases y <;> simp [sameP] at h ⊢ <;> exact h
  | .tup xs, y, h => by
    cases y <;> simp [sameP] at h ⊢
    exact sameL_eq xs _ h
  | .lst xs, y, h => by
    cases y <;> simp [sameP] at h ⊢
    exact sameL_eq xs _ h
  | .ob c xs, y, h => by
    cases y <;> simp [sameP] at h ⊢
    exact ⟨h.1, sameL_eq xs _ h.2⟩
  | .scr b, y, h => by cases y <;> simp [sameP] at h ⊢ <;> exact h
  | .dic c xs, y, h => by
    cases y <;> simp [sameP] at h ⊢
    exact ⟨h.1, sameL_eq xs _ h.2⟩
theorem sameL_eq : ∀ x y : List P, sameL x y = true → x = y
  | [], y, h => by cases y <;> simp [sameL] at h ⊢
  | x :: xs, y, h => by
    cases y <;> simp [sameL] at h ⊢
    exact ⟨same_eq x _ h.1, sameL_eq xs _ h.2⟩
end
/-- an own ==; of one thing with itself it has to be true -/
def Tab.feq (Γ : Tab) (c : Nat) (x y : P) : Option Bool := match Γ.meth c mEq with
  | some f => match f [x, y] with
    | .ok (.bl b) => if sameP x y && !b then none else some b
    | _ => none
  | none => none
theorem Tab.feq_refl {Γ : Tab} {c : Nat} {x : P} {b : Bool} (h : Γ.feq c x x = some b) : b = true := by
  unfold Tab.feq at h
  split at h
  · split at h
    · rw [same_refl] at h
      split at h
      · cases h
      · rename_i hb
        cases h
        simpa using hb
    · cases h
  · cases h
def eqDeep : Nat := 6
def Tab.eq (Γ : Tab) (x y : P) : RP := match eqN Γ.feq eqDeep x y with
  | some b => .ok (.bl b)
  | none => .stuck
def notR : RP → RP
  | .ok (.bl b) => .ok (.bl (!b))
  | .ok _ => .stuck
  | r => r
def flatP : P → Bool
  | .non => true
  | .bl _ => true
  | .int _ => true
  | .str _ => true
  | _ => false
/-- x in ys -/
def isInL (f : P → P → Option Bool) (x : P) : List P → Option Bool
  | [] => some false
  | y :: ys => match f y x with
    | some true => some true
    | some false => isInL f x ys
    | none => none
def Tab.isIn (Γ : Tab) (x y : P) : RP := match y with
  | .lst ys => match isInL (eqN Γ.feq eqDeep) x ys with
    | some b => .ok (.bl b)
    | none => .stuck
  | .tup ys => if flatP x && ys.all flatP then (match isInL eq0 x ys with
    | some b => .ok (.bl b)
    | none => .stuck) else .stuck
  | .str z => match x with
    | .str c => match c.cps.toList with
      | [d] => .ok (.bl (decide (d ∈ z.cps.toList)))
      | _ => .stuck
    | _ => .stuck
  | _ => .stuck

def opM : Operator → Option Nat
  | .Add => some mAdd | .Sub => some mSub | .Mult => some mMul | _ => none
def mulOk (i j : Int) : Bool := decide (i.natAbs.log2 + j.natAbs.log2 < 100000000)
def divOk (j : Int) : Bool := decide (j ≠ 0)
def powOk (i j : Int) : Bool := decide (0 ≤ j) && decide (j ≤ 1000) && decide (i.natAbs.log2 < 10000)
def lineOk (n : Nat) : Bool := decide (n ≤ 100000)
def Tab.bin (Γ : Tab) (op : Operator) (x y : P) : RP := match x with
  | .int i => match y with
    | .int j => match op with
      | .Add => .ok (.int (i + j))
      | .Sub => .ok (.int (i - j))
      | .Mult => if mulOk i j then .ok (.int (i * j)) else .stuck
      | .FloorDiv => if divOk j then .ok (.int (i.fdiv j)) else .stuck
      | .Mod => if j == 0 then .stuck else .ok (.int (i.fmod j))
      | .Pow => if powOk i j then .ok (.int (i ^ j.toNat)) else .stuck
      | _ => .stuck
    | _ => .stuck
  | .str s => match y, op with
    | .str t, .Add => if lineOk (s.length + t.length) then .ok (.str (s ++ t)) else .stuck
    | .int k, .Mult => if decide (k ≤ 1000) && decide (0 ≤ k) && decide (s.length ≤ 100) then .ok (.str (PySem.Txt.mul s k)) else .stuck
    | _, _ => .stuck
  | .lst xs => match y, op with
    | .lst ys, .Add => if lineOk xs.length && lineOk ys.length then .ok (.lst (xs ++ ys)) else .stuck
    | .int k, .Mult => if decide (k ≤ 1000) && decide (0 ≤ k) && lineOk (xs.length * k.toNat) then .ok (.lst (List.replicate k.toNat xs).flatten) else .stuck
    | _, _ => .stuck
  | .ob c xs => match opM op with
    | some m => match Γ.meth c m with
      | some f => match y with
        | .int i => f [.ob c xs, .int i]
        | .ob c' ys => if c' == c then f [.ob c xs, .ob c' ys] else .stuck
        | _ => .stuck
      | none => .stuck
    | none => .stuck
  | _ => .stuck
def Tab.neg (Γ : Tab) (x : P) : RP := match x with
  | .int i => .ok (.int (-i))
  | .ob c xs => match Γ.meth c mNeg with
    | some f => f [.ob c xs]
    | none => .stuck
  | _ => .stuck
def isNon : P → Bool
  | .non => true
  | _ => false
/-- is: beside None, or of two bools -/
def isW (x y : P) : Option Bool := if isNon y then some (isNon x) else match x with
  | .bl a => match y with
    | .bl b => some (a == b)
    | _ => none
  | _ => none
def Tab.cmp (Γ : Tab) (op : CmpOp) (x y : P) : RP := match op with
  | .Eq => Γ.eq x y
  | .NotEq => notR (Γ.eq x y)
  | .Is => match isW x y with
    | some b => .ok (.bl b)
    | none => .stuck
  | .IsNot => match isW x y with
    | some b => .ok (.bl (!b))
    | none => .stuck
  | .In => Γ.isIn x y
  | .NotIn => notR (Γ.isIn x y)
  | .Lt => match x with
    | .int i => match y with
      | .int j => .ok (.bl (decide (i < j)))
      | _ => .stuck
    | .ob c xs => match Γ.meth c mLt with
      | some f => match y with
        | .lst _ => .stuck
        | y => f [.ob c xs, y]
      | none => .stuck
    | _ => .stuck
  | .LtE => match x with
    | .int i => match y with
      | .int j => .ok (.bl (decide (i ≤ j)))
      | _ => .stuck
    | .ob c xs => match Γ.meth c mLe with
      | some f => match y with
        | .lst _ => .stuck
        | y => f [.ob c xs, y]
      | none => .stuck
    | _ => .stuck
  | .Gt => match x with
    | .int i => match y with
      | .int j => .ok (.bl (decide (j < i)))
      | _ => .stuck
    | _ => .stuck
  | .GtE => match x with
    | .int i => match y with
      | .int j => .ok (.bl (decide (j ≤ i)))
      | _ => .stuck
    | _ => .stuck

def ixAt {α : Type} (xs : List α) (i : Int) : Option α := if 0 ≤ i then xs[i.toNat]? else if i + xs.length < 0 then none else xs[(i + xs.length).toNat]?
/-- an item of a list of changing lists -/
@[simp] def subN (d1 d2 : D) (S : Sto) : RE D := match d1, d2 with
  | .loc n, .p (.int i) => match S[n]? with
    | some (.live (.nst ds)) => match ixAt ds i with
      | some d => .ok d S
      | none => .stuck
    | _ => .stuck
  | _, _ => .stuck
def look : List Str → List P → Str → Option P
  | k :: ks, x :: xs, z => if k = z then some x else look ks xs z
  | _, _, _ => none
def subP (x i : P) : RP := match i with
  | .str z => match x with
    | .dic ks vs => match look ks vs z with
      | some y => .ok y
      | none => .stuck
    | _ => .stuck
  | .int i => match x with
    | .lst xs => match ixAt xs i with
      | some y => .ok y
      | none => .stuck
    | .tup xs => match ixAt xs i with
      | some y => .ok y
      | none => .stuck
    | .scr ns => if 0 ≤ i then (match ns[i.toNat]? with
      | some n => .ok (.int n)
      | none => .stuck) else .stuck
    | .str z => if 0 ≤ i ∧ z.length ≤ 1000000 then (match z.cps[i.toNat]? with
      | some c => .ok (.str ⟨#[c]⟩)
      | none => .stuck) else .stuck
    | _ => .stuck
  | _ => .stuck
/-- xs[lo:hi] -/
def cutAt (n : Nat) (i : Int) : Nat := if i < 0 then (i + n).toNat else min i.toNat n
def cutO (n d : Nat) : Option Int → Nat
  | some i => cutAt n i
  | none => d
def cutP {α : Type} (xs : List α) (lo hi : Option Int) : List α := (xs.drop (cutO xs.length 0 lo)).take (cutO xs.length xs.length hi - cutO xs.length 0 lo)
def slcP (x : P) (lo hi : Option Int) : RP := match x with
  | .lst xs => .ok (.lst (cutP xs lo hi))
  | .tup xs => if cutO xs.length 0 lo = 0 ∧ cutO xs.length xs.length hi = xs.length then .stuck else .ok (.tup (cutP xs lo hi))
  | .str s => if lineOk s.length then .ok (.str ⟨(cutP s.cps.toList lo hi).toArray⟩) else .stuck
  | _ => .stuck
/-- fields by name -/
def fldIx (f : Nat) : List Nat → List P → Option P
  | g :: gs, x :: xs => if g == f then some x else fldIx f gs xs
  | _, _ => none
def isiP (t : Ty) (x : P) : Option Bool := match x with
  | .non => some false
  | .bl _ => some (t == .int || t == .bool)
  | .int _ => some (t == .int)
  | .str _ => some (t == .str)
  | .tup _ => some (t == .tup)
  | .lst _ => some (t == .lst)
  | .ob c _ => some (t == .own c)
  | .scr _ => none
  | .dic _ _ => some false
def intsOf : List P → Option (List Int)
  | [] => some []
  | .int i :: r => (intsOf r).map (i :: ·)
  | _ :: _ => none
def allB : List P → Option Bool
  | [] => some true
  | .bl b :: r => if b then allB r else some false
  | _ :: _ => none
def bolsOf : List P → Option (List Bool)
  | [] => some []
  | .bl i :: r => (bolsOf r).map (i :: ·)
  | _ :: _ => none
mutual
/-- data that can be shown -/
def data0 : P → Option PyData
  | .non => some .none
  | .bl b => some (.bool b)
  | .int i => some (.int i)
  | .str s => some (.str s)
  | .tup xs => (dataL xs).map .tuple
  | .lst xs => (dataL xs).map .list
  | _ => none
def dataL : List P → Option (List PyData)
  | [] => some []
  | x :: xs => match data0 x, dataL xs with
    | some d, some ds => some (d :: ds)
    | _, _ => none
end
def shwP : Option PyData → RP
  | some d => if d.showable && (decide (d.shown.length ≤ 100000) && decide (d.depth ≤ 30)) then .ok (.str d.shown) else .stuck
  | none => .stuck
/-- repr -/
def rprP : P → RP
  | .non => .ok (.str "None")
  | .bl b => .ok (.str (if b then "True" else "False"))
  | .int i => if decide (i.natAbs.log2 < 1920) then .ok (.str (Str.ofString (toString i))) else .stuck
  | .str s => if decide ((PySem.reprText s).length ≤ 100000) then .ok (.str (PySem.reprText s)) else .stuck
  | .tup xs => shwP (data0 (.tup xs))
  | .lst xs => shwP (data0 (.lst xs))
  | .dic ks vs => if vs.all flatP then shwP ((dataL vs).map fun ds => .dict ((ks.map .str).zip ds)) else .stuck
  | _ => .stuck
/-- str(x) -/
def strP : P → RP
  | .str s => .ok (.str s)
  | x => rprP x
def b1P (b : B1) (x : P) : RP := match b with
  | .str => strP x
  | .all => match x with
    | .lst ys => match bolsOf ys with
      | some bs => .ok (.bl (bs.all id))
      | none => .stuck
    | _ => .stuck
  | .sum => match x with
    | .lst ys => match intsOf ys with
      | some is => .ok (.int is.sum)
      | none => .stuck
    | _ => .stuck
  | .rpr => rprP x
  | .len => match x with
    | .lst ys => .ok (.int ys.length)
    | .tup ys => .ok (.int ys.length)
    | .scr ns => .ok (.int ns.length)
    | .str s => if lineOk s.length then .ok (.int s.length) else .stuck
    | _ => .stuck
  | .int => match x with
    | .int i => .ok (.int i)
    | .bl b => .ok (.int (if b then 1 else 0))
    | .str s => if decide (s.length ≤ 640) then (match PySem.intText? s with
      | some n => .ok (.int n)
      | none => .stuck) else .stuck
    | _ => .stuck
  | .abs => match x with
    | .int i => .ok (.int (if i < 0 then -i else i))
    | _ => .stuck
  | .list => match x with
    | .lst ys => .ok (.lst ys)
    | .tup ys => .ok (.lst ys)
    | _ => .stuck
  | .tuple => match x with
    | .lst ys => .ok (.tup ys)
    | .tup ys => .ok (.tup ys)
    | _ => .stuck
def b2P (b : B2) (x y : P) : RP := match x with
  | .int i => match y with
    | .int j => match b with
      | .min => .ok (.int (if j < i then j else i))
      | .max => .ok (.int (if j > i then j else i))
    | _ => .stuck
  | _ => .stuck
/-- a new list with these items, to be changed -/
def newG (xs : List P) (S : Sto) : RE D := .ok (.loc S.length) (S ++ [.live (.lst xs)])
def cplG (x : Option P) (S : Sto) : RE D := match x with
  | some (.lst xs) => newG xs S
  | some (.tup xs) => newG xs S
  | _ => .stuck

/-- the fields of the classes: by the class's number -/
abbrev FldT := Nat → List Nat

def setSlot (δ : DEnv) (i : Nat) (d : D) : DEnv := δ.set i (some d)
mutual
def bindT : Tg → P → DEnv → Option DEnv
  | .name i, x, δ => some (setSlot δ i (.p x))
  | .tup ts, .tup xs, δ => bindTs ts xs δ
  | .tup ts, .lst xs, δ => bindTs ts xs δ
  | .tup _, _, _ => none
def bindTs : Tgs → List P → DEnv → Option DEnv
  | .nil, [], δ => some δ
  | .cons t ts, x :: xs, δ => (bindT t x δ).bind (bindTs ts xs)
  | _, _, _ => none
end
mutual
/-- the slots of a target -/
def tgIx : Tg → List Nat
  | .name i => [i]
  | .tup ts => tgsIx ts
def tgsIx : Tgs → List Nat
  | .nil => []
  | .cons t ts => tgIx t ++ tgsIx ts
end
def wipeD (δ : DEnv) : List Nat → DEnv
  | [] => δ
  | v :: vs => (wipeD δ vs).set v none
def zipP : List P → List P → List P
  | x :: xs, y :: ys => .tup [x, y] :: zipP xs ys
  | _, _ => []
def rangeP (lo : Int) : Nat → List P
  | 0 => []
  | n + 1 => .int lo :: rangeP (lo + 1) n
/-- the pairs of enumerate -/
def enumP : Nat → List P → List P
  | _, [] => []
  | i, x :: xs => .tup [.int (i : Nat), x] :: enumP (i + 1) xs
/-- the signs of a text -/
def signsP (z : Str) : List P := z.cps.toList.map fun c => .str ⟨#[c]⟩
/-- the items of a list, a tuple, a text -/
@[simp] def seqOf : P → Option (List P)
  | .lst xs => some xs
  | .tup xs => some xs
  | .str z => some (signsP z)
  | _ => none
def rngOk (i : Int) : Bool := decide (-(2 ^ 62) ≤ i) && decide (i < 2 ^ 62)

/-- o.m(..) of a thing that never changes -/
def methG (Γ : Tab) (m : Nat) (d : D) (fs : Sto → RE (List P)) (S : Sto) : RE D := match d with
  | .p (.ob c ys) => match Γ.meth c m with
    | some g => (fs S).bind fun xs S2 => (g (.ob c ys :: xs)).lift S2
    | none => .stuck
  | _ => .stuck
/-- values looked at, all at once -/
def peeks : List D → Sto → Option (List P)
  | [], _ => some []
  | d :: ds, S => match peek d S, peeks ds S with
    | some x, some xs => some (x :: xs)
    | _, _ => none
/-- a def that was run by itself gives a new list: it may change -/
def freshG (r : RE D) (S : Sto) : RE D := match r with
  | .ok (.loc n) S' => match S'[n]? with
    | some (.live (.lst ys)) => .ok (.loc S.length) (S ++ [.live (.lst ys)])
    | _ => .stuck
  | .ok (.p x) _ => if flatP x then .ok (.p x) S else .stuck
  | .exc c x _ => .exc c x S
  | _ => .stuck
/-- o.m(..) whose own new list goes on living -/
def methF (Γ : Tab) (m : Nat) (d : D) (fs : Sto → RE (List P)) (S : Sto) : RE D := match d with
  | .p (.ob c ys) => match Γ.imeth c m with
    | some g => (fs S).bind fun xs S2 => freshG (g ((P.ob c ys :: xs).map D.p) []) S2
    | none => .stuck
  | _ => .stuck
/-- o.m(x=..) -/
def methK (Γ : Tab) (m : Nat) (ks : List Str) (d : D) (fs : Sto → RE (List P)) (S : Sto) : RE D := match d with
  | .p (.ob c ys) => match Γ.kmeth c m ks with
    | some g => (fs S).bind fun xs S2 => (g [P.ob c ys] xs).lift S2
    | none => .stuck
  | _ => .stuck
/-- xs.append(x), xs.clear() -/
def appG (d : D) (x : P) (S : Sto) : RE D := match d with
  | .loc n => match S[n]? with
    | some (.live (.lst ys)) => if lineOk ys.length then .ok (.p .non) (S.set n (.live (.lst (ys ++ [x])))) else .stuck
    | _ => .stuck
  | _ => .stuck
def clrG (d : D) (S : Sto) : RE D := match d with
  | .loc n => match S[n]? with
    | some (.live (.lst _)) => .ok (.p .non) (S.set n (.live (.lst [])))
    | some (.fz (.lst [])) => .ok (.p .non) S
    | _ => .stuck
  | _ => .stuck
section
variable (Γ : Tab) (FT : FldT)
/-- one comprehension, over items that are known -/
def compL (bind : P → DEnv → Option DEnv) (test : DEnv → Sto → RE D) (elt : DEnv → Sto → RE D) (δ : DEnv) : List P → Sto → RE (List P)
  | [], S => .ok [] S
  | x :: xs, S => match bind x δ with
    | none => .stuck
    | some δ' => match test δ' S with
      | .ok (.p (.bl true)) S1 => match elt δ' S1 with
        | .ok d S2 => match purify d S2 with
          | .ok y S3 => (compL bind test elt δ xs S3).bind fun ys S4 => .ok (y :: ys) S4
          | _ => .stuck
        | _ => .stuck
      | .ok (.p (.bl false)) S1 => compL bind test elt δ xs S1
      | _ => .stuck
/-- a comprehension of two clauses; n: how many items there are -/
def comp2L (bind : P → DEnv → Option DEnv) (fi : DEnv → Sto → RE (List P)) (bind1 : P → DEnv → Option DEnv) (test elt : DEnv → Sto → RE D) (ix : List Nat) (δ : DEnv) : Nat → List P → Sto → RE (List P)
  | _, [], S => .ok [] S
  | n, x :: xs, S => match bind x δ with
    | none => .stuck
    | some δ1 => match fi δ1 S with
      | .ok zs S1 => if lineOk (n + zs.length) then (compL bind1 test elt (wipeD δ1 ix) zs S1).bind fun ys S2 => (comp2L bind fi bind1 test elt ix δ (n + ys.length) xs S2).bind fun rs S3 => .ok (ys ++ rs) S3 else .stuck
      | _ => .stuck
/-- the list at n is still there, as it was -/
def borG (n : Nat) (xs : List P) (S : Sto) : Bool := match S[n]? with
  | some (.live (.lst ys)) => sameL xs ys
  | _ => false
/-- a comprehension over a list that may change afterwards -/
def compB (gd : Sto → Bool) (bind : P → DEnv → Option DEnv) (test : DEnv → Sto → RE D) (elt : DEnv → Sto → RE D) (δ : DEnv) : List P → Sto → RE (List P)
  | [], S => if gd S then .ok [] S else .stuck
  | x :: xs, S => if gd S then (match bind x δ with
    | none => .stuck
    | some δ' => match test δ' S with
      | .ok (.p (.bl true)) S1 => match elt δ' S1 with
        | .ok d S2 => match purify d S2 with
          | .ok y S3 => (compB gd bind test elt δ xs S3).bind fun ys S4 => .ok (y :: ys) S4
          | _ => .stuck
        | _ => .stuck
      | .ok (.p (.bl false)) S1 => compB gd bind test elt δ xs S1
      | _ => .stuck) else .stuck
/-- the live list of a name -/
def borV (i : Nat) (δ : DEnv) (S : Sto) : RE (Nat × List P) := match δ[i]? with
  | some (some (.loc n)) => match S[n]? with
    | some (.live (.lst xs)) => .ok (n, xs) S
    | _ => .stuck
  | _ => .stuck
/-- two lists that cannot be one -/
def clash : List P → List P → Bool
  | [], [] => false
  | [], _ :: _ => true
  | _ :: _, [] => true
  | x :: _, y :: _ => match x, y with
    | .tup _, .ob _ _ => true
    | _, _ => flatP x != flatP y
mutual
/-- no list within it can be the list -/
def sepP (ys : List P) : P → Bool
  | .tup xs => sepPs ys xs
  | .lst xs => clash xs ys && sepPs ys xs
  | .ob _ xs => sepPs ys xs
  | .dic _ xs => sepPs ys xs
  | _ => true
def sepPs (ys : List P) : List P → Bool
  | [] => true
  | x :: xs => sepP ys x && sepPs ys xs
end
def sepD (x : P) (ds : List D) (S : Sto) : Bool := ds.all fun d => match d with
  | .loc n => match S[n]? with
    | some (.live (.lst ys)) => sepP ys x
    | _ => true
  | _ => true
/-- a call that was lent lists: what comes back keeps none of them; a single empty list stands still from then on -/
def lentR (ds : List D) (r : RP) (S : Sto) : RE D := match r with
  | .ok x => if flatP x || sepD x ds S then .ok (.p x) S else match ds with
    | [.loc n] => match S[n]? with
      | some (.live (.lst [])) => .ok (.p x) (S.set n (.fz (.lst [])))
      | _ => .stuck
    | _ => .stuck
  | .exc c none => .exc c none S
  | _ => .stuck
/-- what a comprehension makes -/
def compR (lv : Bool) (ys : List P) (S : Sto) : RE D := if lv then newG ys S else .ok (.p (.lst ys)) S
def optT (hc : Bool) (f : DEnv → Sto → RE D) : DEnv → Sto → RE D := if hc then f else fun _ S => .ok (.p (.bl true)) S
def optI (h : Bool) (f : Sto → RE D) (S : Sto) : RE (Option Int) := if h then (f S).bind fun d S1 => match d with
    | .p (.int i) => .ok (some i) S1
    | _ => .stuck
  else .ok none S
/-- i op j, of ints -/
def icmp (op : CmpOp) (i j : Int) : Option Bool := match op with
  | .Lt => some (decide (i < j))
  | .LtE => some (decide (i ≤ j))
  | _ => none
def chainD (fc : Sto → RE D) (op op' : CmpOp) (d1 d2 : D) (S : Sto) : RE D := match d1, d2 with
  | .p (.int i), .p (.int j) => match icmp op i j with
    | some true => (fc S).bind fun d3 S3 => match d3 with
      | .p (.int k) => match icmp op' j k with
        | some b => .ok (.p (.bl b)) S3
        | none => .stuck
      | _ => .stuck
    | some false => .ok (.p (.bl false)) S
    | none => .stuck
  | _, _ => .stuck
mutual
def evE : E → DEnv → Sto → RE D
  | .var i, δ, S => match δ[i]? with
    | some (some d) => .ok d S
    | _ => .stuck
  | .gc k, _, S => match Γ.gcs.lookup k with
    | some x => .ok (.p x) S
    | none => .stuck
  | .non, _, S => .ok (.p .non) S
  | .bl b, _, S => .ok (.p (.bl b)) S
  | .int i, _, S => .ok (.p (.int i)) S
  | .str s, _, S => .ok (.p (.str s)) S
  | .bin op a b, δ, S => (evE a δ S).bind fun d1 S1 => (evE b δ S1).bind fun d2 S2 => match peek d1 S2, peek d2 S2 with
    | some x, some y => (Γ.bin op x y).lift S2
    | _, _ => .stuck
  | .neg a, δ, S => (evE a δ S).bind fun d S1 => match d with
    | .p x => (Γ.neg x).lift S1
    | _ => .stuck
  | .not a, δ, S => (evE a δ S).bind fun d S1 => match d with
    | .p (.bl b) => .ok (.p (.bl (!b))) S1
    | _ => .stuck
  | .cmp op a b, δ, S => (evE a δ S).bind fun d1 S1 => (evE b δ S1).bind fun d2 S2 => match peek d1 S2, peek d2 S2 with
    | some x, some y => (Γ.cmp op x y).lift S2
    | _, _ => .stuck
  | .chain op op' a b c, δ, S => (evE a δ S).bind fun d1 S1 => (evE b δ S1).bind fun d2 S2 => chainD (evE c δ) op op' d1 d2 S2
  | .and a b, δ, S => (evE a δ S).bind fun d S1 => match d with
    | .p (.bl true) => evE b δ S1
    | .p (.bl false) => .ok (.p (.bl false)) S1
    | _ => .stuck
  | .or a b, δ, S => (evE a δ S).bind fun d S1 => match d with
    | .p (.bl true) => .ok (.p (.bl true)) S1
    | .p (.bl false) => evE b δ S1
    | _ => .stuck
  | .ite t a b, δ, S => (evE t δ S).bind fun d S1 => match d with
    | .p (.bl true) => evE a δ S1
    | .p (.bl false) => evE b δ S1
    | _ => .stuck
  | .tup es, δ, S => (evEs es δ S).bind fun xs S1 => if lineOk xs.length then .ok (.p (.tup xs)) S1 else .stuck
  | .lst es, δ, S => (evEs es δ S).bind fun xs S1 => if lineOk xs.length then .ok (.p (.lst xs)) S1 else .stuck
  | .newl es, δ, S => (evEs es δ S).bind fun xs S1 => if lineOk xs.length then .ok (.loc S1.length) (S1 ++ [.live (.lst xs)]) else .stuck
  | .dsp ks vs, _, S => if decide (ks.length = vs.length) && (decide (vs.length ≤ 15) && (decide ks.Nodup && vs.all flatP)) then .ok (.p (.dic ks vs)) S else .stuck
  | .newn es, δ, S => (evDs es δ S).bind fun ds S1 => if lineOk ds.length then .ok (.loc S1.length) (S1 ++ [.live (.nst ds)]) else .stuck
  | .catl a b, δ, S => (evE a δ S).bind fun d1 S1 => (evE b δ S1).bind fun d2 S2 => match peek d1 S2, peek d2 S2 with
    | some (.lst xs), some (.lst ys) => if lineOk xs.length && lineOk ys.length then .ok (.loc S2.length) (S2 ++ [.live (.lst (xs ++ ys))]) else .stuck
    | _, _ => .stuck
  | .sub a i, δ, S => (evE a δ S).bind fun d1 S1 => (evE i δ S1).bind fun d2 S2 => match peek d1 S2, d2 with
    | some x, .p y => (subP x y).lift S2
    | _, _ => .stuck
  | .subn a i, δ, S => (evE a δ S).bind fun d1 S1 => (evE i δ S1).bind fun d2 S2 => subN d1 d2 S2
  | .slc a hl lo hh hi, δ, S => (evE a δ S).bind fun d1 S1 => (optI hl (evE lo δ) S1).bind fun o1 S2 => (optI hh (evE hi δ) S2).bind fun o2 S3 => match peek d1 S3 with
    | some x => (slcP x o1 o2).lift S3
    | none => .stuck
  | .rev a, δ, S => (evE a δ S).bind fun d1 S1 => revG (peek d1 S1) S1
  | .attr a f, δ, S => (evE a δ S).bind fun d S1 => match d with
    | .p (.ob c xs) => match fldIx f (FT c) xs with
      | some y => .ok (.p y) S1
      | none => match Γ.prop c f with
        | some g => match g [.ob c xs] with
          | .ok y => .ok (.p y) S1
          | _ => .stuck
        | none => .stuck
    | .loc n => match S1[n]? with
      | some (.live (.obj _ fs)) => match fs.lookup f with
        | some d => .ok d S1
        | none => .stuck
      | _ => .stuck
    | _ => .stuck
  | .call k es, δ, S => (evEs es δ S).bind fun xs S1 => match Γ.fns.lookup k with
    | some f => (f xs).lift S1
    | none => .stuck
  | .kcall k es ks, δ, S => (evEs es δ S).bind fun xs S1 => (evEs ks δ S1).bind fun ys S2 => match Γ.kfns.lookup k with
    | some f => (f xs ys).lift S2
    | none => .stuck
  | .icall k es, δ, S => (evDs es δ S).bind fun ds S1 => match Γ.ifns.lookup k with
    | some f => f ds S1
    | none => .stuck
  | .meth a m es, δ, S => (evE a δ S).bind fun d S1 => methG Γ m d (evEs es δ) S1
  | .app a e, δ, S => (evE a δ S).bind fun d S1 => match peek d S1 with
    | some (.lst _) => (evE e δ S1).bind fun d2 S2 => (purify d2 S2).bind fun x S3 => appG d x S3
    | _ => .stuck
  | .clr a, δ, S => (evE a δ S).bind fun d S1 => clrG d S1
  | .b1 b a, δ, S => (evE a δ S).bind fun d S1 => match peek d S1 with
    | some x => (b1P b x).lift S1
    | none => .stuck
  | .b2 b a c, δ, S => (evE a δ S).bind fun d1 S1 => (evE c δ S1).bind fun d2 S2 => match d1, d2 with
    | .p x, .p y => (b2P b x y).lift S2
    | _, _ => .stuck
  | .cpl a, δ, S => (evE a δ S).bind fun d S1 => cplG (peek d S1) S1
  | .isi a t, δ, S => (evE a δ S).bind fun d S1 => match d with
    | .p x => match isiP t x with
      | some b => .ok (.p (.bl b)) S1
      | none => .stuck
    | _ => .stuck
  | .comp lv elt tg it hc c, δ, S => (evIt it δ S).bind fun xs S1 => if lineOk xs.length then (compL (bindT tg) (optT hc (evE c)) (evE elt) (wipeD δ (tgIx tg)) xs S1).bind (compR lv) else .stuck
  | .fcall k es, δ, S => (evEs es δ S).bind fun xs S1 => match Γ.ifns.lookup k with
    | some f => freshG (f (xs.map D.p) []) S1
    | none => .stuck
  | .bcall k es, δ, S => (evDs es δ S).bind fun ds S1 => match peeks ds S1 with
    | some xs => match Γ.fns.lookup k with
      | some f => lentR ds (f xs) S1
      | none => .stuck
    | none => .stuck
  | .fmeth a m es, δ, S => (evE a δ S).bind fun d S1 => methF Γ m d (evEs es δ) S1
  | .kmeth a m ks es, δ, S => (evE a δ S).bind fun d S1 => methK Γ m ks d (evEs es δ) S1
  | .compb lv elt tg i hc c, δ, S => (borV i δ S).bind fun nx S1 => if lineOk nx.2.length then (compB (borG nx.1 nx.2) (bindT tg) (optT hc (evE c)) (evE elt) (wipeD δ (tgIx tg)) nx.2 S1).bind (compR lv) else .stuck
  | .fkcall k es ks, δ, S => (evEs es δ S).bind fun xs S1 => (evEs ks δ S1).bind fun ys S2 => match Γ.kifns.lookup k with
    | some nf => if xs.length = nf.1 then freshG (nf.2 ((xs ++ ys).map D.p) []) S2 else .stuck
    | none => .stuck
  | .spl a b, δ, S => (evE a δ S).bind fun d1 S1 => match d1 with
    | .p (.str x) => (evE b δ S1).bind fun d2 S2 => match d2 with
      | .p (.str y) => splR x y S2
      | _ => .stuck
    | _ => .stuck
  | .fs3 a z b, δ, S => (evE a δ S).bind fun d1 S1 => match fmtD d1 with
    | some x => (evE b δ S1).bind fun d2 S2 => match fmtD d2 with
      | some y => fs3R x z y S2
      | none => .stuck
    | none => .stuck
  | .lcall i c k _ es, δ, S => match δ[i]? with
    | some (some (.cls c')) => if c' = c then ((evEs es δ S).bind fun xs S1 => match Γ.fns.lookup k with
      | some f => (f xs).lift S1
      | none => .stuck) else .stuck
    | _ => .stuck
  | .cmeth c m _ es, δ, S => (evEs es δ S).bind fun xs S1 => match Γ.cmeth c m with
    | some f => f (.cls c :: xs.map .p) S1
    | none => .stuck
  | .kcmeth j c _ es, δ, S => (evEs es δ S).bind fun xs S1 => match Γ.kcms.lookup j with
    | some f => f (.cls c :: xs.map .p) S1
    | none => .stuck
  | .comp2 elt tg it tg1 it1 hc c, δ, S => (evIt it δ S).bind fun xs S1 => if lineOk xs.length then (comp2L (bindT tg) (evIt it1) (bindT tg1) (optT hc (evE c)) (evE elt) (tgIx tg1) (wipeD δ (tgIx tg ++ tgIx tg1)) 0 xs S1).bind fun ys S2 => .ok (.p (.lst ys)) S2 else .stuck
termination_by structural e => e
/-- pure items -/
def evEs : Es → DEnv → Sto → RE (List P)
  | .nil, _, S => .ok [] S
  | .cons e es, δ, S => (evE e δ S).bind fun d S1 => (purify d S1).bind fun x S2 => (evEs es δ S2).bind fun xs S3 => .ok (x :: xs) S3
  | .star e es, δ, S => (evE e δ S).bind fun d S1 => match peek d S1 with
    | some (.lst ys) => (evEs es δ S1).bind fun xs S2 => .ok (ys ++ xs) S2
    | some (.tup ys) => (evEs es δ S1).bind fun xs S2 => .ok (ys ++ xs) S2
    | _ => .stuck
def evDs : Es → DEnv → Sto → RE (List D)
  | .nil, _, S => .ok [] S
  | .cons e es, δ, S => (evE e δ S).bind fun d S1 => (evDs es δ S1).bind fun ds S2 => .ok (d :: ds) S2
  | .star _ _, _, _ => .stuck
def evIt : It → DEnv → Sto → RE (List P)
  | .seq e, δ, S => (evE e δ S).bind fun d S1 => (purify d S1).bind fun x S2 => match x with
    | .lst xs => .ok xs S2
    | .tup xs => .ok xs S2
    | .str z => .ok (signsP z) S2
    | _ => .stuck
  | .rng1 e, δ, S => (evE e δ S).bind fun d S1 => match d with
    | .p (.int j) => if rngOk j then .ok (rangeP 0 j.toNat) S1 else .stuck
    | _ => .stuck
  | .rng2 a b, δ, S => (evE a δ S).bind fun d S1 => (evE b δ S1).bind fun d2 S2 => match d, d2 with
    | .p (.int i), .p (.int j) => if rngOk i && rngOk j then .ok (rangeP i (j - i).toNat) S2 else .stuck
    | _, _ => .stuck
  | .zip a b, δ, S => (evE a δ S).bind fun d S1 => (purify d S1).bind fun x S2 => (evE b δ S2).bind fun d2 S3 => (purify d2 S3).bind fun y S4 => match seqOf x, seqOf y with
    | some xs, some ys => .ok (zipP xs ys) S4
    | _, _ => .stuck
  | .enum a, δ, S => (evE a δ S).bind fun d S1 => (purify d S1).bind fun x S2 => match x with
    | .lst xs => .ok (enumP 0 xs) S2
    | .tup xs => .ok (enumP 0 xs) S2
    | _ => .stuck
end
end
/-! ### statements -/
/-- what an except suite may say: constants, names, the exception's own value -/
inductive HX where
  | non | bl (b : Bool) | int (i : Int) | str (s : Str) | var (i : Nat) | given
  | tup (xs : List HX) | lst (xs : List HX)
  | no (i : Nat) | rq (a b : HX)
inductive HS where
  | ret (e : HX) | inc (i : Nat) (k : Int) | app (i : Nat) (e : HX) | set (i : Nat) (e : HX)
def P.isStr : P → P → Bool
  | .str s, .str t => s == t
  | _, _ => false
mutual
def hxE (g : Option P) (δ : DEnv) : HX → Option P
  | .non => some .non
  | .bl b => some (.bl b)
  | .int i => some (.int i)
  | .str s => some (.str s)
  | .var i => match δ[i]? with
    | some (some (.p x)) => some x
    | _ => none
  | .given => g
  | .no i => match δ[i]? with
    | some (some (.p (.bl b))) => some (.bl (!b))
    | _ => none
  | .rq a b => match hxE g δ a with
    | some x => match hxE g δ b with
      | some y => match rprP x with
        | .ok z => match rprP y with
          | .ok w => some (.bl (z.isStr w))
          | _ => none
        | _ => none
      | none => none
    | none => none
  | .tup xs => match hxEs g δ xs with
    | some ys => if lineOk ys.length then some (.tup ys) else none
    | none => none
  | .lst xs => match hxEs g δ xs with
    | some ys => if lineOk ys.length then some (.lst ys) else none
    | none => none
def hxEs (g : Option P) (δ : DEnv) : List HX → Option (List P)
  | [] => some []
  | x :: xs => match hxE g δ x with
    | some y => match hxEs g δ xs with
      | some ys => some (y :: ys)
      | none => none
    | none => none
end
mutual
inductive S where
  | asg (t : Tg) (e : E) | par (i j : Nat) (a b : E) | par3 (i j l : Nat) (a b c : E)
  | setf (o : E) (f : Nat) (e : E) | seti (o i e : E)
  | ext (i : Nat) (e : E)
  | expr (e : E) | ret (e : E) | retn
  | ifs (c : E) (a b : Ss) | whl (c : E) (b : Ss) | for_ (t : Tg) (it : It) (b : Ss)
  | brk | cnt | pass
  | rais0 (c : Nat) | rais1 (c : Nat) (e : E)
  | tr (b : Ss) (hs : Hs)
inductive Ss where
  | nil | cons (s : S) (r : Ss)
inductive Hs where
  | nil | cons (cs ns : List Nat) (i : Option Nat) (b : HS) (r : Hs)
end
def RS.bind (r : RS) (f : DEnv → Sto → RS) : RS := match r with
  | .next δ S => f δ S
  | r => r
/-- an expression ahead of the rest of a statement -/
def RE.st {α : Type} (r : RE α) (δ : DEnv) (f : α → Sto → RS) : RS := match r with
  | .ok a S => f a S
  | .exc c x S => .exc c x δ S
  | .stuck => .stuck
/-- behind a loop's body: on, out, or further out -/
def loopEnd (r : RS) (on : DEnv → Sto → RS) : RS := match r with
  | .next δ S => on δ S
  | .cnt δ S => on δ S
  | .brk δ S => .next δ S
  | r => r
def whileL (test : DEnv → Sto → RE D) (body : DEnv → Sto → RS) : Nat → DEnv → Sto → RS
  | 0, _, _ => .stuck
  | n + 1, δ, S => (test δ S).st δ fun d S1 => match d with
    | .p (.bl true) => loopEnd (body δ S1) (whileL test body n)
    | .p (.bl false) => .next δ S1
    | _ => .stuck
def forL (bind : P → DEnv → Option DEnv) (body : DEnv → Sto → RS) : List P → DEnv → Sto → RS
  | [], δ, S => .next δ S
  | x :: xs, δ, S => match bind x δ with
    | none => .stuck
    | some δ' => loopEnd (body δ' S) (forL bind body xs)
/-- more turns than any while here makes -/
@[irreducible] def fuel : Nat := 2 ^ 1000000
def setFld (f : Nat) (d : D) : List (Nat × D) → List (Nat × D)
  | [] => [(f, d)]
  | (g, e) :: r => if g == f then (g, d) :: r else (g, e) :: setFld f d r
def setIx {α : Type} (xs : List α) (i : Int) (y : α) : Option (List α) :=
  if 0 ≤ i then (if i.toNat < xs.length then some (xs.set i.toNat y) else none)
  else if i + xs.length < 0 then none else some (xs.set (i + xs.length).toNat y)
/-- xs += ys -/
def extD (i : Nat) (d d2 : D) (δ : DEnv) (S : Sto) : RS := match d with
  | .loc n => match S[n]?, peek d2 S with
    | some (.live (.lst xs)), some (.lst ys) => if lineOk xs.length && lineOk ys.length then .next (setSlot δ i (.loc n)) (S.set n (.live (.lst (xs ++ ys)))) else .stuck
    | _, _ => .stuck
  | _ => .stuck
def goneSlot (i : Option Nat) (δ : DEnv) : DEnv := match i with
  | some j => δ.set j none
  | none => δ
/-- an except suite; δ: without the exception's name -/
def exH (g : Option P) (δ : DEnv) (S : Sto) : HS → RS
  | .ret e => match hxE g δ e with
    | some x => .ret (.p x) S
    | none => .stuck
  | .inc j k => match δ[j]? with
    | some (some (.p (.int n))) => .next (setSlot δ j (.p (.int (n + k)))) S
    | _ => .stuck
  | .app j e => match δ[j]? with
    | some (some d) => match peek d S with
      | some (.lst _) => match hxE g δ e with
        | some x => match appG d x S with
          | .ok _ S' => .next δ S'
          | _ => .stuck
        | none => .stuck
      | _ => .stuck
    | _ => .stuck
  | .set j e => match hxE g δ e with
    | some x => .next (setSlot δ j (.p x)) S
    | none => .stuck
def slotIn (i : Option Nat) (δ : DEnv) : Bool := match i with
  | some j => decide (j < δ.length)
  | none => true
def goneR (i : Option Nat) (r : RS) : RS := match r with
  | .next δ S => .next (goneSlot i δ) S
  | r => r
def exHs : Hs → Nat → Option P → DEnv → Sto → RS
  | .nil, c, x, δ, S => .exc c x δ S
  | .cons cs ns i b r, c, x, δ, S => if cs.contains c then (if slotIn i δ then goneR i (exH x (goneSlot i δ) S b) else .stuck) else if ns.contains c then exHs r c x δ S else .stuck
section
variable (Γ : Tab) (FT : FldT)
mutual
def exS : S → DEnv → Sto → RS
  | .asg t e, δ, S => (evE Γ FT e δ S).st δ fun d S1 => match t with
    | .name i => .next (setSlot δ i d) S1
    | .tup ts => match peek d S1 with
      | some (.tup xs) => match bindTs ts xs δ with
        | some δ' => .next δ' S1
        | none => .stuck
      | some (.lst xs) => match d with
        | .p _ => match bindTs ts xs δ with
          | some δ' => .next δ' S1
          | none => .stuck
        | _ => .stuck
      | _ => .stuck
  | .par i j a b, δ, S => (evE Γ FT a δ S).st δ fun d1 S1 => (evE Γ FT b δ S1).st δ fun d2 S2 => .next (setSlot (setSlot δ i d1) j d2) S2
  | .par3 i j l a b c, δ, S => (evE Γ FT a δ S).st δ fun d1 S1 => (evE Γ FT b δ S1).st δ fun d2 S2 => (evE Γ FT c δ S2).st δ fun d3 S3 => .next (setSlot (setSlot (setSlot δ i d1) j d2) l d3) S3
  | .setf o f e, δ, S => (evE Γ FT e δ S).st δ fun d S1 => (evE Γ FT o δ S1).st δ fun d2 S2 => match d2 with
    | .loc n => match S2[n]? with
      | some (.live (.obj c fs)) => if decide (fs.length < 100) && (FT c).contains f then .next δ (S2.set n (.live (.obj c (setFld f d fs)))) else .stuck
      | _ => .stuck
    | _ => .stuck
  | .seti o i e, δ, S => (evE Γ FT e δ S).st δ fun d S1 => (purify d S1).st δ fun y S2 => (evE Γ FT o δ S2).st δ fun d2 S3 => (evE Γ FT i δ S3).st δ fun d3 S4 => match d2, d3 with
    | .loc n, .p (.int k) => match S4[n]? with
      | some (.live (.lst xs)) => match setIx xs k y with
        | some ys => .next δ (S4.set n (.live (.lst ys)))
        | none => .stuck
      | some (.live (.nst ds)) => match setIx ds k (.p y) with
        | some ys => .next δ (S4.set n (.live (.nst ys)))
        | none => .stuck
      | _ => .stuck
    | _, _ => .stuck
  | .ext i e, δ, S => match δ[i]? with
    | some (some d) => (evE Γ FT e δ S).st δ fun d2 S1 => extD i d d2 δ S1
    | _ => .stuck
  | .expr e, δ, S => (evE Γ FT e δ S).st δ fun _ S1 => .next δ S1
  | .ret e, δ, S => (evE Γ FT e δ S).st δ fun d S1 => .ret d S1
  | .retn, _, S => .ret (.p .non) S
  | .ifs c a b, δ, S => (evE Γ FT c δ S).st δ fun d S1 => match d with
    | .p (.bl true) => exSs a δ S1
    | .p (.bl false) => exSs b δ S1
    | _ => .stuck
  | .whl c b, δ, S => whileL (evE Γ FT c) (exSs b) fuel δ S
  | .for_ t it b, δ, S => (evIt Γ FT it δ S).st δ fun xs S1 => forL (bindT t) (exSs b) xs δ S1
  | .brk, δ, S => .brk δ S
  | .cnt, δ, S => .cnt δ S
  | .pass, δ, S => .next δ S
  | .rais0 c, δ, S => .exc c none δ S
  | .rais1 c e, δ, S => (evE Γ FT e δ S).st δ fun d S1 => (purify d S1).st δ fun x S2 => .exc c (some x) δ S2
  | .tr b hs, δ, S => match exSs b δ S with
    | .exc c x δ' S' => exHs hs c x δ' S'
    | r => r
termination_by structural s => s
def exSs : Ss → DEnv → Sto → RS
  | .nil, δ, S => .next δ S
  | .cons s r, δ, S => (exS s δ S).bind (exSs r)
end
/-- a pure def: its parameters and its names -/
def runP (n : Nat) (body : Ss) : PFn := fun xs => match exSs Γ FT body (xs.map (fun x => some (.p x)) ++ List.replicate (n - xs.length) none) [] with
  | .next _ _ => .ok .non
  | .ret d S => match purify d S with
    | .ok x _ => .ok x
    | _ => .stuck
  | .exc c x _ _ => .exc c x
  | _ => .stuck
/-- a def that may change what it is handed -/
def runI (n : Nat) (body : Ss) : IFn := fun ds S => match exSs Γ FT body (ds.map some ++ List.replicate (n - ds.length) none) S with
  | .next _ S' => .ok (.p .non) S'
  | .ret d S' => .ok d S'
  | .exc c x _ S' => .exc c x S'
  | _ => .stuck
end
end RP
end

section
set_option Elab.async false
set_option linter.all false
set_option maxRecDepth 100000
/-! What data stands for which value in a heap. -/
namespace RP
open PySem L2

/-- room below, and nothing is being shown -/
structure Room (k : Nat) (A : Around) : Prop where
  r : L2.Room k A
  gd : A.guards = some []
theorem Room.mono {j k : Nat} {A : Around} (r : Room k A) (h : j ≤ k) : Room j A := ⟨r.r.mono h, r.gd⟩
theorem Room.deeper {k : Nat} {A : Around} (r : Room (k + 1) A) (env : Env) : Room k (A.deeper env) := ⟨r.r.deeper env, by
  have h := r.gd
  simp [Around.deeper, Around.under, Code.guards, Code.isGuard, pushGuards, h]⟩
theorem Room.in1 {k : Nat} {A : Around} (r : Room (k + 1) A) : Room k A.in1 := ⟨r.r.in1, r.gd⟩
theorem Room.make {k : Nat} {A : Around} (r : Room (k + 1) A) (C : Addr) (us : List Value) (kw : List (Str × Value)) : Room k (A.under (.builtin "type.__call__" ⟨.ref C :: us, kw⟩)) := ⟨r.r.make C us kw, by
  have h := r.gd
  have g : Code.guards (.builtin "type.__call__" ⟨.ref C :: us, kw⟩) = [] := by
    have z : (guardIds.contains "type.__call__") = false := by decide
    simp only [Code.guards, Code.isGuard, z]
    rfl
  show pushGuards (Code.guards (.builtin "type.__call__" ⟨.ref C :: us, kw⟩)) A.guards = some []
  rw [g, h]
  rfl⟩
theorem Room.dp {k : Nat} {A : Around} (r : Room k A) : A.depth + 3 * k + 5 < recursionLimit := r.r.dp
theorem Room.un {k : Nat} {A : Around} (r : Room k A) : A.units + 16 * k + 200 < cLine := r.r.un
theorem Room.hd {k : Nat} {A : Around} (r : Room k A) : A.handled = none := r.r.hd
theorem Room.depth {k : Nat} {A : Around} (r : Room k A) : A.depth < recursionLimit := r.r.depth
theorem Room.units {k : Nat} {A : Around} (r : Room k A) : A.units + 64 < cLine := r.r.units
theorem Room.units0 {k : Nat} {A : Around} (r : Room k A) : A.units < cLine := r.r.units0
/-- a def, called where nothing is being shown -/
structure FnOk (Pg : Program) (w : World) (K : PySem.W.Frag) (mg : Str → Option Value) (bs : Heap) (Y : CXT) (k : Nat) (fa : Addr) (fd : FuncData) (ns : List Str) (sp : Sp) : Prop where
  len : ∀ xs H Q E, sp xs H Q E → xs.length = ns.length
  run : ∀ (B : Around) (up : List Env) (t : Shared) (H : Hp) (ag : Args) (us : List Value) (xs : List V) (Q : VK) (E : XK), Room k B → Env0 Pg w K mg bs B up t H → BindsTo t fd ag (ns.zip us) → Vals xs us → sp xs H Q E → codeAny (model Pg w) B (.call (.ref fa) ag) (CR Y up Pg w H t Q E) t
section
variable {Pg : Program} {w : World} {K : PySem.W.Frag} {mg : Str → Option Value} {bs : Heap} {Y : CXT} {j k : Nat} {fa : Addr} {fd : FuncData} {ns : List Str} {sp sp2 : Sp}
theorem FnOk.mono (F : FnOk Pg w K mg bs Y j fa fd ns sp) (le : j ≤ k) : FnOk Pg w K mg bs Y k fa fd ns sp :=
  ⟨F.len, fun B up t H ag us xs Q E room => F.run B up t H ag us xs Q E (room.mono le)⟩
theorem FnOk.imp (F : FnOk Pg w K mg bs Y k fa fd ns sp) (weak : ∀ xs H Q E, sp2 xs H Q E → sp xs H Q E) : FnOk Pg w K mg bs Y k fa fd ns sp2 :=
  ⟨fun xs H Q E z => F.len xs H Q E (weak _ _ _ _ z), fun B up t H ag us xs Q E room e0 bd va z => F.run B up t H ag us xs Q E room e0 bd va (weak _ _ _ _ z)⟩
theorem FnOk.of (F : L2.FnOk Pg w K mg bs Y k fa fd ns sp) : FnOk Pg w K mg bs Y k fa fd ns sp := ⟨F.len, fun B up t H ag us xs Q E room => F.run B up t H ag us xs Q E room.r⟩
/-- THE RULE for a def of the text, by its body -/
theorem fn_of {name qual : Str} {pr : Arguments} {body : List Stmt} {sc : Scope} {dV kV doc pm cdv ct oc : Value} {an od : Option Addr} {osl : Array (Option Value)} {N : List Str}
    (lk : K.lookup fa = some ⟨oc, od, .func (PySem.W.fnOf name qual pr body sc dV kV doc pm an cdv ct), osl⟩) (hcd : PySem.W.codeIn K cdv qual = true) (S : FnScope N ns sc) (len : ∀ xs H Q E, sp xs H Q E → xs.length = ns.length)
    (bd : ∀ (B : Around) (up : List Env) (t : Shared) (H : Hp) (xs : List V) (Q : VK) (E : XK), Room k (B.deeper (PyProof.Rows.envOfC qual sc t.heap.objs.size fa cdv)) → sp xs H Q E →
      ∃ T, PSs (cxOf Y Pg w K mg bs N qual sc fa cdv B up t H E) body T ∧ T { nx := fun _ H' => Q .non H', rt := Q } (start N xs) H) :
    FnOk Pg w K mg bs Y (k + 1) fa (PySem.W.fnOf name qual pr body sc dV kV doc pm an cdv ct) ns sp := by
  constructor
  · exact len
  intro B up t H ag us xs Q E room e0 bind va z
  have count := len _ _ _ _ z
  have same : ∀ b o, bs.get? b = some o → t.heap.get? b = some o := fun b o e => (e0.bs b o e).1
  have inK : K.In t.heap := e0.mod.kin.keeps same
  have noLim : t.heap.NoLimit := e0.mod.nolimit.keeps same
  have kinds : ∀ y ∈ ns.zip us, sc.names.lookup y.1 = some .local ∨ (sc.names.lookup y.1 = some .cell ∧ ((cellsFrom (t.heap.objs.size + 1) sc.names []).lookup y.1).isSome = true) := by
    rintro ⟨n, v⟩ hy
    cases S.par n (List.of_mem_zip hy).1 with
    | inl h => exact .inl h
    | inr h => exact .inr ⟨h, PySem.W.cellsFrom_some _ _ _ (.inl h)⟩
  refine codeAny_call_function room.depth (inK _ _ lk) rfl S.co S.gen rfl (PySem.W.codeRec_of inK hcd) (bind _ _ _ _ ?_)
  refine wpAny_newFunctionEnv_cells S.kind kinds fun env he t1 made => ?_
  subst he
  refine ⟨noLim.keeps made.toInCall.keep, codeAny_func ?_⟩
  obtain ⟨T, ok, want⟩ := bd B up t H xs Q E (room.deeper _) z
  have I : Inv (cxOf Y Pg w K mg bs N qual sc fa cdv B up t H E) [] (start N xs) H t1 := inv_start S room.hd e0 count va made
  refine wpAny_mono (ok.run [] t1 (start N xs) H _ I want) (fun fl t2 h => ?_) fun e t2 h => h
  cases fl with
  | next =>
    obtain ⟨σ2, H2, J, q⟩ := h
    exact ⟨V.non, H2, J.os, J.bare, J.base, J.hok, rfl, q⟩
  | ret u =>
    obtain ⟨v, σ2, H2, J, rv, q⟩ := h
    exact ⟨v, H2, J.os, J.bare, J.base, J.hok, rv, q⟩
  | brk => exact h.choose_spec.choose_spec.2.elim
  | cont => exact h.choose_spec.choose_spec.2.elim
end
structure CC where
  K : PySem.W.Frag
  CA : Nat → Addr
  FT : FldT
  NM : Nat → Str
  kn : Nat → Bool

/-- a list that is read alone: locked, or of the written part -/
def Scr (K : PySem.W.Frag) (G : Hp) (a : Addr) (xs : List V) : Prop := (∃ o, G a = some (.frz o (.lst xs))) ∨
  ∃ (o : Obj) (its : Array Value) (n : Nat), K.lookup a = some o ∧ o.cls = .type "list" ∧ o.dict = none ∧ o.data = .seq its n ∧ its.size ≤ sizeLine ∧ Vals xs its.toList
theorem Scr.sq {K : PySem.W.Frag} {G : Hp} {a : Addr} {xs : List V} (h : Scr K G a xs) : SqL K G a xs := by
  rcases h with h | h
  · exact Or.inl (Or.inr h)
  · exact Or.inr h
theorem Scr.mono {K : PySem.W.Frag} {G G' : Hp} {a : Addr} {xs : List V} (e : Same G G') (h : Scr K G a xs) : Scr K G' a xs := by
  rcases h with ⟨o, h⟩ | h
  · exact Or.inl ⟨o, e _ _ h⟩
  · exact Or.inr h
section
variable (C : CC)
mutual
def RepP (G : Hp) : P → V → Prop
  | .non, v => v = .non
  | .bl b, v => v = .bl b
  | .int i, v => v = .int i
  | .str s, v => v = .str s
  | .tup xs, v => ∃ a vs, v = .ref a ∧ SqT C.K G a vs ∧ RepPs G xs vs
  | .lst xs, v => ∃ a vs, v = .ref a ∧ G a = some (.lst vs) ∧ RepPs G xs vs
  | .ob c xs, v => C.kn c = true ∧ ∃ a dx vs, v = .ref a ∧ G a = some (.ins (C.CA c) dx (((C.FT c).map C.NM).zip vs)) ∧ (C.FT c).length = vs.length ∧ RepPs G xs vs
  | .scr ns, v => ∃ a, v = .ref a ∧ Scr C.K G a (ns.map V.int)
  | .dic ks xs, v => ∃ a vs, v = .ref a ∧ G a = some (.dK ((ks.map Sum.inr).zip vs)) ∧ ks.length = vs.length ∧ RepPs G xs vs
def RepPs (G : Hp) : List P → List V → Prop
  | [], vs => vs = []
  | x :: xs, vs => ∃ v ws, vs = v :: ws ∧ RepP G x v ∧ RepPs G xs ws
end
structure Sit where
  G : Hp
  μ : List Addr
  S : Sto
def RepD (s : Sit) : D → V → Prop
  | .p x, v => RepP C s.G x v
  | .loc n, v => ∃ a, s.μ[n]? = some a ∧ v = .ref a
  | .cls c, v => v = .ref (C.CA c)
def RepDs (s : Sit) : List D → List V → Prop
  | [], vs => vs = []
  | x :: xs, vs => ∃ v ws, vs = v :: ws ∧ RepD C s x v ∧ RepDs s xs ws
def RepF (s : Sit) : List (Nat × D) → List (Str × V) → Prop
  | [], vs => vs = []
  | (f, d) :: fs, vs => ∃ v ws, vs = (C.NM f, v) :: ws ∧ RepD C s d v ∧ RepF s fs ws
def RepC (s : Sit) : Cell → HO → Prop
  | .lst xs, o => ∃ vs, o = .lst vs ∧ RepPs C s.G xs vs
  | .obj c fs, o => C.kn c = true ∧ (∀ g ∈ fs.map (·.1), g ∈ C.FT c) ∧ ∃ dx gs, o = .ins (C.CA c) dx gs ∧ RepF C s fs gs
  | .nst ds, o => ∃ vs, o = .lst vs ∧ RepDs C s ds vs
def RepS (s : Sit) (δ : DEnv) (σ : St) : Prop := δ.length = σ.length ∧ ∀ (i : Nat) (d : D), δ[i]? = some (some d) → ∃ v, σ[i]? = some (some v) ∧ RepD C s d v
/-- the situation holds in the heap; F: what is not ours -/
structure AtS (F : Hp) (s : Sit) (H : Hp) : Prop where
  sub : Same s.G H
  len : s.μ.length = s.S.length
  fzn : ∀ (n : Nat) (x : P), s.S[n]? = some (.fz x) → ∃ a, s.μ[n]? = some a ∧ RepP C s.G x (.ref a)
  live : ∀ (n : Nat) (c : Cell), s.S[n]? = some (.live c) → ∃ a o, s.μ[n]? = some a ∧ s.G a = none ∧ F a = none ∧ H a = some o ∧ RepC C s c o
  inj : ∀ (n m : Nat) (c c' : Cell) (a : Addr), s.S[n]? = some (.live c) → s.S[m]? = some (.live c') → s.μ[n]? = some a → s.μ[m]? = some a → n = m
  frm : ∀ a o, F a = some o → H a = some o ∧ s.G a = none
structure ExtS (s s' : Sit) : Prop where
  G : Same s.G s'.G
  μ : s.μ <+: s'.μ
theorem ExtS.refl (s : Sit) : ExtS s s := ⟨Same.refl _, List.prefix_refl _⟩
theorem ExtS.trans {s s1 s2 : Sit} (a : ExtS s s1) (b : ExtS s1 s2) : ExtS s s2 := ⟨a.G.trans b.G, a.μ.trans b.μ⟩
end

section
variable {C : CC} {G G' : Hp} {s s' : Sit}
theorem sqL_mono {K : PySem.W.Frag} {a : Addr} {xs : List V} (e : Same G G') (h : SqL K G a xs) : SqL K G' a xs := by
  rcases h with (k | ⟨o, k⟩) | k
  · exact Or.inl (Or.inl (e _ _ k))
  · exact Or.inl (Or.inr ⟨o, e _ _ k⟩)
  · exact Or.inr k
theorem sqT_mono {K : PySem.W.Frag} {a : Addr} {xs : List V} (e : Same G G') (h : SqT K G a xs) : SqT K G' a xs := by
  rcases h with (k | ⟨o, k⟩) | k
  · exact Or.inl (Or.inl (e _ _ k))
  · exact Or.inl (Or.inr ⟨o, e _ _ k⟩)
  · exact Or.inr k
mutual
theorem RepP.mono (e : Same G G') : ∀ (x : P) (v : V), RepP C G x v → RepP C G' x v
  | .non, _, h => by simpa only [RepP] using h
  | .bl _, _, h => by simpa only [RepP] using h
  | .int _, _, h => by simpa only [RepP] using h
  | .str _, _, h => by simpa only [RepP] using h
  | .scr ns, v, h => by
    simp only [RepP] at h ⊢
    obtain ⟨a, hv, hs⟩ := h
    exact ⟨a, hv, hs.mono e⟩
  | .dic ks xs, v, h => by
    simp only [RepP] at h ⊢
    obtain ⟨a, vs, hv, hs, hl, hr⟩ := h
    exact ⟨a, vs, hv, e _ _ hs, hl, RepPs.mono e xs vs hr⟩
  | .tup xs, v, h => by
    simp only [RepP] at h ⊢
    obtain ⟨a, vs, hv, hs, hr⟩ := h
    exact ⟨a, vs, hv, sqT_mono e hs, RepPs.mono e xs vs hr⟩
  | .lst xs, v, h => by
    simp only [RepP] at h ⊢
    obtain ⟨a, vs, hv, hs, hr⟩ := h
    exact ⟨a, vs, hv, e _ _ hs, RepPs.mono e xs vs hr⟩
  | .ob c xs, v, h => by
    simp only [RepP] at h ⊢
    obtain ⟨hk, a, dx, vs, hv, hs, hl, hr⟩ := h
    exact ⟨hk, a, dx, vs, hv, e _ _ hs, hl, RepPs.mono e xs vs hr⟩
theorem RepPs.mono (e : Same G G') : ∀ (xs : List P) (vs : List V), RepPs C G xs vs → RepPs C G' xs vs
  | [], _, h => by simpa only [RepPs] using h
  | x :: xs, _, h => by
    simp only [RepPs] at h ⊢
    obtain ⟨v, ws, hv, h1, h2⟩ := h
    exact ⟨v, ws, hv, RepP.mono e x v h1, RepPs.mono e xs ws h2⟩
end
theorem pre_get {α : Type} {l m : List α} {i : Nat} {a : α} (h : l <+: m) (e : l[i]? = some a) : m[i]? = some a := by
  obtain ⟨t, rfl⟩ := h
  have hi : i < l.length := (List.getElem?_eq_some_iff.mp e).1
  rw [List.getElem?_append_left hi]
  exact e
theorem RepD.mono (e : ExtS s s') : ∀ (d : D) (v : V), RepD C s d v → RepD C s' d v
  | .p x, v, h => RepP.mono (C := C) e.G x v h
  | .loc n, v, ⟨a, ha, hv⟩ => ⟨a, pre_get e.μ ha, hv⟩
  | .cls c, v, h => h
theorem RepDs.mono (e : ExtS s s') : ∀ (xs : List D) (vs : List V), RepDs C s xs vs → RepDs C s' xs vs
  | [], _, h => h
  | x :: xs, _, ⟨v, ws, hv, h1, h2⟩ => ⟨v, ws, hv, RepD.mono e x v h1, RepDs.mono e xs ws h2⟩
theorem RepF.mono (e : ExtS s s') : ∀ (xs : List (Nat × D)) (vs : List (Str × V)), RepF C s xs vs → RepF C s' xs vs
  | [], _, h => h
  | (f, x) :: xs, _, ⟨v, ws, hv, h1, h2⟩ => ⟨v, ws, hv, RepD.mono e x v h1, RepF.mono e xs ws h2⟩
theorem RepC.mono (e : ExtS s s') : ∀ (c : Cell) (o : HO), RepC C s c o → RepC C s' c o
  | .lst xs, o, ⟨vs, ho, h⟩ => ⟨vs, ho, RepPs.mono e.G xs vs h⟩
  | .obj c fs, o, ⟨hc, hm, dx, gs, ho, h⟩ => ⟨hc, hm, dx, gs, ho, RepF.mono e fs gs h⟩
  | .nst ds, o, ⟨vs, ho, h⟩ => ⟨vs, ho, RepDs.mono e ds vs h⟩
theorem RepS.mono (e : ExtS s s') {δ : DEnv} {σ : St} (h : RepS C s δ σ) : RepS C s' δ σ := ⟨h.1, fun i d hd => by
  obtain ⟨v, hv, r⟩ := h.2 i d hd
  exact ⟨v, hv, RepD.mono e d v r⟩⟩
theorem RepPs.len : ∀ (xs : List P) (vs : List V), RepPs C G xs vs → xs.length = vs.length
  | [], vs, h => by
    simp only [RepPs] at h
    subst h
    rfl
  | x :: xs, vs, h => by
    simp only [RepPs] at h
    obtain ⟨v, ws, hv, _, h2⟩ := h
    rw [hv, List.length_cons, List.length_cons, RepPs.len xs ws h2]
theorem RepS.set {δ : DEnv} {σ : St} (h : RepS C s δ σ) {i : Nat} {d : D} {v : V} (r : RepD C s d v) : RepS C s (setSlot δ i d) (σ.set i (some v)) := by
  refine ⟨by unfold setSlot; rw [List.length_set, List.length_set, h.1], fun j e he => ?_⟩
  unfold setSlot at he
  by_cases hj : i = j
  · subst hj
    have hi : i < δ.length := by
      rcases Nat.lt_or_ge i δ.length with q | q
      · exact q
      · rw [List.getElem?_eq_none (by rw [List.length_set]; exact q)] at he
        cases he
    rw [List.getElem?_set_self hi] at he
    cases he
    exact ⟨v, by rw [List.getElem?_set_self (by rw [← h.1]; exact hi)], r⟩
  · rw [List.getElem?_set_ne hj] at he
    obtain ⟨w, hw, rw'⟩ := h.2 j e he
    exact ⟨w, by rw [List.getElem?_set_ne hj]; exact hw, rw'⟩
end
end RP
end

section
set_option Elab.async false
set_option linter.all false
set_option maxRecDepth 100000
/-! How a situation goes on. -/
namespace RP
open PySem L2
section
variable {C : CC} {F G' H H' : Hp} {s s' : Sit}
theorem Same.new {H : Hp} {p : Addr} {o : HO} (h : H p = none) : Same H (upd H p o) := fun a u e => by
  rw [upd_ne (ne_of_none e h)]
  exact e
theorem AtS.none_of (A : AtS C F s H) {p : Addr} (h : H p = none) : s.G p = none := A.sub.free h
theorem AtS.fnone (A : AtS C F s H) {p : Addr} (h : H p = none) : F p = none := by
  cases q : F p with
  | none => rfl
  | some o =>
    rw [(A.frm p o q).1] at h
    cases h
theorem AtS.live_ne (A : AtS C F s H) {p : Addr} (h : H p = none) {n : Nat} {c : Cell} (e : s.S[n]? = some (.live c)) : s.μ[n]? ≠ some p := fun z => by
  obtain ⟨a, o, h1, _, _, h4, _⟩ := A.live n c e
  rw [h1] at z
  cases z
  rw [h] at h4
  cases h4
/-- what stays, stays -/
theorem AtS.fzM (A : AtS C F s H) {G' : Hp} (ex : ExtS s { s with G := G' }) : ∀ (n : Nat) (x : P), s.S[n]? = some (.fz x) → ∃ a, s.μ[n]? = some a ∧ RepP C G' x (.ref a) := fun n x e => by
  obtain ⟨a, h1, h2⟩ := A.fzn n x e
  exact ⟨a, h1, RepP.mono ex.G x _ h2⟩
/-- a new thing that never changes -/
theorem AtS.grow (A : AtS C F s H) {p : Addr} {o : HO} (h : H p = none) : AtS C F { s with G := upd s.G p o } (upd H p o) ∧ ExtS s { s with G := upd s.G p o } := by
  have hG := A.none_of h
  have ex : ExtS s { s with G := upd s.G p o } := ⟨Same.new hG, List.prefix_refl _⟩
  refine ⟨⟨fun a u e => ?_, A.len, A.fzM ex, fun n c e => ?_, A.inj, fun a u e => ?_⟩, ex⟩
  · dsimp only at e
    by_cases ha : a = p
    · subst ha
      rw [upd_same] at e ⊢
      exact e
    · rw [upd_ne ha] at e ⊢
      exact A.sub a u e
  · obtain ⟨a, u, h1, h2, h3, h4, h5⟩ := A.live n c e
    have na : a ≠ p := ne_of_none h4 h
    exact ⟨a, u, h1, by dsimp only; rw [upd_ne na]; exact h2, h3, by rw [upd_ne na]; exact h4, RepC.mono ex c u h5⟩
  · have na : a ≠ p := ne_of_none (A.frm a u e).1 h
    exact ⟨by rw [upd_ne na]; exact (A.frm a u e).1, by show upd s.G p o a = none; rw [upd_ne na]; exact (A.frm a u e).2⟩
/-- a new thing that nobody looks at again -/
theorem AtS.keep (A : AtS C F s H) (e : Same H H') : AtS C F s H' :=
  ⟨A.sub.trans e, A.len, A.fzn, fun n c q => by
    obtain ⟨a, u, h1, h2, h3, h4, h5⟩ := A.live n c q
    exact ⟨a, u, h1, h2, h3, e _ _ h4, h5⟩, A.inj, fun a o q => ⟨e _ _ (A.frm a o q).1, (A.frm a o q).2⟩⟩
/-- behind a call that changes nothing: what was ours stays, what was not ours stays not ours -/
theorem AtS.call (A : AtS C F s H) (h1 : Same s.G G') (h2 : Same G' H') (h3 : ∀ a o, H a = some o → s.G a = none → H' a = some o ∧ G' a = none) : AtS C F { s with G := G' } H' ∧ ExtS s { s with G := G' } := by
  have ex : ExtS s { s with G := G' } := ⟨h1, List.prefix_refl _⟩
  refine ⟨⟨h2, A.len, A.fzM ex, fun n c e => ?_, A.inj, fun a u e => ?_⟩, ex⟩
  · obtain ⟨a, u, k1, k2, k3, k4, k5⟩ := A.live n c e
    exact ⟨a, u, k1, (h3 a u k4 k2).2, k3, (h3 a u k4 k2).1, RepC.mono ex c u k5⟩
  · exact h3 a u (A.frm a u e).1 (A.frm a u e).2
theorem get_snoc {α : Type} {l : List α} {x y : α} {n : Nat} (h : (l ++ [x])[n]? = some y) : l[n]? = some y ∨ (n = l.length ∧ y = x) := by
  rcases Nat.lt_or_ge n l.length with q | q
  · rw [List.getElem?_append_left q] at h
    exact Or.inl h
  · rw [List.getElem?_append_right q] at h
    have hn : n - l.length = 0 := by
      rcases Nat.eq_zero_or_pos (n - l.length) with z | z
      · exact z
      · rw [List.getElem?_eq_none (by simp only [List.length_singleton]; omega)] at h
        cases h
    rw [hn] at h
    have hx : x = y := Option.some.inj h
    exact Or.inr ⟨by omega, hx.symm⟩
/-- a new cell -/
theorem AtS.alloc (A : AtS C F s H) {p : Addr} {o : HO} {c : Cell} (h : H p = none) (r : RepC C s c o) :
    AtS C F ⟨s.G, s.μ ++ [p], s.S ++ [.live c]⟩ (upd H p o) ∧ ExtS s ⟨s.G, s.μ ++ [p], s.S ++ [.live c]⟩ ∧ RepD C ⟨s.G, s.μ ++ [p], s.S ++ [.live c]⟩ (.loc s.S.length) (.ref p) := by
  have ex : ExtS s ⟨s.G, s.μ ++ [p], s.S ++ [.live c]⟩ := ⟨Same.refl _, List.prefix_append _ _⟩
  have hp : (s.μ ++ [p])[s.S.length]? = some p := by rw [← A.len]; simp
  have old : ∀ {n : Nat} {c' : Cell} {a : Addr}, s.S[n]? = some (.live c') → (s.μ ++ [p])[n]? = some a → s.μ[n]? = some a := fun {n c' a} e q => by
    have hn : n < s.μ.length := by rw [A.len]; exact (List.getElem?_eq_some_iff.mp e).1
    rw [List.getElem?_append_left hn] at q
    exact q
  refine ⟨⟨fun a u e => ?_, ?_, fun n x e => ?_, fun n c' e => ?_, fun n m c1 c2 a e1 e2 q1 q2 => ?_, fun a u e => ?_⟩, ex, p, hp, rfl⟩
  · show upd H p o a = some u
    rw [upd_ne (ne_of_none (A.sub a u e) h)]
    exact A.sub a u e
  · show (s.μ ++ [p]).length = (s.S ++ [Slot.live c]).length
    rw [List.length_append, List.length_append, A.len]
    rfl
  · rcases get_snoc e with e | ⟨hn, e⟩
    · obtain ⟨a, k1, k2⟩ := A.fzn n x e
      exact ⟨a, pre_get ex.μ k1, k2⟩
    · cases e
  · rcases get_snoc e with e | ⟨hn, e⟩
    · obtain ⟨a, u, k1, k2, k3, k4, k5⟩ := A.live n c' e
      exact ⟨a, u, pre_get ex.μ k1, k2, k3, by rw [upd_ne (ne_of_none k4 h)]; exact k4, RepC.mono ex c' u k5⟩
    · cases e
      subst hn
      exact ⟨p, o, hp, A.none_of h, A.fnone h, upd_same, RepC.mono ex c o r⟩
  · rcases get_snoc e1 with e1 | ⟨n1, e1⟩
    · rcases get_snoc e2 with e2 | ⟨n2, e2⟩
      · exact A.inj n m c1 c2 a e1 e2 (old e1 q1) (old e2 q2)
      · subst n2
        change (s.μ ++ [p])[s.S.length]? = some a at q2
        rw [hp] at q2
        cases q2
        exact absurd (old e1 q1) (A.live_ne h e1)
    · rcases get_snoc e2 with e2 | ⟨n2, e2⟩
      · subst n1
        change (s.μ ++ [p])[s.S.length]? = some a at q1
        rw [hp] at q1
        cases q1
        exact absurd (old e2 q2) (A.live_ne h e2)
      · rw [n1, n2]
  · have na : a ≠ p := ne_of_none (A.frm a u e).1 h
    exact ⟨by rw [upd_ne na]; exact (A.frm a u e).1, (A.frm a u e).2⟩
/-- what is at a set place -/
theorem get_set {α : Type} {l : List α} {x y : α} {n m : Nat} (h : (l.set n x)[m]? = some y) : (m = n ∧ y = x) ∨ (m ≠ n ∧ l[m]? = some y) := by
  by_cases e : m = n
  · subst e
    have hm : m < l.length := by
      have := (List.getElem?_eq_some_iff.mp h).1
      rw [List.length_set] at this
      exact this
    rw [List.getElem?_set_self hm] at h
    exact Or.inl ⟨rfl, (Option.some.inj h).symm⟩
  · rw [List.getElem?_set_ne (fun z => e z.symm)] at h
    exact Or.inr ⟨e, h⟩
/-- a cell is written -/
theorem AtS.write (A : AtS C F s H) {n : Nat} {c c' : Cell} {a : Addr} {o : HO} (e : s.S[n]? = some (.live c)) (ha : s.μ[n]? = some a) (r : RepC C s c' o) :
    AtS C F { s with S := s.S.set n (.live c') } (upd H a o) ∧ ExtS s { s with S := s.S.set n (.live c') } := by
  obtain ⟨b, u, k1, k2, k3, k4, k5⟩ := A.live n c e
  rw [ha] at k1
  cases k1
  have ex : ExtS s { s with S := s.S.set n (.live c') } := ⟨Same.refl _, List.prefix_refl _⟩
  refine ⟨⟨fun x y q => ?_, ?_, fun m x q => ?_, fun m d q => ?_, fun m m' d d' x q1 q2 p1 p2 => ?_, fun x y q => ?_⟩, ex⟩
  · have nx : x ≠ a := ne_of_none q k2
    show upd H a o x = some y
    rw [upd_ne nx]
    exact A.sub x y q
  · show s.μ.length = (s.S.set n (.live c')).length
    rw [List.length_set, A.len]
  · rcases get_set q with ⟨hm, hd⟩ | ⟨hm, hd⟩
    · cases hd
    · exact A.fzn m x hd
  · rcases get_set q with ⟨hm, hd⟩ | ⟨hm, hd⟩
    · cases hd
      subst hm
      exact ⟨a, o, ha, k2, k3, upd_same, RepC.mono ex c' o r⟩
    · obtain ⟨b', u', j1, j2, j3, j4, j5⟩ := A.live m d hd
      have nb : b' ≠ a := fun z => hm (A.inj m n d c b' hd e j1 (by rw [z]; exact ha))
      exact ⟨b', u', j1, j2, j3, by rw [upd_ne nb]; exact j4, RepC.mono ex d u' j5⟩
  · have f : ∀ {k : Nat} {dd : Cell}, (s.S.set n (.live c'))[k]? = some (.live dd) → ∃ d0, s.S[k]? = some (.live d0) := fun {k dd} z => by
      rcases get_set z with ⟨hk, _⟩ | ⟨_, hk⟩
      · exact ⟨c, by rw [hk]; exact e⟩
      · exact ⟨dd, hk⟩
    obtain ⟨d0, e0⟩ := f q1
    obtain ⟨d1, e1⟩ := f q2
    exact A.inj m m' d0 d1 x e0 e1 p1 p2
  · have nx : x ≠ a := fun z => by rw [z, k3] at q; cases q
    exact ⟨by rw [upd_ne nx]; exact (A.frm x y q).1, (A.frm x y q).2⟩
/-- a cell's thing is given away: from now on it stays as it is -/
theorem AtS.freeze (A : AtS C F s H) {n : Nat} {c : Cell} {z : P} (e : s.S[n]? = some (.live c)) (hz : ∀ a o, s.G a = none → RepC C s c o → RepP C (upd s.G a o) z (.ref a)) :
    ∃ a o, s.μ[n]? = some a ∧ RepC C s c o ∧ H a = some o ∧ AtS C F ⟨upd s.G a o, s.μ, s.S.set n (.fz z)⟩ H ∧ ExtS s ⟨upd s.G a o, s.μ, s.S.set n (.fz z)⟩ := by
  obtain ⟨a, o, k1, k2, k3, k4, k5⟩ := A.live n c e
  have ex : ExtS s ⟨upd s.G a o, s.μ, s.S.set n (.fz z)⟩ := ⟨Same.new k2, List.prefix_refl _⟩
  refine ⟨a, o, k1, k5, k4, ⟨fun x y q => ?_, ?_, fun m x q => ?_, fun m d q => ?_, fun m m' d d' x q1 q2 p1 p2 => ?_, fun x y q => ?_⟩, ex⟩
  · dsimp only at q
    by_cases hx : x = a
    · subst hx
      rw [upd_same] at q
      cases q
      exact k4
    · rw [upd_ne hx] at q
      exact A.sub x y q
  · show s.μ.length = (s.S.set n (.fz z)).length
    rw [List.length_set, A.len]
  · rcases get_set q with ⟨hm, hd⟩ | ⟨hm, hd⟩
    · cases hd
      subst hm
      exact ⟨a, k1, hz a o k2 k5⟩
    · obtain ⟨b', j1, j2⟩ := A.fzn m x hd
      exact ⟨b', j1, RepP.mono ex.G x _ j2⟩
  · rcases get_set q with ⟨_, hd⟩ | ⟨hm, hd⟩
    · cases hd
    · obtain ⟨b', u', j1, j2, j3, j4, j5⟩ := A.live m d hd
      have nb : b' ≠ a := fun z => hm (A.inj m n d c b' hd e j1 (by rw [z]; exact k1))
      exact ⟨b', u', j1, by dsimp only; rw [upd_ne nb]; exact j2, j3, j4, RepC.mono ex d u' j5⟩
  · rcases get_set q1 with ⟨_, hd⟩ | ⟨_, h1⟩
    · cases hd
    · rcases get_set q2 with ⟨_, hd⟩ | ⟨_, h2⟩
      · cases hd
      · exact A.inj m m' d d' x h1 h2 p1 p2
  · have nx : x ≠ a := fun z => by rw [z, k3] at q; cases q
    exact ⟨(A.frm x y q).1, by show upd s.G a o x = none; rw [upd_ne nx]; exact (A.frm x y q).2⟩
/-- purify, seen in the heap: nothing happens there -/
theorem purify_ok (A : AtS C F s H) {d : D} {v : V} (r : RepD C s d v) {x : P} {S' : Sto} (e : purify d s.S = .ok x S') :
    ∃ s', s'.S = S' ∧ AtS C F s' H ∧ ExtS s s' ∧ RepP C s'.G x v := by
  cases d with
  | p y =>
    simp only [purify, RE.ok.injEq] at e
    obtain ⟨rfl, rfl⟩ := e
    exact ⟨s, rfl, A, ExtS.refl s, r⟩
  | loc n =>
    obtain ⟨b, hb, hv⟩ := r
    simp only [purify] at e
    split at e
    · rename_i xs q
      simp only [RE.ok.injEq] at e
      obtain ⟨rfl, rfl⟩ := e
      have hz : ∀ a o, s.G a = none → RepC C s (.lst xs) o → RepP C (upd s.G a o) (.lst xs) (.ref a) := fun a o hn ⟨vs, ho, k2⟩ => by
        simp only [RepP]
        exact ⟨a, vs, rfl, by rw [upd_same, ho], RepPs.mono (Same.new hn) xs vs k2⟩
      obtain ⟨a, o, k1, k2, k3, A', ex⟩ := A.freeze (z := .lst xs) q hz
      rw [k1] at hb
      cases hb
      subst hv
      obtain ⟨a', k4, k5⟩ := A'.fzn n (.lst xs) (by show (s.S.set n _)[n]? = _; rw [List.getElem?_set_self (List.getElem?_eq_some_iff.mp q).1])
      rw [show s.μ[n]? = some a' from k4] at k1
      cases k1
      exact ⟨_, rfl, A', ex, k5⟩
    · rename_i x' q
      simp only [RE.ok.injEq] at e
      obtain ⟨rfl, rfl⟩ := e
      obtain ⟨a, k1, k2⟩ := A.fzn n _ q
      rw [k1] at hb
      cases hb
      subst hv
      exact ⟨s, rfl, A, ExtS.refl s, k2⟩
    · cases e
  | cls c => cases e
theorem purify_not {d : D} {S : Sto} {c : Nat} {x : Option P} {S' : Sto} (e : purify d S = .exc c x S') : False := by
  cases d with
  | p y => simp [purify] at e
  | loc n =>
    simp only [purify] at e
    split at e <;> cases e
  | cls c => cases e
/-- peek: what stands there now -/
theorem peek_ok (A : AtS C F s H) {d : D} {v : V} (r : RepD C s d v) {x : P} (e : peek d s.S = some x) : RepP C s.G x v ∨ (∃ xs a vs, x = .lst xs ∧ v = .ref a ∧ H a = some (.lst vs) ∧ RepPs C s.G xs vs) := by
  cases d with
  | p y =>
    simp only [peek, Option.some.injEq] at e
    subst e
    exact Or.inl r
  | loc n =>
    simp only [peek] at e
    split at e
    · rename_i xs q
      simp only [Option.some.injEq] at e
      obtain ⟨a, o, k1, _, _, k4, vs, ho, k5⟩ := A.live n _ q
      obtain ⟨b, hb, hv⟩ := r
      rw [k1] at hb
      cases hb
      exact Or.inr ⟨xs, a, vs, e.symm, hv, by rw [k4, ho], k5⟩
    · rename_i x' q
      simp only [Option.some.injEq] at e
      subst e
      obtain ⟨a, k1, k2⟩ := A.fzn n _ q
      obtain ⟨b, hb, hv⟩ := r
      rw [k1] at hb
      cases hb
      subst hv
      exact Or.inl k2
    · cases e
  | cls c => cases e
theorem peek_lst (A : AtS C F s H) {d : D} {v : V} (r : RepD C s d v) {xs : List P} (e : peek d s.S = some (.lst xs)) : ∃ a vs, v = .ref a ∧ H a = some (.lst vs) ∧ RepPs C s.G xs vs := by
  rcases peek_ok A r e with h | ⟨ys, a, vs, h1, h2, h3, h4⟩
  · simp only [RepP] at h
    obtain ⟨a, vs, h1, h2, h3⟩ := h
    exact ⟨a, vs, h1, A.sub _ _ h2, h3⟩
  · cases h1
    exact ⟨a, vs, h2, h3, h4⟩
/-- what is no list is looked at as it is -/
theorem peek_pure (A : AtS C F s H) {d : D} {v : V} (r : RepD C s d v) {x : P} (e : peek d s.S = some x) (hx : ∀ xs, x ≠ .lst xs) : RepP C s.G x v := by
  rcases peek_ok A r e with h | ⟨ys, a, vs, h1, _⟩
  · exact h
  · exact absurd h1 (hx ys)
end
end RP
end

section
set_option Elab.async false
set_option linter.all false
set_option maxRecDepth 100000
/-! The readings that the evaluator gives. -/
namespace RP
open PySem L2
section
variable (C : CC) (W : WX) (F : Hp)
/-- an exception's own dict -/
def RepX (G : Hp) (c : Nat) : Option P → Option Addr → Prop
  | none, dx => dx = none
  | some x, dx => ∃ d v, dx = some d ∧ G d = some (.xd (((C.FT c).map C.NM).zip [v])) ∧ RepP C G x v
/-- what is wanted of an outcome: of its value, or of the exception -/
def Wt {α : Type} (σ : St) (s : Sit) (r : RE α) (K : α → Sit → Hp → Prop) : Prop := match r with
  | .ok a S' => ∀ s' H', s'.S = S' → ExtS s s' → AtS C F s' H' → K a s' H'
  | .exc c x S' => ∀ dx s' H', s'.S = S' → ExtS s s' → AtS C F s' H' → RepX C s'.G c x dx → W (.ref (C.CA c)) dx σ H'
  | .stuck => False
abbrev WantE {α : Type} (Rel : Sit → α → V → Prop) (σ : St) (s : Sit) (r : RE α) (Q : VK) : Prop := Wt C W F σ s r fun d s' H' => ∀ v, Rel s' d v → Q v H'
def tE (f : DEnv → Sto → RE D) : TE := fun σ H Q => ∃ δ s, AtS C F s H ∧ RepS C s δ σ ∧ WantE C W F (RepD C) σ s (f δ s.S) Q
abbrev WantA {α : Type} (Rel : Sit → α → List V → Prop) (σ : St) (s : Sit) (r : RE α) (Q : List V → Hp → Prop) : Prop := Wt C W F σ s r fun d s' H' => ∀ vs, Rel s' d vs → Q vs H'
def tAP (f : DEnv → Sto → RE (List P)) : TA := fun σ H Q => ∃ δ s, AtS C F s H ∧ RepS C s δ σ ∧ WantA C W F (fun s => RepPs C s.G) σ s (f δ s.S) Q
def tAD (f : DEnv → Sto → RE (List D)) : TA := fun σ H Q => ∃ δ s, AtS C F s H ∧ RepS C s δ σ ∧ WantA C W F (RepDs C) σ s (f δ s.S) Q
abbrev WantT (σ : St) (s : Sit) (r : RE D) (Q : Bool → Hp → Prop) : Prop := Wt C W F σ s r fun d _ H' => match d with
  | .p (.bl b) => Q b H'
  | _ => False
def tT (f : DEnv → Sto → RE D) : TT := fun σ H Q => ∃ δ s, AtS C F s H ∧ RepS C s δ σ ∧ WantT C W F σ s (f δ s.S) Q
def WantS (s : Sit) (r : RS) (D : Ends) : Prop := match r with
  | .next δ S' => ∀ σ s' H', s'.S = S' → ExtS s s' → AtS C F s' H' → RepS C s' δ σ → D.nx σ H'
  | .ret d S' => ∀ v s' H', s'.S = S' → ExtS s s' → AtS C F s' H' → RepD C s' d v → D.rt v H'
  | .brk δ S' => ∀ σ s' H', s'.S = S' → ExtS s s' → AtS C F s' H' → RepS C s' δ σ → D.bk σ H'
  | .cnt δ S' => ∀ σ s' H', s'.S = S' → ExtS s s' → AtS C F s' H' → RepS C s' δ σ → D.ct σ H'
  | .exc c x δ S' => ∀ dx σ s' H', s'.S = S' → ExtS s s' → AtS C F s' H' → RepS C s' δ σ → RepX C s'.G c x dx → W (.ref (C.CA c)) dx σ H'
  | .stuck => False
def tS (f : DEnv → Sto → RS) : TS := fun D σ H => ∃ δ s, AtS C F s H ∧ RepS C s δ σ ∧ WantS C W F s (f δ s.S) D
end
/-! ### a judgement with a stronger reading -/
section
variable {X : Cx} {C : CC} {W : WX} {F : Hp} {s s1 : Sit} {σ : St} {H : Hp} {δ : DEnv}
theorem PE.imp {e : Expr} {t u : TE} (h : PE X e t) (k : ∀ σ H Q, u σ H Q → t σ H Q) : PE X e u := ⟨fun pins s σ H Q I hu => h.run pins s σ H Q I (k σ H Q hu)⟩
theorem PT.imp {e : Expr} {t u : TT} (h : PT X e t) (k : ∀ σ H Q, u σ H Q → t σ H Q) : PT X e u := ⟨fun pins s σ H Q I hu => h.run pins s σ H Q I (k σ H Q hu)⟩
theorem PW.imp {e : Expr} {t u : TT} (h : PW X e t) (k : ∀ σ H Q, u σ H Q → t σ H Q) : PW X e u := ⟨fun wh pins s σ H Q I hu => h.run wh pins s σ H Q I (k σ H Q hu)⟩
theorem PA.imp {e : List Expr} {t u : TA} (h : PA X e t) (k : ∀ σ H Q, u σ H Q → t σ H Q) : PA X e u := ⟨fun pos pins s σ H Q I hu => h.run pos pins s σ H Q I (k σ H Q hu)⟩
theorem PS.imp {st : Stmt} {t u : TS} (h : PS X st t) (k : ∀ D σ H, u D σ H → t D σ H) : PS X st u := ⟨fun pins s σ H D I hu => h.run pins s σ H D I (k D σ H hu)⟩
theorem PSs.imp {st : List Stmt} {t u : TS} (h : PSs X st t) (k : ∀ D σ H, u D σ H → t D σ H) : PSs X st u := ⟨fun pins s σ H D I hu => h.run pins s σ H D I (k D σ H hu)⟩
theorem Wt.ext {α : Type} {r : RE α} {K : α → Sit → Hp → Prop} (ex : ExtS s s1) (h : Wt C W F σ s r K) : Wt C W F σ s1 r K := by
  cases r with
  | ok a S' => exact fun s' H' h1 e2 => h s' H' h1 (ex.trans e2)
  | exc c x S' => exact fun dx s' H' h1 e2 => h dx s' H' h1 (ex.trans e2)
  | stuck => exact h
/-- an outcome, then what hangs on its value -/
theorem Wt.bind {α β : Type} {r : RE α} {g : α → Sto → RE β} {K : β → Sit → Hp → Prop} (h : Wt C W F σ s (r.bind g) K) : Wt C W F σ s r fun a s' _ => Wt C W F σ s' (g a s'.S) K := by
  cases r with
  | ok a S' =>
    intro s' H' hS ex A'
    subst hS
    exact Wt.ext ex h
  | exc c x S' => exact h
  | stuck => exact h
theorem Wt.imp {α : Type} {r : RE α} {K K' : α → Sit → Hp → Prop} (h : Wt C W F σ s r K) (k : ∀ a s' H', r = .ok a s'.S → ExtS s s' → AtS C F s' H' → K a s' H' → K' a s' H') : Wt C W F σ s r K' := by
  cases r with
  | ok a S' =>
    intro s' H' hS ex A'
    exact k a s' H' (by rw [hS]) ex A' (h s' H' hS ex A')
  | exc c x S' => exact h
  | stuck => exact h
theorem Wt.now {α : Type} {a : α} {K : α → Sit → Hp → Prop} (A : AtS C F s H) (h : Wt C W F σ s (.ok a s.S) K) : K a s H := h s H rfl (ExtS.refl s) A
theorem Wt.at_ {α : Type} {a : α} {K : α → Sit → Hp → Prop} {S' : Sto} {H' : Hp} (h : Wt C W F σ s (.ok a S') K) (A : AtS C F s1 H') (hS : s1.S = S') (ex : ExtS s s1) : K a s1 H' := h s1 H' hS ex A
/-- THE STEP: an expression first, then what hangs on its value -/
def Then {β : Type} (C : CC) (W : WX) (F : Hp) (s : Sit) (σ : St) (δ : DEnv) (g : D → Sto → RE β) (K : β → Sit → Hp → Prop) : VK := fun v H1 => ∃ d s1, ExtS s s1 ∧ AtS C F s1 H1 ∧ RepS C s1 δ σ ∧ RepD C s1 d v ∧ Wt C W F σ s1 (g d s1.S) K
theorem tE.then {β : Type} {f : DEnv → Sto → RE D} {g : D → Sto → RE β} {K : β → Sit → Hp → Prop} (A : AtS C F s H) (R : RepS C s δ σ) (h : Wt C W F σ s ((f δ s.S).bind g) K) : tE C W F f σ H (Then C W F s σ δ g K) :=
  ⟨δ, s, A, R, Wt.imp (Wt.bind h) fun d s' H' _ ex A' hk v r => ⟨d, s', ex, A', R.mono ex, r, hk⟩⟩
theorem Wt.ok {α : Type} {Rel : Sit → α → V → Prop} {d : α} {Q : VK} {v : V} (A : AtS C F s H) (h : WantE C W F Rel σ s (.ok d s.S) Q) (r : Rel s d v) : Q v H := h s H rfl (ExtS.refl s) A v r
theorem Wt.to {α : Type} {Rel : Sit → α → V → Prop} {d : α} {Q : VK} {v : V} {S' : Sto} {H' : Hp} (h : WantE C W F Rel σ s (.ok d S') Q) (A : AtS C F s1 H') (hS : s1.S = S') (ex : ExtS s s1) (r : Rel s1 d v) : Q v H' := h s1 H' hS ex A v r
theorem Wt.thenA {α β : Type} {Rel : Sit → α → List V → Prop} {r : RE α} {g : α → Sto → RE β} {K : β → Sit → Hp → Prop} (R : RepS C s δ σ) (h : Wt C W F σ s (r.bind g) K) :
    WantA C W F Rel σ s r fun vs H1 => ∃ d s1, ExtS s s1 ∧ AtS C F s1 H1 ∧ RepS C s1 δ σ ∧ Rel s1 d vs ∧ Wt C W F σ s1 (g d s1.S) K :=
  Wt.imp (Wt.bind h) fun d s' H' _ ex A' hk v rl => ⟨d, s', ex, A', R.mono ex, rl, hk⟩
end
end RP
end

section
set_option Elab.async false
set_option linter.all false
set_option maxRecDepth 100000
/-! What a pure def promises, and its call. -/
namespace RP
open PySem L2
section
variable (C : CC)
/-- what was not frozen stays, and stays unfrozen -/
def Frz (G H G' H' : Hp) : Prop := ∀ a o, H a = some o → G a = none → H' a = some o ∧ G' a = none
def spP (g : PFn) : Sp := fun vs H Q E => ∃ G xs, Same G H ∧ RepPs C G xs vs ∧ match g xs with
  | .ok x => ∀ v G' H', Same G G' → Same G' H' → Frz G H G' H' → RepP C G' x v → Q v H'
  | .exc c x => ∀ dx G' H', Same G G' → Same G' H' → Frz G H G' H' → RepX C G' c x dx → E (.ref (C.CA c)) dx H'
  | .stuck => False
/-- a thing that may be called with pure data, at level k, from any place of the program -/
def Cal (Pr : Program) (w : World) (K : PySem.W.Frag) (mg : Str → Option Value) (base : Heap) (k : Nat) (u : Value) (g : PFn) : Prop :=
  ∀ (X : Cx) (W : WX) (A : Around) (pins : List (Addr × Obj)) (s : Shared) (σ : St) (H : Hp) (us : List Value) (vs : List V) (Q : VK),
    X.prog = Pr → X.w = w → X.K = K → X.mg = mg → X.base = base → Takes X W → Room k A → A.frames = X.A.frames → Inv X pins σ H s → Vals vs us → spP C g vs H Q (WE W σ) →
    codeAny (model Pr w) A (.call u ⟨us, []⟩) (wants (EP X pins σ Q) X.xe) s
end
section
variable {C : CC} {Pr : Program} {w : World} {K : PySem.W.Frag} {mg : Str → Option Value} {base : Heap} {k j : Nat} {u : Value} {g : PFn}
theorem Cal.mono (h : Cal C Pr w K mg base k u g) (hk : k ≤ j) : Cal C Pr w K mg base j u g := fun X W A pins s σ H us vs Q e1 e2 e3 e4 e5 tk r => h X W A pins s σ H us vs Q e1 e2 e3 e4 e5 tk (r.mono hk)
theorem cal_fn {f : Addr} {fd : FuncData} {ps : List Str} {ds : List Value} {dvs : List V} {dxs : List P} (F : FnOk Pr w K mg base (L2.CX Pr w) k f fd ps (spP C g)) (hb : Binds K fd ps ds) (hd : Vals dvs ds)
    (hx : ∀ G, RepPs C G dxs dvs) : Cal C Pr w K mg base k (.ref f) (fun xs => g (xs ++ dxs)) := by
  intro X W A pins s σ H us vs Q e1 e2 e3 e4 e5 tk hr hA I r h
  subst e1 e2 e3 e4 e5
  have app : ∀ {G : Hp} (xs : List P) (ws : List V), RepPs C G xs ws → RepPs C G (xs ++ dxs) (ws ++ dvs) := by
    intro G xs
    induction xs with
    | nil =>
      intro ws hw
      simp only [RepPs] at hw
      subst hw
      exact hx G
    | cons y ys ih =>
      intro ws hw
      simp only [RepPs] at hw
      obtain ⟨v, ws', rfl, h1, h2⟩ := hw
      simp only [List.cons_append, RepPs]
      exact ⟨v, ws' ++ dvs, rfl, h1, ih ws' h2⟩
  have hsp : spP C g (vs ++ dvs) H Q (WE W σ) := by
    obtain ⟨G, xs, h1, h2, h3⟩ := h
    exact ⟨G, xs ++ dxs, h1, app xs vs h2, h3⟩
  have rr : Vals (vs ++ dvs) (us ++ ds) := Vals.append r hd
  have hl : (us ++ ds).length = ps.length := by
    rw [← rr.length]
    exact F.len _ _ _ _ hsp
  have ent : Env0 X.prog X.w X.K X.mg X.base A X.stack s H := by
    obtain ⟨q1, q2, q3, q4, q5, q6, q7, q8⟩ := I.env0
    exact ⟨by rw [hA]; exact q1, q2, q3, q4, q5, q6, q7, q8⟩
  refine codeAny_mono (F.run A X.stack s H ⟨us, []⟩ (us ++ ds) (vs ++ dvs) Q (WE W σ) hr ent (hb s us I.kIn hl) rr hsp) fun r s' hq => ?_
  cases r with
  | error e => exact passAt tk σ pins H s e s' I hq
  | ok fl =>
    cases fl with
    | ret u => exact I.after hq
    | next => exact hq.elim
    | brk => exact hq.elim
    | cont => exact hq.elim
/-- from a situation of ours to the promise, and back -/
theorem spP_of {W : WX} {F : Hp} {s : Sit} {σ : St} {H : Hp} {xs : List P} {vs : List V} {Q : VK} (A : AtS C F s H) (r : RepPs C s.G xs vs) (h : WantE C W F (RepD C) σ s ((g xs).lift s.S) Q) : spP C g vs H Q (WE W σ) := by
  refine ⟨s.G, xs, A.sub, r, ?_⟩
  cases e : g xs with
  | ok x =>
    rw [e] at h
    intro v G' H' h1 h2 h3 hr
    obtain ⟨A', ex⟩ := A.call h1 h2 h3
    exact h ⟨G', s.μ, s.S⟩ H' rfl ex A' v hr
  | exc c x =>
    rw [e] at h
    intro dx G' H' h1 h2 h3 hr
    obtain ⟨A', ex⟩ := A.call h1 h2 h3
    exact h dx ⟨G', s.μ, s.S⟩ H' rfl ex A' hr
  | stuck =>
    rw [e] at h
    exact h
end
end RP
end

section
set_option Elab.async false
set_option linter.all false
set_option maxRecDepth 100000
/-! Classes and types of data. -/
namespace RP
open PySem L2
structure ClsF (K : PySem.W.Frag) (c : Addr) : Prop where
  cl : L2.Cls K c
  ha : PySem.W.findIn K (.ref c) "__class__" = some (some (.builtin "object.__class__"))
  hn : PySem.W.specialIn K (.builtin "object.__class__") "__get__" =
    some (some (.builtin "getset_descriptor.__get__"))
  tk : PySem.W.takesIn K (.builtin "object.__class__") = some true
  hm : PySem.W.mroIn K c (.type "object") = some true
  sf : PySem.W.selfFirst K c = true
  ne : PySem.W.findIn K (.ref c) "__ne__" = some (some (.builtin "object.__ne__"))
/-- the classes that data may have -/
structure ClsFs (C : CC) : Prop where
  one : ∀ c, C.kn c = true → ClsF C.K (C.CA c)
  two : ∀ c c', C.kn c = true → C.kn c' = true → c ≠ c' → PySem.W.subIn C.K (.ref (C.CA c)) (.ref (C.CA c')) = some false ∧ C.CA c ≠ C.CA c'
def tyP (C : CC) : P → Value
  | .non => .type "NoneType"
  | .bl _ => .type "bool"
  | .int _ => .type "int"
  | .str _ => .type "str"
  | .tup _ => .type "tuple"
  | .lst _ => .type "list"
  | .scr _ => .type "list"
  | .dic _ _ => .type "dict"
  | .ob c _ => .ref (C.CA c)
section
variable {C : CC} {X : Cx} {pins : List (Addr × Obj)} {σ : L2.St} {G H : Hp} {s : Shared}
theorem tyX_of (cf : ClsFs C) (hk : C.K = X.K) (e : Same G H) : ∀ {x : P} {v : V}, RepP C G x v → TyX X.K H v (tyP C x)
  | .non, v, h => by
    simp only [RepP] at h
    subst h
    exact .base .non
  | .bl b, v, h => by
    simp only [RepP] at h
    subst h
    exact .base (.bl b)
  | .int i, v, h => by
    simp only [RepP] at h
    subst h
    exact .base (.int i)
  | .str i, v, h => by
    simp only [RepP] at h
    subst h
    exact .base (.str i)
  | .tup xs, v, h => by
    simp only [RepP] at h
    obtain ⟨a, vs, rfl, h1, _⟩ := h
    rw [hk] at h1
    rcases sqT_mono e h1 with (h | ⟨o, h⟩) | ⟨o, its, n, h, hc, _⟩
    · exact .base (.tup h)
    · exact .fTuple h
    · exact .kTuple h hc
  | .lst xs, v, h => by
    simp only [RepP] at h
    obtain ⟨a, vs, rfl, h1, _⟩ := h
    exact .base (.lst (e _ _ h1))
  | .dic ks xs, v, h => by
    simp only [RepP] at h
    obtain ⟨a, vs, rfl, h1, _⟩ := h
    exact .base (.dK (e _ _ h1))
  | .scr xs, v, h => by
    simp only [RepP] at h
    obtain ⟨a, rfl, h1⟩ := h
    rw [hk] at h1
    rcases e.seq h1.sq with (h | ⟨o, h⟩) | ⟨o, its, n, h, hc, _⟩
    · exact .base (.lst h)
    · exact .base (.frz h)
    · exact .kList h hc
  | .ob c xs, v, h => by
    simp only [RepP] at h
    obtain ⟨hc, a, dx, vs, rfl, h1, _⟩ := h
    have f := cf.one c hc
    rw [hk] at f
    exact .base (.ins (e _ _ h1) f.cl f.ha f.hn f.tk f.hm)
theorem looks_at {M : Model} {a : Addr} {o : Obj} {t : Value} (h : s.heap.get? a = some o) (e : o.cls = t) : PySem.W.Looks M s.heap (typeOf (.ref a)) t := e ▸ (PySem.W.Looks.ld h).andThen .now
theorem looks_ty {M : Model} (hk : C.K = X.K) (e : Same G H) (I : Inv X pins σ H s) : ∀ {x : P} {v : V} {u : Value}, RepP C G x v → RelV v u → PySem.W.Looks M s.heap (typeOf u) (tyP C x)
  | .non, v, u, h, r => by
    simp only [RepP] at h
    subst h
    cases r
    exact .of_pure rfl
  | .bl b, v, u, h, r => by
    simp only [RepP] at h
    subst h
    cases r
    exact .of_pure rfl
  | .int i, v, u, h, r => by
    simp only [RepP] at h
    subst h
    obtain ⟨t, rfl⟩ := r
    exact .of_pure rfl
  | .str i, v, u, h, r => by
    simp only [RepP] at h
    subst h
    obtain ⟨t, rfl⟩ := r
    exact .of_pure rfl
  | .tup xs, v, u, h, r => by
    simp only [RepP] at h
    obtain ⟨a, vs, rfl, h1, _⟩ := h
    cases r
    rw [hk] at h1
    obtain ⟨its, _, ⟨o, q1, q2, _⟩, _⟩ := I.tuple (sqT_mono e h1)
    exact looks_at q1 q2
  | .lst xs, v, u, h, r => by
    simp only [RepP] at h
    obtain ⟨a, vs, rfl, h1, _⟩ := h
    cases r
    obtain ⟨its, _, ⟨o, n, q1, q2, _⟩, _⟩ := I.list (SqL.of (e _ _ h1))
    exact looks_at q1 q2
  | .dic ks xs, v, u, h, r => by
    simp only [RepP] at h
    obtain ⟨a, vs, rfl, h1, _⟩ := h
    cases r
    obtain ⟨_, _, ws, _, ⟨ob, es, n, q1, q2, q3⟩⟩ := dk_of I.hok (e _ _ h1)
    exact looks_at q1 q2.1
  | .scr xs, v, u, h, r => by
    simp only [RepP] at h
    obtain ⟨a, rfl, h1⟩ := h
    cases r
    rw [hk] at h1
    obtain ⟨its, _, ⟨o, n, q1, q2, _⟩, _⟩ := I.list (e.seq h1.sq)
    exact looks_at q1 q2
  | .ob c xs, v, u, h, r => by
    simp only [RepP] at h
    obtain ⟨hc, a, dx, vs, rfl, h1, _⟩ := h
    cases r
    obtain ⟨mA, O, _⟩ := ins_get (P := X.prog) (w := X.w) I.hok (e _ _ h1)
    exact looks_at O.obj rfl
/-- no built-in type lies below a class of the text -/
theorem sub_none (K : PySem.W.Frag) (a : Addr) : PySem.W.subIn K (.type "NoneType") (.ref a) = some false := by
  have e : PySem.fastBuiltinMro "NoneType" = some [.type "NoneType", .type "object"] := by decide +kernel
  simp [PySem.W.subIn, e]
theorem sub_bool (K : PySem.W.Frag) (a : Addr) : PySem.W.subIn K (.type "bool") (.ref a) = some false := by
  have e : PySem.fastBuiltinMro "bool" = some [.type "bool", .type "int", .type "object"] := by decide +kernel
  simp [PySem.W.subIn, e]
theorem sub_int (K : PySem.W.Frag) (a : Addr) : PySem.W.subIn K (.type "int") (.ref a) = some false := by
  have e : PySem.fastBuiltinMro "int" = some [.type "int", .type "object"] := by decide +kernel
  simp [PySem.W.subIn, e]
theorem sub_str (K : PySem.W.Frag) (a : Addr) : PySem.W.subIn K (.type "str") (.ref a) = some false := by
  have e : PySem.fastBuiltinMro "str" = some [.type "str", .type "object"] := by decide +kernel
  simp [PySem.W.subIn, e]
theorem sub_tup (K : PySem.W.Frag) (a : Addr) : PySem.W.subIn K (.type "tuple") (.ref a) = some false := by
  have e : PySem.fastBuiltinMro "tuple" = some [.type "tuple", .type "object"] := by decide +kernel
  simp [PySem.W.subIn, e]
theorem sub_lst (K : PySem.W.Frag) (a : Addr) : PySem.W.subIn K (.type "list") (.ref a) = some false := by
  have e : PySem.fastBuiltinMro "list" = some [.type "list", .type "object"] := by decide +kernel
  simp [PySem.W.subIn, e]
theorem sub_dic (K : PySem.W.Frag) (a : Addr) : PySem.W.subIn K (.type "dict") (.ref a) = some false := by
  have e : PySem.fastBuiltinMro "dict" = some [.type "dict", .type "object"] := by decide +kernel
  simp [PySem.W.subIn, e]
theorem notFirst_of (cf : ClsFs C) {c : Nat} (hc : C.kn c = true) : ∀ {y : P} {v : V}, RepP C G y v → PySem.W.notFirst C.K (C.CA c) (tyP C y) = true := by
  have f : ∀ {t : Value}, PySem.W.subIn C.K t (.ref (C.CA c)) = some false → PySem.W.notFirst C.K (C.CA c) t = true := fun {t} h => by
    unfold PySem.W.notFirst
    rw [h]
    simp
  intro y v r
  cases y with
  | non => exact f (sub_none _ _)
  | bl b => exact f (sub_bool _ _)
  | int b => exact f (sub_int _ _)
  | str b => exact f (sub_str _ _)
  | tup b => exact f (sub_tup _ _)
  | lst b => exact f (sub_lst _ _)
  | scr b => exact f (sub_lst _ _)
  | dic a b => exact f (sub_dic _ _)
  | ob c' b =>
    simp only [RepP] at r
    by_cases e : c' = c
    · subst e
      unfold PySem.W.notFirst
      simp [tyP]
    · exact f (cf.two c' c r.1 hc e).1
end
end RP
end

section
set_option Elab.async false
set_option linter.all false
set_option maxRecDepth 100000
set_option maxHeartbeats 1000000
/-! Operators on data. -/
namespace RP
open PySem L2
/-- the numbers of the names that operators go by -/
structure NmOk (C : CC) : Prop where
  add : C.NM mAdd = "__add__"
  sub : C.NM mSub = "__sub__"
  mul : C.NM mMul = "__mul__"
  neg : C.NM mNeg = "__neg__"
  eq : C.NM mEq = "__eq__"
  lt : C.NM mLt = "__lt__"
  le : C.NM mLe = "__le__"
  app : C.NM mAppend = "append"
/-- the methods and properties of a table are those of the text -/
structure GoodM (C : CC) (Pr : Program) (w : World) (K : PySem.W.Frag) (mg : Str → Option Value) (base : Heap) (k : Nat) (Γ : Tab) : Prop where
  mts : ∀ c m g, Γ.meth c m = some g → ∃ f, Meth K (C.CA c) (C.NM m) f ∧ (∀ f ∈ C.FT c, C.NM f ≠ C.NM m) ∧ Cal C Pr w K mg base k (.ref f) g
  prs : ∀ c m g, Γ.prop c m = some g → ∃ p f, PropOf K (C.CA c) (C.NM m) p f ∧ Cal C Pr w K mg base k (.ref f) g
  noR : ∀ c g op m, opM op = some m → Γ.meth c m = some g → PySem.W.findIn K (.ref (C.CA c)) (PySem.dunderR op.info.2) = some none
/-- the fields of the classes are no attributes of the class -/
structure FldOk (C : CC) : Prop where
  inj : ∀ c, C.kn c = true → ∀ g ∈ C.FT c, ∀ f, C.NM f = C.NM g → f = g
  na : ∀ c, C.kn c = true → ∀ g ∈ C.FT c, NoAttr C.K (C.CA c) (C.NM g)
/-- a place of the program where data is reckoned -/
structure Spot (C : CC) (W : WX) (X : Cx) (k : Nat) : Prop where
  cf : ClsFs C
  nm : NmOk C
  fl : FldOk C
  hk : C.K = X.K
  tk : Takes X W
  hr : Room (k + eqDeep) X.A
  py : X.A.frames = some X.stack → ∀ s : Shared, (∀ b o, X.base.get? b = some o → s.heap.get? b = some o) → PySem.PylongRoom (model X.prog X.w) X.A s
theorem sizeLine_big : 200000 ≤ sizeLine := by decide
section
variable {C : CC} {W : WX} {X : Cx} {k : Nat} {Γ : Tab} {F : Hp} {s0 : Sit} {pins : List (Addr × Obj)} {σ : L2.St} {H : Hp} {s : Shared} {Q : VK}
/-- a call of an own def with pure data -/
theorem cal_run {u : Value} {g : PFn} {us : List Value} {vs : List V} {xs : List P} {A' : Around} (sp : Spot C W X k) (c : Cal C X.prog X.w X.K X.mg X.base k u g) (hr : Room k A') (hA : A'.frames = X.A.frames) (I : Inv X pins σ H s) (A : AtS C F s0 H) (r : RepPs C s0.G xs vs) (rv : Vals vs us)
    (h : WantE C W F (RepD C) σ s0 ((g xs).lift s0.S) Q) : wpAny (model X.prog X.w) A' (call u us) (EP X pins σ Q) X.xe s :=
  wpAny_call (c X W A' pins s σ H us vs Q rfl rfl rfl rfl rfl sp.tk hr hA I rv (spP_of A r h))
theorem reps1 {x : P} {v : V} (r : RepP C s0.G x v) : RepPs C s0.G [x] [v] := by
  simp only [RepPs]
  exact ⟨v, [], rfl, r, rfl⟩
theorem reps2 {x y : P} {v u : V} (r : RepP C s0.G x v) (q : RepP C s0.G y u) : RepPs C s0.G [x, y] [v, u] := by
  simp only [RepPs]
  exact ⟨v, [u], rfl, r, u, [], rfl, q, rfl⟩
/-- an int, a bool, a text, None as the answer -/
theorem want_int {i : Int} (A : AtS C F s0 H) (h : WantE C W F (RepD C) σ s0 (.ok (.p (.int i)) s0.S) Q) : Q (.int i) H := h.ok A (by simp only [RepD, RepP])
theorem want_bl {i : Bool} (A : AtS C F s0 H) (h : WantE C W F (RepD C) σ s0 (.ok (.p (.bl i)) s0.S) Q) : Q (.bl i) H := h.ok A (by simp only [RepD, RepP])
theorem want_str {i : Str} (A : AtS C F s0 H) (h : WantE C W F (RepD C) σ s0 (.ok (.p (.str i)) s0.S) Q) : Q (.str i) H := h.ok A (by simp only [RepD, RepP])
/-- a new list that is not live -/
theorem want_lst {xs : List P} {vs : List V} (A : AtS C F s0 H) (r : RepPs C s0.G xs vs) (h : WantE C W F (RepD C) σ s0 (.ok (.p (.lst xs)) s0.S) Q) (p : Addr) (hp : H p = none) : Q (.ref p) (upd H p (.lst vs)) := by
  obtain ⟨A', ex⟩ := A.grow (o := .lst vs) hp
  refine h.to A' rfl ex ?_
  simp only [RepD, RepP]
  exact ⟨p, vs, rfl, upd_same, RepPs.mono ex.G xs vs r⟩
theorem want_tup {xs : List P} {vs : List V} (A : AtS C F s0 H) (r : RepPs C s0.G xs vs) (h : WantE C W F (RepD C) σ s0 (.ok (.p (.tup xs)) s0.S) Q) (p : Addr) (hp : H p = none) : Q (.ref p) (upd H p (.tup vs)) := by
  obtain ⟨A', ex⟩ := A.grow (o := .tup vs) hp
  refine h.to A' rfl ex ?_
  simp only [RepD, RepP]
  exact ⟨p, vs, rfl, SqT.of upd_same, RepPs.mono ex.G xs vs r⟩
theorem reps_app : ∀ (xs : List P) {ys : List P} (vs : List V) {ws : List V} {G : Hp}, RepPs C G xs vs → RepPs C G ys ws → RepPs C G (xs ++ ys) (vs ++ ws)
  | [], ys, vs, ws, G, h, q => by
    simp only [RepPs] at h
    subst h
    exact q
  | x :: xs, ys, vs, ws, G, h, q => by
    simp only [RepPs] at h
    obtain ⟨v, vs', rfl, h1, h2⟩ := h
    simp only [List.cons_append, RepPs]
    exact ⟨v, vs' ++ ws, rfl, h1, reps_app xs vs' h2 q⟩
theorem reps_rep {xs : List P} {vs : List V} {G : Hp} (h : RepPs C G xs vs) : ∀ n : Nat, RepPs C G (List.replicate n xs).flatten (List.replicate n vs).flatten
  | 0 => by simp only [List.replicate_zero, List.flatten_nil, RepPs]
  | n + 1 => by
    rw [List.replicate_succ, List.replicate_succ, List.flatten_cons, List.flatten_cons]
    exact reps_app xs vs h (reps_rep h n)
theorem mulOk_of {i j : Int} (h : mulOk i j = true) : PySem.IntMulOk i j := by
  unfold mulOk at h
  have h3 := of_decide_eq_true h
  have b : ∀ x : Int, Builtin.Int.intBits x ≤ x.natAbs.log2 + 1 := fun x => by
    unfold Builtin.Int.intBits
    split <;> omega
  have h1 := b i
  have h2 := b j
  have e : bitsLine = 134217728 := by decide
  unfold PySem.IntMulOk
  intro z
  rw [Bool.and_eq_true] at z
  have z2 := z.2
  unfold Builtin.Int.intTooBig at z2
  have z3 := of_decide_eq_true z2
  rw [e] at z3
  omega
theorem op_mulX : OpR X (binaryOp .Mult) (rI (fun i j => mulOk i j = true) fun i j => .int (i * j)) := opI fun _ _ _ _ _ _ _ hc q => PyProof.Rows.mul_int q (mulOk_of hc)
theorem op_powW : OpR X (binaryOp .Pow) (rI (fun i j => powOk i j = true) fun i j => .int (i ^ j.toNat)) := opI fun i j _ _ _ _ _ hc q => by
  unfold powOk at hc
  simp only [Bool.and_eq_true, decide_eq_true_eq] at hc
  refine PyProof.Rows.pow_int hc.1.1 ?_ q
  have h1 : Builtin.Int.intBits i ≤ i.natAbs.log2 + 1 := by
    unfold Builtin.Int.intBits
    split <;> omega
  have h2 : (Builtin.Int.intBits i : Int) ≤ 10000 := by omega
  have h3 : (Builtin.Int.intBits i : Int) * j ≤ 10000 * 1000 := Int.mul_le_mul h2 hc.1.2 hc.1.1 (by decide)
  exact Int.le_trans h3 (by decide)
theorem mul_fits {a : Str} {n : Int} (h1 : n ≤ 1000) (h2 : 0 ≤ n) (h3 : a.length ≤ 100) : PySem.MulOk a n := by
  refine ⟨?_, fun hn _ => ?_, fun hn _ => ?_⟩
  · simp only [Bool.or_eq_false_iff, decide_eq_false_iff_not]
    omega
  · have hp : 0 < n := by omega
    intro hc
    have : (2 ^ 63 - 1) / n < 1000 + 1 := by omega
    rw [Int.ediv_lt_iff_lt_mul hp] at this
    have h5 : (1000 + 1) * n ≤ (1000 + 1) * 1000 := Int.mul_le_mul_of_nonneg_left h1 (by decide)
    omega
  · unfold PySem.Builtin.Str.tooLong
    have h5 : a.length * n.toNat ≤ 100 * 1000 := Nat.mul_le_mul h3 (by omega)
    show decide (_ > sizeLine) = false
    rw [decide_eq_false_iff_not]
    have := sizeLine_big
    omega
theorem opM_name (nm : NmOk C) {op : Operator} {m : Nat} (h : opM op = some m) : PySem.dunder op.info.2 = C.NM m := by
  cases op <;> cases h
  · rw [nm.add]; decide +kernel
  · rw [nm.sub]; decide +kernel
  · rw [nm.mul]; decide +kernel
theorem int_has (K : PySem.W.Frag) {op : Operator} {m : Nat} (h : opM op = some m) : ∃ fo ro, PySem.W.findIn K (.type "int") (PySem.dunder op.info.2) = some fo ∧ PySem.W.findIn K (.type "int") (PySem.dunderR op.info.2) = some ro := by
  have f : ∀ n : Str, (PySem.fastLookup "int" n).isSome = true → ∃ x, PySem.W.findIn K (.type "int") n = some x := fun n h => Option.isSome_iff_exists.mp h
  obtain ⟨a, ha⟩ := f (PySem.dunder op.info.2) (by cases op <;> cases h <;> decide +kernel)
  obtain ⟨b, hb⟩ := f (PySem.dunderR op.info.2) (by cases op <;> cases h <;> decide +kernel)
  exact ⟨a, b, ha, hb⟩
/-- an answer of an own def is never NotImplemented -/
theorem ep_back {u : Value} {s' : Shared} (h : EP X pins σ Q u s') : PySem.W.CmpBack (EP X pins σ Q) u s' := by
  obtain ⟨v, H', I', r, q⟩ := h
  cases u <;> first
    | exact ⟨v, H', I', r, q⟩
    | (cases v <;> first | (cases r; done) | (obtain ⟨_, r⟩ := r; cases r))
theorem inst_of {c : Nat} {xs : List P} {v : V} {u : Value} (I : Inv X pins σ H s) (A : AtS C F s0 H) (r : RepP C s0.G (.ob c xs) v) (rv : RelV v u) :
    ∃ a dx od, u = .ref a ∧ v = .ref a ∧ C.kn c = true ∧ PySem.W.InstAt s.heap a (PySem.W.instObj (C.CA c) dx) (C.CA c) (some od) := by
  simp only [RepP] at r
  obtain ⟨hc, a, dx, vs, rfl, h1, _⟩ := r
  cases rv
  obtain ⟨mA, O, _⟩ := ins_get (P := X.prog) (w := X.w) I.hok (A.sub _ _ h1)
  obtain ⟨od, J, _⟩ := O.look
  exact ⟨a, dx, od, rfl, rfl, hc, J⟩
theorem bin_ob (sp : Spot C W X k) (gm : GoodM C X.prog X.w X.K X.mg X.base k Γ) {op : Operator} {c m : Nat} {xs : List P} {g : PFn} {y : P} {x1 y1 : V} {v u : Value} (hop : opM op = some m) (hg : Γ.meth c m = some g)
    (hy : (∃ i, y = .int i) ∨ ∃ ys, y = .ob c ys)
    (I : Inv X pins σ H s) (A : AtS C F s0 H) (r1 : RepP C s0.G (.ob c xs) x1) (r2 : RepP C s0.G y y1) (rx : RelV x1 v) (ry : RelV y1 u)
    (h : WantE C W F (RepD C) σ s0 ((g [.ob c xs, y]).lift s0.S) Q) : wpAny (model X.prog X.w) X.A (binaryOp op v u) (EP X pins σ Q) X.xe s := by
  obtain ⟨a, dx, od, rfl, rfl, hc, J⟩ := inst_of I A r1 rx
  obtain ⟨f, M, _, cal⟩ := gm.mts c m g hg
  obtain ⟨mm, hF⟩ := I.fr
  have cf := sp.cf.one c hc
  rw [sp.hk] at cf
  have hn := M.at_
  rw [← opM_name sp.nm hop] at hn
  have go : wpAny (model X.prog X.w) X.A (call (.ref f) [.ref a, u]) (PySem.W.CmpBack (EP X pins σ Q)) X.xe s :=
    wpAny_mono (cal_run sp cal (sp.hr.mono (Nat.le_add_right _ _)) rfl I A (reps2 r1 r2) (.cons rfl (.cons ry .nil)) h) (fun _ _ z => ep_back z) fun _ _ z => z
  rcases hy with ⟨i, rfl⟩ | ⟨ys, rfl⟩
  · simp only [RepP] at r2
    subst r2
    obtain ⟨t, rfl⟩ := ry
    obtain ⟨fo, ro, q1, q2⟩ := int_has X.K hop
    exact PySem.W.ksp_binT (T := "int") hF I.ok.mod.kin J rfl cf.sf hn M.fn (gm.noR c g op m hop hg) (Or.inl rfl) q1 q2 (sub_int _ _) go
  · obtain ⟨b, dy, od', rfl, rfl, _, J'⟩ := inst_of I A r2 ry
    exact PySem.W.binop_K hF I.ok.mod.kin J J'.type cf.sf hn M.fn go
theorem bin_ok (sp : Spot C W X k) (gm : GoodM C X.prog X.w X.K X.mg X.base k Γ) {op : Operator} {d1 d2 : D} {p1 p2 : P} {x y : V} {v u : Value} (I : Inv X pins σ H s) (A : AtS C F s0 H) (r1 : RepD C s0 d1 x) (r2 : RepD C s0 d2 y)
    (e1 : peek d1 s0.S = some p1) (e2 : peek d2 s0.S = some p2) (rx : RelV x v) (ry : RelV y u) (h : WantE C W F (RepD C) σ s0 ((Γ.bin op p1 p2).lift s0.S) Q) : wpAny (model X.prog X.w) X.A (binaryOp op v u) (EP X pins σ Q) X.xe s := by
  cases p1 with
  | int i =>
    have q1 := peek_pure A r1 e1 (fun _ z => nomatch z)
    cases p2 with
    | int j =>
      have q2 := peek_pure A r2 e2 (fun _ z => nomatch z)
      simp only [RepP] at q1 q2
      subst q1 q2
      cases op with
      | Add => exact op_add pins s σ H _ _ v u Q I rx ry ⟨i, j, rfl, rfl, want_int A h⟩
      | Sub => exact op_sub pins s σ H _ _ v u Q I rx ry ⟨i, j, rfl, rfl, want_int A h⟩
      | Mult =>
        simp only [Tab.bin] at h
        split at h
        · rename_i hm
          exact op_mulX pins s σ H _ _ v u Q I rx ry ⟨i, j, rfl, rfl, hm, want_int A h⟩
        · exact h.elim
      | FloorDiv =>
        simp only [Tab.bin] at h
        split at h
        · rename_i hm
          unfold divOk at hm
          obtain ⟨t, rfl⟩ := rx
          obtain ⟨t', rfl⟩ := ry
          exact PyProof.Rows.floordiv_int (of_decide_eq_true hm) ⟨.int (i.fdiv j), H, I.tok _, ⟨_, rfl⟩, want_int A h⟩ (.inr (sp.py I.ok.frames s I.bk))
        · exact h.elim
      | Mod =>
        simp only [Tab.bin] at h
        split at h
        · exact h.elim
        · rename_i hm
          exact op_modN pins s σ H _ _ v u Q I rx ry ⟨i, j, rfl, rfl, (fun z => hm (by rw [z]; rfl)), want_int A h⟩
      | Pow =>
        simp only [Tab.bin] at h
        split at h
        · rename_i hm
          exact op_powW pins s σ H _ _ v u Q I rx ry ⟨i, j, rfl, rfl, hm, want_int A h⟩
        · exact h.elim
      | _ => exact h.elim
    | _ => exact h.elim
  | str a =>
    have q1 := peek_pure A r1 e1 (fun _ z => nomatch z)
    cases p2 with
    | str b =>
      have q2 := peek_pure A r2 e2 (fun _ z => nomatch z)
      simp only [RepP] at q1 q2
      subst q1 q2
      cases op with
      | Add =>
        simp only [Tab.bin] at h
        split at h
        · rename_i hm
          unfold lineOk at hm
          have hm' := of_decide_eq_true hm
          exact op_add_str pins s σ H _ _ v u Q I rx ry ⟨a, b, rfl, rfl, Nat.le_trans hm' (Nat.le_trans (by decide) sizeLine_big), want_str A h⟩
        · exact h.elim
      | _ => exact h.elim
    | int n =>
      have q2 := peek_pure A r2 e2 (fun _ z => nomatch z)
      simp only [RepP] at q1 q2
      subst q1 q2
      cases op with
      | Mult =>
        simp only [Tab.bin] at h
        split at h
        · rename_i hm
          simp only [Bool.and_eq_true, decide_eq_true_eq] at hm
          obtain ⟨⟨h1, h2⟩, h3⟩ := hm
          obtain ⟨t, rfl⟩ := rx
          obtain ⟨t', rfl⟩ := ry
          exact PySem.SB.mul (mul_fits h1 h2 h3) fun t2 k => ⟨.str _, H, I.tok _, ⟨_, rfl⟩, want_str A h⟩
        · exact h.elim
      | _ => exact h.elim
    | _ => cases op <;> exact h.elim
  | lst xs =>
    cases p2 with
    | lst ys =>
      cases op with
      | Add =>
        simp only [Tab.bin] at h
        split at h
        · rename_i hm
          unfold lineOk at hm
          simp only [Bool.and_eq_true, decide_eq_true_eq] at hm
          obtain ⟨a, vs, rfl, h1, k1⟩ := peek_lst A r1 e1
          obtain ⟨b, ws, rfl, h2, k2⟩ := peek_lst A r2 e2
          have l1 := RepPs.len xs vs k1
          have l2 := RepPs.len ys ws k2
          exact op_cat pins s σ H _ _ v u Q I rx ry ⟨a, b, vs, ws, rfl, rfl, h1, h2, Nat.le_trans (by omega) sizeLine_big, fun p hp => want_lst A (reps_app xs vs k1 k2) h p hp⟩
        · exact h.elim
      | _ => exact h.elim
    | int k =>
      cases op with
      | Mult =>
        simp only [Tab.bin] at h
        split at h
        · rename_i hm
          unfold lineOk at hm
          simp only [Bool.and_eq_true, decide_eq_true_eq] at hm
          obtain ⟨a, vs, rfl, h1, k1⟩ := peek_lst A r1 e1
          have q2 := peek_pure A r2 e2 (fun _ z => nomatch z)
          simp only [RepP] at q2
          subst q2
          have l1 := RepPs.len xs vs k1
          exact op_rep pins s σ H _ _ v u Q I rx ry ⟨a, k, vs, rfl, rfl, h1, by omega, by omega, Nat.le_trans (by rw [← l1]; exact hm.2) (Nat.le_trans (by decide) sizeLine_big), fun p hp => want_lst A (reps_rep k1 k.toNat) h p hp⟩
        · exact h.elim
      | _ => exact h.elim
    | _ => cases op <;> exact h.elim
  | ob c xs =>
    have q1 := peek_pure A r1 e1 (fun _ z => nomatch z)
    simp only [Tab.bin] at h
    split at h
    · rename_i m hop
      split at h
      · rename_i g hg
        split at h
        · rename_i i
          exact bin_ob sp gm hop hg (Or.inl ⟨i, rfl⟩) I A q1 (peek_pure A r2 e2 (fun _ z => nomatch z)) rx ry h
        · rename_i c' ys
          split at h
          · rename_i hc
            have hc' := beq_iff_eq.mp hc
            subst hc'
            exact bin_ob sp gm hop hg (Or.inr ⟨ys, rfl⟩) I A q1 (peek_pure A r2 e2 (fun _ z => nomatch z)) rx ry h
          · exact h.elim
        · exact h.elim
      · exact h.elim
    · exact h.elim
  | _ => exact h.elim
end
end RP
end

section
set_option Elab.async false
set_option linter.all false
set_option maxRecDepth 100000
set_option maxHeartbeats 2000000
/-! == and != of lists and tuples whose items may be anything: both answers. -/
namespace RP
open PySem PySem.SeqAt
open AutoSeq1 (wpAny_loadPart')
open MeetsSeq MeetsSeq2 MeetsSeq3 SeqRoads2
section
variable {prog : Program} {w : World} {A : Around} {E : Value → Shared → Prop} {R : Result → Shared → Prop}
/-- the two lists as they stand before turn i; the turn goes on to the next, or out -/
def Two (prog : Program) (w : World) (A : Around) (E : Value → Shared → Prop) (l b : Addr) (N : Nat) (I : Nat → Shared → Prop) (J : Shared → Prop) : Prop :=
  ∀ (i : Nat) (s : Shared), I i s → ∃ (xs ys : Array Value) (n m : Nat), s.heap.get? l = some { cls := .type "list", data := .seq xs n } ∧ s.heap.get? b = some { cls := .type "list", data := .seq ys m } ∧ xs.size = N ∧ ys.size = N ∧
    ∀ (h1 : i < xs.size) (h2 : i < ys.size), wpAny (model prog w) A.in1 (eqBool xs[i] ys[i]) (fun r s' => (r = true ∧ I (i + 1) s') ∨ (r = false ∧ J s')) E s
/-- .. and behind it they still stand -/
def Still (l b : Addr) (N : Nat) (J : Shared → Prop) : Prop :=
  ∀ s : Shared, J s → ∃ (xs ys : Array Value) (n m : Nat), s.heap.get? l = some { cls := .type "list", data := .seq xs n } ∧ s.heap.get? b = some { cls := .type "list", data := .seq ys m } ∧ xs.size = N ∧ ys.size = N
abbrev Ends' (prog : Program) (w : World) (A : Around) (R : Result → Shared → Prop) : Fin → Shared → Prop := GQ.FinOf prog w A R
theorem loop_eq (l b : Addr) (N : Nat) (I : Nat → Shared → Prop) (J : Shared → Prop) (hT : Two prog w A (fun e s' => R (.error e) s') l b N I J) (hJ : Still l b N J)
    (fin : ∀ s, I N s → R (.ok (.ret (.bool true))) s) (out : ∀ s, J s → R (.ok (.ret (.bool false))) s) (k : Nat) :
    ∀ i : Nat, N - i = k → i ≤ N → ∀ s, I i s → wpAny (model prog w) A.in1 (Builtin.«list.__eq__.loop» ⟨[.ref l, .ref b, rawInt i, rawInt 2], []⟩) (Ends' prog w A R) (fun e s' => R (.error e) s') s := by
  induction k with
  | zero =>
    intro i hk hi s hI
    obtain ⟨xs, ys, n, m, q1, q2, z1, z2, _⟩ := hT i s hI
    have ei : i = N := by omega
    have hR := fin s (ei ▸ hI)
    obtain ⟨hp, g, d, tk, os⟩ := s
    wp_walk using wpAny_loadPart' q1, wpAny_loadPart' q2
    have n1 : xs[((i : Nat) : Int).toNat]? = none := by simp; omega
    have n2 : ys[((i : Nat) : Int).toNat]? = none := by simp; omega
    rw [n1, n2]
    wp_walk using wpAny_loadPart' q1, wpAny_loadPart' q2
    show R (.ok (.ret (.bool (xs.size == ys.size)))) _
    rw [z1, z2]
    simpa using hR
  | succ k ih =>
    intro i hk hi s hI
    obtain ⟨xs, ys, n, m, q1, q2, z1, z2, turn⟩ := hT i s hI
    have l1 : i < xs.size := by omega
    have l2 : i < ys.size := by omega
    have ht := turn l1 l2
    obtain ⟨hp, g, d, tk, os⟩ := s
    wp_walk using wpAny_loadPart' q1, wpAny_loadPart' q2
    have g1 : xs[((i : Nat) : Int).toNat]? = some xs[i] := by simp [l1]
    have g2 : ys[((i : Nat) : Int).toNat]? = some ys[i] := by simp [l2]
    have hc : ((i : Int) + 1) = ((i + 1 : Nat) : Int) := by omega
    rw [g1, g2]
    refine wpAny_bind (wpAny_mono ht (fun r s2 h2 => ?_) fun _ _ x => x)
    rcases h2 with ⟨rfl, h2⟩ | ⟨rfl, h2⟩
    · have hrec := ih (i + 1) (by omega) (by omega) s2 h2
      obtain ⟨hp2, g2', d2, tk2, os2⟩ := s2
      wp_walk
      rw [hc]
      refine ⟨plainId_quiet plain_eq_loop _, codeAny_builtin entry_eq_loop ?_⟩
      rw [Around.under_plainId plain_eq_loop _]
      exact hrec
    · obtain ⟨xs', ys', n', m', p1, p2, y1, y2⟩ := hJ s2 h2
      have hR := out s2 h2
      obtain ⟨hp2, g2', d2, tk2, os2⟩ := s2
      wp_walk using wpAny_loadPart' p1, wpAny_loadPart' p2
      have g3 : xs'[((i : Nat) : Int).toNat]? = some xs'[i] := by simp
      have g4 : ys'[((i : Nat) : Int).toNat]? = some ys'[i] := by simp
      rw [g3, g4]
      wp_walk
      simpa using hR
theorem loop_ne (l b : Addr) (N : Nat) (I : Nat → Shared → Prop) (J : Shared → Prop) (hT : Two prog w A (fun e s' => R (.error e) s') l b N I J) (hJ : Still l b N J)
    (fin : ∀ s, I N s → R (.ok (.ret (.bool false))) s) (out : ∀ s, J s → R (.ok (.ret (.bool true))) s) (k : Nat) :
    ∀ i : Nat, N - i = k → i ≤ N → ∀ s, I i s → wpAny (model prog w) A.in1 (Builtin.«list.__eq__.loop» ⟨[.ref l, .ref b, rawInt i, rawInt 3], []⟩) (Ends' prog w A R) (fun e s' => R (.error e) s') s := by
  induction k with
  | zero =>
    intro i hk hi s hI
    obtain ⟨xs, ys, n, m, q1, q2, z1, z2, _⟩ := hT i s hI
    have ei : i = N := by omega
    have hR := fin s (ei ▸ hI)
    obtain ⟨hp, g, d, tk, os⟩ := s
    wp_walk using wpAny_loadPart' q1, wpAny_loadPart' q2
    have n1 : xs[((i : Nat) : Int).toNat]? = none := by simp; omega
    have n2 : ys[((i : Nat) : Int).toNat]? = none := by simp; omega
    rw [n1, n2]
    wp_walk using wpAny_loadPart' q1, wpAny_loadPart' q2
    show R (.ok (.ret (.bool (xs.size != ys.size)))) _
    rw [z1, z2]
    simpa using hR
  | succ k ih =>
    intro i hk hi s hI
    obtain ⟨xs, ys, n, m, q1, q2, z1, z2, turn⟩ := hT i s hI
    have l1 : i < xs.size := by omega
    have l2 : i < ys.size := by omega
    have ht := turn l1 l2
    obtain ⟨hp, g, d, tk, os⟩ := s
    wp_walk using wpAny_loadPart' q1, wpAny_loadPart' q2
    have g1 : xs[((i : Nat) : Int).toNat]? = some xs[i] := by simp [l1]
    have g2 : ys[((i : Nat) : Int).toNat]? = some ys[i] := by simp [l2]
    have hc : ((i : Int) + 1) = ((i + 1 : Nat) : Int) := by omega
    rw [g1, g2]
    refine wpAny_bind (wpAny_mono ht (fun r s2 h2 => ?_) fun _ _ x => x)
    rcases h2 with ⟨rfl, h2⟩ | ⟨rfl, h2⟩
    · have hrec := ih (i + 1) (by omega) (by omega) s2 h2
      obtain ⟨hp2, g2', d2, tk2, os2⟩ := s2
      wp_walk
      rw [hc]
      refine ⟨plainId_quiet plain_eq_loop _, codeAny_builtin entry_eq_loop ?_⟩
      rw [Around.under_plainId plain_eq_loop _]
      exact hrec
    · obtain ⟨xs', ys', n', m', p1, p2, y1, y2⟩ := hJ s2 h2
      have hR := out s2 h2
      obtain ⟨hp2, g2', d2, tk2, os2⟩ := s2
      wp_walk using wpAny_loadPart' p1, wpAny_loadPart' p2
      have g3 : xs'[((i : Nat) : Int).toNat]? = some xs'[i] := by simp
      have g4 : ys'[((i : Nat) : Int).toNat]? = some ys'[i] := by simp
      rw [g3, g4]
      wp_walk
      simpa using hR

theorem lists_eq (l b : Addr) (N : Nat) (I : Nat → Shared → Prop) (J : Shared → Prop) (hT : Two prog w A (fun e s' => R (.error e) s') l b N I J) (hJ : Still l b N J)
    (fin : ∀ s, I N s → R (.ok (.ret (.bool true))) s) (out : ∀ s, J s → R (.ok (.ret (.bool false))) s) {s : Shared} (h : I 0 s) :
    wpAny (model prog w) A.in1 (Builtin.«list.__eq__» ⟨[.ref l, .ref b], []⟩) (Ends' prog w A R) (fun e s' => R (.error e) s') s := by
  obtain ⟨xs, ys, n, m, q1, q2, z1, z2, _⟩ := hT _ _ h
  have hrec := loop_eq (A := A) (R := R) l b N I J hT hJ fin out _ 0 rfl (Nat.zero_le _) s h
  obtain ⟨hp, g, d, tk, os⟩ := s
  have f3 := AutoSeq1.sub_list_list
  have same : ¬ (xs.size != ys.size) = true := by simp [z1, z2]
  wp_walk using wpAny_loadPart' q1, wpAny_loadPart' q2
  refine ⟨plainId_quiet plain_eq_loop _, codeAny_builtin entry_eq_loop ?_⟩
  rw [Around.under_plainId plain_eq_loop _]
  exact hrec
/-- lists of unlike length -/
theorem lists_eq_len (l b : Addr) {s : Shared} {xs ys : Array Value} {n m : Nat} (q1 : s.heap.get? l = some { cls := .type "list", data := .seq xs n }) (q2 : s.heap.get? b = some { cls := .type "list", data := .seq ys m })
    (hne : xs.size ≠ ys.size) (out : R (.ok (.ret (.bool false))) s) :
    wpAny (model prog w) A.in1 (Builtin.«list.__eq__» ⟨[.ref l, .ref b], []⟩) (Ends' prog w A R) (fun e s' => R (.error e) s') s := by
  obtain ⟨hp, g, d, tk, os⟩ := s
  have f3 := AutoSeq1.sub_list_list
  have diff : (xs.size != ys.size) = true := by simpa using hne
  wp_walk using wpAny_loadPart' q1, wpAny_loadPart' q2
  exact out
theorem tups_eq (l b : Addr) (xs ys : Array Value) (n n2 : Nat) (dd dd2 : Option Addr) (sl sl2 : Array (Option Value)) (hsz : xs.size = ys.size) (I : Nat → Shared → Prop) (J : Shared → Prop)
    (turn : ∀ (i : Nat) (h1 : i < xs.size) (h2 : i < ys.size) (s : Shared), I i s → wpAny (model prog w) A.in1 (eqBool xs[i] ys[i]) (fun r s' => (r = true ∧ I (i + 1) s') ∨ (r = false ∧ J s')) (fun e s' => R (.error e) s') s)
    (fin : ∀ s, I xs.size s → R (.ok (.ret (.bool true))) s) (out : ∀ s, J s → R (.ok (.ret (.bool false))) s) {s : Shared} (q1 : s.heap.get? l = some { cls := .type "tuple", dict := dd, data := .seq xs n, slots := sl })
    (q2 : s.heap.get? b = some { cls := .type "tuple", dict := dd2, data := .seq ys n2, slots := sl2 }) (h : I 0 s) :
    wpAny (model prog w) A.in1 (Builtin.«tuple.__eq__» ⟨[.ref l, .ref b], []⟩) (Ends' prog w A R) (fun e s' => R (.error e) s') s := by
  have f2 := AutoSeq1.sub_tuple_tuple
  have hZ : (xs.toList.zip ys.toList).length = xs.size := by simp [hsz]
  have h0 := h
  obtain ⟨hp, g, d, tk, os⟩ := s
  wp_walk using wpAny_loadPart' q1, wpAny_loadPart' q2, wpAny_forIn_list _ (fun rest b s' => b.1 = none ∧ ∃ i, rest = (xs.toList.zip ys.toList).drop i ∧ i ≤ xs.size ∧ I i s') _
  case turn =>
    rintro ⟨y, x⟩ rest b s' ⟨hb', i, hz, hi, hI⟩
    · have hlt : i < (xs.toList.zip ys.toList).length := by
        rcases Nat.lt_or_ge i (xs.toList.zip ys.toList).length with h' | h'
        · exact h'
        · rw [List.drop_of_length_le h'] at hz
          cases hz
      have h1 : i < xs.size := hZ ▸ hlt
      have h2 : i < ys.size := hsz ▸ h1
      rw [List.drop_eq_getElem_cons hlt] at hz
      injection hz with hyx hrest
      have hy : y = xs[i] := by
        have e := congrArg Prod.fst hyx
        simpa using e
      have hx : x = ys[i] := by
        have e := congrArg Prod.snd hyx
        simpa using e
      subst hy hx
      refine wpAny_bind (wpAny_mono (turn i h1 h2 s' hI) (fun r s2 q => ?_) fun _ _ z => z)
      rcases q with ⟨rfl, q⟩ | ⟨rfl, q⟩
      · wp_walk
        exact ⟨rfl, i + 1, hrest, h1, q⟩
      · have hR := out _ q
        wp_walk
        exact hR
  case fin =>
    rintro ⟨b1, b2⟩ s' ⟨hb', i, hz, hi, hI⟩
    · simp only at hb'
      subst hb'
      have hge : xs.size ≤ i := by
        rcases Nat.lt_or_ge i (xs.toList.zip ys.toList).length with h' | h'
        · rw [List.drop_eq_getElem_cons h'] at hz
          cases hz
        · exact hZ ▸ h'
      have ei : i = xs.size := by omega
      have hR : R (.ok (.ret (.bool true))) s' := fin s' (ei ▸ hI)
      wp_walk
      simpa [Builtin.Tuple.tupleCompareSizes, hsz] using hR
  case h =>
    exact ⟨rfl, 0, rfl, Nat.zero_le _, h0⟩

theorem lists_ne (l b : Addr) (N : Nat) (I : Nat → Shared → Prop) (J : Shared → Prop) (hT : Two prog w A (fun e s' => R (.error e) s') l b N I J) (hJ : Still l b N J)
    (fin : ∀ s, I N s → R (.ok (.ret (.bool false))) s) (out : ∀ s, J s → R (.ok (.ret (.bool true))) s) {s : Shared} (h : I 0 s) :
    wpAny (model prog w) A.in1 (Builtin.«list.__ne__» ⟨[.ref l, .ref b], []⟩) (Ends' prog w A R) (fun e s' => R (.error e) s') s := by
  obtain ⟨xs, ys, n, m, q1, q2, z1, z2, _⟩ := hT _ _ h
  have hrec := loop_ne (A := A) (R := R) l b N I J hT hJ fin out _ 0 rfl (Nat.zero_le _) s h
  obtain ⟨hp, g, d, tk, os⟩ := s
  have f3 := AutoSeq1.sub_list_list
  have same : ¬ (xs.size != ys.size) = true := by simp [z1, z2]
  wp_walk using wpAny_loadPart' q1, wpAny_loadPart' q2
  refine ⟨plainId_quiet plain_eq_loop _, codeAny_builtin entry_eq_loop ?_⟩
  rw [Around.under_plainId plain_eq_loop _]
  exact hrec
/-- lists of unlike length -/
theorem lists_ne_len (l b : Addr) {s : Shared} {xs ys : Array Value} {n m : Nat} (q1 : s.heap.get? l = some { cls := .type "list", data := .seq xs n }) (q2 : s.heap.get? b = some { cls := .type "list", data := .seq ys m })
    (hne : xs.size ≠ ys.size) (out : R (.ok (.ret (.bool true))) s) :
    wpAny (model prog w) A.in1 (Builtin.«list.__ne__» ⟨[.ref l, .ref b], []⟩) (Ends' prog w A R) (fun e s' => R (.error e) s') s := by
  obtain ⟨hp, g, d, tk, os⟩ := s
  have f3 := AutoSeq1.sub_list_list
  have diff : (xs.size != ys.size) = true := by simpa using hne
  wp_walk using wpAny_loadPart' q1, wpAny_loadPart' q2
  exact out
theorem tups_ne (l b : Addr) (xs ys : Array Value) (n n2 : Nat) (dd dd2 : Option Addr) (sl sl2 : Array (Option Value)) (hsz : xs.size = ys.size) (I : Nat → Shared → Prop) (J : Shared → Prop)
    (turn : ∀ (i : Nat) (h1 : i < xs.size) (h2 : i < ys.size) (s : Shared), I i s → wpAny (model prog w) A.in1 (eqBool xs[i] ys[i]) (fun r s' => (r = true ∧ I (i + 1) s') ∨ (r = false ∧ J s')) (fun e s' => R (.error e) s') s)
    (fin : ∀ s, I xs.size s → R (.ok (.ret (.bool false))) s) (out : ∀ s, J s → R (.ok (.ret (.bool true))) s) {s : Shared} (q1 : s.heap.get? l = some { cls := .type "tuple", dict := dd, data := .seq xs n, slots := sl })
    (q2 : s.heap.get? b = some { cls := .type "tuple", dict := dd2, data := .seq ys n2, slots := sl2 }) (h : I 0 s) :
    wpAny (model prog w) A.in1 (Builtin.«tuple.__ne__» ⟨[.ref l, .ref b], []⟩) (Ends' prog w A R) (fun e s' => R (.error e) s') s := by
  have f2 := AutoSeq1.sub_tuple_tuple
  have hZ : (xs.toList.zip ys.toList).length = xs.size := by simp [hsz]
  have h0 := h
  obtain ⟨hp, g, d, tk, os⟩ := s
  wp_walk using wpAny_loadPart' q1, wpAny_loadPart' q2, wpAny_forIn_list _ (fun rest b s' => b.1 = none ∧ ∃ i, rest = (xs.toList.zip ys.toList).drop i ∧ i ≤ xs.size ∧ I i s') _
  case turn =>
    rintro ⟨y, x⟩ rest b s' ⟨hb', i, hz, hi, hI⟩
    · have hlt : i < (xs.toList.zip ys.toList).length := by
        rcases Nat.lt_or_ge i (xs.toList.zip ys.toList).length with h' | h'
        · exact h'
        · rw [List.drop_of_length_le h'] at hz
          cases hz
      have h1 : i < xs.size := hZ ▸ hlt
      have h2 : i < ys.size := hsz ▸ h1
      rw [List.drop_eq_getElem_cons hlt] at hz
      injection hz with hyx hrest
      have hy : y = xs[i] := by
        have e := congrArg Prod.fst hyx
        simpa using e
      have hx : x = ys[i] := by
        have e := congrArg Prod.snd hyx
        simpa using e
      subst hy hx
      refine wpAny_bind (wpAny_mono (turn i h1 h2 s' hI) (fun r s2 q => ?_) fun _ _ z => z)
      rcases q with ⟨rfl, q⟩ | ⟨rfl, q⟩
      · wp_walk
        exact ⟨rfl, i + 1, hrest, h1, q⟩
      · have hR := out _ q
        wp_walk
        exact hR
  case fin =>
    rintro ⟨b1, b2⟩ s' ⟨hb', i, hz, hi, hI⟩
    · simp only at hb'
      subst hb'
      have hge : xs.size ≤ i := by
        rcases Nat.lt_or_ge i (xs.toList.zip ys.toList).length with h' | h'
        · rw [List.drop_eq_getElem_cons h'] at hz
          cases hz
        · exact hZ ▸ h'
      have ei : i = xs.size := by omega
      have hR : R (.ok (.ret (.bool false))) s' := fin s' (ei ▸ hI)
      wp_walk
      simpa [Builtin.Tuple.tupleCompareSizes, hsz] using hR
  case h =>
    exact ⟨rfl, 0, rfl, Nat.zero_le _, h0⟩
end
end RP
end

section
set_option Elab.async false
set_option linter.all false
set_option maxRecDepth 100000
set_option maxHeartbeats 2000000
namespace RP
open PySem PySem.SeqAt
section
variable {prog : Program} {w : World} {A : Around} {E : Value → Shared → Prop} {s : Shared} {Q : Value → Shared → Prop}
theorem nn {b : Bool} : Value.bool b ≠ Value.notImplemented := fun z => nomatch z
theorem rcl_eq {l b : Addr} {N : Nat} (hu : A.units < cLine) (I : Nat → Shared → Prop) (J : Shared → Prop) (hT : Two prog w A E l b N I J) (hJ : Still l b N J)
    (fin : ∀ s, I N s → Q (.bool true) s) (out : ∀ s, J s → Q (.bool false) s) (h : I 0 s) : wpAny (model prog w) A (richCompare .Eq (.ref l) (.ref b)) Q E s := by
  obtain ⟨_, _, _, _, q1, q2, _⟩ := hT _ _ h
  refine wpAny_richCompare_same_room (op := .Eq) ⟨_, q1, rfl⟩ ⟨_, q2, rfl⟩ F.slot_list_eq (GQ.call_here F.slot_list_eq ⟨_, q1, rfl⟩ F.entry_list_eq (F.args_list_eq_2 _ _) ?_) hu
  exact lists_eq (R := wants (fun v s' => v ≠ .notImplemented ∧ Q v s') E) l b N I J hT hJ (fun s' q => ⟨nn, fin s' q⟩) (fun s' q => ⟨nn, out s' q⟩) h
theorem rcl_ne {l b : Addr} {N : Nat} (hu : A.units < cLine) (I : Nat → Shared → Prop) (J : Shared → Prop) (hT : Two prog w A E l b N I J) (hJ : Still l b N J)
    (fin : ∀ s, I N s → Q (.bool false) s) (out : ∀ s, J s → Q (.bool true) s) (h : I 0 s) : wpAny (model prog w) A (richCompare .NotEq (.ref l) (.ref b)) Q E s := by
  obtain ⟨_, _, _, _, q1, q2, _⟩ := hT _ _ h
  refine wpAny_richCompare_same_room (op := .NotEq) ⟨_, q1, rfl⟩ ⟨_, q2, rfl⟩ F.slot_list_ne (GQ.call_here F.slot_list_ne ⟨_, q1, rfl⟩ F.entry_list_ne (F.args_list_ne_2 _ _) ?_) hu
  exact lists_ne (R := wants (fun v s' => v ≠ .notImplemented ∧ Q v s') E) l b N I J hT hJ (fun s' q => ⟨nn, fin s' q⟩) (fun s' q => ⟨nn, out s' q⟩) h
theorem rcl_eq_len {l b : Addr} {xs ys : Array Value} {n m : Nat} (hu : A.units < cLine) (q1 : s.heap.get? l = some { cls := .type "list", data := .seq xs n }) (q2 : s.heap.get? b = some { cls := .type "list", data := .seq ys m })
    (hne : xs.size ≠ ys.size) (out : Q (.bool false) s) : wpAny (model prog w) A (richCompare .Eq (.ref l) (.ref b)) Q E s := by
  refine wpAny_richCompare_same_room (op := .Eq) ⟨_, q1, rfl⟩ ⟨_, q2, rfl⟩ F.slot_list_eq (GQ.call_here F.slot_list_eq ⟨_, q1, rfl⟩ F.entry_list_eq (F.args_list_eq_2 _ _) ?_) hu
  exact lists_eq_len (R := wants (fun v s' => v ≠ .notImplemented ∧ Q v s') E) l b q1 q2 hne ⟨nn, out⟩
theorem rcl_ne_len {l b : Addr} {xs ys : Array Value} {n m : Nat} (hu : A.units < cLine) (q1 : s.heap.get? l = some { cls := .type "list", data := .seq xs n }) (q2 : s.heap.get? b = some { cls := .type "list", data := .seq ys m })
    (hne : xs.size ≠ ys.size) (out : Q (.bool true) s) : wpAny (model prog w) A (richCompare .NotEq (.ref l) (.ref b)) Q E s := by
  refine wpAny_richCompare_same_room (op := .NotEq) ⟨_, q1, rfl⟩ ⟨_, q2, rfl⟩ F.slot_list_ne (GQ.call_here F.slot_list_ne ⟨_, q1, rfl⟩ F.entry_list_ne (F.args_list_ne_2 _ _) ?_) hu
  exact lists_ne_len (R := wants (fun v s' => v ≠ .notImplemented ∧ Q v s') E) l b q1 q2 hne ⟨nn, out⟩
theorem rct_eq {l b : Addr} {xs ys : Array Value} (hsz : xs.size = ys.size) (hu : A.units < cLine) (I : Nat → Shared → Prop) (J : Shared → Prop) (hl : s.heap.IsTuple l xs) (hb : s.heap.IsTuple b ys)
    (turn : ∀ (i : Nat) (h1 : i < xs.size) (h2 : i < ys.size) (s : Shared), I i s → wpAny (model prog w) A.in1 (eqBool xs[i] ys[i]) (fun r s' => (r = true ∧ I (i + 1) s') ∨ (r = false ∧ J s')) E s)
    (fin : ∀ s, I xs.size s → Q (.bool true) s) (out : ∀ s, J s → Q (.bool false) s) (h : I 0 s) : wpAny (model prog w) A (richCompare .Eq (.ref l) (.ref b)) Q E s := by
  obtain ⟨⟨c1, d1, t1, e1⟩, g1, k1, n1, m1⟩ := id hl
  obtain ⟨⟨c2, d2, t2, e2⟩, g2, k2, n2, m2⟩ := id hb
  dsimp only at k1 m1 k2 m2
  subst k1 m1 k2 m2
  refine wpAny_richCompare_same_room (op := .Eq) ⟨_, g1, rfl⟩ ⟨_, g2, rfl⟩ F.slot_tuple_eq (GQ.call_here F.slot_tuple_eq ⟨_, g1, rfl⟩ F.entry_tuple_eq (F.args_tuple_eq_2 _ _) ?_) hu
  exact tups_eq (R := wants (fun v s' => v ≠ .notImplemented ∧ Q v s') E) l b xs ys n1 n2 d1 d2 e1 e2 hsz I J turn (fun s' q => ⟨nn, fin s' q⟩) (fun s' q => ⟨nn, out s' q⟩) g1 g2 h
theorem rct_ne {l b : Addr} {xs ys : Array Value} (hsz : xs.size = ys.size) (hu : A.units < cLine) (I : Nat → Shared → Prop) (J : Shared → Prop) (hl : s.heap.IsTuple l xs) (hb : s.heap.IsTuple b ys)
    (turn : ∀ (i : Nat) (h1 : i < xs.size) (h2 : i < ys.size) (s : Shared), I i s → wpAny (model prog w) A.in1 (eqBool xs[i] ys[i]) (fun r s' => (r = true ∧ I (i + 1) s') ∨ (r = false ∧ J s')) E s)
    (fin : ∀ s, I xs.size s → Q (.bool false) s) (out : ∀ s, J s → Q (.bool true) s) (h : I 0 s) : wpAny (model prog w) A (richCompare .NotEq (.ref l) (.ref b)) Q E s := by
  obtain ⟨⟨c1, d1, t1, e1⟩, g1, k1, n1, m1⟩ := id hl
  obtain ⟨⟨c2, d2, t2, e2⟩, g2, k2, n2, m2⟩ := id hb
  dsimp only at k1 m1 k2 m2
  subst k1 m1 k2 m2
  refine wpAny_richCompare_same_room (op := .NotEq) ⟨_, g1, rfl⟩ ⟨_, g2, rfl⟩ F.slot_tuple_ne (GQ.call_here F.slot_tuple_ne ⟨_, g1, rfl⟩ F.entry_tuple_ne (F.args_tuple_ne_2 _ _) ?_) hu
  exact tups_ne (R := wants (fun v s' => v ≠ .notImplemented ∧ Q v s') E) l b xs ys n1 n2 d1 d2 e1 e2 hsz I J turn (fun s' q => ⟨nn, fin s' q⟩) (fun s' q => ⟨nn, out s' q⟩) g1 g2 h
end
end RP
end

section
set_option Elab.async false
set_option linter.all false
set_option maxRecDepth 100000
set_option maxHeartbeats 2000000
/-! != of an instance whose class has its own == and no own !=. -/
namespace RP
open PySem PySem.W
section
variable {prog : Program} {w : World} {A : Around} {E : Value → Shared → Prop} {s : Shared} {K : Frag} {x C L f : Addr} {h₀ : Heap} {m : Str → Option Value} {ox : Obj} {od : Option Obj} {b tb : Value}
theorem bound_blt {M : Model} {id : String} {name : Str} {args : List Value} {Q : Option Value → Shared → Prop} (X : K.In s.heap) (I : InstAt s.heap x ox C od) (hs : findIn K (.ref C) name = some (some (.builtin id)))
    (hb : ∀ self, bindSpecial (.builtin id) self = pure (.builtin id, [self])) (h : wpAny M A (call (.builtin id) (.ref x :: args)) (fun v => Q (some v)) E s) : wpAny M A (callSpecialIfBound? (.ref x) name args) Q E s := by
  simp only [callSpecialIfBound?, bindSpecialIfBound?]
  refine wpAny_holding (wpAny_bind (wpAny_bind (wpAny_bind (I.type.here ((looks_findIn X hs).here ?_)))))
  refine wpAny_bind (wpAny_askSetting (wpAny_ite ?_))
  have fin : wpAny M A (call (.builtin id) ([.ref x] ++ args) >>= fun v => pure (some v)) Q E s := wpAny_bind (wpAny_mono h (fun v s' q => wpAny_pure q) fun _ _ q => q)
  split
  · exact wpAny_bind ((Looks.of_pure (hb _)).here (wpAny_pure (by exact fin)))
  · exact wpAny_tryCatch (wpAny_bind ((Looks.of_pure (hb _)).here (wpAny_pure (by exact fin))))
theorem ne_bind (self : Value) : bindSpecial (.builtin "object.__ne__") self = pure (.builtin "object.__ne__", [self]) := F.cmp_object.ne.bind self
theorem own_ne {Q : Value → Shared → Prop} (hu : A.units + 1 < cLine) (Fh : PyProof.Rows.Fr h₀ L s.heap m) (X₀ : K.In h₀) (I : InstAt s.heap x ox C od) (hb : Looks (model prog w) s.heap (typeOf b) tb) (hn : notFirst K C tb = true)
    (hne : findIn K (.ref C) "__ne__" = some (some (.builtin "object.__ne__"))) (hob : mroIn K C (.type "object") = some true)
    (hs : findIn K (.ref C) "__eq__" = some (some (.ref f))) (hf : isFn K (.ref f) = true)
    (h : wpAny (model prog w) A.in1 (call (.ref f) [.ref x, b]) (fun v s' => ∃ r, v = .bool r ∧ Q (.bool (!r)) s') E s) : wpAny (model prog w) A (richCompare .NotEq (.ref x) b) Q E s := by
  have X := X₀.keeps Fh.keep
  have inst : Looks (model prog w) s.heap (isInstance (.ref x) (.type "object")) true := I.type.andThen (looks_mroIn X hob)
  have body : wpAny (model prog w) A.in1 (Builtin.«object.__ne__» ⟨[.ref x, b], []⟩) (fun fin s' => match fin with
      | .done f => wants (fun v s' => ∃ r, v = .bool r ∧ Q (.bool r) s') E (.ok f) s'
      | .again c' => c'.quiet = true ∧ codeAny (model prog w) A c' (wants (fun v s' => ∃ r, v = .bool r ∧ Q (.bool r) s') E) s') (fun e s' => wants (fun v s' => ∃ r, v = .bool r ∧ Q (.bool r) s') E (.error e) s') s := by
    unfold Builtin.«object.__ne__»
    obtain ⟨hh, g, d, tt, os⟩ := s
    repeat (first
      | with_reducible refine wpAny_cRoomFor hu ?_
      | (refine wpAny_bind (m := callSpecialIfBound? (.ref x) (Str.ofString "__eq__") [b])
          (ifBound_K X I hs hf (wpAny_mono h (fun r s' hr => ?_) fun _ _ e => e)))
      | wp_step)
    obtain ⟨r', rfl, hq⟩ := hr
    repeat (first | exact ⟨_, rfl, hq⟩ | exact wpAny_pure ⟨_, rfl, hq⟩ | (refine wpAny_bind (m := truthy (.bool _)) (wpAny_truthy_bool ?_)) | wp_step)
  have one : wpAny (model prog w) A (tryCompare (.ref x) (cmpInfo .NotEq).2.1 b) (fun r s' => ∃ v, r = some v ∧ Q v s') E s := by
    unfold tryCompare
    refine wpAny_bind (bound_blt X I hne ne_bind ?_)
    refine wpAny_mono (wpAny_call (codeAny_call_builtin F.cmp_object.ne.plain F.cmpEntry_ne (check_slot F.cmpKind_ne F.cmpSplit_ne inst (F.cmpArgs_ne _ _) body))) (fun v s' hv => ?_) fun _ _ e => e
    obtain ⟨r, rfl, q⟩ := hv
    exact wpAny_pure ⟨_, rfl, q⟩
  unfold richCompare
  simp only [oneThing_ref]
  refine wpAny_holding (wpAny_bind (wpAny_cRoomFor (Nat.lt_of_succ_lt hu) ?_))
  refine wpAny_bind (I.type.here (wpAny_bind (hb.here ?_)))
  split
  · rename_i q
    have e : subIn K tb (.ref C) = some false := by
      rcases Bool.or_eq_true_iff.mp hn with z | z
      · rw [beq_iff_eq.mp z] at q
        simp at q
      · exact beq_iff_eq.mp z
    refine wpAny_bind ((looks_subIn X e).here ?_)
    simp only [Bool.false_eq_true, if_false]
    refine wpAny_bind (wpAny_mono one (fun r s' z => ?_) fun _ _ e => e)
    obtain ⟨v, rfl, hq⟩ := z
    exact wpAny_pure hq
  · refine wpAny_bind (wpAny_pure ?_)
    simp only [Bool.false_eq_true, if_false]
    refine wpAny_bind (wpAny_mono one (fun r s' z => ?_) fun _ _ e => e)
    obtain ⟨v, rfl, hq⟩ := z
    exact wpAny_pure hq
end
end RP
end

section
set_option Elab.async false
set_option linter.all false
set_option maxRecDepth 100000
set_option maxHeartbeats 2000000
/-! == and != of flat data and of data of unlike kinds. -/
namespace RP
open PySem L2 PySem.SeqAt
section
variable {C : CC} {X : Cx} {pins : List (Addr × Obj)} {σ : L2.St} {G H : Hp} {s : Shared} {A : Around}
/-- all three: ==, != and the test inside lists -/
structure Cmp3 (A : Around) (s : Shared) (u v : Value) (b : Bool) : Prop where
  eq : RcAt A s u v b
  ne : RcNeAt A s u v (!b)
  at_ : EqAt A s u v b
theorem isL (I : Inv X pins σ H s) {a : Addr} {vs : List V} (h : H a = some (.lst vs)) : ∃ its : Array Value, s.heap.IsList a its := by
  obtain ⟨its, _, ⟨o, n, q1, q2, q3, q4⟩, _⟩ := I.list (SqL.of h)
  exact ⟨its.toArray, o, q1, q2, n, q4⟩
theorem isT (I : Inv X pins σ H s) {a : Addr} {vs : List V} (h : SqT X.K H a vs) : ∃ its : Array Value, s.heap.IsTuple a its := by
  obtain ⟨its, _, q, _⟩ := I.tuple h
  exact ⟨its.toArray, q⟩
theorem eq0_ok (hk : C.K = X.K) (e : Same G H) (I : Inv X pins σ H s) (hu : A.units < cLine) : ∀ (x y : P) {v1 v2 : V} {u1 u2 : Value} {b : Bool}, eq0 x y = some b → RepP C G x v1 → RepP C G y v2 → RelV v1 u1 → RelV v2 u2 → Cmp3 A s u1 u2 b
  | .non, .non, _, _, _, _, _, hb, h1, h2, r1, r2 => by
    cases hb
    simp only [RepP] at h1
    subst h1
    cases r1
    simp only [RepP] at h2
    subst h2
    cases r2
    exact ⟨fun prog w E Q h => RcAt.none_none prog w E Q h, RcNeAt.none_none, EqAt.same _⟩
  | .non, .bl y, _, _, _, _, _, hb, h1, h2, r1, r2 => by
    cases hb
    simp only [RepP] at h1
    subst h1
    cases r1
    simp only [RepP] at h2
    subst h2
    cases r2
    exact ⟨RcAt.none_bool y, RcNeAt.none_bool y, EqAt.none_bool y⟩
  | .non, .int y, _, _, _, _, _, hb, h1, h2, r1, r2 => by
    cases hb
    simp only [RepP] at h1
    subst h1
    cases r1
    simp only [RepP] at h2
    subst h2
    obtain ⟨t2, rfl⟩ := r2
    exact ⟨RcAt.none_int y t2, RcNeAt.none_int y t2, EqAt.none_int y t2⟩
  | .non, .str y, _, _, _, _, _, hb, h1, h2, r1, r2 => by
    cases hb
    simp only [RepP] at h1
    subst h1
    cases r1
    simp only [RepP] at h2
    subst h2
    obtain ⟨t2, rfl⟩ := r2
    exact ⟨RcAt.none_str y t2, RcNeAt.none_str y t2, EqAt.none_str y t2⟩
  | .non, .tup _, _, _, _, _, _, hb, h1, h2, r1, r2 => by
    cases hb
    simp only [RepP] at h1
    subst h1
    cases r1
    simp only [RepP] at h2
    obtain ⟨a2, w2, rfl, k2, _⟩ := h2
    cases r2
    rw [hk] at k2
    obtain ⟨i2, q2⟩ := isT I (sqT_mono e k2)
    exact ⟨RcAt.none_tuple q2 hu, RcNeAt.none_tuple q2 hu, EqAt.none_tuple q2 hu⟩
  | .non, .lst _, _, _, _, _, _, hb, h1, h2, r1, r2 => by
    cases hb
    simp only [RepP] at h1
    subst h1
    cases r1
    simp only [RepP] at h2
    obtain ⟨a2, w2, rfl, k2, _⟩ := h2
    cases r2
    obtain ⟨i2, q2⟩ := isL I (e _ _ k2)
    exact ⟨RcAt.none_list q2 hu, RcNeAt.none_list q2 hu, EqAt.none_list q2 hu⟩
  | .bl x, .non, _, _, _, _, _, hb, h1, h2, r1, r2 => by
    cases hb
    simp only [RepP] at h1
    subst h1
    cases r1
    simp only [RepP] at h2
    subst h2
    cases r2
    exact ⟨RcAt.bool_none x, RcNeAt.bool_none x, EqAt.bool_none x⟩
  | .bl x, .bl y, _, _, _, _, _, hb, h1, h2, r1, r2 => by
    cases hb
    simp only [RepP] at h1
    subst h1
    cases r1
    simp only [RepP] at h2
    subst h2
    cases r2
    exact ⟨RcAt.bool_bool x y, RcNeAt.bool_bool x y, EqAt.bool_bool x y⟩
  | .bl x, .int y, _, _, _, _, _, hb, h1, h2, r1, r2 => by
    cases hb
    simp only [RepP] at h1
    subst h1
    cases r1
    simp only [RepP] at h2
    subst h2
    obtain ⟨t2, rfl⟩ := r2
    exact ⟨RcAt.bool_int x y t2, RcNeAt.bool_int x y t2, EqAt.bool_int x y t2⟩
  | .bl x, .str y, _, _, _, _, _, hb, h1, h2, r1, r2 => by
    cases hb
    simp only [RepP] at h1
    subst h1
    cases r1
    simp only [RepP] at h2
    subst h2
    obtain ⟨t2, rfl⟩ := r2
    exact ⟨RcAt.bool_str x y t2, RcNeAt.bool_str x y t2, EqAt.bool_str x y t2⟩
  | .bl x, .tup _, _, _, _, _, _, hb, h1, h2, r1, r2 => by
    cases hb
    simp only [RepP] at h1
    subst h1
    cases r1
    simp only [RepP] at h2
    obtain ⟨a2, w2, rfl, k2, _⟩ := h2
    cases r2
    rw [hk] at k2
    obtain ⟨i2, q2⟩ := isT I (sqT_mono e k2)
    exact ⟨RcAt.bool_tuple x q2 hu, RcNeAt.bool_tuple x q2 hu, EqAt.bool_tuple x q2 hu⟩
  | .bl x, .lst _, _, _, _, _, _, hb, h1, h2, r1, r2 => by
    cases hb
    simp only [RepP] at h1
    subst h1
    cases r1
    simp only [RepP] at h2
    obtain ⟨a2, w2, rfl, k2, _⟩ := h2
    cases r2
    obtain ⟨i2, q2⟩ := isL I (e _ _ k2)
    exact ⟨RcAt.bool_list x q2 hu, RcNeAt.bool_list x q2 hu, EqAt.bool_list x q2 hu⟩
  | .int x, .non, _, _, _, _, _, hb, h1, h2, r1, r2 => by
    cases hb
    simp only [RepP] at h1
    subst h1
    obtain ⟨t1, rfl⟩ := r1
    simp only [RepP] at h2
    subst h2
    cases r2
    exact ⟨RcAt.int_none x t1, RcNeAt.int_none x t1, EqAt.int_none x t1⟩
  | .int x, .bl y, _, _, _, _, _, hb, h1, h2, r1, r2 => by
    cases hb
    simp only [RepP] at h1
    subst h1
    obtain ⟨t1, rfl⟩ := r1
    simp only [RepP] at h2
    subst h2
    cases r2
    exact ⟨RcAt.int_bool x t1 y, RcNeAt.int_bool x t1 y, EqAt.int_bool x t1 y⟩
  | .int x, .int y, _, _, _, _, _, hb, h1, h2, r1, r2 => by
    cases hb
    simp only [RepP] at h1
    subst h1
    obtain ⟨t1, rfl⟩ := r1
    simp only [RepP] at h2
    subst h2
    obtain ⟨t2, rfl⟩ := r2
    exact ⟨RcAt.int_int x t1 y t2, RcNeAt.int_int x t1 y t2, EqAt.int_int x t1 y t2⟩
  | .int x, .str y, _, _, _, _, _, hb, h1, h2, r1, r2 => by
    cases hb
    simp only [RepP] at h1
    subst h1
    obtain ⟨t1, rfl⟩ := r1
    simp only [RepP] at h2
    subst h2
    obtain ⟨t2, rfl⟩ := r2
    exact ⟨RcAt.int_str x t1 y t2, RcNeAt.int_str x t1 y t2, EqAt.int_str x t1 y t2⟩
  | .int x, .tup _, _, _, _, _, _, hb, h1, h2, r1, r2 => by
    cases hb
    simp only [RepP] at h1
    subst h1
    obtain ⟨t1, rfl⟩ := r1
    simp only [RepP] at h2
    obtain ⟨a2, w2, rfl, k2, _⟩ := h2
    cases r2
    rw [hk] at k2
    obtain ⟨i2, q2⟩ := isT I (sqT_mono e k2)
    exact ⟨RcAt.int_tuple x t1 q2 hu, RcNeAt.int_tuple x t1 q2 hu, EqAt.int_tuple x t1 q2 hu⟩
  | .int x, .lst _, _, _, _, _, _, hb, h1, h2, r1, r2 => by
    cases hb
    simp only [RepP] at h1
    subst h1
    obtain ⟨t1, rfl⟩ := r1
    simp only [RepP] at h2
    obtain ⟨a2, w2, rfl, k2, _⟩ := h2
    cases r2
    obtain ⟨i2, q2⟩ := isL I (e _ _ k2)
    exact ⟨RcAt.int_list x t1 q2 hu, RcNeAt.int_list x t1 q2 hu, EqAt.int_list x t1 q2 hu⟩
  | .str x, .non, _, _, _, _, _, hb, h1, h2, r1, r2 => by
    cases hb
    simp only [RepP] at h1
    subst h1
    obtain ⟨t1, rfl⟩ := r1
    simp only [RepP] at h2
    subst h2
    cases r2
    exact ⟨RcAt.str_none x t1, RcNeAt.str_none x t1, EqAt.str_none x t1⟩
  | .str x, .bl y, _, _, _, _, _, hb, h1, h2, r1, r2 => by
    cases hb
    simp only [RepP] at h1
    subst h1
    obtain ⟨t1, rfl⟩ := r1
    simp only [RepP] at h2
    subst h2
    cases r2
    exact ⟨RcAt.str_bool x t1 y, RcNeAt.str_bool x t1 y, EqAt.str_bool x t1 y⟩
  | .str x, .int y, _, _, _, _, _, hb, h1, h2, r1, r2 => by
    cases hb
    simp only [RepP] at h1
    subst h1
    obtain ⟨t1, rfl⟩ := r1
    simp only [RepP] at h2
    subst h2
    obtain ⟨t2, rfl⟩ := r2
    exact ⟨RcAt.str_int x t1 y t2, RcNeAt.str_int x t1 y t2, EqAt.str_int x t1 y t2⟩
  | .str x, .str y, _, _, _, _, _, hb, h1, h2, r1, r2 => by
    cases hb
    simp only [RepP] at h1
    subst h1
    obtain ⟨t1, rfl⟩ := r1
    simp only [RepP] at h2
    subst h2
    obtain ⟨t2, rfl⟩ := r2
    exact ⟨RcAt.str_str x t1 y t2, RcNeAt.str_str x t1 y t2, EqAt.str_str x t1 y t2⟩
  | .str x, .tup _, _, _, _, _, _, hb, h1, h2, r1, r2 => by
    cases hb
    simp only [RepP] at h1
    subst h1
    obtain ⟨t1, rfl⟩ := r1
    simp only [RepP] at h2
    obtain ⟨a2, w2, rfl, k2, _⟩ := h2
    cases r2
    rw [hk] at k2
    obtain ⟨i2, q2⟩ := isT I (sqT_mono e k2)
    exact ⟨RcAt.str_tuple x t1 q2 hu, RcNeAt.str_tuple x t1 q2 hu, EqAt.str_tuple x t1 q2 hu⟩
  | .str x, .lst _, _, _, _, _, _, hb, h1, h2, r1, r2 => by
    cases hb
    simp only [RepP] at h1
    subst h1
    obtain ⟨t1, rfl⟩ := r1
    simp only [RepP] at h2
    obtain ⟨a2, w2, rfl, k2, _⟩ := h2
    cases r2
    obtain ⟨i2, q2⟩ := isL I (e _ _ k2)
    exact ⟨RcAt.str_list x t1 q2 hu, RcNeAt.str_list x t1 q2 hu, EqAt.str_list x t1 q2 hu⟩
  | .tup _, .non, _, _, _, _, _, hb, h1, h2, r1, r2 => by
    cases hb
    simp only [RepP] at h1
    obtain ⟨a1, w1, rfl, k1, _⟩ := h1
    cases r1
    rw [hk] at k1
    obtain ⟨i1, q1⟩ := isT I (sqT_mono e k1)
    simp only [RepP] at h2
    subst h2
    cases r2
    exact ⟨RcAt.tuple_none q1 hu, RcNeAt.tuple_none q1 hu, EqAt.tuple_none q1 hu⟩
  | .tup _, .bl y, _, _, _, _, _, hb, h1, h2, r1, r2 => by
    cases hb
    simp only [RepP] at h1
    obtain ⟨a1, w1, rfl, k1, _⟩ := h1
    cases r1
    rw [hk] at k1
    obtain ⟨i1, q1⟩ := isT I (sqT_mono e k1)
    simp only [RepP] at h2
    subst h2
    cases r2
    exact ⟨RcAt.tuple_bool y q1 hu, RcNeAt.tuple_bool y q1 hu, EqAt.tuple_bool y q1 hu⟩
  | .tup _, .int y, _, _, _, _, _, hb, h1, h2, r1, r2 => by
    cases hb
    simp only [RepP] at h1
    obtain ⟨a1, w1, rfl, k1, _⟩ := h1
    cases r1
    rw [hk] at k1
    obtain ⟨i1, q1⟩ := isT I (sqT_mono e k1)
    simp only [RepP] at h2
    subst h2
    obtain ⟨t2, rfl⟩ := r2
    exact ⟨RcAt.tuple_int y t2 q1 hu, RcNeAt.tuple_int y t2 q1 hu, EqAt.tuple_int y t2 q1 hu⟩
  | .tup _, .str y, _, _, _, _, _, hb, h1, h2, r1, r2 => by
    cases hb
    simp only [RepP] at h1
    obtain ⟨a1, w1, rfl, k1, _⟩ := h1
    cases r1
    rw [hk] at k1
    obtain ⟨i1, q1⟩ := isT I (sqT_mono e k1)
    simp only [RepP] at h2
    subst h2
    obtain ⟨t2, rfl⟩ := r2
    exact ⟨RcAt.tuple_str y t2 q1 hu, RcNeAt.tuple_str y t2 q1 hu, EqAt.tuple_str y t2 q1 hu⟩
  | .tup _, .lst _, _, _, _, _, _, hb, h1, h2, r1, r2 => by
    cases hb
    simp only [RepP] at h1
    obtain ⟨a1, w1, rfl, k1, _⟩ := h1
    cases r1
    rw [hk] at k1
    obtain ⟨i1, q1⟩ := isT I (sqT_mono e k1)
    simp only [RepP] at h2
    obtain ⟨a2, w2, rfl, k2, _⟩ := h2
    cases r2
    obtain ⟨i2, q2⟩ := isL I (e _ _ k2)
    exact ⟨RcAt.tuple_list q1 q2 hu, RcNeAt.tuple_list q1 q2 hu, EqAt.tuple_list q1 q2 hu⟩
  | .lst _, .non, _, _, _, _, _, hb, h1, h2, r1, r2 => by
    cases hb
    simp only [RepP] at h1
    obtain ⟨a1, w1, rfl, k1, _⟩ := h1
    cases r1
    obtain ⟨i1, q1⟩ := isL I (e _ _ k1)
    simp only [RepP] at h2
    subst h2
    cases r2
    exact ⟨RcAt.list_none q1 hu, RcNeAt.list_none q1 hu, EqAt.list_none q1 hu⟩
  | .lst _, .bl y, _, _, _, _, _, hb, h1, h2, r1, r2 => by
    cases hb
    simp only [RepP] at h1
    obtain ⟨a1, w1, rfl, k1, _⟩ := h1
    cases r1
    obtain ⟨i1, q1⟩ := isL I (e _ _ k1)
    simp only [RepP] at h2
    subst h2
    cases r2
    exact ⟨RcAt.list_bool y q1 hu, RcNeAt.list_bool y q1 hu, EqAt.list_bool y q1 hu⟩
  | .lst _, .int y, _, _, _, _, _, hb, h1, h2, r1, r2 => by
    cases hb
    simp only [RepP] at h1
    obtain ⟨a1, w1, rfl, k1, _⟩ := h1
    cases r1
    obtain ⟨i1, q1⟩ := isL I (e _ _ k1)
    simp only [RepP] at h2
    subst h2
    obtain ⟨t2, rfl⟩ := r2
    exact ⟨RcAt.list_int y t2 q1 hu, RcNeAt.list_int y t2 q1 hu, EqAt.list_int y t2 q1 hu⟩
  | .lst _, .str y, _, _, _, _, _, hb, h1, h2, r1, r2 => by
    cases hb
    simp only [RepP] at h1
    obtain ⟨a1, w1, rfl, k1, _⟩ := h1
    cases r1
    obtain ⟨i1, q1⟩ := isL I (e _ _ k1)
    simp only [RepP] at h2
    subst h2
    obtain ⟨t2, rfl⟩ := r2
    exact ⟨RcAt.list_str y t2 q1 hu, RcNeAt.list_str y t2 q1 hu, EqAt.list_str y t2 q1 hu⟩
  | .lst _, .tup _, _, _, _, _, _, hb, h1, h2, r1, r2 => by
    cases hb
    simp only [RepP] at h1
    obtain ⟨a1, w1, rfl, k1, _⟩ := h1
    cases r1
    obtain ⟨i1, q1⟩ := isL I (e _ _ k1)
    simp only [RepP] at h2
    obtain ⟨a2, w2, rfl, k2, _⟩ := h2
    cases r2
    rw [hk] at k2
    obtain ⟨i2, q2⟩ := isT I (sqT_mono e k2)
    exact ⟨RcAt.list_tuple q1 q2 hu, RcNeAt.list_tuple q1 q2 hu, EqAt.list_tuple q1 q2 hu⟩
  | .ob _ _, y, _, _, _, _, _, hb, _, _, _, _ => by cases y <;> cases hb
  | .scr _, y, _, _, _, _, _, hb, _, _, _, _ => by cases y <;> cases hb
  | .dic _ _, y, _, _, _, _, _, hb, _, _, _, _ => by cases y <;> cases hb
  | .non, .ob _ _, _, _, _, _, _, hb, _, _, _, _ => by cases hb
  | .bl _, .ob _ _, _, _, _, _, _, hb, _, _, _, _ => by cases hb
  | .int _, .ob _ _, _, _, _, _, _, hb, _, _, _, _ => by cases hb
  | .str _, .ob _ _, _, _, _, _, _, hb, _, _, _, _ => by cases hb
  | .tup _, .ob _ _, _, _, _, _, _, hb, _, _, _, _ => by cases hb
  | .lst _, .ob _ _, _, _, _, _, _, hb, _, _, _, _ => by cases hb
  | .non, .scr _, _, _, _, _, _, hb, _, _, _, _ => by cases hb
  | .bl _, .scr _, _, _, _, _, _, hb, _, _, _, _ => by cases hb
  | .int _, .scr _, _, _, _, _, _, hb, _, _, _, _ => by cases hb
  | .str _, .scr _, _, _, _, _, _, hb, _, _, _, _ => by cases hb
  | .tup _, .scr _, _, _, _, _, _, hb, _, _, _, _ => by cases hb
  | .lst _, .scr _, _, _, _, _, _, hb, _, _, _, _ => by cases hb
  | .non, .dic _ _, _, _, _, _, _, hb, _, _, _, _ => by cases hb
  | .bl _, .dic _ _, _, _, _, _, _, hb, _, _, _, _ => by cases hb
  | .int _, .dic _ _, _, _, _, _, _, hb, _, _, _, _ => by cases hb
  | .str _, .dic _ _, _, _, _, _, _, hb, _, _, _, _ => by cases hb
  | .tup _, .dic _ _, _, _, _, _, _, hb, _, _, _, _ => by cases hb
  | .lst _, .dic _ _, _, _, _, _, _, hb, _, _, _, _ => by cases hb
  | .tup _, .tup _, _, _, _, _, _, hb, _, _, _, _ => by cases hb
  | .lst _, .lst _, _, _, _, _, _, hb, _, _, _, _ => by cases hb
end
end RP
end

section
set_option Elab.async false
set_option linter.all false
set_option maxRecDepth 100000
set_option maxHeartbeats 2000000
/-! == and != of all data, by the own == of their classes. -/
namespace RP
open PySem L2
structure Grow (G H G' H' : Hp) : Prop where
  g : Same G G'
  h : Same G' H'
  f : Frz G H G' H'
theorem Grow.refl {G H : Hp} (e : Same G H) : Grow G H G H := ⟨Same.refl _, e, fun a o h n => ⟨h, n⟩⟩
theorem Grow.trans {G H G1 H1 G2 H2 : Hp} (a : Grow G H G1 H1) (b : Grow G1 H1 G2 H2) : Grow G H G2 H2 :=
  ⟨a.g.trans b.g, b.h, fun x o h n => by
    obtain ⟨h1, n1⟩ := a.f x o h n
    exact b.f x o h1 n1⟩
section
variable {C : CC} {W : WX} {X : Cx} {k : Nat} {Γ : Tab} {pins : List (Addr × Obj)} {σ : L2.St} {G H : Hp} {s : Shared}
def Out (X : Cx) (pins : List (Addr × Obj)) (σ : L2.St) (G H : Hp) (s' : Shared) : Prop := ∃ G' H', Inv X pins σ H' s' ∧ Grow G H G' H'
/-! ### a value stands for one datum alone -/
theorem obj_at (hk : C.K = X.K) (e : Same G H) (I : Inv X pins σ H s) : ∀ {x : P} {a : Addr}, RepP C G x (.ref a) → ∃ o, s.heap.get? a = some o ∧ o.cls = tyP C x
  | .non, _, h => by simp only [RepP] at h; cases h
  | .bl _, _, h => by simp only [RepP] at h; cases h
  | .int _, _, h => by simp only [RepP] at h; cases h
  | .str _, _, h => by simp only [RepP] at h; cases h
  | .tup xs, a, h => by
    simp only [RepP] at h
    obtain ⟨b, vs, hb, h1, _⟩ := h
    cases hb
    rw [hk] at h1
    obtain ⟨its, _, ⟨o, q1, q2, _⟩, _⟩ := I.tuple (sqT_mono e h1)
    exact ⟨o, q1, q2⟩
  | .lst xs, a, h => by
    simp only [RepP] at h
    obtain ⟨b, vs, hb, h1, _⟩ := h
    cases hb
    obtain ⟨its, _, ⟨o, n, q1, q2, _⟩, _⟩ := I.list (SqL.of (e _ _ h1))
    exact ⟨o, q1, q2⟩
  | .dic ks xs, a, h => by
    simp only [RepP] at h
    obtain ⟨b, vs, hb, h1, _⟩ := h
    cases hb
    obtain ⟨_, _, ws, _, ⟨ob, es, n, q1, q2, q3⟩⟩ := dk_of I.hok (e _ _ h1)
    exact ⟨ob, q1, q2.1⟩
  | .scr xs, a, h => by
    simp only [RepP] at h
    obtain ⟨b, hb, h1⟩ := h
    cases hb
    rw [hk] at h1
    obtain ⟨its, _, ⟨o, n, q1, q2, _⟩, _⟩ := I.list (e.seq h1.sq)
    exact ⟨o, q1, q2⟩
  | .ob c xs, a, h => by
    simp only [RepP] at h
    obtain ⟨hc, b, dx, vs, hb, h1, _⟩ := h
    cases hb
    obtain ⟨mA, O, _⟩ := ins_get (P := X.prog) (w := X.w) I.hok (e _ _ h1)
    exact ⟨_, O.obj, rfl⟩
theorem not_base (e : Same G H) (I : Inv X pins σ H s) {a : Addr} {o : HO} {ob : Obj} (h : G a = some o) (hk : X.K.lookup a = some ob) : False := by
  have z := (I.bs a ob (I.ok.mod.kin a ob hk)).2
  rw [e _ _ h] at z
  cases z
theorem ref_tup {xs : List P} {v : V} (h : RepP C G (.tup xs) v) : ∃ a, v = .ref a := by
  simp only [RepP] at h
  obtain ⟨a, _, z, _⟩ := h
  exact ⟨a, z⟩
theorem ref_lst {xs : List P} {v : V} (h : RepP C G (.lst xs) v) : ∃ a, v = .ref a := by
  simp only [RepP] at h
  obtain ⟨a, _, z, _⟩ := h
  exact ⟨a, z⟩
theorem ref_scr {xs : List Int} {v : V} (h : RepP C G (.scr xs) v) : ∃ a, v = .ref a := by
  simp only [RepP] at h
  obtain ⟨a, z, _⟩ := h
  exact ⟨a, z⟩
theorem ref_dic {ks : List Str} {xs : List P} {v : V} (h : RepP C G (.dic ks xs) v) : ∃ a, v = .ref a := by
  simp only [RepP] at h
  obtain ⟨a, _, z, _⟩ := h
  exact ⟨a, z⟩
theorem ref_ob {c : Nat} {xs : List P} {v : V} (h : RepP C G (.ob c xs) v) : ∃ a, v = .ref a := by
  simp only [RepP] at h
  obtain ⟨_, a, _, _, z, _⟩ := h
  exact ⟨a, z⟩
theorem zip_two : ∀ (l m : List Str) (p q : List V), l.length = p.length → m.length = q.length → (l.map (Sum.inr : Str → Key)).zip p = (m.map Sum.inr).zip q → l = m ∧ p = q
  | [], [], [], [], _, _, _ => ⟨rfl, rfl⟩
  | [], m, _ :: _, q, h, _, _ => by cases h
  | _ :: _, m, [], q, h, _, _ => by cases h
  | l, [], p, _ :: _, _, h, _ => by cases h
  | l, _ :: _, p, [], _, h, _ => by cases h
  | [], _ :: _, [], _ :: _, _, _, h => by simp at h
  | _ :: _, [], _ :: _, [], _, _, h => by simp at h
  | a :: l, b :: m, x :: p, y :: q, h1, h2, h => by
    simp only [List.map_cons, List.zip_cons_cons, List.cons.injEq, Prod.mk.injEq, Sum.inr.injEq] at h
    obtain ⟨⟨e1, e2⟩, h⟩ := h
    obtain ⟨e3, e4⟩ := zip_two l m p q (by simpa using h1) (by simpa using h2) h
    exact ⟨by rw [e1, e3], by rw [e2, e4]⟩
mutual
theorem rep_inj (cf : ClsFs C) (hk : C.K = X.K) (e : Same G H) (I : Inv X pins σ H s) : ∀ (x y : P) (v : V), RepP C G x v → RepP C G y v → x = y
  | .non, y, v, h1, h2 => by
    simp only [RepP] at h1
    subst h1
    cases y with
    | non =>
      simp only [RepP] at h2
      first | rfl | (cases h2; rfl) | cases h2
    | bl d =>
      simp only [RepP] at h2
      first | rfl | (cases h2; rfl) | cases h2
    | int d =>
      simp only [RepP] at h2
      first | rfl | (cases h2; rfl) | cases h2
    | str d =>
      simp only [RepP] at h2
      first | rfl | (cases h2; rfl) | cases h2
    | tup ys =>
      obtain ⟨a, z⟩ := ref_tup h2
      cases z
    | lst ys =>
      obtain ⟨a, z⟩ := ref_lst h2
      cases z
    | scr ys =>
      obtain ⟨a, z⟩ := ref_scr h2
      cases z
    | dic ks ys =>
      obtain ⟨a, z⟩ := ref_dic h2
      cases z
    | ob c ys =>
      obtain ⟨a, z⟩ := ref_ob h2
      cases z
  | .bl b, y, v, h1, h2 => by
    simp only [RepP] at h1
    subst h1
    cases y with
    | non =>
      simp only [RepP] at h2
      first | rfl | (cases h2; rfl) | cases h2
    | bl d =>
      simp only [RepP] at h2
      first | rfl | (cases h2; rfl) | cases h2
    | int d =>
      simp only [RepP] at h2
      first | rfl | (cases h2; rfl) | cases h2
    | str d =>
      simp only [RepP] at h2
      first | rfl | (cases h2; rfl) | cases h2
    | tup ys =>
      obtain ⟨a, z⟩ := ref_tup h2
      cases z
    | lst ys =>
      obtain ⟨a, z⟩ := ref_lst h2
      cases z
    | scr ys =>
      obtain ⟨a, z⟩ := ref_scr h2
      cases z
    | dic ks ys =>
      obtain ⟨a, z⟩ := ref_dic h2
      cases z
    | ob c ys =>
      obtain ⟨a, z⟩ := ref_ob h2
      cases z
  | .int b, y, v, h1, h2 => by
    simp only [RepP] at h1
    subst h1
    cases y with
    | non =>
      simp only [RepP] at h2
      first | rfl | (cases h2; rfl) | cases h2
    | bl d =>
      simp only [RepP] at h2
      first | rfl | (cases h2; rfl) | cases h2
    | int d =>
      simp only [RepP] at h2
      first | rfl | (cases h2; rfl) | cases h2
    | str d =>
      simp only [RepP] at h2
      first | rfl | (cases h2; rfl) | cases h2
    | tup ys =>
      obtain ⟨a, z⟩ := ref_tup h2
      cases z
    | lst ys =>
      obtain ⟨a, z⟩ := ref_lst h2
      cases z
    | scr ys =>
      obtain ⟨a, z⟩ := ref_scr h2
      cases z
    | dic ks ys =>
      obtain ⟨a, z⟩ := ref_dic h2
      cases z
    | ob c ys =>
      obtain ⟨a, z⟩ := ref_ob h2
      cases z
  | .str b, y, v, h1, h2 => by
    simp only [RepP] at h1
    subst h1
    cases y with
    | non =>
      simp only [RepP] at h2
      first | rfl | (cases h2; rfl) | cases h2
    | bl d =>
      simp only [RepP] at h2
      first | rfl | (cases h2; rfl) | cases h2
    | int d =>
      simp only [RepP] at h2
      first | rfl | (cases h2; rfl) | cases h2
    | str d =>
      simp only [RepP] at h2
      first | rfl | (cases h2; rfl) | cases h2
    | tup ys =>
      obtain ⟨a, z⟩ := ref_tup h2
      cases z
    | lst ys =>
      obtain ⟨a, z⟩ := ref_lst h2
      cases z
    | scr ys =>
      obtain ⟨a, z⟩ := ref_scr h2
      cases z
    | dic ks ys =>
      obtain ⟨a, z⟩ := ref_dic h2
      cases z
    | ob c ys =>
      obtain ⟨a, z⟩ := ref_ob h2
      cases z
  | .tup xs, y, v, h1, h2 => by
    have g1 := h1
    simp only [RepP] at h1
    obtain ⟨a, vs, rfl, s1, r1⟩ := h1
    obtain ⟨o, q1, q2⟩ := obj_at hk e I g1
    cases y with
    | tup ys =>
      simp only [RepP] at h2
      obtain ⟨b, ws, hb, s2, r2⟩ := h2
      cases hb
      rw [hk] at s1 s2
      have ew := I.tuple_inj (sqT_mono e s1) (sqT_mono e s2)
      subst ew
      rw [reps_inj cf hk e I xs ys vs r1 r2]
    | lst ys =>
      obtain ⟨o', p1, p2⟩ := obj_at hk e I h2
      rw [q1] at p1
      cases p1
      rw [q2] at p2
      exact absurd p2 (by simp [tyP])
    | scr ys =>
      obtain ⟨o', p1, p2⟩ := obj_at hk e I h2
      rw [q1] at p1
      cases p1
      rw [q2] at p2
      exact absurd p2 (by simp [tyP])
    | ob c ys =>
      obtain ⟨o', p1, p2⟩ := obj_at hk e I h2
      rw [q1] at p1
      cases p1
      rw [q2] at p2
      cases p2
    | dic ks ys =>
      obtain ⟨o', p1, p2⟩ := obj_at hk e I h2
      rw [q1] at p1
      cases p1
      rw [q2] at p2
      first | cases p2 | exact absurd p2 (by simp [tyP])
    | _ =>
      simp only [RepP] at h2
      cases h2
  | .lst xs, y, v, h1, h2 => by
    have g1 := h1
    simp only [RepP] at h1
    obtain ⟨a, vs, rfl, s1, r1⟩ := h1
    obtain ⟨o, q1, q2⟩ := obj_at hk e I g1
    cases y with
    | lst ys =>
      simp only [RepP] at h2
      obtain ⟨b, ws, hb, s2, r2⟩ := h2
      cases hb
      rw [s1] at s2
      cases s2
      rw [reps_inj cf hk e I xs ys vs r1 r2]
    | tup ys =>
      obtain ⟨o', p1, p2⟩ := obj_at hk e I h2
      rw [q1] at p1
      cases p1
      rw [q2] at p2
      exact absurd p2 (by simp [tyP])
    | scr ys =>
      simp only [RepP] at h2
      obtain ⟨b, hb, s2⟩ := h2
      cases hb
      rcases s2 with ⟨o, s2⟩ | ⟨o, _, _, s2, _⟩
      · rw [s1] at s2
        cases s2
      · rw [hk] at s2
        exact (not_base e I s1 s2).elim
    | ob c ys =>
      obtain ⟨o', p1, p2⟩ := obj_at hk e I h2
      rw [q1] at p1
      cases p1
      rw [q2] at p2
      cases p2
    | dic ks ys =>
      obtain ⟨o', p1, p2⟩ := obj_at hk e I h2
      rw [q1] at p1
      cases p1
      rw [q2] at p2
      first | cases p2 | exact absurd p2 (by simp [tyP])
    | _ =>
      simp only [RepP] at h2
      cases h2
  | .scr xs, y, v, h1, h2 => by
    have g1 := h1
    simp only [RepP] at h1
    obtain ⟨a, rfl, s1⟩ := h1
    obtain ⟨o, q1, q2⟩ := obj_at hk e I g1
    cases y with
    | lst ys =>
      simp only [RepP] at h2
      obtain ⟨b, ws, hb, s2, r2⟩ := h2
      cases hb
      rcases s1 with ⟨o, s1⟩ | ⟨o, _, _, s1, _⟩
      · rw [s1] at s2
        cases s2
      · rw [hk] at s1
        exact (not_base e I s2 s1).elim
    | tup ys =>
      obtain ⟨o', p1, p2⟩ := obj_at hk e I h2
      rw [q1] at p1
      cases p1
      rw [q2] at p2
      exact absurd p2 (by simp [tyP])
    | scr ys =>
      simp only [RepP] at h2
      obtain ⟨b, hb, s2⟩ := h2
      cases hb
      rw [hk] at s1 s2
      have ew := I.list_inj (e.seq s1.sq) (e.seq s2.sq)
      have inj : ∀ (l m : List Int), l.map V.int = m.map V.int → l = m := by
        intro l
        induction l with
        | nil =>
          intro m hm
          cases m with
          | nil => rfl
          | cons _ _ => cases hm
        | cons i l ih =>
          intro m hm
          cases m with
          | nil => cases hm
          | cons j m =>
            simp only [List.map_cons, List.cons.injEq, V.int.injEq] at hm
            rw [hm.1, ih m hm.2]
      rw [inj xs ys ew]
    | ob c ys =>
      obtain ⟨o', p1, p2⟩ := obj_at hk e I h2
      rw [q1] at p1
      cases p1
      rw [q2] at p2
      cases p2
    | dic ks ys =>
      obtain ⟨o', p1, p2⟩ := obj_at hk e I h2
      rw [q1] at p1
      cases p1
      rw [q2] at p2
      first | cases p2 | exact absurd p2 (by simp [tyP])
    | _ =>
      simp only [RepP] at h2
      cases h2
  | .ob c xs, y, v, h1, h2 => by
    have g1 := h1
    simp only [RepP] at h1
    obtain ⟨hc, a, dx, vs, rfl, s1, l1, r1⟩ := h1
    obtain ⟨o, q1, q2⟩ := obj_at hk e I g1
    cases y with
    | ob c' ys =>
      simp only [RepP] at h2
      obtain ⟨hc', b, dy, ws, hb, s2, l2, r2⟩ := h2
      cases hb
      rw [s1] at s2
      have ec : C.CA c = C.CA c' := by
        have z := Option.some.inj s2
        injection z
      have ecc : c = c' := by
        rcases Nat.decEq c c' with z | z
        · exact absurd ec (cf.two c c' hc hc' z).2
        · exact z
      subst ecc
      have ez : ((C.FT c).map C.NM).zip vs = ((C.FT c).map C.NM).zip ws := by
        have z := Option.some.inj s2
        injection z
      have zi : ∀ (l : List Str) (p q : List V), l.length = p.length → l.length = q.length → l.zip p = l.zip q → p = q := by
        intro l
        induction l with
        | nil =>
          intro p q hp hq _
          cases p with
          | nil => cases q with
            | nil => rfl
            | cons _ _ => cases hq
          | cons _ _ => cases hp
        | cons i l ih =>
          intro p q hp hq hz
          cases p with
          | nil => cases hp
          | cons p0 p => cases q with
            | nil => cases hq
            | cons q0 q =>
              simp only [List.zip_cons_cons, List.cons.injEq, Prod.mk.injEq] at hz
              rw [hz.1.2, ih p q (by simpa using hp) (by simpa using hq) hz.2]
      have ew := zi _ vs ws (by rw [List.length_map]; exact l1) (by rw [List.length_map]; exact l2) ez
      subst ew
      rw [reps_inj cf hk e I xs ys vs r1 r2]
    | tup ys =>
      obtain ⟨o', p1, p2⟩ := obj_at hk e I h2
      rw [q1] at p1
      cases p1
      rw [q2] at p2
      cases p2
    | lst ys =>
      obtain ⟨o', p1, p2⟩ := obj_at hk e I h2
      rw [q1] at p1
      cases p1
      rw [q2] at p2
      cases p2
    | scr ys =>
      obtain ⟨o', p1, p2⟩ := obj_at hk e I h2
      rw [q1] at p1
      cases p1
      rw [q2] at p2
      cases p2
    | dic ks ys =>
      obtain ⟨o', p1, p2⟩ := obj_at hk e I h2
      rw [q1] at p1
      cases p1
      rw [q2] at p2
      first | cases p2 | exact absurd p2 (by simp [tyP])
    | _ =>
      simp only [RepP] at h2
      cases h2
  | .dic ks xs, y, v, h1, h2 => by
    have g1 := h1
    simp only [RepP] at h1
    obtain ⟨a, vs, rfl, s1, l1, r1⟩ := h1
    obtain ⟨o, q1, q2⟩ := obj_at hk e I g1
    cases y with
    | dic kt ys =>
      simp only [RepP] at h2
      obtain ⟨b, ws, hb, s2, l2, r2⟩ := h2
      cases hb
      rw [s1] at s2
      have ez : (ks.map (Sum.inr : Str → Key)).zip vs = (kt.map Sum.inr).zip ws := by
        have z := Option.some.inj s2
        injection z
      obtain ⟨rfl, rfl⟩ := zip_two ks kt vs ws l1 l2 ez
      rw [reps_inj cf hk e I xs ys vs r1 r2]
    | tup ys =>
      obtain ⟨o', p1, p2⟩ := obj_at hk e I h2
      rw [q1] at p1
      cases p1
      rw [q2] at p2
      first | cases p2 | exact absurd p2 (by simp [tyP])
    | lst ys =>
      obtain ⟨o', p1, p2⟩ := obj_at hk e I h2
      rw [q1] at p1
      cases p1
      rw [q2] at p2
      first | cases p2 | exact absurd p2 (by simp [tyP])
    | scr ys =>
      obtain ⟨o', p1, p2⟩ := obj_at hk e I h2
      rw [q1] at p1
      cases p1
      rw [q2] at p2
      first | cases p2 | exact absurd p2 (by simp [tyP])
    | ob c ys =>
      obtain ⟨o', p1, p2⟩ := obj_at hk e I h2
      rw [q1] at p1
      cases p1
      rw [q2] at p2
      first | cases p2 | exact absurd p2 (by simp [tyP])
    | _ =>
      simp only [RepP] at h2
      cases h2
theorem reps_inj (cf : ClsFs C) (hk : C.K = X.K) (e : Same G H) (I : Inv X pins σ H s) : ∀ (xs ys : List P) (vs : List V), RepPs C G xs vs → RepPs C G ys vs → xs = ys
  | [], ys, vs, h1, h2 => by
    simp only [RepPs] at h1
    subst h1
    cases ys with
    | nil => rfl
    | cons y ys =>
      simp only [RepPs] at h2
      obtain ⟨_, _, z, _⟩ := h2
      cases z
  | x :: xs, ys, vs, h1, h2 => by
    simp only [RepPs] at h1
    obtain ⟨v, ws, rfl, r1, rs1⟩ := h1
    cases ys with
    | nil =>
      simp only [RepPs] at h2
      cases h2
    | cons y ys =>
      simp only [RepPs] at h2
      obtain ⟨v', ws', z, r2, rs2⟩ := h2
      cases z
      rw [rep_inj cf hk e I x y v r1 r2, reps_inj cf hk e I xs ys ws rs1 rs2]
end
/-! ### == -/
theorem out_trans {G1 H1 : Hp} {s' : Shared} (g : Grow G H G1 H1) (h : Out X pins σ G1 H1 s') : Out X pins σ G H s' := by
  obtain ⟨G2, H2, I2, g2⟩ := h
  exact ⟨G2, H2, I2, g.trans g2⟩
/-- the three tests of two values -/
structure Tst (X : Cx) (pins : List (Addr × Obj)) (σ : L2.St) (G H : Hp) (A : Around) (s : Shared) (u v : Value) (b : Bool) : Prop where
  eq : wpAny (model X.prog X.w) A (richCompare .Eq u v) (fun r s' => r = .bool b ∧ Out X pins σ G H s') X.xe s
  ne : wpAny (model X.prog X.w) A (richCompare .NotEq u v) (fun r s' => r = .bool (!b) ∧ Out X pins σ G H s') X.xe s
  at_ : wpAny (model X.prog X.w) A (eqBool u v) (fun r s' => r = b ∧ Out X pins σ G H s') X.xe s
theorem Cmp3.tst {A : Around} {u v : Value} {b : Bool} (I : Inv X pins σ H s) (e : Same G H) (h : Cmp3 A s u v b) : Tst X pins σ G H A s u v b :=
  ⟨h.eq X.prog X.w X.xe _ ⟨rfl, G, H, I, Grow.refl e⟩, h.ne X.prog X.w X.xe _ ⟨rfl, G, H, I, Grow.refl e⟩, h.at_ X.prog X.w X.xe _ ⟨rfl, G, H, I, Grow.refl e⟩⟩
/-- two references: the same, or by the rich comparison -/
theorem tst_ref {A : Around} {a c : Addr} {b : Bool} (I : Inv X pins σ H s) (e : Same G H) (hs : a = c → b = true)
    (h1 : wpAny (model X.prog X.w) A (richCompare .Eq (.ref a) (.ref c)) (fun r s' => r = .bool b ∧ Out X pins σ G H s') X.xe s)
    (h2 : wpAny (model X.prog X.w) A (richCompare .NotEq (.ref a) (.ref c)) (fun r s' => r = .bool (!b) ∧ Out X pins σ G H s') X.xe s) : Tst X pins σ G H A s (.ref a) (.ref c) b := by
  refine ⟨h1, h2, ?_⟩
  by_cases hac : a = c
  · subst hac
    rw [hs rfl]
    exact SeqAt.EqAt.same (A := A) (s := s) (.ref a) X.prog X.w X.xe _ ⟨rfl, G, H, I, Grow.refl e⟩
  · refine GQ.eqBool_refG hac (wpAny_mono h1 (fun r s' q => ?_) fun _ _ z => z)
    obtain ⟨rfl, q⟩ := q
    exact ⟨b, rfl, rfl, q⟩
theorem rm {n : Nat} {A : Around} (h : Room (k + (n + 1)) A) : Room (k + n) A.in1 := Room.in1 (k := k + n) h
/-- item by item: what is asked of the turns -/
theorem items_turn {n : Nat} {A : Around} (ih : ∀ (x y : P) (b : Bool), eqN Γ.feq n x y = some b → ∀ (A : Around) (s : Shared) (G H : Hp) (v1 v2 : V) (u1 u2 : Value), Room (k + n) A → A.frames = X.A.frames → Inv X pins σ H s → Same G H →
      RepP C G x v1 → RepP C G y v2 → RelV v1 u1 → RelV v2 u2 → Tst X pins σ G H A s u1 u2 b)
    (hr : Room (k + (n + 1)) A) (hA : A.frames = X.A.frames) :
    ∀ (xs ys : List P) (b : Bool), eqL (eqN Γ.feq n) xs ys = some b → xs.length = ys.length → ∀ (i : Nat) (x y : P), xs[i]? = some x → ys[i]? = some y → (∀ j, j < i → ∀ x y, xs[j]? = some x → ys[j]? = some y → eqN Γ.feq n x y = some true) →
      ∃ c, eqN Γ.feq n x y = some c ∧ (c = false → b = false)
  | x0 :: xs, y0 :: ys, b, h, hl, 0, x, y, hx, hy, _ => by
    simp only [List.getElem?_cons_zero, Option.some.injEq] at hx hy
    subst hx hy
    simp only [eqL] at h
    cases e : eqN Γ.feq n x0 y0 with
    | none =>
      rw [e] at h
      cases h
    | some c =>
      refine ⟨c, rfl, fun hc => ?_⟩
      subst hc
      rw [e] at h
      exact (Option.some.inj h).symm
  | x0 :: xs, y0 :: ys, b, h, hl, i + 1, x, y, hx, hy, hp => by
    have e := hp 0 (Nat.succ_pos i) x0 y0 rfl rfl
    simp only [eqL, e] at h
    simp only [List.getElem?_cons_succ] at hx hy
    exact items_turn ih hr hA xs ys b h (by simpa using hl) i x y hx hy fun j hj x y h1 h2 => hp (j + 1) (by omega) x y (by simpa using h1) (by simpa using h2)
  | [], _, _, _, _, i, _, _, hx, _, _ => by simp at hx
  | _ :: _, [], _, _, hl, _, _, _, _, _, _ => by simp at hl
theorem eqL_all {f : P → P → Option Bool} : ∀ (xs ys : List P) (b : Bool), eqL f xs ys = some b → xs.length = ys.length → (∀ (j : Nat) x y, xs[j]? = some x → ys[j]? = some y → f x y = some true) → b = true
  | [], [], b, h, _, _ => (Option.some.inj h).symm
  | x :: xs, y :: ys, b, h, hl, hp => by
    simp only [eqL, hp 0 x y rfl rfl] at h
    exact eqL_all xs ys b h (by simpa using hl) fun j x y h1 h2 => hp (j + 1) x y (by simpa using h1) (by simpa using h2)
  | [], _ :: _, _, _, hl, _ => by simp at hl
  | _ :: _, [], _, _, hl, _ => by simp at hl
theorem reps_get : ∀ (xs : List P) (vs : List V) (i : Nat) {v : V}, RepPs C G xs vs → vs[i]? = some v → ∃ x, xs[i]? = some x ∧ RepP C G x v
  | [], vs, i, v, h, e => by
    simp only [RepPs] at h
    subst h
    simp at e
  | x :: xs, vs, 0, v, h, e => by
    simp only [RepPs] at h
    obtain ⟨v', ws, rfl, h1, _⟩ := h
    simp only [List.getElem?_cons_zero, Option.some.injEq] at e
    subst e
    exact ⟨x, rfl, h1⟩
  | x :: xs, vs, i + 1, v, h, e => by
    simp only [RepPs] at h
    obtain ⟨v', ws, rfl, _, h2⟩ := h
    simp only [List.getElem?_cons_succ] at e ⊢
    exact reps_get xs ws i h2 e
theorem eqN_refl (gm : GoodM C X.prog X.w X.K X.mg X.base k Γ) : ∀ (n : Nat) (x : P) (b : Bool), eqN Γ.feq n x x = some b → b = true
  | 0, _, _, h => by cases h
  | n + 1, .non, b, h => (Option.some.inj h).symm
  | n + 1, .bl c, b, h => by
    simp only [eqN, eq0, beq_self_eq_true, Option.some.injEq] at h
    exact h.symm
  | n + 1, .int c, b, h => by
    simp only [eqN, eq0, beq_self_eq_true, Option.some.injEq] at h
    exact h.symm
  | n + 1, .str c, b, h => by
    simp only [eqN, eq0, beq_self_eq_true, Option.some.injEq] at h
    exact h.symm
  | n + 1, .scr c, b, h => by cases h
  | n + 1, .dic c d, b, h => by cases h
  | n + 1, .ob c xs, b, h => Tab.feq_refl h
  | n + 1, .tup xs, b, h => by
    simp only [eqN, beq_self_eq_true, if_true] at h
    have all : ∀ (zs : List P) (b : Bool), eqL (eqN Γ.feq n) zs zs = some b → b = true := by
      intro zs
      induction zs with
      | nil => exact fun b h => (Option.some.inj h).symm
      | cons z zs ih =>
        intro b h
        simp only [eqL] at h
        cases e : eqN Γ.feq n z z with
        | none => rw [e] at h; cases h
        | some c =>
          rw [eqN_refl gm n z c e] at e
          rw [e] at h
          exact ih b h
    exact all xs b h
  | n + 1, .lst xs, b, h => by
    simp only [eqN, beq_self_eq_true, if_true] at h
    have all : ∀ (zs : List P) (b : Bool), eqL (eqN Γ.feq n) zs zs = some b → b = true := by
      intro zs
      induction zs with
      | nil => exact fun b h => (Option.some.inj h).symm
      | cons z zs ih =>
        intro b h
        simp only [eqL] at h
        cases e : eqN Γ.feq n z z with
        | none => rw [e] at h; cases h
        | some c =>
          rw [eqN_refl gm n z c e] at e
          rw [e] at h
          exact ih b h
    exact all xs b h
end
end RP
end

section
set_option Elab.async false
set_option linter.all false
set_option maxRecDepth 100000
set_option maxHeartbeats 2000000
namespace RP
open PySem L2
section
variable {C : CC} {W : WX} {X : Cx} {k : Nat} {Γ : Tab} {pins : List (Addr × Obj)} {σ : L2.St}
theorem eqBool_ne {prog : Program} {w : World} {A : Around} {E : Value → Shared → Prop} {s : Shared} {a : Addr} {v : Value} {Q : Bool → Shared → Prop} (hne : Value.ref a ≠ v) (h : wpAny (model prog w) A (richCompare .Eq (.ref a) v) (fun r s' => ∃ b, r = .bool b ∧ Q b s') E s) : wpAny (model prog w) A (eqBool (.ref a) v) Q E s := by
  unfold eqBool
  refine wpAny_holding (wpAny_ite_split (fun z => absurd (eq_of_beq z) hne) fun _ => ?_)
  refine wpAny_bind (m := richCompare .Eq (.ref a) v) (wpAny_mono h (fun r s' q => ?_) fun _ _ z => z)
  obtain ⟨b, rfl, q⟩ := q
  exact wpAny_truthy_bool q
theorem tst_own (sp : Spot C W X k) (gm : GoodM C X.prog X.w X.K X.mg X.base k Γ) {n c : Nat} {xs : List P} {y : P} {b : Bool} (h : Γ.feq c (.ob c xs) y = some b) {A : Around} {s : Shared} {G H : Hp} {v1 v2 : V} {u1 u2 : Value}
    (hr : Room (k + (n + 1)) A) (hA : A.frames = X.A.frames) (I : Inv X pins σ H s) (e : Same G H) (r1 : RepP C G (.ob c xs) v1) (r2 : RepP C G y v2) (q1 : RelV v1 u1) (q2 : RelV v2 u2) : Tst X pins σ G H A s u1 u2 b := by
  have h0 := r1
  simp only [RepP] at h0
  obtain ⟨hc, a, dx, vs, rfl, h1, _⟩ := h0
  cases q1
  obtain ⟨mA, O, _⟩ := ins_get (P := X.prog) (w := X.w) I.hok (e _ _ h1)
  obtain ⟨od, J, _⟩ := O.look
  unfold Tab.feq at h
  cases hg : Γ.meth c mEq with
  | none =>
    rw [hg] at h
    cases h
  | some g =>
    rw [hg] at h
    dsimp only at h
    obtain ⟨f, M, _, cal⟩ := gm.mts c mEq g hg
    rw [sp.nm.eq] at M
    have h9 := h
    have hgo : g [.ob c xs, y] = .ok (.bl b) := by
      split at h
      · rename_i b' hb
        split at h
        · cases h
        · cases h
          exact hb
      · cases h
    obtain ⟨mm, hF⟩ := I.fr
    have cf := sp.cf.one c hc
    rw [sp.hk] at cf
    have ty := looks_ty (M := model X.prog X.w) sp.hk e I r2 q2
    have nf := notFirst_of sp.cf hc r2
    rw [sp.hk] at nf
    have hsp : spP C g [.ref a, v2] H (fun v H' => v = .bl b ∧ ∃ G', Grow G H G' H') (WE W σ) := by
      refine ⟨G, [.ob c xs, y], e, reps2 (s0 := ⟨G, [], []⟩) r1 r2, ?_⟩
      rw [hgo]
      intro v G' H' g1 g2 g3 rv
      simp only [RepP] at rv
      exact ⟨rv, G', g1, g2, g3⟩
    have go : ∀ A' : Around, Room k A' → A'.frames = X.A.frames → wpAny (model X.prog X.w) A' (call (.ref f) [.ref a, u2]) (fun v s' => v = .bool b ∧ Out X pins σ G H s') X.xe s := fun A' hr' hA' =>
      wpAny_mono (wpAny_call (cal X W A' pins s σ H [.ref a, u2] [.ref a, v2] _ rfl rfl rfl rfl rfl sp.tk hr' hA' I (.cons rfl (.cons q2 .nil)) hsp)) (fun v s' z => by
        obtain ⟨v', H', I', rv, ev, G', gr⟩ := z
        subst ev
        cases rv
        exact ⟨rfl, G', H', I', gr⟩) fun _ _ z => z
    have eq : wpAny (model X.prog X.w) A (richCompare .Eq (.ref a) u2) (fun r s' => r = .bool b ∧ Out X pins σ G H s') X.xe s :=
      PySem.W.cmp_K (op := .Eq) hr.units0 hF I.ok.mod.kin J ty nf M.at_ M.fn (wpAny_mono (go A (hr.mono (by omega)) hA) (fun v s' z => by
        obtain ⟨rfl, z⟩ := z
        exact ⟨rfl, z⟩) fun _ _ z => z)
    have ne : wpAny (model X.prog X.w) A (richCompare .NotEq (.ref a) u2) (fun r s' => r = .bool (!b) ∧ Out X pins σ G H s') X.xe s :=
      own_ne (Nat.lt_of_le_of_lt (by omega) hr.units) hF I.ok.mod.kin J ty nf cf.ne cf.hm M.at_ M.fn (wpAny_mono (go A.in1 (Room.mono (rm hr) (by omega)) hA) (fun v s' z => by
        obtain ⟨rfl, z⟩ := z
        exact ⟨b, rfl, rfl, z⟩) fun _ _ z => z)
    refine ⟨eq, ne, ?_⟩
    by_cases hu : u2 = .ref a
    · subst hu
      have hv : v2 = .ref a := by
        have z := RelV.abs q2
        cases z
        rfl
      subst hv
      have ey := rep_inj sp.cf sp.hk e I _ _ _ r1 r2
      subst ey
      have hb : b = true := by
        refine Tab.feq_refl (Γ := Γ) (c := c) (x := .ob c xs) ?_
        unfold Tab.feq
        rw [hg]
        exact h9
      rw [hb]
      exact SeqAt.EqAt.same (A := A) (s := s) (.ref a) X.prog X.w X.xe _ ⟨rfl, G, H, I, Grow.refl e⟩
    · refine eqBool_ne (fun z => hu z.symm) (wpAny_mono eq (fun r s' z => ?_) fun _ _ z => z)
      obtain ⟨rfl, z⟩ := z
      exact ⟨b, rfl, rfl, z⟩
/-- where the loop over the items stands -/
def At_ (X : Cx) (pins : List (Addr × Obj)) (σ : L2.St) (G H : Hp) (f : P → P → Option Bool) (xs ys : List P) (i : Nat) (s' : Shared) : Prop :=
  Out X pins σ G H s' ∧ ∀ (j : Nat), j < i → ∀ x y, xs[j]? = some x → ys[j]? = some y → f x y = some true
theorem eq_ok (sp : Spot C W X k) (gm : GoodM C X.prog X.w X.K X.mg X.base k Γ) : ∀ (n : Nat) (x y : P) (b : Bool), eqN Γ.feq n x y = some b → ∀ (A : Around) (s : Shared) (G H : Hp) (v1 v2 : V) (u1 u2 : Value), Room (k + n) A → A.frames = X.A.frames →
    Inv X pins σ H s → Same G H → RepP C G x v1 → RepP C G y v2 → RelV v1 u1 → RelV v2 u2 → Tst X pins σ G H A s u1 u2 b := by
  intro n
  induction n with
  | zero =>
    intro x y b h
    cases h
  | succ n ih =>
    intro x y b h A s G H v1 v2 u1 u2 hr hA I e r1 r2 q1 q2
    have flat : eq0 x y = some b → Tst X pins σ G H A s u1 u2 b := fun z => (eq0_ok sp.hk e I hr.units0 x y z r1 r2 q1 q2).tst I e
    /- one turn over the items -/
    have turn : ∀ (xs ys : List P) (vs ws : List V), eqL (eqN Γ.feq n) xs ys = some b → xs.length = ys.length → RepPs C G xs vs → RepPs C G ys ws → ∀ (i : Nat) (s' : Shared) (w1 w2 : V) (t1 t2 : Value), vs[i]? = some w1 → ws[i]? = some w2 → RelV w1 t1 → RelV w2 t2 →
        At_ X pins σ G H (eqN Γ.feq n) xs ys i s' → wpAny (model X.prog X.w) A.in1 (eqBool t1 t2) (fun r s2 => (r = true ∧ At_ X pins σ G H (eqN Γ.feq n) xs ys (i + 1) s2) ∨ (r = false ∧ b = false ∧ Out X pins σ G H s2)) X.xe s' := by
      intro xs ys vs ws he hl k1 k2 i s' w1 w2 t1 t2 g1 g2 rt1 rt2 hI
      obtain ⟨⟨G1, H1, I1, gr⟩, pre⟩ := hI
      obtain ⟨x', hx, rx⟩ := reps_get xs vs i k1 g1
      obtain ⟨y', hy, ry⟩ := reps_get ys ws i k2 g2
      obtain ⟨c, hc, hcb⟩ := items_turn (C := C) (X := X) (pins := pins) (σ := σ) ih hr hA xs ys b he hl i x' y' hx hy pre
      refine wpAny_mono (ih x' y' c hc A.in1 s' G1 H1 w1 w2 t1 t2 (rm hr) hA I1 gr.h (RepP.mono gr.g x' w1 rx) (RepP.mono gr.g y' w2 ry) rt1 rt2).at_ (fun r s2 z => ?_) fun _ _ z => z
      obtain ⟨rfl, z⟩ := z
      cases r with
      | true =>
        refine Or.inl ⟨rfl, out_trans gr z, fun j hj x y h1 h2 => ?_⟩
        by_cases hji : j = i
        · subst hji
          rw [hx] at h1
          rw [hy] at h2
          cases h1
          cases h2
          exact hc
        · exact pre j (by omega) x y h1 h2
      | false => exact Or.inr ⟨rfl, hcb rfl, out_trans gr z⟩
    have done : ∀ (xs ys : List P), eqL (eqN Γ.feq n) xs ys = some b → xs.length = ys.length → ∀ s', At_ X pins σ G H (eqN Γ.feq n) xs ys xs.length s' → b = true ∧ Out X pins σ G H s' := by
      intro xs ys he hl s' hI
      refine ⟨eqL_all xs ys b he hl fun j x y h1 h2 => hI.2 j ?_ x y h1 h2, hI.1⟩
      exact (List.getElem?_eq_some_iff.mp h1).1
    cases x with
    | ob c xs => exact tst_own (n := n) sp gm h hr hA I e r1 r2 q1 q2
    | tup xs =>
      cases y with
      | tup ys =>
        simp only [eqN] at h
        split at h
        · rename_i hl
          have hl' : xs.length = ys.length := beq_iff_eq.mp hl
          have k1 := r1
          have k2 := r2
          simp only [RepP] at k1 k2
          obtain ⟨a, vs, rfl, s1, p1⟩ := k1
          obtain ⟨c, ws, rfl, s2, p2⟩ := k2
          cases q1
          cases q2
          rw [sp.hk] at s1 s2
          obtain ⟨i1, V1, T1, _⟩ := I.tuple (sqT_mono e s1)
          obtain ⟨i2, V2, T2, _⟩ := I.tuple (sqT_mono e s2)
          have l1 := RepPs.len xs vs p1
          have l2 := RepPs.len ys ws p2
          have z1 := V1.length
          have z2 := V2.length
          have hsz : i1.toArray.size = i2.toArray.size := by
            rw [List.size_toArray, List.size_toArray]
            omega
          have tn : ∀ (i : Nat) (h1 : i < i1.toArray.size) (h2 : i < i2.toArray.size) (s' : Shared), At_ X pins σ G H (eqN Γ.feq n) xs ys i s' →
              wpAny (model X.prog X.w) A.in1 (eqBool i1.toArray[i] i2.toArray[i]) (fun r s2 => (r = true ∧ At_ X pins σ G H (eqN Γ.feq n) xs ys (i + 1) s2) ∨ (r = false ∧ b = false ∧ Out X pins σ G H s2)) X.xe s' := by
            intro i h1 h2 s' hI
            have n1 : i < vs.length := by rw [z1]; simpa using h1
            have n2 : i < ws.length := by rw [z2]; simpa using h2
            obtain ⟨t1, g1, rt1⟩ := V1.get (List.getElem?_eq_getElem n1)
            obtain ⟨t2, g2, rt2⟩ := V2.get (List.getElem?_eq_getElem n2)
            have e1 : i1.toArray[i] = t1 := by
              rw [List.getElem?_eq_getElem (by simpa using h1)] at g1
              simpa using g1
            have e2 : i2.toArray[i] = t2 := by
              rw [List.getElem?_eq_getElem (by simpa using h2)] at g2
              simpa using g2
            rw [e1, e2]
            exact turn xs ys vs ws h hl' p1 p2 i s' _ _ t1 t2 (List.getElem?_eq_getElem n1) (List.getElem?_eq_getElem n2) rt1 rt2 hI
          have st : At_ X pins σ G H (eqN Γ.feq n) xs ys 0 s := ⟨⟨G, H, I, Grow.refl e⟩, fun j hj => absurd hj (Nat.not_lt_zero j)⟩
          have szx : i1.toArray.size = xs.length := by
            rw [List.size_toArray]
            omega
          refine tst_ref I e (fun hac => ?_) ?_ ?_
          · subst hac
            have ey := rep_inj sp.cf sp.hk e I _ _ _ r1 r2
            cases ey
            exact eqN_refl gm (n + 1) (.tup xs) b (by simp only [eqN, beq_self_eq_true, if_true]; exact h)
          · refine rct_eq hsz hr.units0 _ (fun s2 => b = false ∧ Out X pins σ G H s2) T1 T2 tn (fun s' hI => ?_) (fun s' hJ => ?_) st
            · rw [szx] at hI
              obtain ⟨rfl, o⟩ := done xs ys h hl' s' hI
              exact ⟨rfl, o⟩
            · obtain ⟨rfl, o⟩ := hJ
              exact ⟨rfl, o⟩
          · refine rct_ne hsz hr.units0 _ (fun s2 => b = false ∧ Out X pins σ G H s2) T1 T2 tn (fun s' hI => ?_) (fun s' hJ => ?_) st
            · rw [szx] at hI
              obtain ⟨rfl, o⟩ := done xs ys h hl' s' hI
              exact ⟨rfl, o⟩
            · obtain ⟨rfl, o⟩ := hJ
              exact ⟨rfl, o⟩
        · cases h
      | _ => exact flat h
    | lst xs =>
      cases y with
      | lst ys =>
        have k1 := r1
        have k2 := r2
        simp only [RepP] at k1 k2
        obtain ⟨a, vs, rfl, s1, p1⟩ := k1
        obtain ⟨c, ws, rfl, s2, p2⟩ := k2
        cases q1
        cases q2
        have l1 := RepPs.len xs vs p1
        have l2 := RepPs.len ys ws p2
        simp only [eqN] at h
        split at h
        · rename_i hl
          have hl' : xs.length = ys.length := beq_iff_eq.mp hl
          have see : ∀ s' : Shared, Out X pins σ G H s' → ∃ (j1 j2 : List Value) (n1 n2 : Nat), Vals vs j1 ∧ Vals ws j2 ∧ s'.heap.get? a = some { cls := .type "list", data := .seq j1.toArray n1 } ∧ s'.heap.get? c = some { cls := .type "list", data := .seq j2.toArray n2 } := by
            intro s' ho
            obtain ⟨G1, H1, I1, gr⟩ := ho
            obtain ⟨_, j1, n1, V1, o1⟩ := I1.hok a (.lst vs) (gr.h _ _ (gr.g _ _ s1))
            obtain ⟨_, j2, n2, V2, o2⟩ := I1.hok c (.lst ws) (gr.h _ _ (gr.g _ _ s2))
            exact ⟨j1, j2, n1, n2, V1, V2, o1, o2⟩
          have two : Two X.prog X.w A X.xe a c xs.length (At_ X pins σ G H (eqN Γ.feq n) xs ys) (fun s2 => b = false ∧ Out X pins σ G H s2) := by
            intro i s' hI
            obtain ⟨j1, j2, n1, n2, V1, V2, o1, o2⟩ := see s' hI.1
            have z1 := V1.length
            have z2 := V2.length
            refine ⟨j1.toArray, j2.toArray, n1, n2, o1, o2, by rw [List.size_toArray]; omega, by rw [List.size_toArray]; omega, fun h1 h2 => ?_⟩
            have m1 : i < vs.length := by rw [z1]; simpa using h1
            have m2 : i < ws.length := by rw [z2]; simpa using h2
            obtain ⟨t1, g1, rt1⟩ := V1.get (List.getElem?_eq_getElem m1)
            obtain ⟨t2, g2, rt2⟩ := V2.get (List.getElem?_eq_getElem m2)
            have e1 : j1.toArray[i] = t1 := by
              rw [List.getElem?_eq_getElem (by simpa using h1)] at g1
              simpa using g1
            have e2 : j2.toArray[i] = t2 := by
              rw [List.getElem?_eq_getElem (by simpa using h2)] at g2
              simpa using g2
            rw [e1, e2]
            exact turn xs ys vs ws h hl' p1 p2 i s' _ _ t1 t2 (List.getElem?_eq_getElem m1) (List.getElem?_eq_getElem m2) rt1 rt2 hI
          have sti : Still a c xs.length (fun s2 => b = false ∧ Out X pins σ G H s2) := by
            intro s' hJ
            obtain ⟨j1, j2, n1, n2, V1, V2, o1, o2⟩ := see s' hJ.2
            have z1 := V1.length
            have z2 := V2.length
            exact ⟨j1.toArray, j2.toArray, n1, n2, o1, o2, by rw [List.size_toArray]; omega, by rw [List.size_toArray]; omega⟩
          have st : At_ X pins σ G H (eqN Γ.feq n) xs ys 0 s := ⟨⟨G, H, I, Grow.refl e⟩, fun j hj => absurd hj (Nat.not_lt_zero j)⟩
          refine tst_ref I e (fun hac => ?_) ?_ ?_
          · subst hac
            have ey := rep_inj sp.cf sp.hk e I _ _ _ r1 r2
            cases ey
            exact eqN_refl gm (n + 1) (.lst xs) b (by simp only [eqN, beq_self_eq_true, if_true]; exact h)
          · refine rcl_eq hr.units0 _ _ two sti (fun s' hI => ?_) (fun s' hJ => ?_) st
            · obtain ⟨rfl, o⟩ := done xs ys h hl' s' hI
              exact ⟨rfl, o⟩
            · obtain ⟨rfl, o⟩ := hJ
              exact ⟨rfl, o⟩
          · refine rcl_ne hr.units0 _ _ two sti (fun s' hI => ?_) (fun s' hJ => ?_) st
            · obtain ⟨rfl, o⟩ := done xs ys h hl' s' hI
              exact ⟨rfl, o⟩
            · obtain ⟨rfl, o⟩ := hJ
              exact ⟨rfl, o⟩
        · rename_i hl
          have hl' : xs.length ≠ ys.length := fun z => hl (beq_iff_eq.mpr z)
          cases h
          obtain ⟨_, j1, n1, V1, o1⟩ := I.hok a (.lst vs) (e _ _ s1)
          obtain ⟨_, j2, n2, V2, o2⟩ := I.hok c (.lst ws) (e _ _ s2)
          have z1 := V1.length
          have z2 := V2.length
          have hsz : j1.toArray.size ≠ j2.toArray.size := by
            rw [List.size_toArray, List.size_toArray]
            omega
          refine tst_ref I e (fun hac => ?_) (rcl_eq_len hr.units0 o1 o2 hsz ⟨rfl, G, H, I, Grow.refl e⟩) (rcl_ne_len hr.units0 o1 o2 hsz ⟨rfl, G, H, I, Grow.refl e⟩)
          subst hac
          have ey := rep_inj sp.cf sp.hk e I _ _ _ r1 r2
          cases ey
          exact absurd rfl hl'
      | _ => exact flat h
    | _ => exact flat h
end
end RP
end

section
set_option Elab.async false
set_option linter.all false
set_option maxRecDepth 100000
set_option maxHeartbeats 2000000
/-! x in list, whatever the items' == does. -/
namespace RP
open PySem PySem.SeqAt
open AutoSeq1 (wpAny_loadPart')
open MeetsSeq MeetsSeq2 MeetsSeq3 SeqRoads2
section
variable {prog : Program} {w : World} {A : Around} {E : Value → Shared → Prop} {R : Result → Shared → Prop} {x : Value}
/-- the list before turn i; the turn goes on to the next one, or has found it -/
def One (prog : Program) (w : World) (A : Around) (E : Value → Shared → Prop) (x : Value) (l : Addr) (N : Nat) (I : Nat → Shared → Prop) (J : Shared → Prop) : Prop :=
  ∀ (i : Nat) (s : Shared), I i s → ∃ (xs : Array Value) (n : Nat), s.heap.get? l = some { cls := .type "list", data := .seq xs n } ∧ xs.size = N ∧
    ∀ (h1 : i < xs.size), wpAny (model prog w) A.in1 (eqBool xs[i] x) (fun r s' => (r = false ∧ I (i + 1) s') ∨ (r = true ∧ J s')) E s
theorem loop_in (l : Addr) (N : Nat) (I : Nat → Shared → Prop) (J : Shared → Prop) (hT : One prog w A (fun e s' => R (.error e) s') x l N I J)
    (fin : ∀ s, I N s → R (.ok (.ret (.bool false))) s) (out : ∀ s, J s → R (.ok (.ret (.bool true))) s) (k : Nat) :
    ∀ i : Nat, N - i = k → i ≤ N → ∀ s, I i s → wpAny (model prog w) A.in1 (Builtin.«list.__contains__.loop» ⟨[.ref l, x, rawInt i], []⟩) (Ends' prog w A R) (fun e s' => R (.error e) s') s := by
  induction k with
  | zero =>
    intro i hk hi s hI
    obtain ⟨xs, n, q1, z1, _⟩ := hT i s hI
    have ei : i = N := by omega
    have hR := fin s (ei ▸ hI)
    obtain ⟨hp, g, d, tk, os⟩ := s
    wp_walk using wpAny_loadPart' q1
    have n1 : xs[((i : Nat) : Int).toNat]? = none := by simp; omega
    rw [n1]
    wp_walk
    exact hR
  | succ k ih =>
    intro i hk hi s hI
    obtain ⟨xs, n, q1, z1, turn⟩ := hT i s hI
    have l1 : i < xs.size := by omega
    have ht := turn l1
    obtain ⟨hp, g, d, tk, os⟩ := s
    wp_walk using wpAny_loadPart' q1
    have g1 : xs[((i : Nat) : Int).toNat]? = some xs[i] := by simp [l1]
    have hc : ((i : Int) + 1) = ((i + 1 : Nat) : Int) := by omega
    rw [g1]
    refine wpAny_bind (wpAny_mono ht (fun r s2 h2 => ?_) fun _ _ z => z)
    rcases h2 with ⟨rfl, h2⟩ | ⟨rfl, h2⟩
    · have hrec := ih (i + 1) (by omega) (by omega) s2 h2
      obtain ⟨hp2, g2', d2, tk2, os2⟩ := s2
      wp_walk
      rw [hc]
      refine ⟨plainId_quiet plain_contains_loop _, codeAny_builtin entry_contains_loop ?_⟩
      rw [Around.under_plainId plain_contains_loop _]
      exact hrec
    · have hR := out s2 h2
      obtain ⟨hp2, g2', d2, tk2, os2⟩ := s2
      wp_walk
      exact hR
theorem list_in (l : Addr) (N : Nat) (I : Nat → Shared → Prop) (J : Shared → Prop) (hT : One prog w A (fun e s' => R (.error e) s') x l N I J)
    (fin : ∀ s, I N s → R (.ok (.ret (.bool false))) s) (out : ∀ s, J s → R (.ok (.ret (.bool true))) s) {s : Shared} (h : I 0 s) :
    wpAny (model prog w) A.in1 (Builtin.«list.__contains__» ⟨[.ref l, x], []⟩) (Ends' prog w A R) (fun e s' => R (.error e) s') s := by
  obtain ⟨xs, n, q1, z1, _⟩ := hT _ _ h
  have hrec := loop_in (A := A) (R := R) l N I J hT fin out _ 0 rfl (Nat.zero_le _) s h
  obtain ⟨hp, g, d, tk, os⟩ := s
  wp_walk using wpAny_loadPart' q1
  refine ⟨plainId_quiet plain_contains_loop _, codeAny_builtin entry_contains_loop ?_⟩
  rw [Around.under_plainId plain_contains_loop _]
  exact hrec
theorem has_list {l : Addr} {N : Nat} {s : Shared} {Q : Bool → Shared → Prop} (I : Nat → Shared → Prop) (J : Shared → Prop) (hT : One prog w A E x l N I J)
    (fin : ∀ s, I N s → Q false s) (out : ∀ s, J s → Q true s) (h : I 0 s) : wpAny (model prog w) A (contains (.ref l) x) Q E s := by
  obtain ⟨_, _, q1, _⟩ := hT _ _ h
  refine wpAny_contains_slot ⟨_, q1, rfl⟩ F.slot_list_contains (wpAny_mono (GQ.call_here (Q := fun v s' => ∃ b, v = .bool b ∧ Q b s') F.slot_list_contains ⟨_, q1, rfl⟩ F.entry_list_contains (F.args_list_contains_2 _ _) ?_) (fun v s' hv => ?_) fun _ _ e => e)
  · exact list_in (R := wants (fun v s' => ∃ b, v = .bool b ∧ Q b s') E) l N I J hT (fun s' q => ⟨_, rfl, fin s' q⟩) (fun s' q => ⟨_, rfl, out s' q⟩) h
  · obtain ⟨b, rfl, q⟩ := hv
    exact wpAny_truthy_bool q
end
end RP
end

section
set_option Elab.async false
set_option linter.all false
set_option maxRecDepth 100000
set_option maxHeartbeats 2000000
/-! Comparisons of data. -/
namespace RP
open PySem L2
section
variable {C : CC} {W : WX} {X : Cx} {k : Nat} {Γ : Tab} {F : Hp} {s0 : Sit} {pins : List (Addr × Obj)} {σ : L2.St} {H : Hp} {s : Shared} {Q : VK}
/-- what is looked at stands in the heap as it is now -/
theorem peek_H (A : AtS C F s0 H) {d : D} {v : V} (r : RepD C s0 d v) {x : P} (e : peek d s0.S = some x) : RepP C H x v := by
  rcases peek_ok A r e with h | ⟨xs, a, vs, rfl, rfl, h3, h4⟩
  · exact RepP.mono A.sub x v h
  · simp only [RepP]
    exact ⟨a, vs, rfl, h3, RepPs.mono A.sub xs vs h4⟩
theorem out_bl {b : Bool} {s' : Shared} (A : AtS C F s0 H) (h : WantE C W F (RepD C) σ s0 (.ok (.p (.bl b)) s0.S) Q) (o : Out X pins σ H H s') : EP X pins σ Q (.bool b) s' := by
  obtain ⟨G', H', I', gr⟩ := o
  exact ⟨.bl b, H', I', rfl, want_bl (A.keep (gr.g.trans gr.h)) (by exact h)⟩
theorem isIn_turn {f : P → P → Option Bool} {x : P} : ∀ (ys : List P) (b : Bool), isInL f x ys = some b → ∀ (i : Nat) (y : P), ys[i]? = some y → (∀ (j : Nat), j < i → ∀ y, ys[j]? = some y → f y x = some false) → ∃ c, f y x = some c ∧ (c = true → b = true)
  | y0 :: ys, b, h, 0, y, hy, _ => by
    cases hy
    simp only [isInL] at h
    cases e : f y0 x with
    | none =>
      rw [e] at h
      cases h
    | some c =>
      refine ⟨c, rfl, fun hc => ?_⟩
      subst hc
      rw [e] at h
      exact (Option.some.inj h).symm
  | y0 :: ys, b, h, i + 1, y, hy, hp => by
    have e := hp 0 (Nat.succ_pos i) y0 rfl
    simp only [isInL, e] at h
    exact isIn_turn ys b h i y (by simpa using hy) fun j hj y h2 => hp (j + 1) (by omega) y (by simpa using h2)
  | [], _, _, i, _, hy, _ => by simp at hy
theorem isIn_none {f : P → P → Option Bool} {x : P} : ∀ (ys : List P) (b : Bool), isInL f x ys = some b → (∀ (j : Nat) y, ys[j]? = some y → f y x = some false) → b = false
  | [], b, h, _ => (Option.some.inj h).symm
  | y0 :: ys, b, h, hp => by
    simp only [isInL, hp 0 y0 rfl] at h
    exact isIn_none ys b h fun j y h2 => hp (j + 1) y (by simpa using h2)
theorem in_lst (sp : Spot C W X k) (gm : GoodM C X.prog X.w X.K X.mg X.base k Γ) {x : P} {ys : List P} {b : Bool} (h : isInL (eqN Γ.feq eqDeep) x ys = some b) {v1 v2 : V} {u1 u2 : Value} (hr : Room (k + (eqDeep + 1)) X.A) (I : Inv X pins σ H s)
    (r1 : RepP C H x v1) (r2 : RepP C H (.lst ys) v2) (q1 : RelV v1 u1) (q2 : RelV v2 u2) : wpAny (model X.prog X.w) X.A (contains u2 u1) (fun r s' => r = b ∧ Out X pins σ H H s') X.xe s := by
  simp only [RepP] at r2
  obtain ⟨a, ws, rfl, s2, p2⟩ := r2
  cases q2
  have l2 := RepPs.len ys ws p2
  have one : One X.prog X.w X.A X.xe u1 a ys.length (fun i s' => Out X pins σ H H s' ∧ ∀ (j : Nat), j < i → ∀ y, ys[j]? = some y → eqN Γ.feq eqDeep y x = some false) (fun s' => b = true ∧ Out X pins σ H H s') := by
    intro i s' hI
    obtain ⟨⟨G1, H1, I1, gr⟩, pre⟩ := hI
    obtain ⟨_, j1, n1, V1, o1⟩ := I1.hok a (.lst ws) (gr.h _ _ (gr.g _ _ s2))
    have z1 := V1.length
    refine ⟨j1.toArray, n1, o1, by rw [List.size_toArray]; omega, fun h1 => ?_⟩
    have m1 : i < ws.length := by rw [z1]; simpa using h1
    obtain ⟨t1, g1, rt1⟩ := V1.get (List.getElem?_eq_getElem m1)
    have e1 : j1.toArray[i] = t1 := by
      rw [List.getElem?_eq_getElem (by simpa using h1)] at g1
      simpa using g1
    rw [e1]
    obtain ⟨y, hy, ry⟩ := reps_get ys ws i p2 (List.getElem?_eq_getElem m1)
    obtain ⟨c, hc, hcb⟩ := isIn_turn ys b h i y hy pre
    refine wpAny_mono (eq_ok sp gm eqDeep y x c hc X.A.in1 s' G1 H1 _ v1 t1 u1 (rm hr) rfl I1 gr.h (RepP.mono gr.g y _ ry) (RepP.mono gr.g x v1 r1) rt1 q1).at_ (fun r s2 z => ?_) fun _ _ z => z
    obtain ⟨rfl, z⟩ := z
    cases r with
    | false =>
      refine Or.inl ⟨rfl, out_trans gr z, fun j hj y' h2 => ?_⟩
      by_cases hji : j = i
      · subst hji
        rw [hy] at h2
        cases h2
        exact hc
      · exact pre j (by omega) y' h2
    | true => exact Or.inr ⟨rfl, hcb rfl, out_trans gr z⟩
  refine has_list _ _ one (fun s' hI => ?_) (fun s' hJ => ?_) ⟨⟨H, H, I, Grow.refl (Same.refl _)⟩, fun j hj => absurd hj (Nat.not_lt_zero j)⟩
  · have eb := isIn_none ys b h fun j y h2 => hI.2 j (List.getElem?_eq_some_iff.mp h2).1 y h2
    subst eb
    exact ⟨rfl, hI.1⟩
  · obtain ⟨rfl, o⟩ := hJ
    exact ⟨rfl, o⟩
theorem flat_V : ∀ {x : P} {v : V}, flatP x = true → RepP C H x v → flatV v = true
  | .non, v, _, h => by simp only [RepP] at h; subst h; rfl
  | .bl _, v, _, h => by simp only [RepP] at h; subst h; rfl
  | .int _, v, _, h => by simp only [RepP] at h; subst h; rfl
  | .str _, v, _, h => by simp only [RepP] at h; subst h; rfl
theorem flat_eq : ∀ {x y : P} {v w : V}, flatP x = true → flatP y = true → RepP C H x v → RepP C H y w → eq0 x y = some (eqV v w) := by
  intro x y v w fx fy h1 h2
  cases x <;> cases fx <;> cases y <;> cases fy <;> simp only [RepP] at h1 h2 <;> subst h1 h2 <;> first | rfl | simp [eq0, eqV]
theorem flat_all : ∀ (xs : List P) (vs : List V), xs.all flatP = true → RepPs C H xs vs → vs.all flatV = true
  | [], vs, _, h => by simp only [RepPs] at h; subst h; rfl
  | x :: xs, vs, ha, h => by
    simp only [RepPs] at h
    obtain ⟨v, ws, rfl, h1, h2⟩ := h
    simp only [List.all_cons, Bool.and_eq_true] at ha ⊢
    exact ⟨flat_V ha.1 h1, flat_all xs ws ha.2 h2⟩
theorem flat_in {x : P} {v : V} (fx : flatP x = true) (r : RepP C H x v) : ∀ (xs : List P) (vs : List V), xs.all flatP = true → RepPs C H xs vs → isInL eq0 x xs = some (vs.any fun w => eqV w v)
  | [], vs, _, h => by simp only [RepPs] at h; subst h; rfl
  | y :: xs, vs, ha, h => by
    simp only [RepPs] at h
    obtain ⟨w, ws, rfl, h1, h2⟩ := h
    simp only [List.all_cons, Bool.and_eq_true] at ha
    have e := flat_eq ha.1 fx h1 r
    simp only [isInL, e, List.any_cons]
    cases eqV w v with
    | true => rfl
    | false => simpa using flat_in fx r xs ws ha.2 h2
/-- in, not in -/
theorem in_ok (sp : Spot C W X k) (gm : GoodM C X.prog X.w X.K X.mg X.base k Γ) {x y : P} {b : Bool} (h : Γ.isIn x y = .ok (.bl b)) {v1 v2 : V} {u1 u2 : Value} (hr : Room (k + (eqDeep + 1)) X.A) (I : Inv X pins σ H s)
    (r1 : RepP C H x v1) (r2 : RepP C H y v2) (q1 : RelV v1 u1) (q2 : RelV v2 u2) :
    wpAny (model X.prog X.w) X.A (compareOp .In u1 u2) (fun r s' => r = .bool b ∧ Out X pins σ H H s') X.xe s ∧ wpAny (model X.prog X.w) X.A (compareOp .NotIn u1 u2) (fun r s' => r = .bool (!b) ∧ Out X pins σ H H s') X.xe s := by
  cases y with
  | lst ys =>
    simp only [Tab.isIn] at h
    split at h
    · rename_i c hc
      cases h
      have g := in_lst sp gm hc hr I r1 r2 q1 q2
      constructor
      · show wpAny _ _ (contains u2 u1 >>= fun r => pure (Value.bool r)) _ _ _
        refine wpAny_bind (wpAny_mono g (fun r s' z => ?_) fun _ _ z => z)
        obtain ⟨rfl, z⟩ := z
        exact wpAny_pure ⟨rfl, z⟩
      · show wpAny _ _ (contains u2 u1 >>= fun r => pure (Value.bool (!r))) _ _ _
        refine wpAny_bind (wpAny_mono g (fun r s' z => ?_) fun _ _ z => z)
        obtain ⟨rfl, z⟩ := z
        exact wpAny_pure ⟨rfl, z⟩
    · cases h
  | tup ys =>
    simp only [Tab.isIn] at h
    split at h
    · rename_i fl
      simp only [Bool.and_eq_true] at fl
      have r2' := r2
      simp only [RepP] at r2'
      obtain ⟨a, ws, rfl, s2, p2⟩ := r2'
      cases q2
      rw [flat_in fl.1 r1 ys ws fl.2 p2] at h
      cases h
      rw [sp.hk] at s2
      obtain ⟨its, V1, T1, _⟩ := I.tuple s2
      have fv := flat_all ys ws fl.2 p2
      have fx := flat_V fl.1 r1
      have key : ∀ y' ∈ its.toArray, SeqAt.EqAt X.A.in1 s y' u1 ((absV y').elim false fun w => eqV w v1) := by
        intro y' hy
        have hy' : y' ∈ its := by simpa using hy
        obtain ⟨j, hj⟩ := List.getElem?_of_mem hy'
        have hjl : j < ws.length := by
          rw [V1.length]
          exact (List.getElem?_eq_some_iff.mp hj).1
        obtain ⟨t, ht, rt⟩ := V1.get (List.getElem?_eq_getElem hjl)
        rw [hj] at ht
        cases ht
        rw [rt.abs]
        exact eqAt_V rt q1 (List.all_eq_true.mp fv _ (List.getElem_mem hjl)) fx
      have any_eq : ∀ (ws : List V) (its : List Value), Vals ws its → its.any (fun y' => (absV y').elim false fun w => eqV w v1) = ws.any fun w => eqV w v1 := by
        intro ws its V1
        induction V1 with
        | nil => rfl
        | cons r _ ih =>
          rw [List.any_cons, List.any_cons, ih, r.abs]
          rfl
      have z : its.toArray.any (fun y' => (absV y').elim false fun w => eqV w v1) = ws.any fun w => eqV w v1 := by
        rw [List.any_toArray]
        exact any_eq ws its V1
      constructor
      · refine SeqAt.in_tupleAt (fun y' => (absV y').elim false fun w => eqV w v1) T1 key ?_
        rw [z]
        exact ⟨rfl, H, H, I, Grow.refl (Same.refl _)⟩
      · refine SeqAt.notIn_tupleAt (fun y' => (absV y').elim false fun w => eqV w v1) T1 key ?_
        rw [z]
        exact ⟨rfl, H, H, I, Grow.refl (Same.refl _)⟩
    · cases h
  | str z =>
    cases x with
    | str c =>
      simp only [Tab.isIn] at h
      split at h
      · rename_i d hd
        cases h
        simp only [RepP] at r1 r2
        subst r1 r2
        obtain ⟨t1, rfl⟩ := q1
        obtain ⟨t2, rfl⟩ := q2
        have ec : c = ⟨#[d]⟩ := by
          obtain ⟨⟨l⟩⟩ := c
          have hd' : l = [d] := hd
          rw [hd']
        subst ec
        constructor
        · exact PyProof.Rows.in_str ⟨congrArg Value.bool (PySem.StrLaws.found_one z d), H, H, I, Grow.refl (Same.refl _)⟩
        · exact PyProof.Rows.notIn_str ⟨congrArg Value.bool (congrArg Bool.not (PySem.StrLaws.found_one z d)), H, H, I, Grow.refl (Same.refl _)⟩
      · cases h
    | _ => cases h
  | _ => cases h
theorem isNon_ok {x : P} {v : V} (r : RepP C H x v) : decide (v = .non) = isNon x := by
  cases x <;> simp only [RepP] at r
  · subst r; rfl
  · subst r; rfl
  · subst r; rfl
  · subst r; rfl
  · obtain ⟨a, _, rfl, _⟩ := r; rfl
  · obtain ⟨a, _, rfl, _⟩ := r; rfl
  · obtain ⟨_, a, _, _, rfl, _⟩ := r; rfl
  · obtain ⟨a, rfl, _⟩ := r; rfl
  · obtain ⟨a, _, rfl, _⟩ := r; rfl
theorem isN_of {y : P} {v : V} (r : RepP C H y v) (h : isNon y = true) : v = .non := by
  have z := isNon_ok r
  rw [h] at z
  exact of_decide_eq_true z
theorem lt_own (sp : Spot C W X k) (gm : GoodM C X.prog X.w X.K X.mg X.base k Γ) {op : CmpOp} {c m : Nat} {xs : List P} {g : PFn} {y : P} {x1 y1 : V} {v u : Value} (hm : (cmpInfo op).2.1 = C.NM m) (hop : compareOp op v u = richCompare op v u) (hg : Γ.meth c m = some g)
    (I : Inv X pins σ H s) (A : AtS C F s0 H) (r1 : RepP C s0.G (.ob c xs) x1) (r2 : RepP C s0.G y y1) (rx : RelV x1 v) (ry : RelV y1 u)
    (h : WantE C W F (RepD C) σ s0 ((g [.ob c xs, y]).lift s0.S) Q) : wpAny (model X.prog X.w) X.A (compareOp op v u) (EP X pins σ Q) X.xe s := by
  rw [hop]
  obtain ⟨a, dx, od, rfl, rfl, hc, J⟩ := inst_of I A r1 rx
  obtain ⟨f, M, _, cal⟩ := gm.mts c m g hg
  obtain ⟨mm, hF⟩ := I.fr
  have nf := notFirst_of sp.cf hc r2
  rw [sp.hk] at nf
  have ma := M.at_
  rw [← hm] at ma
  exact PySem.W.cmp_K (op := op) sp.hr.units0 hF I.ok.mod.kin J (looks_ty sp.hk A.sub I r2 ry) nf ma M.fn
    (wpAny_mono (cal_run sp cal (sp.hr.mono (Nat.le_add_right _ _)) rfl I A (reps2 r1 r2) (.cons rfl (.cons ry .nil)) h) (fun _ _ z => ep_back z) fun _ _ z => z)
theorem cmp_ok (sp : Spot C W X k) (gm : GoodM C X.prog X.w X.K X.mg X.base k Γ) (hr : Room (k + (eqDeep + 1)) X.A) {op : CmpOp} {d1 d2 : D} {p1 p2 : P} {x y : V} {v u : Value} (I : Inv X pins σ H s) (A : AtS C F s0 H) (r1 : RepD C s0 d1 x) (r2 : RepD C s0 d2 y)
    (e1 : peek d1 s0.S = some p1) (e2 : peek d2 s0.S = some p2) (rx : RelV x v) (ry : RelV y u) (h : WantE C W F (RepD C) σ s0 ((Γ.cmp op p1 p2).lift s0.S) Q) : wpAny (model X.prog X.w) X.A (compareOp op v u) (EP X pins σ Q) X.xe s := by
  have k1 := peek_H A r1 e1
  have k2 := peek_H A r2 e2
  have fin : ∀ {b : Bool} {t : Sem Value}, WantE C W F (RepD C) σ s0 (.ok (.p (.bl b)) s0.S) Q → wpAny (model X.prog X.w) X.A t (fun r s' => r = .bool b ∧ Out X pins σ H H s') X.xe s → wpAny (model X.prog X.w) X.A t (EP X pins σ Q) X.xe s := fun hw ht =>
    wpAny_mono ht (fun r s' z => by
      obtain ⟨rfl, z⟩ := z
      exact out_bl A hw z) fun _ _ z => z
  have tst : ∀ {b : Bool}, eqN Γ.feq eqDeep p1 p2 = some b → Tst X pins σ H H X.A s v u b := fun z => eq_ok sp gm eqDeep p1 p2 _ z X.A s H H x y v u sp.hr rfl I (Same.refl _) k1 k2 rx ry
  cases op with
  | Eq =>
    simp only [Tab.cmp, Tab.eq] at h
    cases hb : eqN Γ.feq eqDeep p1 p2 with
    | none =>
      rw [hb] at h
      exact h.elim
    | some b =>
      rw [hb] at h
      exact fin h (tst hb).eq
  | NotEq =>
    simp only [Tab.cmp, Tab.eq] at h
    cases hb : eqN Γ.feq eqDeep p1 p2 with
    | none =>
      rw [hb] at h
      exact h.elim
    | some b =>
      rw [hb] at h
      exact fin h (tst hb).ne
  | Is =>
    simp only [Tab.cmp, isW] at h
    cases hn : isNon p2 with
    | false =>
      rw [hn] at h
      simp only [Bool.false_eq_true, if_false] at h
      cases p1 with
      | bl b1 =>
        cases p2 with
        | bl b2 =>
          simp only [RepP] at k1 k2
          subst k1 k2
          cases rx
          cases ry
          exact fin h (PyProof.Rows.is_bool ⟨by cases b1 <;> cases b2 <;> rfl, H, H, I, Grow.refl (Same.refl _)⟩)
        | _ => exact h.elim
      | _ => exact h.elim
    | true =>
      rw [hn] at h
      simp only [if_true] at h
      have hy := isN_of k2 hn
      refine op_isN pins s σ H x y v u Q I rx ry ⟨hy, ?_⟩
      rw [isNon_ok k1]
      exact want_bl A h
  | IsNot =>
    simp only [Tab.cmp, isW] at h
    cases hn : isNon p2 with
    | false =>
      rw [hn] at h
      simp only [Bool.false_eq_true, if_false] at h
      cases p1 with
      | bl b1 =>
        cases p2 with
        | bl b2 =>
          simp only [RepP] at k1 k2
          subst k1 k2
          cases rx
          cases ry
          exact fin h (PyProof.Rows.isnot_bool ⟨by cases b1 <;> cases b2 <;> rfl, H, H, I, Grow.refl (Same.refl _)⟩)
        | _ => exact h.elim
      | _ => exact h.elim
    | true =>
      rw [hn] at h
      simp only [if_true] at h
      have hy := isN_of k2 hn
      refine op_notN pins s σ H x y v u Q I rx ry ⟨hy, ?_⟩
      rw [isNon_ok k1]
      exact want_bl A h
  | In =>
    simp only [Tab.cmp] at h
    cases hb : Γ.isIn p1 p2 with
    | ok r =>
      rw [hb] at h
      cases r with
      | bl b => exact fin h (in_ok sp gm hb hr I k1 k2 rx ry).1
      | _ => unfold Tab.isIn at hb; (repeat' split at hb) <;> cases hb
    | exc c z => unfold Tab.isIn at hb; (repeat' split at hb) <;> cases hb
    | stuck =>
      rw [hb] at h
      exact h.elim
  | NotIn =>
    simp only [Tab.cmp] at h
    cases hb : Γ.isIn p1 p2 with
    | ok r =>
      rw [hb] at h
      cases r with
      | bl b => exact fin h (in_ok sp gm hb hr I k1 k2 rx ry).2
      | _ => exact h.elim
    | exc c z => unfold Tab.isIn at hb; (repeat' split at hb) <;> cases hb
    | stuck =>
      rw [hb] at h
      exact h.elim
  | Lt =>
    cases p1 with
    | int i =>
      cases p2 with
      | int j =>
        simp only [RepP] at k1 k2
        subst k1 k2
        exact op_lt pins s σ H _ _ v u Q I rx ry ⟨i, j, rfl, rfl, want_bl A h⟩
      | _ => exact h.elim
    | ob c xs =>
      simp only [Tab.cmp] at h
      cases hg : Γ.meth c mLt with
      | none =>
        rw [hg] at h
        exact h.elim
      | some g =>
        rw [hg] at h
        cases p2 with
        | lst ys => exact h.elim
        | _ => exact lt_own sp gm sp.nm.lt.symm rfl hg I A (peek_pure A r1 e1 (fun _ z => nomatch z)) (peek_pure A r2 e2 (fun _ z => nomatch z)) rx ry h
    | _ => exact h.elim
  | LtE =>
    cases p1 with
    | int i =>
      cases p2 with
      | int j =>
        simp only [RepP] at k1 k2
        subst k1 k2
        exact op_le pins s σ H _ _ v u Q I rx ry ⟨i, j, rfl, rfl, want_bl A h⟩
      | _ => exact h.elim
    | ob c xs =>
      simp only [Tab.cmp] at h
      cases hg : Γ.meth c mLe with
      | none =>
        rw [hg] at h
        exact h.elim
      | some g =>
        rw [hg] at h
        cases p2 with
        | lst ys => exact h.elim
        | _ => exact lt_own sp gm sp.nm.le.symm rfl hg I A (peek_pure A r1 e1 (fun _ z => nomatch z)) (peek_pure A r2 e2 (fun _ z => nomatch z)) rx ry h
    | _ => exact h.elim
  | Gt =>
    cases p1 with
    | int i =>
      cases p2 with
      | int j =>
        simp only [RepP] at k1 k2
        subst k1 k2
        exact op_gt pins s σ H _ _ v u Q I rx ry ⟨i, j, rfl, rfl, want_bl A h⟩
      | _ => exact h.elim
    | _ => exact h.elim
  | GtE =>
    cases p1 with
    | int i =>
      cases p2 with
      | int j =>
        simp only [RepP] at k1 k2
        subst k1 k2
        exact op_ge pins s σ H _ _ v u Q I rx ry ⟨i, j, rfl, rfl, want_bl A h⟩
      | _ => exact h.elim
    | _ => exact h.elim
theorem neg_ok (sp : Spot C W X k) (gm : GoodM C X.prog X.w X.K X.mg X.base k Γ) {p1 : P} {x : V} {v : Value} (I : Inv X pins σ H s) (A : AtS C F s0 H) (r1 : RepP C s0.G p1 x) (rx : RelV x v) (h : WantE C W F (RepD C) σ s0 ((Γ.neg p1).lift s0.S) Q) :
    wpAny (model X.prog X.w) X.A (unaryOp .USub v) (EP X pins σ Q) X.xe s := by
  cases p1 with
  | int i =>
    simp only [RepP] at r1
    subst r1
    exact un_neg pins s σ H _ v Q I rx ⟨i, rfl, want_int A h⟩
  | ob c xs =>
    simp only [Tab.neg] at h
    cases hg : Γ.meth c mNeg with
    | none =>
      rw [hg] at h
      exact h.elim
    | some g =>
      rw [hg] at h
      obtain ⟨a, dx, od, rfl, rfl, hc, J⟩ := inst_of I A r1 rx
      obtain ⟨f, M, _, cal⟩ := gm.mts c mNeg g hg
      obtain ⟨mm, hF⟩ := I.fr
      have ma := M.at_
      rw [sp.nm.neg] at ma
      exact PySem.W.ksp_neg hF I.ok.mod.kin J ma M.fn (cal_run sp cal (sp.hr.mono (Nat.le_add_right _ _)) rfl I A (reps1 r1) (.cons rfl .nil) h)
  | _ => exact h.elim
end
end RP
end

section
set_option Elab.async false
set_option linter.all false
set_option maxRecDepth 100000
set_option maxHeartbeats 2000000
/-! Expressions. -/
namespace RP
open PySem L2
/-! ### shapes -/
def notStar : Expr → Bool
  | .Starred _ _ => false
  | _ => true
def plainBase : Expr → Bool
  | .Call (.Name _ _) [] [] _ => false
  | _ => true
theorem star_cons {e : Expr} {es : List Expr} {env : Env} (h : notStar e = true) : starEach (e :: es) env = (false, eval e env) :: starEach es env := by
  cases e <;> first | rfl | cases h
theorem star_none {pos : Pos} {env : Env} : ∀ {es : List Expr}, es.all notStar = true → (backTo pos (starEach es env)).any (·.1) = false
  | [], _ => rfl
  | e :: es, h => by
    simp only [List.all_cons, Bool.and_eq_true] at h
    rw [star_cons h.1]
    have z := star_none (pos := pos) (env := env) h.2
    simpa [backTo] using z
theorem base_plain {e : Expr} {f : Str} {env : Env} {w : Sem Value} (h : plainBase e = true) : attributeBase e f env w = w := by
  cases e with
  | Call g args kws p =>
    cases g with
    | Name id q =>
      cases args with
      | nil =>
        cases kws with
        | nil => cases h
        | cons _ _ => rfl
      | cons _ _ => rfl
    | _ => rfl
  | _ => rfl
def plainTest : Expr → Bool
  | .UnaryOp .Not _ _ => false
  | .BoolOp _ _ _ => false
  | .IfExp _ _ _ _ => false
  | .Compare _ _ _ _ => false
  | _ => true
theorem test_plain {e : Expr} {env : Env} {whole : Sem Value} (h : plainTest e = true) : isTrue e env whole = (do let v ← whole; standAt e.pos; holding [v] (truthy v)) := by
  cases e with
  | UnaryOp op a p => cases op <;> first | rfl | cases h
  | BoolOp _ _ _ => cases h
  | IfExp _ _ _ _ => cases h
  | Compare _ _ _ _ => cases h
  | _ => rfl
def notSet : Expr → Bool
  | .Set _ _ _ => false
  | _ => true
theorem marks_none {op : CmpOp} {e : Expr} (h : notSet e = true) : behindInMarks op e = false := by
  cases e <;> first | rfl | cases h
def notSlice : Expr → Bool
  | .Slice _ _ _ _ => false
  | _ => true
theorem ix_plain {b : Expr} (h : notSlice b = true) : PlainIxT b := by
  intro o i
  cases b <;> first | rfl | cases h
section
variable {C : CC} {W : WX} {X : Cx} {k : Nat} {Γ : Tab} {F : Hp} {a b c : Expr} {fa fb fc : DEnv → Sto → RE D} {pos p : Pos}
/-! ### names and constants -/
theorem x_var {i : Nat} {x : Str} (hN : X.N[i]? = some x) (hv : Vis X.env.scope x) (hd : (x == ("__debug__" : Str)) = false) (hc : (x == ("__classdict__" : Str)) = false) (FT : FldT) : PE X (.Name x pos) (tE C W F (evE Γ FT (.var i))) :=
  PE.imp (pe_var hN hv hd hc) fun σ H Q ⟨δ, s, A, R, h⟩ => by
    simp only [evE] at h
    split at h
    · rename_i d hd
      obtain ⟨v, hv, r⟩ := R.2 i d hd
      exact ⟨v, hv, h.ok A r⟩
    · exact h.elim
theorem x_non {j : Nat} (FT : FldT) : PE X (.Constant .none j pos) (tE C W F (evE Γ FT .non)) := PE.imp pe_non fun σ H Q ⟨δ, s, A, R, h⟩ => h.ok A (by simp only [RepD, RepP])
theorem x_bl {b : Bool} {j : Nat} (FT : FldT) : PE X (.Constant (.bool b) j pos) (tE C W F (evE Γ FT (.bl b))) := PE.imp pe_bl fun σ H Q ⟨δ, s, A, R, h⟩ => h.ok A (by simp only [RepD, RepP])
theorem x_int {i : Int} {j : Nat} (FT : FldT) : PE X (.Constant (.int i) j pos) (tE C W F (evE Γ FT (.int i))) := PE.imp pe_int fun σ H Q ⟨δ, s, A, R, h⟩ => h.ok A (by simp only [RepD, RepP])
theorem x_str {x : Str} {j : Nat} (FT : FldT) : PE X (.Constant (.str x) j pos) (tE C W F (evE Γ FT (.str x))) := PE.imp pe_str fun σ H Q ⟨δ, s, A, R, h⟩ => h.ok A (by simp only [RepD, RepP])
/-! ### two operands -/
theorem two_of {g : D → D → Sto → RE D} {f : Value → Value → Sem Value} (ha : PE X a (tE C W F fa)) (hb : PE X b (tE C W F fb))
    (hf : ∀ (pins : List (Addr × Obj)) (s : Shared) (σ : L2.St) (H : Hp) (s0 : Sit) (d1 d2 : D) (x y : V) (v u : Value) (Q : VK), Inv X pins σ H s → AtS C F s0 H → RepD C s0 d1 x → RepD C s0 d2 y → RelV x v → RelV y u →
      WantE C W F (RepD C) σ s0 (g d1 d2 s0.S) Q → wpAny (model X.prog X.w) X.A (f v u) (EP X pins σ Q) X.xe s)
    {pins : List (Addr × Obj)} {s : Shared} {σ : L2.St} {H : Hp} {Q : VK} (I : Inv X pins σ H s) (h : tE C W F (fun δ S => (fa δ S).bind fun d1 S1 => (fb δ S1).bind fun d2 S2 => g d1 d2 S2) σ H Q) :
    wpAny (model X.prog X.w) X.A (eval a X.env) (fun v s1 => wpAny (model X.prog X.w) X.A (eval b X.env) (fun u s2 => wpAny (model X.prog X.w) X.A (f v u) (EP X pins σ Q) X.xe s2) X.xe s1) X.xe s := by
  obtain ⟨δ, s0, A, R, hw⟩ := h
  refine thn (ha.run pins s σ H _ I (tE.then A R hw)) fun v s1 ⟨x, H1, I1, rx, d1, t1, e1, A1, R1, r1, w1⟩ => ?_
  refine thn (hb.run pins s1 σ H1 _ I1 (tE.then A1 R1 w1)) fun u s2 ⟨y, H2, I2, ry, d2, t2, e2, A2, R2, r2, w2⟩ => ?_
  exact hf pins s2 σ H2 t2 d1 d2 x y v u Q I2 A2 (RepD.mono e2 d1 x r1) r2 rx ry w2
theorem x_bin (sp : Spot C W X k) (gm : GoodM C X.prog X.w X.K X.mg X.base k Γ) {op : Operator} (ha : PE X a (tE C W F fa)) (hb : PE X b (tE C W F fb)) :
    PE X (.BinOp a op b pos) (tE C W F fun δ S => (fa δ S).bind fun d1 S1 => (fb δ S1).bind fun d2 S2 => match peek d1 S2, peek d2 S2 with
      | some x, some y => (Γ.bin op x y).lift S2
      | _, _ => .stuck) := by
  refine ⟨fun pins s σ H Q I h => wpAny_BinOp (two_of ha hb (fun pins s σ H s0 d1 d2 x y v u Q I A r1 r2 rx ry hw => ?_) I h)⟩
  cases e1 : peek d1 s0.S with
  | none =>
    rw [e1] at hw
    exact hw.elim
  | some p1 =>
    cases e2 : peek d2 s0.S with
    | none =>
      rw [e1, e2] at hw
      exact hw.elim
    | some p2 =>
      rw [e1, e2] at hw
      exact bin_ok sp gm I A r1 r2 e1 e2 rx ry hw
/-- the comparison of two values, as the evaluator tells it -/
def cmpD (Γ : Tab) (op : CmpOp) (d1 d2 : D) (S : Sto) : RE D := match peek d1 S, peek d2 S with
  | some x, some y => (Γ.cmp op x y).lift S
  | _, _ => .stuck
theorem cmpD_ok (sp : Spot C W X k) (gm : GoodM C X.prog X.w X.K X.mg X.base k Γ) (hr : Room (k + (eqDeep + 1)) X.A) {op : CmpOp} (pins : List (Addr × Obj)) (s : Shared) (σ : L2.St) (H : Hp) (s0 : Sit) (d1 d2 : D) (x y : V) (v u : Value) (Q : VK) (I : Inv X pins σ H s) (A : AtS C F s0 H)
    (r1 : RepD C s0 d1 x) (r2 : RepD C s0 d2 y) (rx : RelV x v) (ry : RelV y u) (hw : WantE C W F (RepD C) σ s0 (cmpD Γ op d1 d2 s0.S) Q) : wpAny (model X.prog X.w) X.A (compareOp op v u) (EP X pins σ Q) X.xe s := by
  unfold cmpD at hw
  cases e1 : peek d1 s0.S with
  | none =>
    rw [e1] at hw
    exact hw.elim
  | some p1 =>
    cases e2 : peek d2 s0.S with
    | none =>
      rw [e1, e2] at hw
      exact hw.elim
    | some p2 =>
      rw [e1, e2] at hw
      exact cmp_ok sp gm hr I A r1 r2 e1 e2 rx ry hw
theorem x_cmp (sp : Spot C W X k) (gm : GoodM C X.prog X.w X.K X.mg X.base k Γ) (hr : Room (k + (eqDeep + 1)) X.A) {op : CmpOp} (ha : PE X a (tE C W F fa)) (hb : PE X b (tE C W F fb)) (hm : notSet b = true) :
    PE X (.Compare a [op] [b] pos) (tE C W F fun δ S => (fa δ S).bind fun d1 S1 => (fb δ S1).bind fun d2 S2 => cmpD Γ op d1 d2 S2) :=
  ⟨fun pins s σ H Q I h => wpAny_Compare1 (two_of ha hb (cmpD_ok sp gm hr) I h) (marks_none hm)⟩
/-- a test's outcome out of a value's -/
theorem tE_of_tT {f : DEnv → Sto → RE D} {σ : L2.St} {H : Hp} {Q : Bool → Hp → Prop} (h : tT C W F f σ H Q) : tE C W F f σ H fun v H' => ∃ b, v = .bl b ∧ Q b H' := by
  obtain ⟨δ, s, A, R, hw⟩ := h
  refine ⟨δ, s, A, R, Wt.imp hw fun d s' H' _ ex A' hk v r => ?_⟩
  cases d with
  | p x =>
    cases x with
    | bl b =>
      simp only [RepD, RepP] at r
      exact ⟨b, r, hk⟩
    | _ => exact hk.elim
  | _ => exact hk.elim
theorem t_cmp (sp : Spot C W X k) (gm : GoodM C X.prog X.w X.K X.mg X.base k Γ) (hr : Room (k + (eqDeep + 1)) X.A) {op : CmpOp} (ha : PE X a (tE C W F fa)) (hb : PE X b (tE C W F fb)) (hm : notSet b = true) :
    PT X (.Compare a [op] [b] pos) (tT C W F fun δ S => (fa δ S).bind fun d1 S1 => (fb δ S1).bind fun d2 S2 => cmpD Γ op d1 d2 S2) := by
  refine ⟨fun pins s σ H Q I h => wpAny_isTrue_Compare1 (wpAny_mono (two_of ha hb (cmpD_ok sp gm hr) I (tE_of_tT h)) (fun v s1 h1 => wpAny_mono h1 (fun u s2 h2 => wpAny_mono h2 (fun c s3 h3 => ?_) fun _ _ z => z) fun _ _ z => z) fun _ _ z => z) (marks_none hm)⟩
  obtain ⟨z, H3, I3, r3, d, e, q3⟩ := h3
  subst e
  cases r3
  exact wpAny_truthy_bool ⟨H3, I3, q3⟩
theorem t_val {f : DEnv → Sto → RE D} (h : PE X a (tE C W F f)) (he : plainTest a = true) : PT X a (tT C W F f) :=
  PT.imp (pt_val h fun _ => test_plain he) fun σ H Q hq => by
    have z := tE_of_tT hq
    exact z
theorem want_T {s0 : Sit} {σ : L2.St} {H : Hp} {b : Bool} {Q : Bool → Hp → Prop} (A : AtS C F s0 H) (h : WantT C W F σ s0 (.ok (.p (.bl b)) s0.S) Q) : Q b H := h s0 H rfl (ExtS.refl s0) A
/-! ### and, or, not, a if t else b -/
theorem x_not (ha : PE X a (tE C W F fa)) : PE X (.UnaryOp .Not a pos) (tE C W F fun δ S => (fa δ S).bind fun d S1 => match d with
      | .p (.bl b) => .ok (.p (.bl (!b))) S1
      | _ => .stuck) :=
  PE.imp (pe_not ha) fun σ H Q ⟨δ, s, A, R, hw⟩ => ⟨δ, s, A, R, Wt.imp (Wt.bind hw) fun d s' H' _ ex A' hk v r => by
    cases d with
    | p x =>
      cases x with
      | bl b =>
        simp only [RepD, RepP] at r
        exact ⟨b, r, want_bl A' hk⟩
      | _ => exact hk.elim
    | _ => exact hk.elim⟩
theorem t_not (ha : PT X a (tT C W F fa)) : PT X (.UnaryOp .Not a pos) (tT C W F fun δ S => (fa δ S).bind fun d S1 => match d with
      | .p (.bl b) => .ok (.p (.bl (!b))) S1
      | _ => .stuck) :=
  PT.imp (pt_not ha) fun σ H Q ⟨δ, s, A, R, hw⟩ => ⟨δ, s, A, R, Wt.imp (Wt.bind hw) fun d s' H' _ ex A' hk => by
    cases d with
    | p x =>
      cases x with
      | bl b => exact want_T A' hk
      | _ => exact hk.elim
    | _ => exact hk.elim⟩
def andD (fb : DEnv → Sto → RE D) (δ : DEnv) (d : D) (S : Sto) : RE D := match d with
  | .p (.bl true) => fb δ S
  | .p (.bl false) => .ok (.p (.bl false)) S
  | _ => .stuck
def orD (fb : DEnv → Sto → RE D) (δ : DEnv) (d : D) (S : Sto) : RE D := match d with
  | .p (.bl true) => .ok (.p (.bl true)) S
  | .p (.bl false) => fb δ S
  | _ => .stuck
def iteD (fa fb : DEnv → Sto → RE D) (δ : DEnv) (d : D) (S : Sto) : RE D := match d with
  | .p (.bl true) => fa δ S
  | .p (.bl false) => fb δ S
  | _ => .stuck
theorem x_and {rest : List Expr} (ha : PE X a (tE C W F fa)) (hb : PE X (.BoolOp .And (b :: rest) pos) (tE C W F fb)) : PE X (.BoolOp .And (a :: b :: rest) pos) (tE C W F fun δ S => (fa δ S).bind (andD fb δ)) :=
  PE.imp (pe_and ha hb) fun σ H Q ⟨δ, s, A, R, hw⟩ => ⟨δ, s, A, R, Wt.imp (Wt.bind hw) fun d s' H' _ ex A' hk v r => by
    cases d with
    | p x =>
      cases x with
      | bl b =>
        simp only [RepD, RepP] at r
        refine ⟨b, r, ?_⟩
        cases b with
        | true => exact iteT ⟨δ, s', A', R.mono ex, hk⟩
        | false => exact iteF (want_bl A' hk)
      | _ => exact hk.elim
    | _ => exact hk.elim⟩
theorem x_or {rest : List Expr} (ha : PE X a (tE C W F fa)) (hb : PE X (.BoolOp .Or (b :: rest) pos) (tE C W F fb)) : PE X (.BoolOp .Or (a :: b :: rest) pos) (tE C W F fun δ S => (fa δ S).bind (orD fb δ)) :=
  PE.imp (pe_or ha hb) fun σ H Q ⟨δ, s, A, R, hw⟩ => ⟨δ, s, A, R, Wt.imp (Wt.bind hw) fun d s' H' _ ex A' hk v r => by
    cases d with
    | p x =>
      cases x with
      | bl b =>
        simp only [RepD, RepP] at r
        refine ⟨b, r, ?_⟩
        cases b with
        | true => exact iteT (want_bl A' hk)
        | false => exact iteF ⟨δ, s', A', R.mono ex, hk⟩
      | _ => exact hk.elim
    | _ => exact hk.elim⟩
theorem w_and {rest : List Expr} (ha : PT X a (tT C W F fa)) (hb : PW X (.BoolOp .And (b :: rest) pos) (tT C W F fb)) : PW X (.BoolOp .And (a :: b :: rest) pos) (tT C W F fun δ S => (fa δ S).bind (andD fb δ)) :=
  PW.imp (pw_and ha hb) fun σ H Q ⟨δ, s, A, R, hw⟩ => ⟨δ, s, A, R, Wt.imp (Wt.bind hw) fun d s' H' _ ex A' hk => by
    cases d with
    | p x =>
      cases x with
      | bl b =>
        cases b with
        | true => exact iteT ⟨δ, s', A', R.mono ex, hk⟩
        | false => exact iteF (want_T A' hk)
      | _ => exact hk.elim
    | _ => exact hk.elim⟩
theorem w_or {rest : List Expr} (ha : PT X a (tT C W F fa)) (hb : PW X (.BoolOp .Or (b :: rest) pos) (tT C W F fb)) : PW X (.BoolOp .Or (a :: b :: rest) pos) (tT C W F fun δ S => (fa δ S).bind (orD fb δ)) :=
  PW.imp (pw_or ha hb) fun σ H Q ⟨δ, s, A, R, hw⟩ => ⟨δ, s, A, R, Wt.imp (Wt.bind hw) fun d s' H' _ ex A' hk => by
    cases d with
    | p x =>
      cases x with
      | bl b =>
        cases b with
        | true => exact iteT (want_T A' hk)
        | false => exact iteF ⟨δ, s', A', R.mono ex, hk⟩
      | _ => exact hk.elim
    | _ => exact hk.elim⟩
theorem x_ite (hc : PT X c (tT C W F fc)) (ha : PE X a (tE C W F fa)) (hb : PE X b (tE C W F fb)) : PE X (.IfExp c a b pos) (tE C W F fun δ S => (fc δ S).bind (iteD fa fb δ)) :=
  PE.imp (pe_ifExp hc ha hb) fun σ H Q ⟨δ, s, A, R, hw⟩ => ⟨δ, s, A, R, Wt.imp (Wt.bind hw) fun d s' H' _ ex A' hk => by
    cases d with
    | p x =>
      cases x with
      | bl b =>
        cases b with
        | true => exact iteT ⟨δ, s', A', R.mono ex, hk⟩
        | false => exact iteF ⟨δ, s', A', R.mono ex, hk⟩
      | _ => exact hk.elim
    | _ => exact hk.elim⟩
theorem t_ite (hc : PT X c (tT C W F fc)) (ha : PT X a (tT C W F fa)) (hb : PT X b (tT C W F fb)) : PT X (.IfExp c a b pos) (tT C W F fun δ S => (fc δ S).bind (iteD fa fb δ)) := by
  refine ⟨fun pins s σ H Q I h => ?_⟩
  obtain ⟨δ, s0, A, R, hw⟩ := h
  show wpAny _ _ (isTrue c X.env (eval c X.env) >>= fun r => if r then isTrue a X.env (eval a X.env) else isTrue b X.env (eval b X.env)) _ _ _
  refine wpAny_bind (thn (hc.run pins s σ H (fun r H1 => ∃ s1, ExtS s0 s1 ∧ AtS C F s1 H1 ∧ WantT C W F σ s1 (iteD fa fb δ (.p (.bl r)) s1.S) Q) I ⟨δ, s0, A, R, Wt.imp (Wt.bind hw) fun d s' H' _ ex A' hk => ?_⟩) fun r s1 ⟨H1, I1, t1, e1, A1, w1⟩ => ?_)
  · cases d with
    | p x =>
      cases x with
      | bl b => exact ⟨s', ex, A', hk⟩
      | _ => exact hk.elim
    | _ => exact hk.elim
  · cases r with
    | true =>
      rw [if_pos rfl]
      exact ha.run pins s1 σ H1 Q I1 ⟨δ, t1, A1, R.mono e1, w1⟩
    | false =>
      rw [if_neg Bool.false_ne_true]
      exact hb.run pins s1 σ H1 Q I1 ⟨δ, t1, A1, R.mono e1, w1⟩
theorem x_neg (sp : Spot C W X k) (gm : GoodM C X.prog X.w X.K X.mg X.base k Γ) (ha : PE X a (tE C W F fa)) : PE X (.UnaryOp .USub a pos) (tE C W F fun δ S => (fa δ S).bind fun d S1 => match d with
      | .p x => (Γ.neg x).lift S1
      | _ => .stuck) := by
  refine ⟨fun pins s σ H Q I h => ?_⟩
  obtain ⟨δ, s0, A, R, hw⟩ := h
  refine PyProof.Rows.UnaryOp_ (thn (ha.run pins s σ H _ I (tE.then A R hw)) fun v s1 ⟨x, H1, I1, rx, d, t1, e1, A1, R1, r1, w1⟩ => ?_)
  cases d with
  | p z => exact neg_ok sp gm I1 A1 r1 rx w1
  | _ => exact w1.elim
end
end RP
end

section
set_option Elab.async false
set_option linter.all false
set_option maxRecDepth 100000
set_option maxHeartbeats 2000000
/-! Arguments, displays, items, fields, calls. -/
namespace RP
open PySem L2
section
variable {C : CC} {W : WX} {X : Cx} {k : Nat} {Γ : Tab} {F : Hp} {a b c e : Expr} {es : List Expr} {fa fb fe : DEnv → Sto → RE D} {fs : DEnv → Sto → RE (List P)} {fd : DEnv → Sto → RE (List D)} {pos p : Pos}
theorem Wt.pur {β : Type} {s1 : Sit} {σ : L2.St} {H : Hp} {d : D} {v : V} {g : P → Sto → RE β} {K : β → Sit → Hp → Prop} (A : AtS C F s1 H) (r : RepD C s1 d v) (h : Wt C W F σ s1 ((purify d s1.S).bind g) K) :
    ∃ x s2, ExtS s1 s2 ∧ AtS C F s2 H ∧ RepP C s2.G x v ∧ Wt C W F σ s2 (g x s2.S) K := by
  cases e : purify d s1.S with
  | ok x S' =>
    obtain ⟨s2, hS, A2, ex, rx⟩ := purify_ok A r e
    rw [e] at h
    refine ⟨x, s2, ex, A2, rx, Wt.ext ex ?_⟩
    rw [hS]
    exact h
  | exc c x S' => exact (purify_not e).elim
  | stuck =>
    rw [e] at h
    exact h.elim
/-! ### argument lists -/
theorem a_nil : PA X [] (tAP C W F fun _ S => .ok [] S) := PA.imp pa_nil fun σ H Q ⟨δ, s, A, R, h⟩ => h s H rfl (ExtS.refl s) A [] (by simp only [RepPs])
theorem a_cons (he : PE X e (tE C W F fe)) (hs : PA X es (tAP C W F fs)) (hn : notStar e = true) : PA X (e :: es) (tAP C W F fun δ S => (fe δ S).bind fun d S1 => (purify d S1).bind fun x S2 => (fs δ S2).bind fun xs S3 => .ok (x :: xs) S3) :=
  PA.imp (pa_cons he hs (star_cons hn)) fun σ H Q ⟨δ, s, A, R, h⟩ => by
    refine ⟨δ, s, A, R, Wt.imp (Wt.bind h) fun d s1 H1 _ e1 A1 h1 v r1 => ?_⟩
    obtain ⟨x, s2, e2, A2, r2, h2⟩ := Wt.pur A1 r1 h1
    refine ⟨δ, s2, A2, R.mono (e1.trans e2), Wt.imp (Wt.bind h2) fun xs s3 H3 _ e3 A3 h3 vs r3 => ?_⟩
    refine h3 s3 H3 rfl (ExtS.refl s3) A3 (v :: vs) ?_
    simp only [RepPs]
    exact ⟨v, vs, rfl, RepP.mono e3.G x v r2, r3⟩
theorem a_star (hk : C.K = X.K) (he : PE X e (tE C W F fe)) (hs : PA X es (tAP C W F fs)) : PA X (.Starred e p :: es) (tAP C W F fun δ S => (fe δ S).bind fun d S1 => match peek d S1 with
      | some (.lst ys) => (fs δ S1).bind fun xs S2 => .ok (ys ++ xs) S2
      | some (.tup ys) => (fs δ S1).bind fun xs S2 => .ok (ys ++ xs) S2
      | _ => .stuck) :=
  PA.imp (StX.pa_star he hs) fun σ H Q ⟨δ, s, A, R, h⟩ => by
    refine ⟨δ, s, A, R, Wt.imp (Wt.bind h) fun d s1 H1 _ e1 A1 h1 v r1 => ?_⟩
    split at h1
    · rename_i ys hp
      obtain ⟨q, vs, rfl, hq, rq⟩ := peek_lst A1 r1 hp
      refine ⟨q, vs, rfl, Or.inr (SqL.of hq), δ, s1, A1, R.mono e1, Wt.imp (Wt.bind h1) fun xs s3 H3 _ e3 A3 h3 ws r3 => ?_⟩
      exact h3 s3 H3 rfl (ExtS.refl s3) A3 (vs ++ ws) (reps_app ys vs (RepPs.mono e3.G ys vs rq) r3)
    · rename_i ys hp
      have q1 := peek_pure A1 r1 hp (fun _ z => nomatch z)
      simp only [RepP] at q1
      obtain ⟨q, vs, rfl, hq, rq⟩ := q1
      rw [hk] at hq
      refine ⟨q, vs, rfl, Or.inl (sqT_mono A1.sub hq), δ, s1, A1, R.mono e1, Wt.imp (Wt.bind h1) fun xs s3 H3 _ e3 A3 h3 ws r3 => ?_⟩
      exact h3 s3 H3 rfl (ExtS.refl s3) A3 (vs ++ ws) (reps_app ys vs (RepPs.mono e3.G ys vs rq) r3)
    · exact h1.elim
theorem d_nil : PA X [] (tAD C W F fun _ S => .ok [] S) := PA.imp pa_nil fun σ H Q ⟨δ, s, A, R, h⟩ => h s H rfl (ExtS.refl s) A [] rfl
theorem d_cons (he : PE X e (tE C W F fe)) (hs : PA X es (tAD C W F fd)) (hn : notStar e = true) : PA X (e :: es) (tAD C W F fun δ S => (fe δ S).bind fun d S1 => (fd δ S1).bind fun ds S2 => .ok (d :: ds) S2) :=
  PA.imp (pa_cons he hs (star_cons hn)) fun σ H Q ⟨δ, s, A, R, h⟩ => by
    refine ⟨δ, s, A, R, Wt.imp (Wt.bind h) fun d s1 H1 _ e1 A1 h1 v r1 => ?_⟩
    refine ⟨δ, s1, A1, R.mono e1, Wt.imp (Wt.bind h1) fun ds s3 H3 _ e3 A3 h3 vs r3 => ?_⟩
    exact h3 s3 H3 rfl (ExtS.refl s3) A3 (v :: vs) ⟨v, vs, rfl, RepD.mono e3 d v r1, r3⟩
/-! ### displays -/
theorem line_of {n : Nat} (h : lineOk n = true) : n ≤ sizeLine := by
  unfold lineOk at h
  exact Nat.le_trans (of_decide_eq_true h) (Nat.le_trans (by decide) sizeLine_big)
theorem line_lt {n : Nat} (h : lineOk n = true) : n < sizeLine := by
  unfold lineOk at h
  exact Nat.lt_of_le_of_lt (of_decide_eq_true h) (Nat.lt_of_lt_of_le (by decide) sizeLine_big)
theorem x_tup {j : Nat} (hs : PA X es (tAP C W F fs)) : PE X (.Tuple es j pos) (tE C W F fun δ S => (fs δ S).bind fun xs S1 => if lineOk xs.length then .ok (.p (.tup xs)) S1 else .stuck) :=
  PE.imp (pe_tup hs) fun σ H Q ⟨δ, s, A, R, h⟩ => by
    refine ⟨δ, s, A, R, Wt.imp (Wt.bind h) fun xs s1 H1 _ e1 A1 h1 vs r1 => ?_⟩
    split at h1
    · rename_i hl
      rw [RepPs.len xs vs r1] at hl
      exact ⟨line_of hl, fun q hq => want_tup A1 r1 h1 q hq⟩
    · exact h1.elim
theorem x_lst (hs : PA X es (tAP C W F fs)) : PE X (.List es pos) (tE C W F fun δ S => (fs δ S).bind fun xs S1 => if lineOk xs.length then .ok (.p (.lst xs)) S1 else .stuck) :=
  PE.imp (pe_lst hs) fun σ H Q ⟨δ, s, A, R, h⟩ => by
    refine ⟨δ, s, A, R, Wt.imp (Wt.bind h) fun xs s1 H1 _ e1 A1 h1 vs r1 => ?_⟩
    split at h1
    · rename_i hl
      rw [RepPs.len xs vs r1] at hl
      exact ⟨line_of hl, fun q hq => want_lst A1 r1 h1 q hq⟩
    · exact h1.elim
/-- a new list that is live -/
theorem want_new {s0 : Sit} {σ : L2.St} {H : Hp} {Q : VK} {xs : List P} {vs : List V} (A : AtS C F s0 H) (r : RepPs C s0.G xs vs) (h : WantE C W F (RepD C) σ s0 (.ok (.loc s0.S.length) (s0.S ++ [.live (.lst xs)])) Q) (q : Addr) (hq : H q = none) : Q (.ref q) (upd H q (.lst vs)) := by
  obtain ⟨A', ex, rd⟩ := A.alloc (c := .lst xs) (o := .lst vs) hq ⟨vs, rfl, r⟩
  exact h.to A' rfl ex rd
theorem x_newl (hs : PA X es (tAP C W F fs)) : PE X (.List es pos) (tE C W F fun δ S => (fs δ S).bind fun xs S1 => if lineOk xs.length then .ok (.loc S1.length) (S1 ++ [.live (.lst xs)]) else .stuck) :=
  PE.imp (pe_lst hs) fun σ H Q ⟨δ, s, A, R, h⟩ => by
    refine ⟨δ, s, A, R, Wt.imp (Wt.bind h) fun xs s1 H1 _ e1 A1 h1 vs r1 => ?_⟩
    split at h1
    · rename_i hl
      rw [RepPs.len xs vs r1] at hl
      exact ⟨line_of hl, fun q hq => want_new A1 r1 h1 q hq⟩
    · exact h1.elim
theorem RepDs.len {s : Sit} : ∀ (xs : List D) (vs : List V), RepDs C s xs vs → xs.length = vs.length
  | [], vs, h => by
    subst h
    rfl
  | x :: xs, vs, ⟨v, ws, hv, _, h2⟩ => by rw [hv, List.length_cons, List.length_cons, RepDs.len xs ws h2]
/-- a new list of what changes -/
theorem want_newN {s0 : Sit} {σ : L2.St} {H : Hp} {Q : VK} {ds : List D} {vs : List V} (A : AtS C F s0 H) (r : RepDs C s0 ds vs) (h : WantE C W F (RepD C) σ s0 (.ok (.loc s0.S.length) (s0.S ++ [.live (.nst ds)])) Q) (q : Addr) (hq : H q = none) : Q (.ref q) (upd H q (.lst vs)) := by
  obtain ⟨A', ex, rd⟩ := A.alloc (c := .nst ds) (o := .lst vs) hq ⟨vs, rfl, r⟩
  exact h.to A' rfl ex rd
theorem x_newn {fd : DEnv → Sto → RE (List D)} (hs : PA X es (tAD C W F fd)) : PE X (.List es pos) (tE C W F fun δ S => (fd δ S).bind fun ds S1 => if lineOk ds.length then .ok (.loc S1.length) (S1 ++ [.live (.nst ds)]) else .stuck) :=
  PE.imp (pe_lst hs) fun σ H Q ⟨δ, s, A, R, h⟩ => by
    refine ⟨δ, s, A, R, Wt.imp (Wt.bind h) fun ds s1 H1 _ e1 A1 h1 vs r1 => ?_⟩
    split at h1
    · rename_i hl
      rw [RepDs.len ds vs r1] at hl
      exact ⟨line_of hl, fun q hq => want_newN A1 r1 h1 q hq⟩
    · exact h1.elim
/-! ### items -/
theorem repds_at {s : Sit} : ∀ (xs : List D) (vs : List V) (i : Nat) {x : D}, RepDs C s xs vs → xs[i]? = some x → ∃ v, vs[i]? = some v ∧ RepD C s x v
  | [], vs, i, x, h, e => by simp at e
  | y :: xs, vs, 0, x, ⟨v', ws, hv, h1, _⟩, e => by
    cases e
    exact ⟨v', by rw [hv]; rfl, h1⟩
  | y :: xs, vs, i + 1, x, ⟨v', ws, hv, _, h2⟩, e => by
    subst hv
    simp only [List.getElem?_cons_succ] at e ⊢
    exact repds_at xs ws i h2 e
theorem reps_at : ∀ (xs : List P) (vs : List V) (i : Nat) {x : P} {G : Hp}, RepPs C G xs vs → xs[i]? = some x → ∃ v, vs[i]? = some v ∧ RepP C G x v
  | [], vs, i, x, G, h, e => by simp at e
  | y :: xs, vs, 0, x, G, h, e => by
    simp only [RepPs] at h
    obtain ⟨v', ws, rfl, h1, _⟩ := h
    cases e
    exact ⟨v', rfl, h1⟩
  | y :: xs, vs, i + 1, x, G, h, e => by
    simp only [RepPs] at h
    obtain ⟨v', ws, rfl, _, h2⟩ := h
    simp only [List.getElem?_cons_succ] at e ⊢
    exact reps_at xs ws i h2 e
theorem ix_at {α β : Type} {xs : List β} {vs : List α} {i : Int} {x : β} (hl : xs.length = vs.length) (h : ixAt xs i = some x) : ∃ j, ixN vs.length i = some j ∧ xs[j]? = some x := by
  unfold ixAt at h
  split at h
  · rename_i h0
    refine ⟨i.toNat, ?_, h⟩
    have hj := (List.getElem?_eq_some_iff.mp h).1
    unfold ixN
    rw [if_pos h0, if_pos (by omega)]
  · rename_i h0
    split at h
    · cases h
    · rename_i h1
      refine ⟨(i + xs.length).toNat, ?_, h⟩
      unfold ixN
      rw [if_neg h0, if_pos (by omega), ← hl]
theorem look_at : ∀ (ks : List Str) (xs : List P) (vs : List V) (z : Str) {x : P} {G : Hp}, ks.length = vs.length → RepPs C G xs vs → look ks xs z = some x → ∃ v, valV ((ks.map (Sum.inr : Str → Key)).zip vs) (Sum.inr z) = some v ∧ RepP C G x v
  | [], xs, vs, z, x, G, _, _, h => by simp [look] at h
  | k :: ks, [], vs, z, x, G, _, _, h => by simp [look] at h
  | k :: ks, y :: xs, vs, z, x, G, hl, r, h => by
    simp only [RepPs] at r
    obtain ⟨v, ws, rfl, r1, r2⟩ := r
    simp only [look] at h
    simp only [List.map_cons, List.zip_cons_cons]
    by_cases c : k = z
    · rw [if_pos c] at h
      cases h
      exact ⟨v, valV_pos (congrArg Sum.inr c), r1⟩
    · rw [if_neg c] at h
      obtain ⟨w, h1, h2⟩ := look_at ks xs ws z (by simpa using hl) r2 h
      exact ⟨w, by rw [valV_neg (fun e => c (Sum.inr.inj e))]; exact h1, h2⟩
theorem sub_ok {s0 : Sit} {pins : List (Addr × Obj)} {s : Shared} {σ : L2.St} {H : Hp} {Q : VK} (un : X.A.units + 64 < cLine) (hk : C.K = X.K) {value slice : Expr} (hsl : notSlice slice = true) {d1 : D} {p1 p2 : P} {x y : V} {v u : Value} (I : Inv X pins σ H s) (A : AtS C F s0 H) (r1 : RepD C s0 d1 x) (r2 : RepP C s0.G p2 y)
    (e1 : peek d1 s0.S = some p1) (rx : RelV x v) (ry : RelV y u) (h : WantE C W F (RepD C) σ s0 ((subP p1 p2).lift s0.S) Q) : wpAny (model X.prog X.w) X.A (PyProof.Rows.subscriptTail value slice v u) (EP X pins σ Q) X.xe s := by
  cases p2 with
  | int i =>
    simp only [RepP] at r2
    subst r2
    cases p1 with
    | lst xs =>
      obtain ⟨q, vs, rfl, hq, rq⟩ := peek_lst A r1 e1
      simp only [subP] at h
      cases hi : ixAt xs i with
      | none =>
        rw [hi] at h
        exact h.elim
      | some z =>
        rw [hi] at h
        obtain ⟨j, hj, hz⟩ := ix_at (RepPs.len xs vs rq) hi
        obtain ⟨w, hw, rw'⟩ := reps_at xs vs j rq hz
        exact ix_list value slice pins s σ H _ _ v u Q I rx ry ⟨q, vs, i, w, rfl, rfl, SqL.of hq, by unfold atI; rw [hj]; exact hw, h.ok A rw'⟩ (ix_plain hsl _ _)
    | tup xs =>
      have q1 := peek_pure A r1 e1 (fun _ z => nomatch z)
      simp only [RepP] at q1
      obtain ⟨q, vs, rfl, hq, rq⟩ := q1
      simp only [subP] at h
      cases hi : ixAt xs i with
      | none =>
        rw [hi] at h
        exact h.elim
      | some z =>
        rw [hi] at h
        obtain ⟨j, hj, hz⟩ := ix_at (RepPs.len xs vs rq) hi
        obtain ⟨w, hw, rw'⟩ := reps_at xs vs j rq hz
        rw [hk] at hq
        exact ix_tup value slice pins s σ H _ _ v u Q I rx ry ⟨q, vs, i, w, rfl, rfl, sqT_mono A.sub hq, by unfold atI; rw [hj]; exact hw, h.ok A rw'⟩ (ix_plain hsl _ _)
    | scr ns =>
      have q1 := peek_pure A r1 e1 (fun _ z => nomatch z)
      simp only [RepP] at q1
      obtain ⟨q, rfl, hq⟩ := q1
      simp only [subP] at h
      split at h
      · rename_i h0
        cases hi : ns[i.toNat]? with
        | none =>
          rw [hi] at h
          exact h.elim
        | some z =>
          rw [hi] at h
          rw [hk] at hq
          have hj := (List.getElem?_eq_some_iff.mp hi).1
          refine ix_list value slice pins s σ H _ _ v u Q I rx ry ⟨q, ns.map V.int, i, .int z, rfl, rfl, A.sub.seq hq.sq, ?_, want_int A h⟩ (ix_plain hsl _ _)
          unfold atI ixN
          rw [if_pos h0, List.length_map, if_pos (by omega)]
          show (ns.map V.int)[i.toNat]? = _
          rw [List.getElem?_map, hi]
          rfl
      · exact h.elim
    | str z =>
      have q1 := peek_pure A r1 e1 (fun _ z => nomatch z)
      simp only [RepP] at q1
      subst q1
      simp only [subP] at h
      split at h
      · rename_i h0
        obtain ⟨h0, hz⟩ := h0
        cases hi : z.cps[i.toNat]? with
        | none =>
          rw [hi] at h
          exact h.elim
        | some c =>
          rw [hi] at h
          obtain ⟨t, rfl⟩ := rx
          obtain ⟨t', rfl⟩ := ry
          have hj : i.toNat < z.cps.size := (Array.getElem?_eq_some_iff.mp hi).1
          have hz' : z.cps.size ≤ 1000000 := hz
          have h1 : i < z.length := by
            show i < (z.cps.size : Int)
            omega
          have h63 : i < 2 ^ 63 := by
            have : (1000000 : Int) < 2 ^ 63 := by decide
            omega
          have e : seqIndex? i z.length = some i.toNat := PySem.StrLaws.seqIndex_nonneg h0 h1
          exact PyProof.Rows.tail_any (typeIs_str s z t) PySem.F.slot_str_getitem.lookup (PyProof.Rows.getItem_str (c := c) (by
            have e1 : decide (i < -(2 ^ 63 : Int)) = false := decide_eq_false (by omega)
            have e2 : decide (i ≥ 2 ^ 63) = false := decide_eq_false (by omega)
            rw [e1, e2] <;> rfl) (by rw [e]; exact hi) ⟨.str ⟨#[c]⟩, H, I.tok _, ⟨_, rfl⟩, want_str A h⟩) (ix_plain hsl _ _)
      · exact h.elim
    | _ => exact h.elim
  | str z =>
    simp only [RepP] at r2
    subst r2
    cases p1 with
    | dic ks xs =>
      have q1 := peek_pure A r1 e1 (fun _ z => nomatch z)
      simp only [RepP] at q1
      obtain ⟨q, vs, rfl, hq, hl, rq⟩ := q1
      simp only [subP] at h
      cases hi : look ks xs z with
      | none =>
        rw [hi] at h
        exact h.elim
      | some y =>
        rw [hi] at h
        obtain ⟨w, hw, rw'⟩ := look_at ks xs vs z hl rq hi
        obtain rfl : v = Value.ref q := rx
        obtain ⟨_, _, _, _, dd⟩ := dk_of I.hok (A.sub _ _ hq)
        have g : DGet H q (.str z) (some w) := by
          rw [← hw]
          exact DGet.k (k := Sum.inr z) (A.sub _ _ hq)
        exact PyProof.Rows.tail_any dd.typeIs slot_dict_getitem.lookup (d_getItem (by omega) I g ry fun w' s' I' rw2 => ⟨w, H, I', rw2, h.ok A rw'⟩) (ix_plain hsl _ _)
    | _ => exact h.elim
  | _ => exact h.elim
theorem x_sub (un : X.A.units + 64 < cLine) (hk : C.K = X.K) (hsl : notSlice b = true) (ha : PE X a (tE C W F fa)) (hb : PE X b (tE C W F fb)) : PE X (.Subscript a b pos) (tE C W F fun δ S => (fa δ S).bind fun d1 S1 => (fb δ S1).bind fun d2 S2 => match peek d1 S2, d2 with
      | some x, .p y => (subP x y).lift S2
      | _, _ => .stuck) := by
  refine ⟨fun pins s σ H Q I h => PyProof.Rows.Subscript_ (two_of ha hb (fun pins s σ H s0 d1 d2 x y v u Q I A r1 r2 rx ry hw => ?_) I h)⟩
  cases e1 : peek d1 s0.S with
  | none =>
    rw [e1] at hw
    exact hw.elim
  | some p1 =>
    rw [e1] at hw
    cases d2 with
    | p z => exact sub_ok un hk hsl I A r1 r2 e1 rx ry hw
    | _ => exact hw.elim
theorem x_subn (hsl : notSlice b = true) (ha : PE X a (tE C W F fa)) (hb : PE X b (tE C W F fb)) : PE X (.Subscript a b pos) (tE C W F fun δ S => (fa δ S).bind fun d1 S1 => (fb δ S1).bind fun d2 S2 => subN d1 d2 S2) := by
  refine ⟨fun pins s σ H Q I h => PyProof.Rows.Subscript_ (two_of ha hb (fun pins s σ H s0 d1 d2 x y v u Q I A r1 r2 rx ry hw => ?_) I h)⟩
  cases d1 with
  | loc n =>
    cases d2 with
    | p z =>
      cases z with
      | int i =>
        simp only [subN] at hw
        simp only [RepD, RepP] at r2
        subst r2
        split at hw
        · rename_i ds e
          obtain ⟨q, o', k1, k2, k3, k4, vs, ho', rf⟩ := A.live n _ e
          obtain ⟨q', hq', rfl⟩ := r1
          rw [k1] at hq'
          cases hq'
          subst ho'
          cases hi : ixAt ds i with
          | none =>
            rw [hi] at hw
            exact hw.elim
          | some z =>
            rw [hi] at hw
            obtain ⟨j, hj, hz⟩ := ix_at (RepDs.len ds vs rf) hi
            obtain ⟨w, hw', rw'⟩ := repds_at ds vs j rf hz
            exact ix_list a b pins s σ H _ _ v u Q I rx ry ⟨q, vs, i, w, rfl, rfl, SqL.of k4, by unfold atI; rw [hj]; exact hw', hw.ok A rw'⟩ (ix_plain hsl _ _)
        · exact hw.elim
      | _ => exact hw.elim
    | _ => exact hw.elim
  | _ => exact hw.elim
end
end RP
end

section
set_option Elab.async false
set_option linter.all false
set_option maxRecDepth 100000
set_option maxHeartbeats 2000000
/-! Fields, calls, methods. -/
namespace RP
open PySem L2
section
variable {C : CC} {W : WX} {X : Cx} {k : Nat} {Γ : Tab} {F : Hp} {a b c e o : Expr} {es : List Expr} {fa fb fe fo : DEnv → Sto → RE D} {fs : DEnv → Sto → RE (List P)} {fd : DEnv → Sto → RE (List D)} {pos p apos : Pos}
/-! ### fields -/
theorem fld_zip {f : Nat} (NM : Nat → Str) : ∀ (gs : List Nat) (xs : List P) (vs : List V) {y : P} {G : Hp}, (∀ g ∈ gs, NM f = NM g → f = g) → gs.length = vs.length → RepPs C G xs vs → fldIx f gs xs = some y → ∃ v, ((gs.map NM).zip vs).lookup (NM f) = some v ∧ RepP C G y v ∧ f ∈ gs
  | [], _, _, _, _, _, _, _, h => by simp [fldIx] at h
  | g :: gs, [], _, _, _, _, _, _, h => by simp [fldIx] at h
  | g :: gs, x :: xs, vs, y, G, hi, hl, hr, h => by
    simp only [RepPs] at hr
    obtain ⟨v, ws, rfl, h1, h2⟩ := hr
    simp only [fldIx] at h
    by_cases e : g = f
    · subst e
      simp only [beq_self_eq_true, if_true, Option.some.injEq] at h
      subst h
      refine ⟨v, ?_, h1, List.mem_cons_self ..⟩
      simp [List.lookup]
    · have e' : (g == f) = false := by simpa using e
      simp only [e', Bool.false_eq_true, if_false] at h
      obtain ⟨v', hv, hr', hm⟩ := fld_zip NM gs xs ws (fun g' hg => hi g' (List.mem_cons_of_mem _ hg)) (by simpa using hl) h2 h
      refine ⟨v', ?_, hr', List.mem_cons_of_mem _ hm⟩
      have ne : (NM f == NM g) = false := by
        have : ¬ NM f = NM g := fun z => e (hi g (List.mem_cons_self ..) z).symm
        simpa using this
      simp only [List.map_cons, List.zip_cons_cons, List.lookup, ne]
      exact hv
/-- o.f: a field of a thing that never changes, a property, a field of a live one -/
def attrD (Γ : Tab) (FT : FldT) (f : Nat) (d : D) (S : Sto) : RE D := match d with
  | .p (.ob c xs) => match fldIx f (FT c) xs with
    | some y => .ok (.p y) S
    | none => match Γ.prop c f with
      | some g => match g [.ob c xs] with
        | .ok y => .ok (.p y) S
        | _ => .stuck
      | none => .stuck
  | .loc n => match S[n]? with
    | some (.live (.obj c fs)) => match fs.lookup f with
      | some d => .ok d S
      | none => .stuck
    | _ => .stuck
  | _ => .stuck
theorem fld_live {f : Nat} {s0 : Sit} : ∀ (fs : List (Nat × D)) (gs : List (Str × V)) {d : D}, (∀ g ∈ fs.map (·.1), C.NM f = C.NM g → f = g) → RepF C s0 fs gs → fs.lookup f = some d → ∃ v, gs.lookup (C.NM f) = some v ∧ RepD C s0 d v
  | [], _, _, _, _, h => by simp at h
  | (g, d0) :: fs, gs, d, hi, hr, h => by
    obtain ⟨v, ws, rfl, h1, h2⟩ := hr
    by_cases e : f = g
    · subst e
      simp only [List.lookup, beq_self_eq_true, Option.some.injEq] at h
      subst h
      exact ⟨v, by simp [List.lookup], h1⟩
    · have e' : (f == g) = false := by simpa using e
      simp only [List.lookup, e'] at h
      obtain ⟨v', hv, hr'⟩ := fld_live fs ws (fun g' hg => hi g' (List.mem_cons_of_mem _ hg)) h2 h
      refine ⟨v', ?_, hr'⟩
      have ne : (C.NM f == C.NM g) = false := by
        have : ¬ C.NM f = C.NM g := fun z => e (hi g (List.mem_cons_self ..) z)
        simpa using this
      simp only [List.lookup, ne]
      exact hv
theorem x_attr (sp : Spot C W X k) (gm : GoodM C X.prog X.w X.K X.mg X.base k Γ) {f : Nat} {x : Str} (hx : C.NM f = x) (hb : plainBase a = true) (ha : PE X a (tE C W F fa)) : PE X (.Attribute a x pos) (tE C W F fun δ S => (fa δ S).bind (attrD Γ C.FT f)) := by
  subst hx
  refine ⟨fun pins s σ H Q I h => ?_⟩
  obtain ⟨δ, s0, A, R, hw⟩ := h
  refine attr_of (base_plain hb) (thn (ha.run pins s σ H _ I (tE.then A R hw)) fun u s1 ⟨y, H1, I1, ry, d, t1, e1, A1, R1, r1, w1⟩ => ?_)
  cases d with
  | cls c => exact w1.elim
  | loc n =>
    simp only [attrD] at w1
    split at w1
    · rename_i c fs e
      cases hf : fs.lookup f with
      | none =>
        rw [hf] at w1
        exact w1.elim
      | some d =>
        rw [hf] at w1
        obtain ⟨q, o, k1, k2, k3, k4, hc, hm, dx, gs, ho, rf⟩ := A1.live n _ e
        obtain ⟨q', hq', rfl⟩ := r1
        rw [k1] at hq'
        cases hq'
        cases ry
        subst ho
        have cf := sp.cf.one c hc
        rw [sp.hk] at cf
        have hin : f ∈ fs.map (·.1) := by
          obtain ⟨l1, l2, hfs, _⟩ := List.lookup_eq_some_iff.mp hf
          rw [hfs]
          simp
        have na := sp.fl.na c hc f (hm f hin)
        rw [sp.hk] at na
        obtain ⟨v, hv, rv⟩ := fld_live fs gs (fun g hg => sp.fl.inj c hc g (hm g hg) f) rf hf
        exact getattr_ok I1 k4 cf.cl na hv fun u s' I' ru => ⟨v, H1, I', ru, w1.ok A1 rv⟩
    · exact w1.elim
  | p z =>
    cases z with
    | ob c xs =>
      have r1' := r1
      simp only [RepD, RepP] at r1'
      obtain ⟨hc, q, dx, vs, rfl, hq, hl, rr⟩ := r1'
      cases ry
      have cf := sp.cf.one c hc
      rw [sp.hk] at cf
      simp only [attrD] at w1
      cases hf : fldIx f (C.FT c) xs with
      | some y =>
        rw [hf] at w1
        obtain ⟨v, hv, rv, hm⟩ := fld_zip C.NM (C.FT c) xs vs (fun g hg => sp.fl.inj c hc g hg f) hl rr hf
        have na := sp.fl.na c hc f hm
        rw [sp.hk] at na
        exact getattr_ok I1 (A1.sub _ _ hq) cf.cl na hv fun u s' I' ru => ⟨v, H1, I', ru, w1.ok A1 rv⟩
      | none =>
        rw [hf] at w1
        dsimp only at w1
        cases hg : Γ.prop c f with
        | none =>
          rw [hg] at w1
          exact w1.elim
        | some g =>
          rw [hg] at w1
          dsimp only at w1
          cases hv : g [.ob c xs] with
          | exc _ _ =>
            rw [hv] at w1
            exact w1.elim
          | stuck =>
            rw [hv] at w1
            exact w1.elim
          | ok y =>
            rw [hv] at w1
            obtain ⟨pp, ff, hp, cal⟩ := gm.prs c f g hg
            obtain ⟨mA, O, _⟩ := ins_get (P := X.prog) (w := X.w) I1.hok (A1.sub _ _ hq)
            obtain ⟨od, J, _⟩ := O.look
            obtain ⟨rest, hrec⟩ := hp.rec_
            have I2 := I1.tok (s1.toks + 1)
            have hcls : (PySem.W.clsIn X.K (C.CA c)).isSome = true := by
              obtain ⟨cd, hcd, _⟩ := PySem.W.any_some cf.cl.hd
              rw [hcd]
              rfl
            have pg := PySem.W.plainGet_of (cf.cl.get (C.NM f))
            have hsp : spP C g [.ref q] H1 Q (WE (fun _ _ _ _ => False) σ) := by
              refine ⟨t1.G, [.ob c xs], A1.sub, reps1 r1, ?_⟩
              rw [hv]
              intro v G' H' g1 g2 g3 rv
              obtain ⟨A', ex⟩ := A1.call g1 g2 g3
              exact w1 ⟨G', t1.μ, t1.S⟩ H' rfl ex A' v rv
            refine PySem.W.get_bind I1.kIn J pg.1 (PySem.W.findObj_data hcls hp.at_ hp.get hp.tak) pg.2 (wpAny_call (PySem.W.prop_get (s := { s1 with toks := s1.toks + 1 }) I1.kIn hrec ?_))
            refine codeAny_mono (cal X.nox (fun _ _ _ _ => False) X.A.in1 pins _ σ H1 [.ref q] [.ref q] Q rfl rfl rfl rfl rfl (fun _ _ z => by
              obtain ⟨_, _, _, _, _, _, _, _, _, _, _, _, _, _, _, _, z⟩ := z
              exact z.elim) ((sp.hr.mono (by unfold eqDeep; omega) : Room (k + 1) X.A).in1) rfl (I2.wish _) (.cons rfl .nil) hsp) fun r s' hq' => ?_
            cases r with
            | error er => exact hq'.elim
            | ok fl =>
              cases fl with
              | ret u =>
                obtain ⟨v, H', I3, rv, q3⟩ := hq'
                show wpAny _ _ (handedOut u) _ _ _
                rw [PySem.W.handedOut_of (handed_of rv)]
                exact wpAny_pure ⟨v, H', I3.unwish, rv, q3⟩
              | next => exact hq'.elim
              | brk => exact hq'.elim
              | cont => exact hq'.elim
    | _ => exact w1.elim
end
end RP
end

section
set_option Elab.async false
set_option linter.all false
set_option maxRecDepth 100000
set_option maxHeartbeats 2000000
namespace RP
open PySem L2
section
variable {C : CC} {W : WX} {X : Cx} {k : Nat} {Γ : Tab} {F : Hp} {a b c e o : Expr} {es : List Expr} {fa fb fe fo : DEnv → Sto → RE D} {fs : DEnv → Sto → RE (List P)} {fd : DEnv → Sto → RE (List D)} {pos p apos : Pos}
theorem x_call (sp : Spot C W X k) {x : Str} {u : Value} {g : PFn} (hg : Gl X x) (hm : X.mg x = some u) (hk : PySem.W.keepIn X.K u = true) (cal : Cal C X.prog X.w X.K X.mg X.base k u g) (hd : (x == ("__debug__" : Str)) = false) (hs : es.all notStar = true) (ha : PA X es (tAP C W F fs)) :
    PE X (.Call (.Name x p) es [] pos) (tE C W F fun δ S => (fs δ S).bind fun xs S1 => (g xs).lift S1) := by
  refine ⟨fun pins s σ H Q I h => wpAny_Call_Name_kw (ld_glob I hg hm ?_ hd)⟩
  obtain ⟨δ, s0, A, R, hw⟩ := h
  have rd : tAP C W F fs σ H _ := ⟨δ, s0, A, R, Wt.thenA (Rel := fun s => RepPs C s.G) R hw⟩
  have run : ∀ us s1, AP X pins σ (fun vs H1 => ∃ d s1, ExtS s0 s1 ∧ AtS C F s1 H1 ∧ RepS C s1 δ σ ∧ RepPs C s1.G d vs ∧ WantE C W F (RepD C) σ s1 ((g d).lift s1.S) Q) us s1 → wpAny (model X.prog X.w) X.A (call u us) (EP X pins σ Q) X.xe s1 := by
    rintro us s1 ⟨vs, H1, I1, rv, d, t1, e1, A1, R1, r1, w1⟩
    exact cal_run sp cal (sp.hr.mono (Nat.le_add_right _ _)) rfl I1 A1 r1 rv w1
  cases es with
  | nil =>
    refine PySem.W.callWith_K0 I.kIn hk ?_
    have z := ha.run pos pins s σ H _ I rd
    have z' : wpAny (model X.prog X.w) X.A (pure []) (AP X pins σ _) X.xe s := z
    exact wpAny_bind (f := fun us => call u us) (wpAny_mono z' (fun us s1 q => run us s1 q) fun _ _ z => z)
  | cons e es =>
    simp only [List.all_cons, Bool.and_eq_true] at hs
    refine PySem.W.callWith_K (h₀ := X.base) I.ok.mod.kin hk (thn (ha.run pos pins s σ H _ I rd) fun us s1 q => ⟨?_, ?_⟩) (star_cons hs.1) (star_none hs.2)
    · obtain ⟨_, _, I1, _⟩ := q
      exact I1.kIn
    · exact run us s1 q
theorem star_all {env : Env} : ∀ {es : List Expr}, es.all notStar = true → (backTo pos (starEach es env)).all (fun x => !x.1) = true
  | [], _ => rfl
  | e :: es, h => by
    simp only [List.all_cons, Bool.and_eq_true] at h
    rw [star_cons h.1]
    have z := star_all (env := env) (es := es) h.2
    simpa [backTo] using z
theorem meth_form {env : Env} {m : Str} (hb : plainBase o = true) (hs : es.all notStar = true) (hn : es.length < 29) (hl : (apos.endLine == pos.line) = true) :
    eval (.Call (.Attribute o m apos) es [] pos) env = (do
      let ov ← eval o env
      standAt apos.atName
      let (f, first) ← holding [ov] (getMethod ov m (do return (← importBound o env).getD true))
      callWith pos f first (backTo pos (starEach es env)) (backToKw pos (keywordEach [] env))) := by
  have few : methodCallForm (es.length + ([] : List Keyword).length) (backTo pos (starEach es env)) (backToKw pos (keywordEach [] env)) = true := by
    unfold methodCallForm
    rw [star_all hs]
    simp [backToKw, keywordEach]
    omega
  show (attributeBase o m env (eval o env) >>= fun ov => standAt apos.atName >>= fun _ => methodCall o m apos pos env ov (es.length + ([] : List Keyword).length) (backTo pos (starEach es env)) (backToKw pos (keywordEach [] env))) = _
  rw [base_plain hb]
  unfold methodCall calleeOf methodCallPos
  rw [few, hl]
  rfl
theorem zip_none {x : Str} : ∀ (gs : List Str) (vs : List V), (∀ g ∈ gs, g ≠ x) → (gs.zip vs).lookup x = none
  | [], _, _ => rfl
  | g :: gs, [], _ => rfl
  | g :: gs, v :: vs, h => by
    have ne : (x == g) = false := by
      have : ¬ x = g := fun z => h g (List.mem_cons_self ..) z.symm
      simpa using this
    simp only [List.zip_cons_cons, List.lookup, ne]
    exact zip_none gs vs fun g' hg => h g' (List.mem_cons_of_mem _ hg)
theorem x_meth (sp : Spot C W X k) (gm : GoodM C X.prog X.w X.K X.mg X.base k Γ) {m : Nat} {x : Str} (hx : C.NM m = x) (hb : plainBase o = true) (hs : es.all notStar = true) (hn : es.length < 29) (hl : (apos.endLine == pos.line) = true) (ho : PE X o (tE C W F fo)) (ha : PA X es (tAP C W F fs)) :
    PE X (.Call (.Attribute o x apos) es [] pos) (tE C W F fun δ S => (fo δ S).bind fun d S1 => methG Γ m d (fs δ) S1) := by
  subst hx
  refine ⟨fun pins s σ H Q I h => ?_⟩
  obtain ⟨δ, s0, A, R, hw⟩ := h
  refine PySem.W.methodCall_KW (thn (ho.run pins s σ H _ I (tE.then A R hw)) fun u s1 ⟨y, H1, I1, ry, d, t1, e1, A1, R1, r1, w1⟩ => ?_) (meth_form hb hs hn hl)
  cases d with
  | p z =>
    cases z with
    | ob c ys =>
      have r1' := r1
      simp only [RepD, RepP] at r1'
      obtain ⟨hc, q, dx, vs, rfl, hq, hlen, rr⟩ := r1'
      cases ry
      have cf := sp.cf.one c hc
      rw [sp.hk] at cf
      cases hg : Γ.meth c m with
      | none =>
        simp only [methG, hg] at w1
        exact w1.elim
      | some g =>
        simp only [methG, hg] at w1
        have rd : tAP C W F fs σ H1 _ := ⟨δ, t1, A1, R1, Wt.thenA (Rel := fun s => RepPs C s.G) R1 w1⟩
        obtain ⟨f, M, nf, cal⟩ := gm.mts c m g hg
        have ln : ((((C.FT c).map C.NM).zip vs)).lookup (C.NM m) = none := zip_none _ vs fun g' hg' => by
          obtain ⟨j, hj, rfl⟩ := List.mem_map.mp hg'
          exact nf j hj
        refine getmeth_ok I1 (A1.sub _ _ hq) cf.cl M ln ?_
        have run : ∀ us s2, AP X pins σ (fun ws H2 => ∃ d s2, ExtS t1 s2 ∧ AtS C F s2 H2 ∧ RepS C s2 δ σ ∧ RepPs C s2.G d ws ∧ WantE C W F (RepD C) σ s2 ((g (.ob c ys :: d)).lift s2.S) Q) us s2 → wpAny (model X.prog X.w) X.A (call (.ref f) (.ref q :: us)) (EP X pins σ Q) X.xe s2 := by
          rintro us s2 ⟨ws, H2, I2, rv, d, t2, e2, A2, R2, r2, w2⟩
          refine cal_run sp cal (sp.hr.mono (Nat.le_add_right _ _)) rfl I2 A2 (xs := .ob c ys :: d) (vs := .ref q :: ws) ?_ (.cons rfl rv) w2
          simp only [RepPs]
          exact ⟨.ref q, ws, rfl, RepP.mono e2.G _ _ r1, r2⟩
        cases es with
        | nil =>
          refine PySem.W.callWith_K0 (first := [.ref q]) I1.kIn M.kp ?_
          have z := ha.run pos pins s1 σ H1 _ I1 rd
          have z' : wpAny (model X.prog X.w) X.A (pure []) (AP X pins σ _) X.xe s1 := z
          exact wpAny_bind (f := fun us => call (.ref f) (.ref q :: us)) (wpAny_mono z' (fun us s2 q => run us s2 q) fun _ _ z => z)
        | cons e es =>
          simp only [List.all_cons, Bool.and_eq_true] at hs
          refine PySem.W.callWith_K (first := [.ref q]) (h₀ := X.base) I.ok.mod.kin M.kp (thn (ha.run pos pins s1 σ H1 _ I1 rd) fun us s2 qq => ⟨?_, ?_⟩) (star_cons hs.1) (star_none hs.2)
          · obtain ⟨_, _, I2, _⟩ := qq
            exact I2.kIn
          · exact run us s2 qq
    | _ => exact w1.elim
  | _ => exact w1.elim
end
end RP
end

section
set_option Elab.async false
set_option linter.all false
set_option maxRecDepth 100000
set_option maxHeartbeats 2000000
/-! Lists that are changed: append, clear. -/
namespace RP
open PySem L2
section
variable {C : CC} {W : WX} {X : Cx} {k : Nat} {Γ : Tab} {F : Hp} {a b c e o : Expr} {es : List Expr} {fa fb fe fo : DEnv → Sto → RE D} {fs : DEnv → Sto → RE (List P)} {fd : DEnv → Sto → RE (List D)} {pos p apos : Pos}
theorem few_of {env : Env} (hs : es.all notStar = true) (hn : es.length < 29) : ((backTo pos (starEach es env)).all (fun x => !x.1) && (backToKw pos (keywordEach [] env)).all (fun x => x.1.isSome)
      && decide (es.length + ([] : List Keyword).length + (if ([] : List Keyword).isEmpty then 0 else 1) < 30)) = true := by
  rw [star_all hs]
  simp [backToKw, keywordEach]
  omega
theorem app_ok {s0 : Sit} {σ : L2.St} {H : Hp} {Q : VK} {d : D} {x : P} {u v : V} (A : AtS C F s0 H) (r : RepD C s0 d u) (rx : RepP C s0.G x v) (h : WantE C W F (RepD C) σ s0 (appG d x s0.S) Q) : rAppend u [v] H Q := by
  cases d with
  | loc n =>
    simp only [appG] at h
    split at h
    · rename_i ys e
      split at h
      · rename_i hl
        obtain ⟨q, o, k1, k2, k3, k4, vs, ho, rf⟩ := A.live n _ e
        obtain ⟨q', hq', rfl⟩ := r
        rw [k1] at hq'
        cases hq'
        subst ho
        have r' : RepC C s0 (.lst (ys ++ [x])) (.lst (vs ++ [v])) := ⟨_, rfl, reps_app ys vs rf (by simp only [RepPs]; exact ⟨v, [], rfl, rx, rfl⟩)⟩
        obtain ⟨A', ex⟩ := A.write e k1 r'
        rw [RepPs.len ys vs rf] at hl
        exact ⟨q, vs, v, rfl, rfl, k4, line_lt hl, h.to A' rfl ex (by simp only [RepD, RepP])⟩
      · exact h.elim
    · exact h.elim
  | _ => exact h.elim
theorem x_app (hk : C.K = X.K) (hb : plainBase o = true) (hn : notStar e = true) (hl : (apos.endLine == pos.line) = true) (ho : PE X o (tE C W F fo)) (he : PE X e (tE C W F fe)) :
    PE X (.Call (.Attribute o "append" apos) [e] [] pos) (tE C W F fun δ S => (fo δ S).bind fun d S1 => match peek d S1 with
      | some (.lst _) => (fe δ S1).bind fun d2 S2 => (purify d2 S2).bind fun x S3 => appG d x S3
      | _ => .stuck) :=
  PE.imp (pe_bm PySem.F.plainAttrs_list PySem.F.slot_list_append PySem.F.type_list_append mt_append ho (pa_cons he pa_nil (star_cons hn)) (base_plain hb) (few_of (by simp only [List.all_cons, List.all_nil, Bool.and_true]; exact hn) (by simp)) hl (star_cons hn) rfl) fun σ H Q ⟨δ, s, A, R, h⟩ => by
    refine ⟨δ, s, A, R, Wt.imp (Wt.bind h) fun d s1 H1 _ e1 A1 h1 v r1 => ?_⟩
    split at h1
    · rename_i ys hp
      obtain ⟨q, vs, rfl, hq, rq⟩ := peek_lst A1 r1 hp
      refine ⟨Or.inl ⟨rfl, vs, SqL.of hq⟩, ?_⟩
      refine ⟨δ, s1, A1, R.mono e1, Wt.imp (Wt.bind h1) fun d2 s2 H2 _ e2 A2 h2 w r2 => ?_⟩
      obtain ⟨x, s3, e3, A3, r3, h3⟩ := Wt.pur A2 r2 h2
      exact app_ok A3 (RepD.mono (e2.trans e3) d _ r1) r3 h3
    · exact h1.elim
theorem x_clr (hb : plainBase o = true) (hl : (apos.endLine == pos.line) = true) (ho : PE X o (tE C W F fo)) :
    PE X (.Call (.Attribute o "clear" apos) [] [] pos) (tE C W F fun δ S => (fo δ S).bind fun d S1 => clrG d S1) :=
  PE.imp (pe_bm0 PySem.F.plainAttrs_list PySem.F.slot_list_clear PySem.F.type_list_clear mt_clear ho (base_plain hb) hl) fun σ H Q ⟨δ, s, A, R, h⟩ => by
    refine ⟨δ, s, A, R, Wt.imp (Wt.bind h) fun d s1 H1 _ e1 A1 h1 v r1 => ?_⟩
    cases d with
    | loc n =>
      simp only [clrG] at h1
      split at h1
      · rename_i ys e
        obtain ⟨q, o, k1, k2, k3, k4, vs, ho, rf⟩ := A1.live n _ e
        obtain ⟨q', hq', rfl⟩ := r1
        rw [k1] at hq'
        cases hq'
        subst ho
        have r' : RepC C s1 (.lst []) (.lst []) := ⟨[], rfl, by simp only [RepPs]⟩
        obtain ⟨A', ex⟩ := A1.write e k1 r'
        exact ⟨Or.inl ⟨rfl, vs, SqL.of k4⟩, q, vs, rfl, rfl, k4, h1.to A' rfl ex (by simp only [RepD, RepP])⟩
      · rename_i e
        obtain ⟨q, k1, rq⟩ := A1.fzn n _ e
        obtain ⟨q', hq', rfl⟩ := r1
        rw [k1] at hq'
        cases hq'
        simp only [RepP] at rq
        obtain ⟨b, vs, hb', hg, hv⟩ := rq
        cases hb'
        simp only [RepPs] at hv
        subst hv
        have k4 : H1 q = some (.lst []) := A1.sub _ _ hg
        have eu : upd H1 q (.lst []) = H1 := by
          funext x
          unfold upd
          split
          · rename_i z
            rw [z, k4]
          · rfl
        refine ⟨Or.inl ⟨rfl, [], SqL.of k4⟩, q, [], rfl, rfl, k4, ?_⟩
        have A' : AtS C F s1 (upd H1 q (.lst [])) := by
          rw [eu]
          exact A1
        exact h1.to A' rfl (ExtS.refl s1) (by simp only [RepD, RepP])
      · exact h1.elim
    | _ => exact h1.elim
end
end RP
end

section
set_option Elab.async false
set_option linter.all false
set_option maxRecDepth 100000
set_option maxHeartbeats 2000000
/-! Built-in functions of data. -/
namespace RP
open PySem L2
/-- a class as isinstance takes it -/
def tyC (C : CC) : Ty → Value
  | .int => .type "int"
  | .bool => .type "bool"
  | .str => .type "str"
  | .tup => .type "tuple"
  | .lst => .type "list"
  | .own c => .ref (C.CA c)
def tyCV (C : CC) : Ty → V
  | .int => .ty "int"
  | .bool => .ty "bool"
  | .str => .ty "str"
  | .tup => .ty "tuple"
  | .lst => .ty "list"
  | .own c => .ref (C.CA c)
theorem tyC_cls (C : CC) (t : Ty) : ClsV (tyCV C t) (tyC C t) := by
  cases t <;> constructor
def pKn (C : CC) : P → Bool
  | .ob c _ => C.kn c
  | _ => true
/-- what isinstance answers -/
def KitF (C : CC) (t : Ty) : Prop := ∀ x b, pKn C x = true → isiP t x = some b → PySem.W.kitOne C.K (tyP C x) (tyC C t) = some b
section
variable {C : CC} {W : WX} {X : Cx} {k : Nat} {Γ : Tab} {F : Hp} {a b c e o : Expr} {es : List Expr} {fa fb fe fo : DEnv → Sto → RE D} {pos p apos : Pos}
theorem rep_kn {G : Hp} : ∀ {x : P} {v : V}, RepP C G x v → pKn C x = true := by
  intro x v h
  cases x with
  | ob c xs =>
    simp only [RepP] at h
    exact h.1
  | _ => rfl
theorem tC_of {v : V} : PE X e (tC v) → PE X e (fun _ H Q => Q v H) := fun h => PE.imp h fun σ H Q q => q
theorem x_isi (sp : Spot C W X k) {t : Ty} (kf : KitF C t) (hg : Gl X "isinstance") (hm : X.mg "isinstance" = none) (hn : notStar a = true) (hb : PE X b (tC (tyCV C t))) (hnb : notStar b = true) (ha : PE X a (tE C W F fa)) :
    PE X (.Call (.Name "isinstance" p) [a, b] [] pos) (tE C W F fun δ S => (fa δ S).bind fun d S1 => match d with
      | .p x => match isiP t x with
        | some b => .ok (.p (.bl b)) S1
        | none => .stuck
      | _ => .stuck) :=
  PE.imp (pe_callB call_isi hg hm rfl (pa_cons ha (pa_cons hb pa_nil (star_cons hnb)) (star_cons hn)) (he := star_cons hn) (hpl := star_none (by simp only [List.all_cons, List.all_nil, Bool.and_true]; exact hnb))) fun σ H Q ⟨δ, s, A, R, h⟩ => by
    refine ⟨δ, s, A, R, Wt.imp (Wt.bind h) fun d s1 H1 _ e1 A1 h1 v r1 => ?_⟩
    cases d with
    | p x =>
      dsimp only at h1
      cases hi : isiP t x with
      | none =>
        rw [hi] at h1
        exact h1.elim
      | some b =>
        rw [hi] at h1
        have kt := kf x b (rep_kn r1) hi
        rw [sp.hk] at kt
        exact ⟨v, tyCV C t, tyP C x, tyC C t, b, rfl, tyC_cls C t, tyX_of sp.cf sp.hk A1.sub r1, kt, h1.ok A1 (by simp only [RepD, RepP])⟩
    | _ => exact h1.elim
theorem b1_seq {s0 : Sit} {H : Hp} {d : D} {v : V} (hk : C.K = X.K) (A : AtS C F s0 H) (r : RepD C s0 d v) {x : P} (e : peek d s0.S = some x) {ys : List P} (hx : x = .lst ys ∨ x = .tup ys) : ∃ q vs, v = .ref q ∧ (SqL X.K H q vs ∨ SqT X.K H q vs) ∧ RepPs C s0.G ys vs := by
  rcases hx with rfl | rfl
  · obtain ⟨q, vs, rfl, hq, rq⟩ := peek_lst A r e
    exact ⟨q, vs, rfl, Or.inl (SqL.of hq), rq⟩
  · have q1 := peek_pure A r e (fun _ z => nomatch z)
    simp only [RepP] at q1
    obtain ⟨q, vs, rfl, hq, rq⟩ := q1
    rw [hk] at hq
    exact ⟨q, vs, rfl, Or.inr (sqT_mono A.sub hq), rq⟩
theorem len_ok {s0 : Sit} {σ : L2.St} {H : Hp} {Q : VK} {d : D} {v : V} {x : P} (hk : C.K = X.K) (A : AtS C F s0 H) (r : RepD C s0 d v) (e : peek d s0.S = some x) (h : WantE C W F (RepD C) σ s0 ((b1P .len x).lift s0.S) Q) :
    (∃ p ys, [v] = [V.ref p] ∧ (SqL X.K H p ys ∨ SqT X.K H p ys) ∧ Q (.int ys.length) H) ∨ ∃ z, [v] = [V.str z] ∧ z.length ≤ sizeLine ∧ Q (.int z.length) H := by
  have go : ∀ {ys : List P}, x = .lst ys ∨ x = .tup ys → Q (.int ys.length) H → ∃ p ys, [v] = [V.ref p] ∧ (SqL X.K H p ys ∨ SqT X.K H p ys) ∧ Q (.int ys.length) H := fun {ys} hx q => by
    obtain ⟨q', vs, rfl, hq, rq⟩ := b1_seq hk A r e hx
    exact ⟨q', vs, rfl, hq, by rw [← RepPs.len _ _ rq]; exact q⟩
  cases x with
  | lst ys => exact Or.inl (go (Or.inl rfl) (want_int A h))
  | tup ys => exact Or.inl (go (Or.inr rfl) (want_int A h))
  | scr ns =>
    have q1 := peek_pure A r e (fun _ z => nomatch z)
    simp only [RepP] at q1
    obtain ⟨q, rfl, hq⟩ := q1
    rw [hk] at hq
    exact Or.inl ⟨q, ns.map V.int, rfl, Or.inl (A.sub.seq hq.sq), by rw [List.length_map]; exact want_int A h⟩
  | str z =>
    have q1 := peek_pure A r e (fun _ z => nomatch z)
    simp only [RepP] at q1
    subst q1
    simp only [b1P] at h
    split at h
    · rename_i hl
      exact Or.inr ⟨z, rfl, line_of hl, want_int A h⟩
    · exact h.elim
  | _ => exact h.elim
theorem tup1_ok {s0 : Sit} {σ : L2.St} {H : Hp} {Q : VK} {d : D} {v : V} {x : P} (hk : C.K = X.K) (A : AtS C F s0 H) (r : RepD C s0 d v) (e : peek d s0.S = some x) (h : WantE C W F (RepD C) σ s0 ((b1P .tuple x).lift s0.S) Q) :
    ∃ p ys, [v] = [V.ref p] ∧ ((SqL X.K H p ys ∧ ∀ l, H l = none → Q (.ref l) (upd H l (.tup ys))) ∨ (SqT X.K H p ys ∧ Q (.ref p) H)) := by
  cases x with
  | lst ys =>
    obtain ⟨q, vs, rfl, hq, rq⟩ := peek_lst A r e
    exact ⟨q, vs, rfl, Or.inl ⟨SqL.of hq, fun l hl => want_tup A rq h l hl⟩⟩
  | tup ys =>
    have q1 := peek_pure A r e (fun _ z => nomatch z)
    have q2 := q1
    simp only [RepP] at q1
    obtain ⟨q, vs, rfl, hq, rq⟩ := q1
    rw [hk] at hq
    exact ⟨q, vs, rfl, Or.inr ⟨sqT_mono A.sub hq, h.ok A q2⟩⟩
  | _ => exact h.elim
def b1N : B1 → Str
  | .len => "len"
  | .int => "int"
  | .abs => "abs"
  | .list => "list"
  | .tuple => "tuple"
  | .all => "all"
  | .sum => "sum"
  | .rpr => "repr"
  | .str => "str"
theorem bols_ok {G : Hp} : ∀ {xs : List P} {vs : List V} {bs : List Bool}, bolsOf xs = some bs → RepPs C G xs vs → vs = bs.map V.bl
  | [], vs, bs, h, r => by
    simp only [bolsOf, Option.some.injEq] at h
    simp only [RepPs] at r
    subst h
    subst r
    rfl
  | x :: xs, vs, bs, h, r => by
    cases x with
    | bl b =>
      simp only [bolsOf, Option.map_eq_some_iff] at h
      obtain ⟨l, h1, rfl⟩ := h
      simp only [RepPs, RepP] at r
      obtain ⟨v, ws, rfl, rfl, r2⟩ := r
      rw [List.map_cons, bols_ok h1 r2]
    | _ => cases h
theorem ints_ok {G : Hp} : ∀ {xs : List P} {vs : List V} {bs : List Int}, intsOf xs = some bs → RepPs C G xs vs → vs = bs.map V.int
  | [], vs, bs, h, r => by
    simp only [intsOf, Option.some.injEq] at h
    simp only [RepPs] at r
    subst h
    subst r
    rfl
  | x :: xs, vs, bs, h, r => by
    cases x with
    | int b =>
      simp only [intsOf, Option.map_eq_some_iff] at h
      obtain ⟨l, h1, rfl⟩ := h
      simp only [RepPs, RepP] at r
      obtain ⟨v, ws, rfl, rfl, r2⟩ := r
      rw [List.map_cons, ints_ok h1 r2]
    | _ => cases h
/-! ### repr -/
theorem rpr_str {y w : P} (h : rprP y = .ok w) : ∃ z, w = .str z := by
  have sh : ∀ o : Option PyData, shwP o = .ok w → ∃ z, w = .str z := fun o h => by
    cases o with
    | none => cases h
    | some d =>
      simp only [shwP] at h
      split at h
      · cases h
        exact ⟨_, rfl⟩
      · cases h
  cases y with
  | tup xs => exact sh _ h
  | lst xs => exact sh _ h
  | dic ks xs =>
    simp only [rprP] at h
    split at h
    · exact sh _ h
    · cases h
  | _ => simp only [rprP] at h <;> (try split at h) <;> cases h <;> exact ⟨_, rfl⟩
section
variable {pins : List (Addr × Obj)} {σ : L2.St} {G H : Hp} {s : Shared}
mutual
theorem reads0 (hk : C.K = X.K) (e : Same G H) (I : Inv X pins σ H s) : ∀ (x : P) (v : V) (u : Value) (d : PyData), RepP C G x v → RelV v u → data0 x = some d → ∃ as, Reads s.heap u d as ∧ d.hasDict = false
  | .non, v, u, d, r, rv, h => by
    simp only [RepP] at r
    subst r
    cases rv
    simp only [data0, Option.some.injEq] at h
    subst h
    exact ⟨_, .none, by simp only [PyData.hasDict]⟩
  | .bl b, v, u, d, r, rv, h => by
    simp only [RepP] at r
    subst r
    cases rv
    simp only [data0, Option.some.injEq] at h
    subst h
    exact ⟨_, .bool b, by simp only [PyData.hasDict]⟩
  | .int b, v, u, d, r, rv, h => by
    simp only [RepP] at r
    subst r
    obtain ⟨t, rfl⟩ := rv
    simp only [data0, Option.some.injEq] at h
    subst h
    exact ⟨_, .int b t, by simp only [PyData.hasDict]⟩
  | .str b, v, u, d, r, rv, h => by
    simp only [RepP] at r
    subst r
    obtain ⟨t, rfl⟩ := rv
    simp only [data0, Option.some.injEq] at h
    subst h
    exact ⟨_, .str b t, by simp only [PyData.hasDict]⟩
  | .tup xs, v, u, d, r, rv, h => by
    simp only [RepP] at r
    obtain ⟨a, vs, rfl, h1, r1⟩ := r
    cases rv
    rw [hk] at h1
    simp only [data0, Option.map_eq_some_iff] at h
    obtain ⟨ds, h2, rfl⟩ := h
    obtain ⟨its, rs, ⟨o, q1, q2, n, q3⟩, _⟩ := I.tuple (sqT_mono e h1)
    obtain ⟨as, k1, k2⟩ := readsL hk e I xs vs its ds r1 rs h2
    exact ⟨as, .tuple q1 q2 q3 k1, by simp only [PyData.hasDict]; exact k2⟩
  | .lst xs, v, u, d, r, rv, h => by
    simp only [RepP] at r
    obtain ⟨a, vs, rfl, h1, r1⟩ := r
    cases rv
    simp only [data0, Option.map_eq_some_iff] at h
    obtain ⟨ds, h2, rfl⟩ := h
    obtain ⟨its, rs, ⟨o, n, q1, q2, q3, q4⟩, _⟩ := I.list (SqL.of (e _ _ h1))
    obtain ⟨as, k1, k2⟩ := readsL hk e I xs vs its ds r1 rs h2
    exact ⟨a :: as, .list q1 q2 q4 k1, by simp only [PyData.hasDict]; exact k2⟩
  | .ob _ _, v, u, d, r, rv, h => by simp only [data0] at h; cases h
  | .scr _, v, u, d, r, rv, h => by simp only [data0] at h; cases h
  | .dic _ _, v, u, d, r, rv, h => by simp only [data0] at h; cases h
theorem readsL (hk : C.K = X.K) (e : Same G H) (I : Inv X pins σ H s) : ∀ (xs : List P) (vs : List V) (us : List Value) (ds : List PyData), RepPs C G xs vs → Vals vs us → dataL xs = some ds → ∃ as, ReadsAll s.heap us ds as ∧ PyData.hasDictAll ds = false
  | [], vs, us, ds, r, rv, h => by
    simp only [RepPs] at r
    subst r
    cases rv
    simp only [dataL, Option.some.injEq] at h
    subst h
    exact ⟨[], .nil, by simp only [PyData.hasDictAll]⟩
  | x :: xs, vs, us, ds, r, rv, h => by
    simp only [RepPs] at r
    obtain ⟨v, ws, rfl, r1, r2⟩ := r
    cases rv with
    | cons rv1 rv2 =>
      simp only [dataL] at h
      split at h
      · rename_i d es h1 h2
        cases h
        obtain ⟨as, k1, k2⟩ := reads0 hk e I x v _ d r1 rv1 h1
        obtain ⟨bs, k3, k4⟩ := readsL hk e I xs ws _ es r2 rv2 h2
        exact ⟨as ++ bs, .cons k1 k3, by simp only [PyData.hasDictAll, k2, k4, Bool.or_self]⟩
      · cases h
end
end
section
variable {pins : List (Addr × Obj)} {σ : L2.St} {G H : Hp} {s : Shared}
theorem flat_reads {h : Heap} {x : P} {v : V} {u : Value} {d : PyData} (f : flatP x = true) (r : RepP C G x v) (rv : RelV v u) (hd : data0 x = some d) : Reads h u d [] := by
  cases x with
  | non =>
    simp only [RepP] at r
    subst r
    cases rv
    simp only [data0, Option.some.injEq] at hd
    subst hd
    exact .none
  | bl b =>
    simp only [RepP] at r
    subst r
    cases rv
    simp only [data0, Option.some.injEq] at hd
    subst hd
    exact .bool b
  | int b =>
    simp only [RepP] at r
    subst r
    obtain ⟨t, rfl⟩ := rv
    simp only [data0, Option.some.injEq] at hd
    subst hd
    exact .int b t
  | str b =>
    simp only [RepP] at r
    subst r
    obtain ⟨t, rfl⟩ := rv
    simp only [data0, Option.some.injEq] at hd
    subst hd
    exact .str b t
  | _ => cases f
theorem dic_reads {Pg : Program} {w : World} {h : Heap} : ∀ (ks : List Str) (xs : List P) (vs : List V) (ws : List (Key × Value)) (es : List DictEntry) (ds : List PyData), ks.length = vs.length → RepPs C G xs vs → xs.all flatP = true → dataL xs = some ds → KV ((ks.map Sum.inr).zip vs) ws → Pairs (mixKind Pg w) es ws →
    ReadsAll h (es.map (·.key)) (((ks.map PyData.str).zip ds).map (·.1)) [] ∧ ReadsAll h (es.map (·.val)) (((ks.map PyData.str).zip ds).map (·.2)) []
  | [], xs, [], ws, es, ds, _, r, f, hd, kv, pr => by
    unfold KV at kv
    cases kv
    cases pr
    exact ⟨.nil, .nil⟩
  | k :: ks, [], v :: vs, ws, es, ds, hl, r, f, hd, kv, pr => by
    simp only [RepPs] at r
    cases r
  | k :: ks, x :: xs, v :: vs, ws, es, ds, hl, r, f, hd, kv, pr => by
    simp only [RepPs] at r
    obtain ⟨v', vs', e, r1, r2⟩ := r
    cases e
    simp only [List.all_cons, Bool.and_eq_true] at f
    simp only [dataL] at hd
    split at hd
    · rename_i d ds' d1 d2
      cases hd
      unfold KV at kv
      cases kv with
      | @cons p q ps qs hq t =>
        cases pr with
        | @cons e _ es _ hk hv pr =>
          obtain ⟨ih1, ih2⟩ := dic_reads ks xs vs _ _ ds' (by simpa using hl) r2 f.2 d2 (by unfold KV; exact t) pr
          have kq : q.1 = Sum.inr k := hq.1.symm
          rw [kq] at hk
          have kx : ∃ t, e.key = Value.str k t := by
            rcases keyIs_shape (k := Sum.inr k) (v := e.key) hk with ⟨i, t, z, _⟩ | ⟨x', t, z, z2⟩
            · cases z
            · cases z
              exact ⟨t, z2⟩
          obtain ⟨t', kx⟩ := kx
          simp only [List.map_cons, List.zip_cons_cons]
          refine ⟨?_, ?_⟩
          · rw [kx]
            exact .cons (.str k t') ih1
          · rw [hv]
            exact .cons (flat_reads f.1 r1 hq.2 d1) ih2
    · cases hd
  | [], xs, v :: vs, ws, es, ds, hl, _, _, _, _, _ => by cases hl
  | k :: ks, xs, [], ws, es, ds, hl, _, _, _, _, _ => by cases hl
theorem reads_dic (hk : C.K = X.K) (e : Same G H) (I : Inv X pins σ H s) {ks : List Str} {xs : List P} {a : Addr} {vs : List V} {ds : List PyData} (hf : xs.all flatP = true) (h1 : G a = some (.dK ((ks.map Sum.inr).zip vs))) (hl : ks.length = vs.length) (r1 : RepPs C G xs vs) (hd : dataL xs = some ds) :
    Reads s.heap (.ref a) (.dict ((ks.map .str).zip ds)) [a] ∧ a ≠ sysModules := by
  obtain ⟨_, hs, ws, kv, o, es, ep, q1, q2, q3, _, q5, _⟩ := dk_of I.hok (e _ _ h1)
  obtain ⟨k1, k2⟩ := dic_reads (Pg := X.prog) (w := X.w) (h := s.heap) ks xs vs ws es.toList ds hl r1 hf hd kv q5
  exact ⟨.dict q1 q2.1 q3 k1 k2, beq_eq_false_iff_ne.mp hs⟩
theorem peek_rep {s0 : Sit} {d : D} {v : V} {y : P} (A : AtS C F s0 H) (r : RepD C s0 d v) (e : peek d s0.S = some y) : ∃ G', Same G' H ∧ RepP C G' y v := by
  cases y with
  | lst xs =>
    obtain ⟨q, vs, rfl, hq, rq⟩ := peek_lst A r e
    have sm : Same s0.G (fun b => if b = q then some (.lst vs) else s0.G b) := fun b o z => by
      dsimp only
      by_cases c : b = q
      · subst c
        rw [if_pos rfl]
        have := A.sub _ _ z
        rw [hq] at this
        exact this
      · rw [if_neg c]
        exact z
    refine ⟨fun b => if b = q then some (.lst vs) else s0.G b, fun b o z => ?_, ?_⟩
    · dsimp only at z
      by_cases c : b = q
      · subst c
        rw [if_pos rfl] at z
        rw [hq]
        exact z
      · rw [if_neg c] at z
        exact A.sub _ _ z
    · simp only [RepP]
      exact ⟨q, vs, rfl, if_pos rfl, RepPs.mono sm xs vs rq⟩
  | _ => exact ⟨s0.G, A.sub, peek_pure A r e (fun _ z => nomatch z)⟩
theorem rpr_exc {y : P} {c : Nat} {z : Option P} (h : rprP y = .exc c z) : False := by
  have sh : ∀ o : Option PyData, shwP o = .exc c z → False := fun o h => by
    cases o with
    | none => cases h
    | some d =>
      simp only [shwP] at h
      split at h <;> cases h
  cases y with
  | tup xs => exact sh _ h
  | lst xs => exact sh _ h
  | dic ks xs =>
    simp only [rprP] at h
    split at h
    · exact sh _ h
    · cases h
  | _ => simp only [rprP] at h <;> (try split at h) <;> cases h
end
/-- repr, of data -/
def rRpr (C : CC) : List V → Hp → VK → Prop := fun vs H Q => ∃ (G : Hp) (x : P) (v : V) (z : Str), vs = [v] ∧ Same G H ∧ RepP C G x v ∧ rprP x = .ok (.str z) ∧ Q (.str z) H
theorem call_rpr (hk : C.K = X.K) (gd : X.A.guards = some []) (un : X.A.units + 64 < cLine) : CallR X (.builtin "repr") (rRpr C) := by
  intro pins s σ H xs us Q I r h
  obtain ⟨G, x, v, z, rfl, e, rx, hz, q⟩ := h
  obtain ⟨u, rfl, ru⟩ := vals1 r
  have big : 100000 ≤ sizeLine := Nat.le_trans (by decide) sizeLine_big
  have deep : ∀ (d : PyData) (as : List Addr) (a : Addr), Reads s.heap (.ref a) d as → (d.hasDict = true → sysModules ∉ as) → shwP (some d) = .ok (.str z) → wpAny (model X.prog X.w) X.A (call (.builtin "repr") [.ref a]) (EP X pins σ Q) X.xe s := fun d as a rd hn hs => by
    simp only [shwP] at hs
    split at hs
    · rename_i hc
      simp only [Bool.and_eq_true, decide_eq_true_eq] at hc
      cases hs
      exact repr_of_reads' rd hc.1 hn gd (by omega) (fun _ _ e => e) (fun h' u tk hk' => ⟨.str _, H, I.kept (t' := tk) hk', ⟨u, rfl⟩, q⟩) (Nat.le_trans hc.2.1 big)
    · cases hs
  cases x with
  | non =>
    simp only [RepP] at rx
    subst rx
    cases ru
    simp only [rprP] at hz
    cases hz
    exact PySem.P.repr_of_none ⟨.str _, H, I.tok _, ⟨_, rfl⟩, q⟩
  | bl b =>
    simp only [RepP] at rx
    subst rx
    cases ru
    simp only [rprP] at hz
    cases hz
    exact PySem.P.repr_of_bool ⟨.str _, H, I.tok _, ⟨_, rfl⟩, q⟩
  | int i =>
    simp only [RepP] at rx
    subst rx
    obtain ⟨t, rfl⟩ := ru
    simp only [rprP] at hz
    split at hz
    · rename_i hl
      cases hz
      exact PySem.P.repr_of_int (of_decide_eq_true hl) ⟨.str _, H, I.tok _, ⟨_, rfl⟩, q⟩
    · cases hz
  | str a =>
    simp only [RepP] at rx
    subst rx
    obtain ⟨t, rfl⟩ := ru
    simp only [rprP] at hz
    split at hz
    · rename_i hl
      cases hz
      exact PySem.P.repr_of_str ⟨.str _, H, I.tok _, ⟨_, rfl⟩, q⟩ (Nat.le_trans (of_decide_eq_true hl) big)
    · cases hz
  | tup xs =>
    simp only [rprP] at hz
    cases hd : data0 (.tup xs) with
    | none =>
      rw [hd] at hz
      cases hz
    | some d =>
      rw [hd] at hz
      obtain ⟨as, k1, k2⟩ := reads0 hk e I _ v u d rx ru hd
      obtain ⟨a, _, rfl, _⟩ := (by simpa only [RepP] using rx : ∃ a vs, v = .ref a ∧ _)
      cases ru
      exact deep d as a k1 (fun h => by rw [k2] at h; cases h) hz
  | lst xs =>
    simp only [rprP] at hz
    cases hd : data0 (.lst xs) with
    | none =>
      rw [hd] at hz
      cases hz
    | some d =>
      rw [hd] at hz
      obtain ⟨as, k1, k2⟩ := reads0 hk e I _ v u d rx ru hd
      obtain ⟨a, _, rfl, _⟩ := (by simpa only [RepP] using rx : ∃ a vs, v = .ref a ∧ _)
      cases ru
      exact deep d as a k1 (fun h => by rw [k2] at h; cases h) hz
  | dic ks xs =>
    simp only [rprP] at hz
    split at hz
    · rename_i hf
      cases hd : dataL xs with
      | none =>
        rw [hd] at hz
        cases hz
      | some ds =>
        rw [hd] at hz
        simp only [RepP] at rx
        obtain ⟨a, vs, rfl, h1, hl, r1⟩ := rx
        cases ru
        obtain ⟨k1, k2⟩ := reads_dic hk e I hf h1 hl r1 hd
        exact deep _ [a] a k1 (fun _ z => k2 (List.mem_singleton.mp z).symm) hz
    · cases hz
  | _ => simp only [rprP] at hz; cases hz
/-- str, of data -/
def rStr (C : CC) : List V → Hp → VK → Prop := fun vs H Q => ∃ (G : Hp) (x : P) (v : V) (z : Str), vs = [v] ∧ Same G H ∧ RepP C G x v ∧ strP x = .ok (.str z) ∧ Q (.str z) H
theorem call_strd (hk : C.K = X.K) (gd : X.A.guards = some []) (un : X.A.units + 64 < cLine) : CallR X (.type "str") (rStr C) := by
  intro pins s σ H xs us Q I r h
  obtain ⟨G, x, v, z, rfl, e, rx, hz, q⟩ := h
  obtain ⟨u, rfl, ru⟩ := vals1 r
  have big : 100000 ≤ sizeLine := Nat.le_trans (by decide) sizeLine_big
  have deep : ∀ (d : PyData) (as : List Addr) (a : Addr), Reads s.heap (.ref a) d as → (d.hasDict = true → sysModules ∉ as) → shwP (some d) = .ok (.str z) → wpAny (model X.prog X.w) X.A (call (.type "str") [.ref a]) (EP X pins σ Q) X.xe s := fun d as a rd hn hs => by
    simp only [shwP] at hs
    split at hs
    · rename_i hc
      simp only [Bool.and_eq_true, decide_eq_true_eq] at hc
      cases hs
      exact str_of_reads rd hc.1 hn gd (by omega) (fun _ _ e => e) (fun h' u tk hk' => ⟨.str _, H, I.kept (t' := tk) hk', ⟨u, rfl⟩, q⟩) (Nat.le_trans hc.2.1 big)
    · cases hs
  cases x with
  | non =>
    simp only [RepP] at rx
    subst rx
    cases ru
    simp only [strP, rprP] at hz
    cases hz
    exact PySem.P.str_of_none ⟨.str _, H, I.tok _, ⟨_, rfl⟩, q⟩
  | bl b =>
    simp only [RepP] at rx
    subst rx
    cases ru
    simp only [strP, rprP] at hz
    cases hz
    exact PySem.P.str_of_bool ⟨.str _, H, I.tok _, ⟨_, rfl⟩, q⟩
  | int i =>
    simp only [RepP] at rx
    subst rx
    obtain ⟨t, rfl⟩ := ru
    simp only [strP, rprP] at hz
    split at hz
    · rename_i hl
      cases hz
      exact PySem.P.str_of_int (of_decide_eq_true hl) ⟨.str _, H, I.tok _, ⟨_, rfl⟩, q⟩
    · cases hz
  | str a =>
    simp only [RepP] at rx
    subst rx
    obtain ⟨t, rfl⟩ := ru
    simp only [strP] at hz
    cases hz
    exact PySem.P.str_of_str ⟨.str _, H, I, ⟨_, rfl⟩, q⟩
  | tup xs =>
    simp only [strP, rprP] at hz
    cases hd : data0 (.tup xs) with
    | none =>
      rw [hd] at hz
      cases hz
    | some d =>
      rw [hd] at hz
      obtain ⟨as, k1, k2⟩ := reads0 hk e I _ v u d rx ru hd
      obtain ⟨a, _, rfl, _⟩ := (by simpa only [RepP] using rx : ∃ a vs, v = .ref a ∧ _)
      cases ru
      exact deep d as a k1 (fun h => by rw [k2] at h; cases h) hz
  | lst xs =>
    simp only [strP, rprP] at hz
    cases hd : data0 (.lst xs) with
    | none =>
      rw [hd] at hz
      cases hz
    | some d =>
      rw [hd] at hz
      obtain ⟨as, k1, k2⟩ := reads0 hk e I _ v u d rx ru hd
      obtain ⟨a, _, rfl, _⟩ := (by simpa only [RepP] using rx : ∃ a vs, v = .ref a ∧ _)
      cases ru
      exact deep d as a k1 (fun h => by rw [k2] at h; cases h) hz
  | dic ks xs =>
    simp only [strP, rprP] at hz
    split at hz
    · rename_i hf
      cases hd : dataL xs with
      | none =>
        rw [hd] at hz
        cases hz
      | some ds =>
        rw [hd] at hz
        simp only [RepP] at rx
        obtain ⟨a, vs, rfl, h1, hl, r1⟩ := rx
        cases ru
        obtain ⟨k1, k2⟩ := reads_dic hk e I hf h1 hl r1 hd
        exact deep _ [a] a k1 (fun _ z => k2 (List.mem_singleton.mp z).symm) hz
    · cases hz
  | _ => simp only [strP, rprP] at hz; cases hz
theorem str_str {y w : P} (h : strP y = .ok w) : ∃ z, w = .str z := by
  cases y with
  | str s =>
    simp only [strP] at h
    cases h
    exact ⟨_, rfl⟩
  | _ => exact rpr_str (by simpa only [strP] using h)
theorem str_exc {y : P} {c : Nat} {z : Option P} (h : strP y = .exc c z) : False := by
  cases y with
  | str s =>
    simp only [strP] at h
    cases h
  | _ => exact rpr_exc (by simpa only [strP] using h)
theorem str_ok {G : Hp} {x : P} {v : V} {z : P} (r : RepP C G x v) (h : strP x = .ok z) : ∃ w, z = .str w ∧ ∀ (H : Hp) (Q : VK), Same G H → Q (.str w) H → rStr C [v] H Q := by
  obtain ⟨w, rfl⟩ := str_str h
  exact ⟨w, rfl, fun H Q e q => ⟨G, x, v, w, rfl, e, r, h, q⟩⟩
theorem rpr_ok {G : Hp} {x : P} {v : V} {z : P} (r : RepP C G x v) (h : rprP x = .ok z) : ∃ w, z = .str w ∧ ∀ (H : Hp) (Q : VK), Same G H → Q (.str w) H → rRpr C [v] H Q := by
  obtain ⟨w, rfl⟩ := rpr_str h
  exact ⟨w, rfl, fun H Q e q => ⟨G, x, v, w, rfl, e, r, h, q⟩⟩
theorem x_b1 (hc : X.calm = true) (hk : C.K = X.K) (gd : X.A.guards = some []) (un : X.A.units + 64 < cLine) (bb : B1) {x : Str} (hx : x = b1N bb) (hg : Gl X x) (hm : X.mg x = none) (hn : notStar a = true) (ha : PE X a (tE C W F fa)) :
    PE X (.Call (.Name x p) [a] [] pos) (tE C W F fun δ S => (fa δ S).bind fun d S1 => match peek d S1 with
      | some x => (b1P bb x).lift S1
      | none => .stuck) := by
  subst hx
  cases bb with
  | len =>
    refine PE.imp (pe_callB (call_len_seq.or call_len_str) hg hm rfl (pa_cons ha pa_nil (star_cons hn)) (he := star_cons hn)) fun σ H Q ⟨δ, s, A, R, h⟩ => ?_
    refine ⟨δ, s, A, R, Wt.imp (Wt.bind h) fun d s1 H1 _ e1 A1 h1 v r1 => ?_⟩
    cases hp : peek d s1.S with
    | none =>
      rw [hp] at h1
      exact h1.elim
    | some y =>
      rw [hp] at h1
      exact len_ok hk A1 r1 hp h1
  | int =>
    refine PE.imp (pe_callTy (call_int1.or call_int_str) hg hm rfl (pa_cons ha pa_nil (star_cons hn)) (he := star_cons hn)) fun σ H Q ⟨δ, s, A, R, h⟩ => ?_
    refine ⟨δ, s, A, R, Wt.imp (Wt.bind h) fun d s1 H1 _ e1 A1 h1 v r1 => ?_⟩
    cases hp : peek d s1.S with
    | none =>
      rw [hp] at h1
      exact h1.elim
    | some y =>
      rw [hp] at h1
      cases y with
      | int i =>
        have q1 := peek_pure A1 r1 hp (fun _ z => nomatch z)
        simp only [RepP] at q1
        subst q1
        exact Or.inl (Or.inl ⟨i, rfl, want_int A1 h1⟩)
      | bl i =>
        have q1 := peek_pure A1 r1 hp (fun _ z => nomatch z)
        simp only [RepP] at q1
        subst q1
        exact Or.inl (Or.inr ⟨i, rfl, want_int A1 h1⟩)
      | str z =>
        have q1 := peek_pure A1 r1 hp (fun _ z => nomatch z)
        simp only [RepP] at q1
        subst q1
        simp only [b1P] at h1
        split at h1
        · rename_i hz
          cases hi : PySem.intText? z with
          | none =>
            rw [hi] at h1
            exact h1.elim
          | some n =>
            rw [hi] at h1
            exact Or.inr ⟨z, n, rfl, hi, of_decide_eq_true hz, want_int A1 h1⟩
        · exact h1.elim
      | _ => exact h1.elim
  | abs =>
    refine PE.imp (pe_callB call_abs hg hm rfl (pa_cons ha pa_nil (star_cons hn)) (he := star_cons hn)) fun σ H Q ⟨δ, s, A, R, h⟩ => ?_
    refine ⟨δ, s, A, R, Wt.imp (Wt.bind h) fun d s1 H1 _ e1 A1 h1 v r1 => ?_⟩
    cases hp : peek d s1.S with
    | none =>
      rw [hp] at h1
      exact h1.elim
    | some y =>
      rw [hp] at h1
      cases y with
      | int i =>
        have q1 := peek_pure A1 r1 hp (fun _ z => nomatch z)
        simp only [RepP] at q1
        subst q1
        exact ⟨i, rfl, want_int A1 h1⟩
      | _ => exact h1.elim
  | list =>
    refine PE.imp (pe_callTy call_list_of hg hm rfl (pa_cons ha pa_nil (star_cons hn)) (he := star_cons hn)) fun σ H Q ⟨δ, s, A, R, h⟩ => ?_
    refine ⟨δ, s, A, R, Wt.imp (Wt.bind h) fun d s1 H1 _ e1 A1 h1 v r1 => ?_⟩
    cases hp : peek d s1.S with
    | none =>
      rw [hp] at h1
      exact h1.elim
    | some y =>
      rw [hp] at h1
      cases y with
      | lst ys =>
        obtain ⟨q, vs, rfl, hq, rq⟩ := b1_seq hk A1 r1 hp (Or.inl rfl)
        exact ⟨q, vs, rfl, hq, fun l hl => want_lst A1 rq h1 l hl⟩
      | tup ys =>
        obtain ⟨q, vs, rfl, hq, rq⟩ := b1_seq hk A1 r1 hp (Or.inr rfl)
        exact ⟨q, vs, rfl, hq, fun l hl => want_lst A1 rq h1 l hl⟩
      | _ => exact h1.elim
  | tuple =>
    refine PE.imp (pe_callTy call_tuple_of hg hm rfl (pa_cons ha pa_nil (star_cons hn)) (he := star_cons hn)) fun σ H Q ⟨δ, s, A, R, h⟩ => ?_
    refine ⟨δ, s, A, R, Wt.imp (Wt.bind h) fun d s1 H1 _ e1 A1 h1 v r1 => ?_⟩
    cases hp : peek d s1.S with
    | none =>
      rw [hp] at h1
      exact h1.elim
    | some y =>
      rw [hp] at h1
      exact tup1_ok hk A1 r1 hp h1
  | all =>
    refine PE.imp (pe_callB (cr_all hc) hg hm rfl (pa_cons ha pa_nil (star_cons hn)) (he := star_cons hn)) fun σ H Q ⟨δ, s, A, R, h⟩ => ?_
    refine ⟨δ, s, A, R, Wt.imp (Wt.bind h) fun d s1 H1 _ e1 A1 h1 v r1 => ?_⟩
    cases hp : peek d s1.S with
    | none =>
      rw [hp] at h1
      exact h1.elim
    | some y =>
      rw [hp] at h1
      cases y with
      | lst ys =>
        simp only [b1P] at h1
        cases hb : bolsOf ys with
        | none =>
          rw [hb] at h1
          exact h1.elim
        | some bs =>
          rw [hb] at h1
          obtain ⟨q, vs, rfl, hq, rq⟩ := peek_lst A1 r1 hp
          have e := bols_ok hb rq
          subst e
          exact ⟨q, bs, rfl, SqL.of hq, want_bl A1 h1⟩
      | _ => exact h1.elim
  | sum =>
    refine PE.imp (pe_callB (cr_sum hc) hg hm rfl (pa_cons ha pa_nil (star_cons hn)) (he := star_cons hn)) fun σ H Q ⟨δ, s, A, R, h⟩ => ?_
    refine ⟨δ, s, A, R, Wt.imp (Wt.bind h) fun d s1 H1 _ e1 A1 h1 v r1 => ?_⟩
    cases hp : peek d s1.S with
    | none =>
      rw [hp] at h1
      exact h1.elim
    | some y =>
      rw [hp] at h1
      cases y with
      | lst ys =>
        simp only [b1P] at h1
        cases hb : intsOf ys with
        | none =>
          rw [hb] at h1
          exact h1.elim
        | some bs =>
          rw [hb] at h1
          obtain ⟨q, vs, rfl, hq, rq⟩ := peek_lst A1 r1 hp
          have e := ints_ok hb rq
          subst e
          exact ⟨q, bs, rfl, SqL.of hq, want_int A1 h1⟩
      | _ => exact h1.elim
  | rpr =>
    refine PE.imp (pe_callB (call_rpr (C := C) hk gd un) hg hm rfl (pa_cons ha pa_nil (star_cons hn)) (he := star_cons hn)) fun σ H Q ⟨δ, s, A, R, h⟩ => ?_
    refine ⟨δ, s, A, R, Wt.imp (Wt.bind h) fun d s1 H1 _ e1 A1 h1 v r1 => ?_⟩
    cases hp : peek d s1.S with
    | none =>
      rw [hp] at h1
      exact h1.elim
    | some y =>
      rw [hp] at h1
      simp only [b1P] at h1
      cases hb : rprP y with
      | ok z =>
        rw [hb] at h1
        obtain ⟨G', sm, r2⟩ := peek_rep A1 r1 hp
        obtain ⟨w, rfl, k⟩ := rpr_ok r2 hb
        exact k _ _ sm (want_str A1 h1)
      | exc c z => exact (rpr_exc hb).elim
      | stuck =>
        rw [hb] at h1
        exact h1.elim
  | str =>
    refine PE.imp (pe_callTy (call_strd (C := C) hk gd un) hg hm rfl (pa_cons ha pa_nil (star_cons hn)) (he := star_cons hn)) fun σ H Q ⟨δ, s, A, R, h⟩ => ?_
    refine ⟨δ, s, A, R, Wt.imp (Wt.bind h) fun d s1 H1 _ e1 A1 h1 v r1 => ?_⟩
    cases hp : peek d s1.S with
    | none =>
      rw [hp] at h1
      exact h1.elim
    | some y =>
      rw [hp] at h1
      simp only [b1P] at h1
      cases hb : strP y with
      | ok z =>
        rw [hb] at h1
        obtain ⟨G', sm, r2⟩ := peek_rep A1 r1 hp
        obtain ⟨w, rfl, k⟩ := str_ok r2 hb
        exact k _ _ sm (want_str A1 h1)
      | exc c z => exact (str_exc hb).elim
      | stuck =>
        rw [hb] at h1
        exact h1.elim
theorem x_cpl (hk : C.K = X.K) (hg : Gl X "list") (hm : X.mg "list" = none) (hn : notStar a = true) (ha : PE X a (tE C W F fa)) :
    PE X (.Call (.Name "list" p) [a] [] pos) (tE C W F fun δ S => (fa δ S).bind fun d S1 => cplG (peek d S1) S1) := by
  refine PE.imp (pe_callTy call_list_of hg hm rfl (pa_cons ha pa_nil (star_cons hn)) (he := star_cons hn)) fun σ H Q ⟨δ, s, A, R, h⟩ => ?_
  refine ⟨δ, s, A, R, Wt.imp (Wt.bind h) fun d s1 H1 _ e1 A1 h1 v r1 => ?_⟩
  cases hp : peek d s1.S with
  | none =>
    rw [hp] at h1
    exact h1.elim
  | some y =>
    rw [hp] at h1
    cases y with
    | lst ys =>
      obtain ⟨q, vs, rfl, hq, rq⟩ := b1_seq hk A1 r1 hp (Or.inl rfl)
      exact ⟨q, vs, rfl, hq, fun l hl => want_new A1 rq h1 l hl⟩
    | tup ys =>
      obtain ⟨q, vs, rfl, hq, rq⟩ := b1_seq hk A1 r1 hp (Or.inr rfl)
      exact ⟨q, vs, rfl, hq, fun l hl => want_new A1 rq h1 l hl⟩
    | _ => exact h1.elim
def b2N : B2 → Str
  | .min => "min"
  | .max => "max"
theorem x_b2 (hc : X.calm = true) (bb : B2) {x : Str} (hx : x = b2N bb) (hg : Gl X x) (hm : X.mg x = none) (hn : notStar a = true) (hnb : notStar b = true) (ha : PE X a (tE C W F fa)) (hb : PE X b (tE C W F fb)) :
    PE X (.Call (.Name x p) [a, b] [] pos) (tE C W F fun δ S => (fa δ S).bind fun d1 S1 => (fb δ S1).bind fun d2 S2 => match d1, d2 with
      | .p x, .p y => (b2P bb x y).lift S2
      | _, _ => .stuck) := by
  subst hx
  have hpl : ∀ {pos : Pos}, (backTo pos (starEach [b] X.env)).any (·.1) = false := star_none (by simp only [List.all_cons, List.all_nil, Bool.and_true]; exact hnb)
  have fin : ∀ {σ : L2.St} {H : Hp} {Q : VK} {s : Sit} {δ : DEnv} {d1 d2 : D} {u v : V}, AtS C F s H → RepD C s d1 u → RepD C s d2 v → WantE C W F (RepD C) σ s (match d1, d2 with
      | .p x, .p y => (b2P bb x y).lift s.S
      | _, _ => .stuck) Q → ∃ i j, u = .int i ∧ v = .int j ∧ WantE C W F (RepD C) σ s ((b2P bb (.int i) (.int j)).lift s.S) Q := by
    intro σ H Q s δ d1 d2 u v A r1 r2 h
    cases d1 with
    | p x =>
      cases d2 with
      | p y =>
        cases x with
        | int i =>
          cases y with
          | int j =>
            simp only [RepD, RepP] at r1 r2
            exact ⟨i, j, r1, r2, h⟩
          | _ => exact h.elim
        | _ => exact h.elim
      | _ => exact h.elim
    | _ => exact h.elim
  cases bb with
  | min =>
    refine PE.imp (pe_callB (call_min2 hc) hg hm rfl (pa_cons ha (pa_cons hb pa_nil (star_cons hnb)) (star_cons hn)) (he := star_cons hn) (hpl := hpl)) fun σ H Q ⟨δ, s, A, R, h⟩ => ?_
    refine ⟨δ, s, A, R, Wt.imp (Wt.bind h) fun d s1 H1 _ e1 A1 h1 v r1 => ?_⟩
    refine ⟨δ, s1, A1, R.mono e1, Wt.imp (Wt.bind h1) fun d2 s2 H2 _ e2 A2 h2 w r2 => ?_⟩
    obtain ⟨i, j, rfl, rfl, h3⟩ := fin (δ := δ) A2 (RepD.mono e2 d _ r1) r2 h2
    exact ⟨i, j, rfl, want_int A2 h3⟩
  | max =>
    refine PE.imp (pe_callB (call_max2 hc) hg hm rfl (pa_cons ha (pa_cons hb pa_nil (star_cons hnb)) (star_cons hn)) (he := star_cons hn) (hpl := hpl)) fun σ H Q ⟨δ, s, A, R, h⟩ => ?_
    refine ⟨δ, s, A, R, Wt.imp (Wt.bind h) fun d s1 H1 _ e1 A1 h1 v r1 => ?_⟩
    refine ⟨δ, s1, A1, R.mono e1, Wt.imp (Wt.bind h1) fun d2 s2 H2 _ e2 A2 h2 w r2 => ?_⟩
    obtain ⟨i, j, rfl, rfl, h3⟩ := fin (δ := δ) A2 (RepD.mono e2 d _ r1) r2 h2
    exact ⟨i, j, rfl, want_int A2 h3⟩
end
end RP
end

section
set_option Elab.async false
set_option linter.all false
set_option maxRecDepth 100000
set_option maxHeartbeats 2000000
/-! Statements. -/
namespace RP
open PySem L2
/-! ### shapes -/
def notComp : Expr → Bool
  | .ListComp .. => false
  | .SetComp .. => false
  | .DictComp .. => false
  | _ => true
theorem swaps_plain {e : Expr} {t : Option Expr} {l : Nat} {env : Env} (h : notComp e = true) : swapsWith e t l env = pure false := by
  cases e <;> first | rfl | cases h
theorem sole_plain {e t : Expr} {l : Nat} {env : Env} (h : notComp e = true) : swapsWithSole [t] e l env = pure false := swaps_plain h
theorem sole_tup {e : Expr} {es : List Expr} {j : Nat} {p : Pos} {l : Nat} {env : Env} : swapsWithSole [.Tuple es j p] e l env = pure false := by
  cases e <;> rfl
def notTup : Expr → Bool
  | .Tuple .. => false
  | _ => true
theorem swapped_plain {e : Expr} {t : Expr} {env : Env} (h : notTup e = true) : swappedStores [t] e env = pure none := by
  cases e <;> first | (cases t <;> rfl) | cases h
section
variable {C : CC} {W : WX} {X : Cx} {k : Nat} {Γ : Tab} {F : Hp} {a b c e o : Expr} {es : List Expr} {fa fb fe fo fc : DEnv → Sto → RE D} {pos p apos : Pos} {s s1 : Sit} {σ : L2.St} {H : Hp} {δ : DEnv} {D' : Ends}
theorem WantS.ext {r : RS} (ex : ExtS s s1) (h : WantS C W F s r D') : WantS C W F s1 r D' := by
  cases r with
  | next δ S' => exact fun σ s' H' h1 e2 => h σ s' H' h1 (ex.trans e2)
  | ret d S' => exact fun v s' H' h1 e2 => h v s' H' h1 (ex.trans e2)
  | brk δ S' => exact fun σ s' H' h1 e2 => h σ s' H' h1 (ex.trans e2)
  | cnt δ S' => exact fun σ s' H' h1 e2 => h σ s' H' h1 (ex.trans e2)
  | exc c x δ S' => exact fun dx σ s' H' h1 e2 => h dx σ s' H' h1 (ex.trans e2)
  | stuck => exact h
/-- an expression, then the rest of the statement -/
theorem WantS.st {α : Type} {r : RE α} {g : α → Sto → RS} (R : RepS C s δ σ) (h : WantS C W F s (r.st δ g) D') : Wt C W F σ s r fun a s' _ => WantS C W F s' (g a s'.S) D' := by
  cases r with
  | ok a S' =>
    intro s' H' hS ex A'
    subst hS
    exact WantS.ext ex h
  | exc c x S' => exact fun dx s' H' hS ex A' rx => h dx σ s' H' hS ex A' (R.mono ex) rx
  | stuck => exact h
theorem WantS.next (A : AtS C F s H) (R : RepS C s δ σ) (h : WantS C W F s (.next δ s.S) D') : D'.nx σ H := h σ s H rfl (ExtS.refl s) A R
/-! ### small statements -/
theorem s_pass : PS X (.Pass pos) (tS C W F fun δ S => .next δ S) := PS.imp ps_pass fun D σ H ⟨δ, s, A, R, h⟩ => h.next A R
theorem s_brk : PS X (.Break pos) (tS C W F fun δ S => .brk δ S) := PS.imp ps_break fun D σ H ⟨δ, s, A, R, h⟩ => h σ s H rfl (ExtS.refl s) A R
theorem s_cnt : PS X (.Continue pos) (tS C W F fun δ S => .cnt δ S) := PS.imp ps_continue fun D σ H ⟨δ, s, A, R, h⟩ => h σ s H rfl (ExtS.refl s) A R
theorem s_retn : PS X (.Return none pos) (tS C W F fun δ S => .ret (.p .non) S) := PS.imp ps_retN fun D σ H ⟨δ, s, A, R, h⟩ => h .non s H rfl (ExtS.refl s) A (by simp only [RepD, RepP])
theorem s_expr (he : PE X e (tE C W F fe)) (hs : notComp e = true) : PS X (.Expr e pos) (tS C W F fun δ S => (fe δ S).st δ fun _ S1 => .next δ S1) :=
  PS.imp (ps_expr he (swaps_plain hs)) fun D σ H ⟨δ, s, A, R, h⟩ => ⟨δ, s, A, R, Wt.imp (WantS.st R h) fun d s' H' _ ex A' hk v r => hk.next A' (R.mono ex)⟩
theorem s_ret (he : PE X e (tE C W F fe)) : PS X (.Return (some e) pos) (tS C W F fun δ S => (fe δ S).st δ fun d S1 => .ret d S1) :=
  PS.imp (ps_ret he) fun D σ H ⟨δ, s, A, R, h⟩ => ⟨δ, s, A, R, Wt.imp (WantS.st R h) fun d s' H' _ ex A' hk v r => hk v s' H' rfl (ExtS.refl s') A' r⟩
theorem s_if {x y : List Stmt} {gx gy : DEnv → Sto → RS} (hc : PT X c (tT C W F fc)) (ha : PSs X x (tS C W F gx)) (hb : PSs X y (tS C W F gy)) : PS X (.If c x y pos) (tS C W F fun δ S => (fc δ S).st δ fun d S1 => match d with
      | .p (.bl true) => gx δ S1
      | .p (.bl false) => gy δ S1
      | _ => .stuck) :=
  PS.imp (ps_if hc ha hb) fun D σ H ⟨δ, s, A, R, h⟩ => by
    refine ⟨δ, s, A, R, Wt.imp (WantS.st R h) fun d s' H' _ ex A' hk => ?_⟩
    cases d with
    | p z =>
      cases z with
      | bl b =>
        cases b with
        | true =>
          dsimp only at hk ⊢
          rw [if_pos rfl]
          exact ⟨δ, s', A', R.mono ex, hk⟩
        | false =>
          dsimp only at hk ⊢
          rw [if_neg Bool.false_ne_true]
          exact ⟨δ, s', A', R.mono ex, hk⟩
      | _ => exact hk.elim
    | _ => exact hk.elim
theorem ss_nil : PSs X [] (tS C W F fun δ S => .next δ S) := PSs.imp pss_nil fun D σ H ⟨δ, s, A, R, h⟩ => h.next A R
theorem ss_cons {st : Stmt} {rest : List Stmt} {g gr : DEnv → Sto → RS} (h1 : PS X st (tS C W F g)) (h2 : PSs X rest (tS C W F gr)) : PSs X (st :: rest) (tS C W F fun δ S => (g δ S).bind gr) :=
  PSs.imp (pss_cons h1 h2) fun D σ H ⟨δ, s, A, R, h⟩ => by
    refine ⟨δ, s, A, R, ?_⟩
    dsimp only at h
    cases hg : g δ s.S with
    | next δ' S' =>
      rw [hg] at h
      intro σ' s' H' hS ex A' R'
      subst hS
      exact ⟨δ', s', A', R', WantS.ext ex h⟩
    | ret d S' =>
      rw [hg] at h
      exact h
    | brk d S' =>
      rw [hg] at h
      exact h
    | cnt d S' =>
      rw [hg] at h
      exact h
    | exc c x d S' =>
      rw [hg] at h
      exact h
    | stuck =>
      rw [hg] at h
      exact h
/-! ### targets -/
/-- but for some slots -/
def Upto (l : List Nat) (σ σ' : L2.St) : Prop := σ'.length = σ.length ∧ ∀ i, i ∉ l → σ'[i]? = σ[i]?
def gT (C : CC) (F : Hp) (t : Tg) : TG := fun v σ H Q => ∃ δ s x, AtS C F s H ∧ RepS C s δ σ ∧ RepP C s.G x v ∧ match bindT t x δ with
  | some δ' => ∀ σ', RepS C s δ' σ' → Upto (tgIx t) σ σ' → Q σ' H
  | none => False
def gTs (C : CC) (F : Hp) (t : Tgs) : TGs := fun vs σ H Q => ∃ δ s xs, AtS C F s H ∧ RepS C s δ σ ∧ RepPs C s.G xs vs ∧ match bindTs t xs δ with
  | some δ' => ∀ σ', RepS C s δ' σ' → Upto (tgsIx t) σ σ' → Q σ' H
  | none => False
theorem PG.imp {e : Expr} {t u : TG} (h : PG X e t) (k : ∀ v σ H Q, u v σ H Q → t v σ H Q) : PG X e u := ⟨fun pins s σ H v w Q I r hu => h.run pins s σ H v w Q I r (k v σ H Q hu)⟩
theorem PGs.imp {e : List Expr} {t u : TGs} (h : PGs X e t) (k : ∀ v σ H Q, u v σ H Q → t v σ H Q) : PGs X e u := ⟨fun pins s σ H v w Q I r hu => h.run pins s σ H v w Q I r (k v σ H Q hu)⟩
theorem g_name {i : Nat} {x : Str} (hN : X.N.Nodup) (hi : X.N[i]? = some x) (hx : Loc X.env.scope x) (hf : X.fn x = true ∨ X.env.scope.names.lookup x = some .local) : PG X (.Name x pos) (gT C F (.name i)) :=
  PG.imp (pg_name hN hi hx hf) fun v σ H Q ⟨δ, s, y, A, R, r, h⟩ => h _ (R.set (d := .p y) r) ⟨List.length_set, fun j hj => List.getElem?_set_ne (fun z => hj (by rw [z]; exact List.mem_singleton.mpr rfl))⟩
theorem g_nil : PGs X [] (gTs C F .nil) := PGs.imp pgs_nil fun vs σ H Q ⟨δ, s, xs, A, R, r, h⟩ => by
  cases xs with
  | nil =>
    simp only [RepPs] at r
    exact ⟨r, h σ R ⟨rfl, fun _ _ => rfl⟩⟩
  | cons x xs => exact h.elim
theorem g_cons {ts : Tgs} {t : Tg} (h1 : PG X e (gT C F t)) (h2 : PGs X es (gTs C F ts)) (hn : notStar e = true) : PGs X (e :: es) (gTs C F (.cons t ts)) := by
  have hs : (assignEach (e :: es) X.env).map (·.2) = assign e X.env :: (assignEach es X.env).map (·.2) := by
    cases e <;> first | rfl | cases hn
  refine PGs.imp (pgs_cons h1 h2 hs) fun vs σ H Q ⟨δ, s, xs, A, R, r, h⟩ => ?_
  cases xs with
  | nil => exact h.elim
  | cons x xs =>
    simp only [RepPs] at r
    obtain ⟨v, ws, rfl, r1, r2⟩ := r
    simp only [bindTs] at h
    refine ⟨v, ws, rfl, δ, s, x, A, R, r1, ?_⟩
    cases hb : bindT t x δ with
    | none =>
      rw [hb] at h
      exact h.elim
    | some δ1 =>
      rw [hb] at h
      refine fun σ' R' u' => ⟨δ1, s, xs, A, R', r2, ?_⟩
      simp only [Option.bind_some] at h
      cases hb2 : bindTs ts xs δ1 with
      | none =>
        rw [hb2] at h
        exact h.elim
      | some δ2 =>
        rw [hb2] at h
        refine fun σ2 R2 u2 => h σ2 R2 ⟨u2.1.trans u'.1, fun i hi => ?_⟩
        simp only [tgsIx, List.mem_append, not_or] at hi
        rw [u2.2 i hi.2, u'.2 i hi.1]
def tgsLen : Tgs → Nat
  | .nil => 0
  | .cons _ ts => tgsLen ts + 1
theorem bindTs_len : ∀ (ts : Tgs) (xs : List P) (δ δ' : DEnv), bindTs ts xs δ = some δ' → xs.length = tgsLen ts
  | .nil, [], _, _, _ => rfl
  | .cons t ts, x :: xs, δ, δ', h => by
    simp only [bindTs] at h
    cases hb : bindT t x δ with
    | none =>
      rw [hb] at h
      cases h
    | some δ1 =>
      rw [hb] at h
      simp only [List.length_cons, tgsLen]
      rw [bindTs_len ts xs δ1 δ' h]
  | .nil, x :: xs, _, _, h => by simp only [bindTs] at h; cases h
  | .cons t ts, [], _, _, h => by simp only [bindTs] at h; cases h
theorem each_len {env : Env} : ∀ (es : List Expr), (assignEach es env).length = es.length
  | [] => rfl
  | e :: es => by
    have h := each_len (env := env) es
    cases e <;> simp only [assignEach, List.length_cons, h]
theorem each_star {env : Env} : ∀ (es : List Expr), es.all notStar = true → (assignEach es env).findIdx? (·.1) = none
  | [], _ => rfl
  | e :: es, h => by
    simp only [List.all_cons, Bool.and_eq_true] at h
    have h2 := each_star (env := env) es h.2
    have h3 : assignEach (e :: es) env = (false, assign e env) :: assignEach es env := by
      cases e <;> first | rfl | cases h.1
    rw [h3, List.findIdx?_cons, h2]
    rfl
theorem g_tup {ts : Tgs} {j : Nat} (hk : C.K = X.K) (hc : X.calm = true) (h : PGs X es (gTs C F ts)) (hs : es.all notStar = true) (hl : es.length = tgsLen ts) : PG X (.Tuple es j pos) (gT C F (.tup ts)) := by
  have p1 := pg_tup (k := j) (pos := pos) hc h (each_len es) (each_star es hs)
  have p2 := pg_unl (k := j) (pos := pos) hc h (each_len es) (each_star es hs)
  refine ⟨fun pins z σ H v u Q I rv ⟨δ, s, x, A, R, r, hw⟩ => ?_⟩
  cases x with
  | tup xs =>
    simp only [RepP] at r
    obtain ⟨q, vs, rfl, hq, rr⟩ := r
    rw [hk] at hq
    simp only [bindT] at hw
    refine p1.run pins z σ H _ u Q I rv ⟨q, vs, rfl, sqT_mono A.sub hq, ?_, δ, s, xs, A, R, rr, hw⟩
    cases hb : bindTs ts xs δ with
    | none =>
      rw [hb] at hw
      exact hw.elim
    | some δ' => rw [← RepPs.len xs vs rr, bindTs_len ts xs δ δ' hb, hl]
  | lst xs =>
    simp only [RepP] at r
    obtain ⟨q, vs, rfl, hq, rr⟩ := r
    simp only [bindT] at hw
    refine p2.run pins z σ H _ u Q I rv ⟨q, vs, rfl, SqL.of (A.sub _ _ hq), ?_, δ, s, xs, A, R, rr, hw⟩
    cases hb : bindTs ts xs δ with
    | none =>
      rw [hb] at hw
      exact hw.elim
    | some δ' => rw [← RepPs.len xs vs rr, bindTs_len ts xs δ δ' hb, hl]
  | _ => exact hw.elim
/-! ### assignments -/
theorem s_set {i : Nat} {x : Str} (hN : X.N.Nodup) (hi : X.N[i]? = some x) (hx : Loc X.env.scope x) (hf : X.fn x = true ∨ X.env.scope.names.lookup x = some .local) (he : PE X e (tE C W F fe)) (hs : swapsWith e (some (.Name x p)) pos.line X.env = pure false) :
    PS X (.Assign [.Name x p] e pos) (tS C W F fun δ S => (fe δ S).st δ fun d S1 => .next (setSlot δ i d) S1) :=
  PS.imp (ps_set hN hi hx he hs hf) fun D σ H ⟨δ, s, A, R, h⟩ => ⟨δ, s, A, R, Wt.imp (WantS.st R h) fun d s' H' _ ex A' hk v r => hk.next A' ((R.mono ex).set r)⟩
theorem one_each {tg : Expr} {env : Env} (h : notStar tg = true) : (assignEach [tg] env).map (·.2) = [assign tg env] := by
  cases tg <;> first | rfl | cases h
theorem s_tup {ts : Tgs} {j : Nat} (hg : PG X (.Tuple es j p) (gT C F (.tup ts))) (he : PE X e (tE C W F fe)) (hw : swappedStores [.Tuple es j p] e X.env = pure none) :
    PS X (.Assign [.Tuple es j p] e pos) (tS C W F fun δ S => (fe δ S).st δ fun d S1 => match peek d S1 with
      | some (.tup xs) => match bindTs ts xs δ with
        | some δ' => .next δ' S1
        | none => .stuck
      | some (.lst xs) => match d with
        | .p _ => match bindTs ts xs δ with
          | some δ' => .next δ' S1
          | none => .stuck
        | _ => .stuck
      | _ => .stuck) :=
  PS.imp (ps_asg he hg sole_tup hw (one_each rfl)) fun D σ H ⟨δ, s, A, R, h⟩ => by
    refine ⟨δ, s, A, R, Wt.imp (WantS.st R h) fun d s' H' _ ex A' hk v r => ?_⟩
    cases hp : peek d s'.S with
    | none =>
      rw [hp] at hk
      exact hk.elim
    | some x =>
      rw [hp] at hk
      cases x with
      | tup xs =>
        refine ⟨δ, s', .tup xs, A', R.mono ex, peek_pure A' r hp (fun _ z => nomatch z), ?_⟩
        simp only [bindT]
        cases hb : bindTs ts xs δ with
        | none =>
          simp only [hb] at hk
          exact hk.elim
        | some δ' =>
          simp only [hb] at hk
          exact fun σ' R' _ => hk.next A' R'
      | lst xs =>
        cases d with
        | p y =>
          simp only [peek, Option.some.injEq] at hp
          subst hp
          refine ⟨δ, s', .lst xs, A', R.mono ex, r, ?_⟩
          simp only [bindT]
          cases hb : bindTs ts xs δ with
          | none =>
            simp only [hb] at hk
            exact hk.elim
          | some δ' =>
            simp only [hb] at hk
            exact fun σ' R' _ => hk.next A' R'
        | loc n => exact hk.elim
        | cls c => exact hk.elim
      | _ => exact hk.elim
/-! ### loops -/
theorem loop_want {r : RS} {on : DEnv → Sto → RS} (h : WantS C W F s (loopEnd r on) D') : WantS C W F s r { D' with nx := fun σ H => ∃ δ s', AtS C F s' H ∧ RepS C s' δ σ ∧ WantS C W F s' (on δ s'.S) D', ct := fun σ H => ∃ δ s', AtS C F s' H ∧ RepS C s' δ σ ∧ WantS C W F s' (on δ s'.S) D', bk := D'.nx } := by
  cases r with
  | next δ S' =>
    intro σ s' H' hS ex A' R'
    subst hS
    exact ⟨δ, s', A', R', WantS.ext ex h⟩
  | cnt δ S' =>
    intro σ s' H' hS ex A' R'
    subst hS
    exact ⟨δ, s', A', R', WantS.ext ex h⟩
  | brk δ S' => exact h
  | ret d S' => exact h
  | exc c x δ S' => exact h
  | stuck => exact h
theorem s_whl {body : List Stmt} {g : DEnv → Sto → RS} (n : Nat) (hp : PassesOwn (model X.prog X.w) X.A X.env X.xe) (hc : PT X c (tT C W F fc)) (hb : PSs X body (tS C W F g)) : PS X (.While c body [] pos) (tS C W F fun δ S => whileL fc g n δ S) :=
  PS.imp (ps_while hp hc hb) fun D σ H ⟨δ, s, A, R, h⟩ => by
    refine ⟨fun m σ H => ∃ δ s, AtS C F s H ∧ RepS C s δ σ ∧ WantS C W F s (whileL fc g m δ s.S) D, ⟨n, δ, s, A, R, h⟩, ?_⟩
    rintro m σ H ⟨δ, s, A, R, h⟩
    cases m with
    | zero => exact h.elim
    | succ m =>
      simp only [whileL] at h
      refine ⟨δ, s, A, R, Wt.imp (WantS.st R h) fun d s' H' _ ex A' hk => ?_⟩
      cases d with
      | p z =>
        cases z with
        | bl b =>
          cases b with
          | true =>
            dsimp only at hk ⊢
            rw [if_pos rfl]
            exact ⟨_, fun σ' H' q => ⟨m, Nat.lt_succ_self m, q⟩, δ, s', A', R.mono ex, loop_want hk⟩
          | false =>
            dsimp only at hk ⊢
            rw [if_neg Bool.false_ne_true]
            exact hk.next A' (R.mono ex)
        | _ => exact hk.elim
      | _ => exact hk.elim
/-! ### a field, an item is set -/
theorem repF_set {f : Nat} {d : D} {v : V} (r : RepD C s d v) : ∀ (fs : List (Nat × D)) (gs : List (Str × V)), (∀ g ∈ fs.map (·.1), C.NM f = C.NM g → f = g) → RepF C s fs gs → RepF C s (setFld f d fs) (putF (C.NM f) v gs)
  | [], gs, _, h => by
    cases (show gs = [] from h)
    exact ⟨v, [], rfl, r, rfl⟩
  | (g, e) :: fs, gs, hi, h => by
    obtain ⟨w, ws, rfl, h1, h2⟩ := h
    simp only [setFld, putF]
    by_cases hg : g = f
    · subst hg
      rw [if_pos (by simp), if_pos rfl]
      exact ⟨v, ws, rfl, r, h2⟩
    · have hn : ¬ C.NM g = C.NM f := fun z => hg (hi g (by simp) z.symm).symm
      rw [if_neg (by simpa using hg), if_neg hn]
      exact ⟨w, _, rfl, h1, repF_set r fs ws (fun g' hg' => hi g' (by simp only [List.map_cons, List.mem_cons]; exact Or.inr hg')) h2⟩
theorem setFld_mem {f : Nat} {d : D} : ∀ (fs : List (Nat × D)) (g : Nat), g ∈ (setFld f d fs).map (·.1) → g = f ∨ g ∈ fs.map (·.1)
  | [], g, h => by
    simp only [setFld, List.map_cons, List.map_nil, List.mem_singleton] at h
    exact Or.inl h
  | (g', e) :: fs, g, h => by
    simp only [setFld] at h
    split at h
    · exact Or.inr h
    · simp only [List.map_cons, List.mem_cons] at h ⊢
      rcases h with h | h
      · exact Or.inr (Or.inl h)
      · rcases setFld_mem fs g h with z | z
        · exact Or.inl z
        · exact Or.inr (Or.inr z)
theorem repF_len : ∀ (fs : List (Nat × D)) (gs : List (Str × V)), RepF C s fs gs → fs.length = gs.length
  | [], gs, h => by
    cases (show gs = [] from h)
    rfl
  | (g, e) :: fs, gs, h => by
    obtain ⟨w, ws, rfl, h1, h2⟩ := h
    simp only [List.length_cons, repF_len fs ws h2]
def setfD (FT : FldT) (f : Nat) (d d2 : D) (δ : DEnv) (S : Sto) : RS := match d2 with
  | .loc n => match S[n]? with
    | some (.live (.obj c fs)) => if decide (fs.length < 100) && (FT c).contains f then .next δ (S.set n (.live (.obj c (setFld f d fs)))) else .stuck
    | _ => .stuck
  | _ => .stuck
theorem s_setf (sp : Spot C W X k) {f : Nat} {x : Str} (hx : C.NM f = x) (ho : PE X o (tE C W F fo)) (he : PE X e (tE C W F fe)) (hs : notComp e = true) :
    PS X (.Assign [.Attribute o x p] e pos) (tS C W F fun δ S => (fe δ S).st δ fun d S1 => (fo δ S1).st δ fun d2 S2 => setfD C.FT f d d2 δ S2) := by
  subst hx
  refine PS.imp (ps_fld ho he (swaps_plain hs)) fun D σ H ⟨δ, s, A, R, h⟩ => ?_
  refine ⟨δ, s, A, R, Wt.imp (WantS.st R h) fun d s1 H1 _ e1 A1 h1 v r1 => ?_⟩
  refine ⟨δ, s1, A1, R.mono e1, Wt.imp (WantS.st (R.mono e1) h1) fun d2 s2 H2 _ e2 A2 h2 u r2 => ?_⟩
  cases d2 with
  | loc n =>
    simp only [setfD] at h2
    split at h2
    · rename_i c fs e
      split at h2
      · rename_i hl
        simp only [Bool.and_eq_true, decide_eq_true_eq, List.contains_iff_mem] at hl
        obtain ⟨q, o', k1, k2, k3, k4, hc, hm, dx, gs, ho', rf⟩ := A2.live n _ e
        obtain ⟨q', hq', rfl⟩ := r2
        rw [k1] at hq'
        cases hq'
        subst ho'
        have cf := sp.cf.one c hc
        rw [sp.hk] at cf
        have na := sp.fl.na c hc f hl.2
        rw [sp.hk] at na
        have rd := RepD.mono e2 d v r1
        have r' : RepC C s2 (.obj c (setFld f d fs)) (.ins (C.CA c) dx (putF (C.NM f) v gs)) := ⟨hc, fun g hg => by
          rcases setFld_mem fs g hg with z | z
          · rw [z]
            exact hl.2
          · exact hm g z, dx, _, rfl, repF_set rd fs gs (fun g hg => sp.fl.inj c hc g (hm g hg) f) rf⟩
        obtain ⟨A', ex⟩ := A2.write e k1 r'
        refine ⟨q, C.CA c, dx, gs, rfl, k4, cf.cl, na, by rw [← repF_len fs gs rf]; omega, ?_⟩
        exact h2 σ _ _ rfl ex A' ((R.mono (e1.trans e2)).mono ex)
      · exact h2.elim
    · exact h2.elim
  | _ => exact h2.elim
theorem setIx_at {α β : Type} {xs ys : List β} {vs : List α} {i : Int} {y : β} (hl : xs.length = vs.length) (h : setIx xs i y = some ys) : ∃ j, ixN vs.length i = some j ∧ ys = xs.set j y := by
  unfold setIx at h
  split at h
  · rename_i h0
    split at h
    · rename_i h1
      refine ⟨i.toNat, ?_, (Option.some.inj h).symm⟩
      unfold ixN
      rw [if_pos h0, if_pos (by omega)]
    · cases h
  · rename_i h0
    split at h
    · cases h
    · rename_i h1
      refine ⟨(i + xs.length).toNat, ?_, (Option.some.inj h).symm⟩
      unfold ixN
      rw [if_neg h0, if_pos (by omega), ← hl]
theorem reps_set {G : Hp} {y : P} {v : V} (r : RepP C G y v) : ∀ (xs : List P) (vs : List V) (j : Nat), RepPs C G xs vs → RepPs C G (xs.set j y) (vs.set j v)
  | [], vs, j, h => by
    simp only [RepPs] at h
    subst h
    simp only [List.set_nil, RepPs]
  | x :: xs, vs, j, h => by
    simp only [RepPs] at h
    obtain ⟨w, ws, rfl, h1, h2⟩ := h
    cases j with
    | zero =>
      simp only [List.set_cons_zero, RepPs]
      exact ⟨v, ws, rfl, r, h2⟩
    | succ j =>
      simp only [List.set_cons_succ, RepPs]
      exact ⟨w, _, rfl, h1, reps_set r xs ws j h2⟩
theorem repds_set {s : Sit} {v : V} {d : D} (r : RepD C s d v) : ∀ (xs : List D) (vs : List V) (j : Nat), RepDs C s xs vs → RepDs C s (xs.set j d) (vs.set j v)
  | [], vs, j, h => by
    subst h
    exact rfl
  | x :: xs, vs, j, ⟨w, ws, hv, h1, h2⟩ => by
    subst hv
    cases j with
    | zero => exact ⟨v, ws, rfl, r, h2⟩
    | succ j => exact ⟨w, _, rfl, h1, repds_set r xs ws j h2⟩
def setiD (y : P) (d2 d3 : D) (δ : DEnv) (S : Sto) : RS := match d2, d3 with
  | .loc n, .p (.int k) => match S[n]? with
    | some (.live (.lst xs)) => match setIx xs k y with
      | some ys => .next δ (S.set n (.live (.lst ys)))
      | none => .stuck
    | some (.live (.nst ds)) => match setIx ds k (.p y) with
      | some ys => .next δ (S.set n (.live (.nst ys)))
      | none => .stuck
    | _ => .stuck
  | _, _ => .stuck
theorem WantS.pur {v : V} {d : D} {g : P → Sto → RS} (A : AtS C F s1 H) (r : RepD C s1 d v) (R : RepS C s1 δ σ) (h : WantS C W F s1 ((purify d s1.S).st δ g) D') :
    ∃ x s2, ExtS s1 s2 ∧ AtS C F s2 H ∧ RepP C s2.G x v ∧ WantS C W F s2 (g x s2.S) D' := by
  cases e : purify d s1.S with
  | ok x S' =>
    obtain ⟨s2, hS, A2, ex, rx⟩ := purify_ok A r e
    rw [e] at h
    refine ⟨x, s2, ex, A2, rx, WantS.ext ex ?_⟩
    rw [hS]
    exact h
  | exc c x S' => exact (purify_not e).elim
  | stuck =>
    rw [e] at h
    exact h.elim
theorem s_seti (hsl : notSlice b = true) (ho : PE X o (tE C W F fo)) (hi : PE X b (tE C W F fb)) (he : PE X e (tE C W F fe)) (hs : notComp e = true) :
    PS X (.Assign [.Subscript o b p] e pos) (tS C W F fun δ S => (fe δ S).st δ fun d S1 => (purify d S1).st δ fun y S2 => (fo δ S2).st δ fun d2 S3 => (fb δ S3).st δ fun d3 S4 => setiD y d2 d3 δ S4) := by
  have ha : ∀ v, assign (.Subscript o b p) X.env v = (do
      let ov ← holding [v] (eval o X.env)
      let iv ← holding [v, ov] (eval b X.env)
      standAt p
      holding [v, ov, iv] (setItem ov iv v)
      release [v, ov, iv] []) := by
    intro v
    cases b <;> first | rfl | cases hsl
  have hw : swappedStores [.Subscript o b p] e X.env = pure none := by
    cases e <;> rfl
  refine PS.imp (ps_asg he (pg_sub ho hi set_list ha) (sole_plain hs) hw (one_each rfl)) fun D σ H ⟨δ, s, A, R, h⟩ => ?_
  refine ⟨δ, s, A, R, Wt.imp (WantS.st R h) fun d s1 H1 _ e1 A1 h1 v r1 => ?_⟩
  obtain ⟨y, s2, e2, A2, r2, h2⟩ := WantS.pur A1 r1 (R.mono e1) h1
  have R2 := R.mono (e1.trans e2)
  refine ⟨δ, s2, A2, R2, Wt.imp (WantS.st R2 h2) fun d3 s3 H3 _ e3 A3 h3 u r3 => ?_⟩
  refine ⟨δ, s3, A3, R2.mono e3, Wt.imp (WantS.st (R2.mono e3) h3) fun d4 s4 H4 _ e4 A4 h4 w r4 => ?_⟩
  have r3' := RepD.mono e4 d3 u r3
  cases d3 with
  | loc n =>
    cases d4 with
    | p z =>
      cases z with
      | int i =>
        simp only [setiD] at h4
        simp only [RepD, RepP] at r4
        subst r4
        split at h4
        · rename_i xs e
          obtain ⟨q, o', k1, k2, k3, k4, vs, ho', rf⟩ := A4.live n _ e
          obtain ⟨q', hq', rfl⟩ := r3'
          rw [k1] at hq'
          cases hq'
          subst ho'
          cases hx : setIx xs i y with
          | none =>
            rw [hx] at h4
            exact h4.elim
          | some ys =>
            rw [hx] at h4
            obtain ⟨j, hj, rfl⟩ := setIx_at (RepPs.len xs vs rf) hx
            have r' : RepC C s4 (.lst (xs.set j y)) (.lst (vs.set j v)) := ⟨_, rfl, reps_set (RepP.mono (e3.trans e4).G y v r2) xs vs j rf⟩
            obtain ⟨A', ex⟩ := A4.write e k1 r'
            exact ⟨q, vs, i, j, rfl, rfl, k4, hj, h4 σ _ _ rfl ex A' ((R2.mono (e3.trans e4)).mono ex)⟩
        · rename_i ds e
          obtain ⟨q, o', k1, k2, k3, k4, vs, ho', rf⟩ := A4.live n _ e
          obtain ⟨q', hq', rfl⟩ := r3'
          rw [k1] at hq'
          cases hq'
          subst ho'
          cases hx : setIx ds i (.p y) with
          | none =>
            rw [hx] at h4
            exact h4.elim
          | some ys =>
            rw [hx] at h4
            obtain ⟨j, hj, rfl⟩ := setIx_at (RepDs.len ds vs rf) hx
            have r' : RepC C s4 (.nst (ds.set j (.p y))) (.lst (vs.set j v)) := ⟨_, rfl, repds_set (d := .p y) (RepP.mono (e3.trans e4).G y v r2) ds vs j rf⟩
            obtain ⟨A', ex⟩ := A4.write e k1 r'
            exact ⟨q, vs, i, j, rfl, rfl, k4, hj, h4 σ _ _ rfl ex A' ((R2.mono (e3.trans e4)).mono ex)⟩
        · exact h4.elim
      | _ => exact h4.elim
    | _ => exact h4.elim
  | _ => exact h4.elim
end
end RP
end

section
set_option Elab.async false
set_option linter.all false
set_option maxRecDepth 100000
set_option maxHeartbeats 2000000
/-! enumerate over a tuple. -/
namespace RP
open PySem L2 PySem.Spec PyProof.Rows
open PySem.Sem (wp)
open AutoSeq1 (wpAny_loadPart')
theorem meets_enum_tup (t : Addr) (items : Array Value) (n : Nat) (dct : Option Addr) (sl : Array (Option Value)) :
    Meets (Builtin.«enumerate.__new__» ⟨[.type "enumerate", .ref t], []⟩) (fun _ R s => s.heap.get? t = some { cls := .type "tuple", dict := dct, data := .seq items n, slots := sl } ∧
      R (.ok (.ret (.ref (s.heap.push { cls := .type "tuple_iterator", data := .fields #[.ref t, .int 0 0] }).objs.size)))
        { s with heap := (s.heap.push { cls := .type "tuple_iterator", data := .fields #[.ref t, .int 0 0] }).push { cls := .type "enumerate", data := .fields #[.none, .bool false, .ref s.heap.objs.size, rawInt 0, .none, .none] } }) :=
  .of_wp fun prog w A R s h => by
    obtain ⟨hp, g, d, tk, os⟩ := s; obtain ⟨hl, h⟩ := h
    have hsub := sub_enumerate
    have hL : Heap.IsTuple (Shared.heap ⟨hp, g, d, tk, os⟩) t items := ⟨_, hl, rfl, n, rfl⟩
    wp_walk using wpAny_loadPart' hl
    refine wpAny_stack_any fun st => wpAny_pure ?_
    split
    · rename_i c _ _ _ _ _
      cases (c == Value.type "enumerate")
      · wp_walk using wpAny_loadPart' hl, wpAny_pyIter_tuple hL
        exact ⟨_, rfl, h⟩
      · wp_walk using wpAny_loadPart' hl, wpAny_pyIter_tuple hL
        exact ⟨_, rfl, h⟩
    · wp_walk using wpAny_loadPart' hl, wpAny_pyIter_tuple hL
      exact ⟨_, rfl, h⟩
theorem call_enum_tup {prog : Program} {w : World} {A : Around} {E : Value → Shared → Prop} {s : Shared} {t : Addr} {items : Array Value} {Q : Value → Shared → Prop} (hL : s.heap.IsTuple t items)
    (h : ∀ h', IsEnum h' (s.heap.objs.size + 1) s.heap.objs.size 0 .none → h'.IsTupleIter s.heap.objs.size t 0 → h'.objs.size = s.heap.objs.size + 2 →
      (∀ b o, s.heap.get? b = some o → h'.get? b = some o) → Q (.ref (s.heap.objs.size + 1)) { s with heap := h' }) :
    wpAny (model prog w) A (call (.type "enumerate") [.ref t]) Q E s := by
  obtain ⟨⟨c, dct, dt, sl⟩, hl, hc, n, hd⟩ := hL
  replace hc : c = .type "tuple" := hc
  replace hd : dt = .seq items n := hd
  subst hc hd
  refine callType_new F.called_enumerate (by decide) (F.typeCall_enumerate_1 _) (F.newCall_enumerate_1 _) (fun obj => F.args_object_init_2 obj _) F.entry_enumerate_new
    (meets_enum_tup t items n dct sl) ⟨hl, ?_⟩
  have hz : (s.heap.push { cls := .type "tuple_iterator", data := .fields #[.ref t, .int 0 0] }).objs.size = s.heap.objs.size + 1 := Heap.size_push ..
  show _ ∧ _
  rw [hz]
  have he : IsEnum ((s.heap.push { cls := .type "tuple_iterator", data := .fields #[.ref t, .int 0 0] }).push
      { cls := .type "enumerate", data := .fields #[.none, .bool false, .ref s.heap.objs.size, rawInt 0, .none, .none] }) (s.heap.objs.size + 1) s.heap.objs.size 0 .none := by
    have := Heap.get?_push_size (s.heap.push { cls := .type "tuple_iterator", data := .fields #[.ref t, .int 0 0] })
      (o := { cls := .type "enumerate", data := .fields #[.none, .bool false, .ref s.heap.objs.size, rawInt 0, .none, .none] }) rfl
    rw [hz] at this; exact this
  refine ⟨⟨_, he, rfl⟩, h _ he ⟨_, Heap.get?_push_of_some _ (Heap.get?_push_size _ rfl), rfl, rfl⟩ (by rw [Heap.size_push, hz]) fun b o x => Heap.get?_push_of_some _ (Heap.get?_push_of_some _ x)⟩
/-- the tuple at a, each item in a new pair -/
def IteT (K : PySem.W.Frag) (a : Addr) : L2.It :=
  ⟨fun i H => ∃ (xs : List V) (x : V), SqT K H a xs ∧ xs[i]? = some x, fun i H v H' => ∃ T x, v = .ref T ∧ H T = none ∧ H' = upd H T (.tup [.int (i : Nat), x]) ∧ ∀ xs, SqT K H a xs → xs[i]? = some x, fun i H => ∃ xs : List V, SqT K H a xs ∧ xs.length ≤ i⟩
theorem tup_apart {h : Heap} {e it t : Addr} {i j : Int} {k : Nat} {old : Value} {items : Array Value} (he : IsEnum h e it i old) (hit : h.IsTupleIter it t k) (p : h.IsTuple t items) : e ≠ t ∧ t ≠ it := by
  obtain ⟨o, ho, hc, n, hd⟩ := p
  obtain ⟨o2, ho2, hc2, hd2⟩ := hit
  refine ⟨fun z => ?_, fun z => ?_⟩
  · subst z
    have he' : h.get? e = _ := he
    rw [he'] at ho
    cases ho
    exact absurd hc (by intro q; injection q with q; revert q; decide)
  · subst z
    rw [ho2] at ho
    cases ho
    rw [hc2] at hc
    exact absurd hc (by intro q; injection q with q; revert q; decide)
theorem turn_enumT {P : Program} {w : World} {K : PySem.W.Frag} {elts : List Expr} {kk : Nat} {tpos : Pos} (a e it : Addr) :
    Turn P w K (.Tuple elts kk tpos) (IteT K a) [e, it] e (fun i h => (∃ old, IsEnum h e it ((i : Nat) : Int) old) ∧ h.IsTupleIter it a i ∧ e ≠ it) where
  mem := by simp
  obj := fun i h st b hb => by
    obtain ⟨⟨old, he⟩, ⟨o, ho, hc, hd⟩, _⟩ := st
    have e' : b = e ∨ b = it := by simpa using hb
    rcases e' with z | z
    · rw [z]; exact ⟨_, he, fun v q => nomatch q⟩
    · rw [z]; exact ⟨o, ho, fun v q => by rw [hd] at q; cases q⟩
  keep := fun i h h' st k => let ⟨⟨old, he⟩, hi, hne⟩ := st; ⟨⟨old, k e (by simp) _ he⟩, hi.at fun o q => k it (by simp) o q, hne⟩
  item := by
    intro X hP hw hK hc i pins s σ H E I hf st hg
    subst hP hw hK
    obtain ⟨⟨old, he⟩, hit, hne⟩ := st
    obtain ⟨xs, x, hq, hx⟩ := hg
    obtain ⟨its, rv, p, hz⟩ := I.tuple hq
    have p' : s.heap.IsTuple a its.toArray := p
    obtain ⟨u, hu, ru⟩ := rv.get hx
    have hel : e < s.heap.objs.size := Heap.lt_size he
    have hil : it < s.heap.objs.size := by obtain ⟨_, q, _⟩ := hit; exact Heap.lt_size q
    obtain ⟨ap1, ap2⟩ := tup_apart (j := 0) he hit p'
    have hhd := I.ok.hd hc
    have il : i < its.length := by
      rcases Nat.lt_or_ge i its.length with q | q
      · exact q
      · rw [List.getElem?_eq_none q] at hu
        cases hu
    refine wpAny_pyNext_enum_itemD (Draws.tuple (A := X.A.in1) (show X.A.in1.handled = none from hhd) it a ap2 its.toArray) he ⟨hit, p'⟩ (by simpa using il) hne (by simp [hne, ap1]) fun y h' tk hy ho hst' hT hsz hk => ?_
    have ey : y = u := by
      have hy' : its.toArray[i]? = some y := hy
      simp only [List.getElem?_toArray] at hy'
      rw [hu] at hy'
      cases hy'
      rfl
    subst ey
    refine ⟨_, rfl, wpAny_letOwnedTupleGo_enum (s := { s with heap := h', toks := tk + 1 }) ho fun h'' he' sb => ?_⟩
    have hT2 : h''.get? s.heap.objs.size = some { cls := .type "tuple", data := .seq #[.int i tk, y] } := (sb.2 _ (Nat.ne_of_gt hel)).trans hT
    have new : ObjOk X.prog X.w (upd H s.heap.objs.size (.tup [.int (i : Nat), x])) h'' s.heap.objs.size (.tup [.int (i : Nat), x]) :=
      ⟨by show 2 ≤ sizeLine; decide, [.int i tk, y], .cons ⟨_, rfl⟩ (.cons ru .nil), ⟨_, hT2, rfl, _, rfl⟩⟩
    have I1 : Inv X pins σ (upd H s.heap.objs.size (.tup [.int (i : Nat), x])) { s with heap := h'', toks := tk + 1 } :=
      I.turnedNew (ch := [e, it]) (fun b ob hb q => (sb.2 b (fun z => hb (by simp [z]))).trans (hk b ob (fun z => hb (by simp [z])) (fun z => hb (by simp [z])) q)) hf (Nat.le_refl _) new
    refine ⟨.ref s.heap.objs.size, _, I1, rfl, ⟨_, x, rfl, I.hok.fresh (Nat.le_refl _), rfl, fun ys hy => by rw [I.tuple_inj hy hq]; exact hx⟩, ⟨⟨y, ?_⟩, hst'.1.at fun o q => (sb.2 it (Ne.symm hne)).trans q, hne⟩, fun b hb => ?_⟩
    · have e1 : ((i + 1 : Nat) : Int) = (i : Int) + 1 := by omega
      rw [e1]; exact he'
    · have hb' : b < s.heap.objs.size := by
        have e' : b = e ∨ b = it := by simpa using hb
        rcases e' with z | z
        · rw [z]; exact hel
        · rw [z]; exact hil
      rw [upd_ne (Nat.ne_of_lt hb')]
      exact (hf b hb).1
  done := by
    intro X hP hw hK hc i pins s σ H E I hf st hg
    subst hP hw hK
    obtain ⟨⟨old, he⟩, hit, hne⟩ := st
    obtain ⟨xs, hq, hx⟩ := hg
    obtain ⟨its, rv, p, hz⟩ := I.tuple hq
    obtain ⟨f0, f1, f2, f3, f4, f5⟩ := hf it (by simp)
    have hl := rv.length
    have hT : s.TypeIs (.ref e) "enumerate" := ⟨_, he, rfl⟩
    have hhd := I.ok.hd hc
    unfold pyNext
    refine wpAny_bind (wpAny_attempt (wpAny_callSpecial?_slot (name := Str.ofString "__next__") hT F.slot_enumerate_next
      (wpAny_call_entry F.slot_enumerate_next hT F.entry_enumerate_next ?_ (F.args_enumerate_next_1 _))))
    show wpAny _ _ (field (.ref e) 2 >>= _) _ _ _
    refine wpAny_bind (wpAny_field he rfl (x := .ref it) rfl ?_)
    refine wpAny_bind (wpAny_nextOf_tuple_end (show _ = none from hhd) hit (show s.heap.IsTuple a its.toArray from p) (by simp; omega) fun h' x he' hx' => ?_)
    obtain ⟨o, ho, hcc⟩ := hx'
    refine wpAny_bind (wpAny_isInstance (T := "StopIteration") (b := true) ⟨o, ho, hcc⟩ isSubtype_stop ?_)
    exact wpAny_pure ⟨rfl, I.turned (t' := s.toks) (fun b o hb q => he' b o hb q) f0 f1 f3 f4 f5⟩
  self := fun A i s Q E st h => let ⟨⟨_, he⟩, _⟩ := st; wpAny_pyIter_enum he h
/-- enumerate of a list or a tuple -/
def iEnumA (K : PySem.W.Frag) (ta : TA) : TI := fun σ H R => ta σ H fun vs H1 => ∃ a, vs = [.ref a] ∧ ((∃ xs, SqL K H1 a xs ∧ R (Ite K a) H1) ∨ ∃ xs, SqT K H1 a xs ∧ R (IteT K a) H1)
theorem pi_enumA {X : Cx} {e : Expr} {ta : TA} {p pos tpos : Pos} {elts : List Expr} {kk : Nat} (hg : Gl X "enumerate") (hm : X.mg "enumerate" = none) (ha : PA X [e] ta) (hs : starEach [e] X.env = [(false, eval e X.env)] := by rfl) :
    PI X (.Tuple elts kk tpos) (.Call (.Name "enumerate" p) [e] [] pos) (iEnumA X.K ta) := by
  refine ⟨fun pins s σ H R I h => ?_⟩
  refine Call_ (ld_blt I hg hm boot_enumerate (PyProof.Rows.callWith_type1 (thn (ha.run pos pins s σ H _ I h) fun us s1 ⟨vs, H1, I1, r1, q1⟩ => ?_) hs rfl))
  obtain ⟨a, ex, q1⟩ := q1
  subst ex
  cases r1 with
  | cons r rr =>
    cases rr
    cases r
    rcases q1 with ⟨xs, hq, q⟩ | ⟨xs, hq, q⟩
    · obtain ⟨its, rv, p', hz⟩ := I1.list hq
      refine call_enumerate_list p'.isList fun h' he hit hsz hk => wpAny_pyIter_enum he ?_
      have I2 : Inv X pins σ H1 { s1 with heap := h' } := I1.kept (t' := s1.toks) hk
      refine ⟨s1.heap.objs.size + 1, [s1.heap.objs.size + 1, s1.heap.objs.size], _, _, H1, rfl, I2, turn_enum a (s1.heap.objs.size + 1) s1.heap.objs.size, ⟨⟨.none, he⟩, hit, Nat.succ_ne_self _⟩, fun b hb => ?_, q⟩
      have e' : b = s1.heap.objs.size + 1 ∨ b = s1.heap.objs.size := by simpa using hb
      have hle : s1.heap.objs.size ≤ b := by
        rcases e' with z | z
        · rw [z]; exact Nat.le_add_right _ _
        · rw [z]; exact Nat.le_refl _
      exact I1.fpOk hle (I1.hok.fresh hle)
    · obtain ⟨its, rv, p', hz⟩ := I1.tuple hq
      refine call_enum_tup (show s1.heap.IsTuple a its.toArray from p') fun h' he hit hsz hk => wpAny_pyIter_enum he ?_
      have I2 : Inv X pins σ H1 { s1 with heap := h' } := I1.kept (t' := s1.toks) hk
      refine ⟨s1.heap.objs.size + 1, [s1.heap.objs.size + 1, s1.heap.objs.size], _, _, H1, rfl, I2, turn_enumT a (s1.heap.objs.size + 1) s1.heap.objs.size, ⟨⟨.none, he⟩, hit, Nat.succ_ne_self _⟩, fun b hb => ?_, q⟩
      have e' : b = s1.heap.objs.size + 1 ∨ b = s1.heap.objs.size := by simpa using hb
      have hle : s1.heap.objs.size ≤ b := by
        rcases e' with z | z
        · rw [z]; exact Nat.le_add_right _ _
        · rw [z]; exact Nat.le_refl _
      exact I1.fpOk hle (I1.hok.fresh hle)
end RP
end

section
set_option Elab.async false
set_option linter.all false
set_option maxRecDepth 100000
set_option maxHeartbeats 2000000
/-! zip of any two of: lists, tuples, texts. -/
namespace RP
open PySem L2 PySem.Spec PyProof.Rows
open PySem.Sem (wp)
theorem adn {n i j : Nat} (h : i ≠ j) : n + i ≠ n + j := by omega
theorem adn0 {n i : Nat} (h : i ≠ 0) : n + i ≠ n := by omega
theorem vals_at : ∀ {xs : List V} {us : List Value} {i : Nat} {u : Value}, Vals xs us → us[i]? = some u → ∃ v, xs[i]? = some v ∧ RelV v u
  | _, _, i, u, .nil, h => by simp at h
  | _, _, 0, u, .cons r _, h => by
    simp only [List.getElem?_cons_zero, Option.some.injEq] at h
    subst h
    exact ⟨_, rfl, r⟩
  | _, _, i + 1, u, .cons _ rr, h => by
    simp only [List.getElem?_cons_succ] at h ⊢
    exact vals_at rr h
/-- what is walked -/
inductive Src where
  | l (a : Addr) | t (a : Addr) | s (z : Str)
def srcV : Src → V
  | .l a => .ref a
  | .t a => .ref a
  | .s z => .str z
def srcFp : Src → List Addr
  | .l a => [a]
  | .t a => [a]
  | .s _ => []
def srcSq (K : PySem.W.Frag) (H : Hp) : Src → List V → Prop
  | .l a, xs => SqL K H a xs
  | .t a, xs => SqT K H a xs
  | .s z, xs => xs = z.cps.toList.map fun c => V.str ⟨#[c]⟩
def srcSt (t : Tok) (it : Addr) (i : Nat) (h : Heap) : Src → Prop
  | .l a => h.IsListIter it a i
  | .t a => h.IsTupleIter it a i
  | .s z => h.IsStrIter it (strIterType z) z t i
def srcOb (u : Value) : Src → Obj
  | .l a => { cls := .type "list_iterator", data := .fields #[.ref a, .int 0 0] }
  | .t a => { cls := .type "tuple_iterator", data := .fields #[.ref a, .int 0 0] }
  | .s z => { cls := .type (strIterType z), data := .fields #[u, .int 0 0] }
section
variable {X : Cx} {pins : List (Addr × Obj)} {σ : L2.St} {H : Hp} {s : Shared} {p : Src} {xs : List V}
theorem src_obj {t : Tok} {it : Addr} {i : Nat} {h : Heap} (st : srcSt t it i h p) : ∃ o, h.get? it = some o ∧ ∃ vs, o.data = .fields vs := by
  cases p with
  | l a => obtain ⟨o, e, _, d⟩ := st; exact ⟨o, e, _, d⟩
  | t a => obtain ⟨o, e, _, d⟩ := st; exact ⟨o, e, _, d⟩
  | s z => obtain ⟨o, e, _, d⟩ := st; exact ⟨o, e, _, d⟩
theorem src_at {t : Tok} {it : Addr} {i : Nat} {h h' : Heap} (st : srcSt t it i h p) (k : ∀ o, h.get? it = some o → h'.get? it = some o) : srcSt t it i h' p := by
  cases p with
  | l a => exact Heap.IsListIter.at st k
  | t a => exact Heap.IsTupleIter.at st k
  | s z => obtain ⟨o, e, c, d⟩ := st; exact ⟨o, k o e, c, d⟩
theorem src_draws (hh : X.A.in1.handled = none) (I : Inv X pins σ H s) (h : srcSq X.K H p xs) (t : Tok) (it : Addr) (ne : ∀ a ∈ srcFp p, a ≠ it) :
    ∃ (Pv : Nat → Value → Prop) (G : Heap → Prop), Draws X.prog X.w X.A.in1 it (it :: srcFp p) xs.length Pv (fun i h => srcSt t it i h p ∧ G h) ∧ G s.heap ∧ ∀ i u, Pv i u → ∃ v, xs[i]? = some v ∧ RelV v u := by
  cases p with
  | l a =>
    obtain ⟨its, rv, q, _⟩ := I.list h
    have D := Draws.list (prog := X.prog) (w := X.w) (A := X.A.in1) hh it a (ne a (by simp [srcFp])) its.toArray
    have e : its.toArray.size = xs.length := by simpa using (rv.length).symm
    rw [e] at D
    refine ⟨_, _, D, q.isList, fun i u hu => ?_⟩
    have hu' : its[i]? = some u := by simpa using hu
    exact vals_at rv hu'
  | t a =>
    obtain ⟨its, rv, q, _⟩ := I.tuple h
    have D := Draws.tuple (prog := X.prog) (w := X.w) (A := X.A.in1) hh it a (ne a (by simp [srcFp])) its.toArray
    have e : its.toArray.size = xs.length := by simpa using (rv.length).symm
    rw [e] at D
    refine ⟨_, _, D, q, fun i u hu => ?_⟩
    have hu' : its[i]? = some u := by simpa using hu
    exact vals_at rv hu'
  | s z =>
    have D := Draws.text (prog := X.prog) (w := X.w) (A := X.A.in1) hh it z t
    have e : z.cps.size = xs.length := by
      have h' : xs = _ := h
      rw [h']
      simp
    rw [e] at D
    refine ⟨_, fun _ => True, ⟨fun i h st => D.live i h st.1, fun i h h' st k => ⟨D.frame i h h' st.1 k, trivial⟩, fun i s Q E hi st hQ => D.item i s Q E hi st.1 fun v h' tk a b c => hQ v h' tk a ⟨b, trivial⟩ c, fun s Q E st hE => D.done s Q E st.1 hE⟩, trivial, fun i u hu => ?_⟩
    obtain ⟨c, u', hc, rfl⟩ := hu
    have h' : xs = _ := h
    refine ⟨.str ⟨#[c]⟩, ?_, u', rfl⟩
    rw [h', List.getElem?_map]
    have : z.cps.toList[i]? = some c := by simpa using hc
    rw [this]
    rfl
end
/-- pairs of the items of two -/
def ItzX (K : PySem.W.Frag) (p q : Src) : L2.It :=
  ⟨fun i H => ∃ (xs ys : List V) (x y : V), srcSq K H p xs ∧ srcSq K H q ys ∧ xs[i]? = some x ∧ ys[i]? = some y,
    fun i H v H' => ∃ T x y, v = .ref T ∧ H T = none ∧ H' = upd H T (.tup [x, y]) ∧ (∀ xs, srcSq K H p xs → xs[i]? = some x) ∧ ∀ ys, srcSq K H q ys → ys[i]? = some y,
    fun i H => ∃ xs ys : List V, srcSq K H p xs ∧ srcSq K H q ys ∧ i ≤ xs.length ∧ i ≤ ys.length ∧ (i = xs.length ∨ i = ys.length)⟩
theorem src_inj {X : Cx} {pins : List (Addr × Obj)} {σ : L2.St} {H : Hp} {s : Shared} {p : Src} {xs ys : List V} (I : Inv X pins σ H s) (h1 : srcSq X.K H p xs) (h2 : srcSq X.K H p ys) : xs = ys := by
  cases p with
  | l a => exact I.list_inj h1 h2
  | t a => exact I.tuple_inj h1 h2
  | s z =>
    have e1 : xs = _ := h1
    have e2 : ys = _ := h2
    rw [e1, e2]
theorem turn_zipX {P : Program} {w : World} {K : PySem.W.Frag} {elts : List Expr} {kk : Nat} {tpos : Pos} {p q : Src} {t1 t2 : Tok} {zp TI TO i1 i2 : Addr} (D : ZipSep2 zp TI TO i1 i2 (i1 :: srcFp p) (i2 :: srcFp q)) (n1 : ∀ a ∈ srcFp p, a ≠ i1) (n2 : ∀ a ∈ srcFp q, a ≠ i2) :
    Turn P w K (.Tuple elts kk tpos) (ItzX K p q) [zp, TI, TO, i1, i2] zp (fun i h => IsZip h zp TI TO .none ∧ IsTupOf2 h TI (.ref i1) (.ref i2) ∧ (∃ x y, IsTupOf2 h TO x y) ∧ srcSt t1 i1 i h p ∧ srcSt t2 i2 i h q) where
  mem := by simp
  obj := fun i h st c hc => by
    obtain ⟨hz, hTI, ⟨x, y, hTO⟩, h1, h2⟩ := st
    obtain ⟨o1, e1, vs1, d1⟩ := src_obj h1
    obtain ⟨o2, e2, vs2, d2⟩ := src_obj h2
    have e' : c = zp ∨ c = TI ∨ c = TO ∨ c = i1 ∨ c = i2 := by simpa using hc
    rcases e' with q | q | q | q | q
    · rw [q]; exact ⟨_, hz, fun v q => nomatch q⟩
    · rw [q]; exact ⟨_, hTI, fun v q => nomatch q⟩
    · rw [q]; exact ⟨_, hTO, fun v q => nomatch q⟩
    · rw [q]; exact ⟨o1, e1, fun v q => by rw [d1] at q; cases q⟩
    · rw [q]; exact ⟨o2, e2, fun v q => by rw [d2] at q; cases q⟩
  keep := fun i h h' st k => by
    obtain ⟨hz, hTI, ⟨x, y, hTO⟩, h1, h2⟩ := st
    exact ⟨k zp (by simp) _ hz, k TI (by simp) _ hTI, ⟨x, y, k TO (by simp) _ hTO⟩, src_at h1 fun o q => k i1 (by simp) o q, src_at h2 fun o q => k i2 (by simp) o q⟩
  item := by
    intro X hP hw hK hc i pins s σ H E I hf st hg
    subst hP hw hK
    obtain ⟨hz, hTI, ⟨x0, y0, hTO⟩, h1, h2⟩ := st
    obtain ⟨xs, ys, x, y, hqx, hqy, hx, hy⟩ := hg
    have hhd : X.A.in1.handled = none := I.ok.hd hc
    obtain ⟨P1, G1, D1, g1, p1⟩ := src_draws hhd I hqx t1 i1 n1
    obtain ⟨P2, G2, D2, g2, p2⟩ := src_draws hhd I hqy t2 i2 n2
    have hzl : zp < s.heap.objs.size := Heap.lt_size hz
    have l1 : i < xs.length := by
      rcases Nat.lt_or_ge i xs.length with q | q
      · exact q
      · rw [List.getElem?_eq_none q] at hx; cases hx
    have l2 : i < ys.length := by
      rcases Nat.lt_or_ge i ys.length with q | q
      · exact q
      · rw [List.getElem?_eq_none q] at hy; cases hy
    refine wpAny_pyNext_zipD2_item D D1 D2 hz hTI hTO ⟨h1, g1⟩ ⟨h2, g2⟩ l1 l2 fun u u2 h' tk y1 y2 z' TO' h1' h2' hT hsz hk => ?_
    obtain ⟨v1, ev1, ru⟩ := p1 i u y1
    obtain ⟨v2, ev2, ru2⟩ := p2 i u2 y2
    rw [hx] at ev1
    rw [hy] at ev2
    cases ev1
    cases ev2
    refine ⟨_, rfl, wpAny_letOwnedTupleGo_zip (s := { s with heap := h', toks := tk }) z' fun h'' z'' sb => ?_⟩
    have hT2 : h''.get? s.heap.objs.size = some { cls := .type "tuple", data := .seq #[u, u2] } := (sb.2 _ (Nat.ne_of_gt hzl)).trans hT
    have new : ObjOk X.prog X.w (upd H s.heap.objs.size (.tup [x, y])) h'' s.heap.objs.size (.tup [x, y]) :=
      ⟨by show 2 ≤ sizeLine; decide, [u, u2], .cons ru (.cons ru2 .nil), ⟨_, hT2, rfl, _, rfl⟩⟩
    have I1 : Inv X pins σ (upd H s.heap.objs.size (.tup [x, y])) { s with heap := h'', toks := tk } :=
      I.turnedNew (t' := tk) (ch := [zp, TI, TO, i1, i2]) (fun c o hb q => (sb.2 c (fun q' => hb (by simp [q']))).trans (hk c o (fun q' => hb (by simp [q'])) (fun q' => hb (by simp [q'])) (fun q' => hb (by simp [q'])) (fun q' => hb (by simp [q'])) q)) hf (Nat.le_refl _) new
    refine ⟨.ref s.heap.objs.size, _, I1, rfl, ⟨_, x, y, rfl, I.hok.fresh (Nat.le_refl _), rfl, fun l hl => by rw [src_inj I hl hqx]; exact hx, fun l hl => by rw [src_inj I hl hqy]; exact hy⟩, ⟨z'', ?_, ⟨u, u2, ?_⟩, ?_, ?_⟩, fun c hcm => ?_⟩
    · exact (sb.2 _ D.TIz).trans (hk _ _ D.TIz D.TITO D.TIi1 D.TIi2 hTI)
    · exact (sb.2 _ D.TOz).trans TO'
    · exact src_at h1'.1 fun o q => (sb.2 _ (Ne.symm D.zi1)).trans q
    · exact src_at h2'.1 fun o q => (sb.2 _ (Ne.symm D.zi2)).trans q
    · have hlt : c < s.heap.objs.size := by
        have e' : c = zp ∨ c = TI ∨ c = TO ∨ c = i1 ∨ c = i2 := by simpa using hcm
        rcases e' with q | q | q | q | q
        · rw [q]; exact hzl
        · rw [q]; exact Heap.lt_size hTI
        · rw [q]; exact Heap.lt_size hTO
        · rw [q]; obtain ⟨_, e1, _⟩ := src_obj h1; exact Heap.lt_size e1
        · rw [q]; obtain ⟨_, e2, _⟩ := src_obj h2; exact Heap.lt_size e2
      rw [upd_ne (Nat.ne_of_lt hlt)]
      exact (hf c hcm).1
  done := by
    intro X hP hw hK hc i pins s σ H E I hf st hg
    subst hP hw hK
    obtain ⟨hz, hTI, ⟨x0, y0, hTO⟩, h1, h2⟩ := st
    obtain ⟨xs, ys, hqx, hqy, hl1, hl2, hend⟩ := hg
    have hhd : X.A.in1.handled = none := I.ok.hd hc
    obtain ⟨P1, G1, D1, g1, p1⟩ := src_draws hhd I hqx t1 i1 n1
    obtain ⟨P2, G2, D2, g2, p2⟩ := src_draws hhd I hqy t2 i2 n2
    exact wpAny_pyNext_zipD2_end D D1 D2 hz hTI hTO ⟨h1, g1⟩ ⟨h2, g2⟩ hl1 hl2 hend fun h' tk hk => ⟨rfl, I.turnedL (t' := tk) (ch := [zp, TI, TO, i1, i2]) (fun c o hb q =>
      hk c o (fun q' => hb (by simp [q'])) (fun q' => hb (by simp [q'])) (fun q' => hb (by simp [q'])) (fun q' => hb (by simp [q'])) q) hf⟩
  self := fun A i s Q E st h => wpAny_pyIter_zip st.1 h
def iZipX (K : PySem.W.Frag) (ta : TA) : TI := fun σ H R => ta σ H fun vs H1 => ∃ p q xs ys, vs = [srcV p, srcV q] ∧ srcSq K H1 p xs ∧ srcSq K H1 q ys ∧ R (ItzX K p q) H1
theorem src_begins {X : Cx} {pins : List (Addr × Obj)} {σ : L2.St} {H : Hp} {s : Shared} {p : Src} {xs : List V} {u : Value} (I : Inv X pins σ H s) (h : srcSq X.K H p xs) (r : RelV (srcV p) u) :
    ∃ (o : Obj) (G : Heap → Prop) (t : Tok), Begins u o G ∧ G s.heap ∧ (∀ it h', h'.get? it = some o → srcSt t it 0 h' p) ∧ ∀ a ∈ srcFp p, a < s.heap.objs.size := by
  cases p with
  | l a =>
    obtain ⟨its, rv, q, _⟩ := I.list h
    cases r
    exact ⟨_, _, 0, begins_list a its.toArray, q.isList, fun it h' e => ⟨_, e, rfl, rfl⟩, fun b hb => by
      have e : b = a := by simpa [srcFp] using hb
      rw [e]; exact q.lt⟩
  | t a =>
    obtain ⟨its, rv, q, _⟩ := I.tuple h
    cases r
    obtain ⟨o1, ho1, _⟩ := id q
    exact ⟨_, _, 0, begins_tuple a its.toArray, q, fun it h' e => ⟨_, e, rfl, rfl⟩, fun b hb => by
      have e : b = a := by simpa [srcFp] using hb
      rw [e]; exact Heap.lt_size ho1⟩
  | s z =>
    obtain ⟨t, rfl⟩ := r
    exact ⟨_, _, t, begins_text z t, trivial, fun it h' e => ⟨_, e, rfl, rfl⟩, fun b hb => by cases hb⟩
theorem pi_zipX {X : Cx} {e e2 : Expr} {ta : TA} {p pos tpos : Pos} {elts : List Expr} {kk : Nat} (hg : Gl X "zip") (hm : X.mg "zip" = none) (ha : PA X [e, e2] ta)
    (hs : starEach [e, e2] X.env = (false, eval e X.env) :: starEach [e2] X.env := by rfl) (hpl : (backTo pos (starEach [e2] X.env)).any (·.1) = false := by rfl) :
    PI X (.Tuple elts kk tpos) (.Call (.Name "zip" p) [e, e2] [] pos) (iZipX X.K ta) := by
  refine ⟨fun pins s σ H R I h => ?_⟩
  refine Call_ (ld_blt I hg hm PyProof.Rows.boot_zip (PyProof.Rows.callWith_type1 (thn (ha.run pos pins s σ H _ I h) fun us s1 ⟨vs, H1, I1, r1, q1⟩ => ?_) hs hpl))
  obtain ⟨sp, sq, xs, ys, ex, hqx, hqy, q⟩ := q1
  subst ex
  cases r1 with
  | cons r rr =>
    cases rr with
    | cons r' rr =>
      cases rr
      have fresh5 : ∀ c, c ∈ [s1.heap.objs.size + 4, s1.heap.objs.size + 2, s1.heap.objs.size + 3, s1.heap.objs.size, s1.heap.objs.size + 1] → FpOk X pins H1 c := fun c hcm => by
        have e' : c = s1.heap.objs.size + 4 ∨ c = s1.heap.objs.size + 2 ∨ c = s1.heap.objs.size + 3 ∨ c = s1.heap.objs.size ∨ c = s1.heap.objs.size + 1 := by simpa using hcm
        have hle : s1.heap.objs.size ≤ c := by
          rcases e' with z | z | z | z | z
          · rw [z]; exact Nat.le_add_right _ _
          · rw [z]; exact Nat.le_add_right _ _
          · rw [z]; exact Nat.le_add_right _ _
          · rw [z]; exact Nat.le_refl _
          · rw [z]; exact Nat.le_add_right _ _
        exact I1.fpOk hle (I1.hok.fresh hle)
      obtain ⟨o1, G1, t1, B1, g1, b1, f1⟩ := src_begins I1 hqx r
      obtain ⟨o2, G2, t2, B2, g2, b2, f2⟩ := src_begins I1 hqy r'
      refine zip_begins2 B1 B2 g1 g2 fun h' hz hTI hTO h1 h2 hsz hk => wpAny_pyIter_zip hz ?_
      have I2 : Inv X pins σ H1 { s1 with heap := h' } := I1.kept (t' := s1.toks) hk
      have lt1 : ∀ a ∈ srcFp sp, a ≠ s1.heap.objs.size := fun a ha => Nat.ne_of_lt (f1 a ha)
      have lt2 : ∀ a ∈ srcFp sq, a ≠ s1.heap.objs.size + 1 := fun a ha => Nat.ne_of_lt (Nat.lt_succ_of_lt (f2 a ha))
      have no1 : ∀ k, s1.heap.objs.size + k ∈ srcFp sp → False := fun k hh => absurd (f1 _ hh) (Nat.not_lt.mpr (Nat.le_add_right _ _))
      have no2 : ∀ k, s1.heap.objs.size + k ∈ srcFp sq → False := fun k hh => absurd (f2 _ hh) (Nat.not_lt.mpr (Nat.le_add_right _ _))
      have D : ZipSep2 (s1.heap.objs.size + 4) (s1.heap.objs.size + 2) (s1.heap.objs.size + 3) s1.heap.objs.size (s1.heap.objs.size + 1) (s1.heap.objs.size :: srcFp sp) ((s1.heap.objs.size + 1) :: srcFp sq) := by
        refine ⟨adn (by decide), adn (by decide), adn (by decide), adn0 (by decide), by simp, fun h => ?_, fun h => ?_, adn (by decide), by simp, fun h => ?_, fun h => ?_, fun h => ?_, fun h => ?_⟩
        · rcases List.mem_cons.mp h with h | h
          · exact adn0 (by decide) h
          · exact no1 4 h
        · rcases List.mem_cons.mp h with h | h
          · exact adn0 (by decide) h
          · exact no1 3 h
        · rcases List.mem_cons.mp h with h | h
          · exact adn (by decide) h
          · exact no2 4 h
        · rcases List.mem_cons.mp h with h | h
          · exact adn (by decide) h
          · exact no2 3 h
        · rcases List.mem_cons.mp h with h | h
          · exact adn0 (i := 1) (by decide) h.symm
          · exact no2 0 h
        · rcases List.mem_cons.mp h with h | h
          · exact adn0 (by decide) h
          · exact no1 1 h
      exact ⟨s1.heap.objs.size + 4, [s1.heap.objs.size + 4, s1.heap.objs.size + 2, s1.heap.objs.size + 3, s1.heap.objs.size, s1.heap.objs.size + 1], _, _, H1, rfl, I2, turn_zipX D lt1 lt2, ⟨hz, hTI, ⟨_, _, hTO⟩, b1 _ _ h1, b2 _ _ h2⟩, fresh5, q⟩
end RP
end

section
set_option Elab.async false
set_option linter.all false
set_option maxRecDepth 100000
set_option maxHeartbeats 2000000
/-! Iterators and for. -/
namespace RP
open PySem L2
section
variable {C : CC} {W : WX} {X : Cx} {k : Nat} {Γ : Tab} {F : Hp} {a b c e o tg : Expr} {es : List Expr} {fa fb fe fo fc : DEnv → Sto → RE D} {pos p apos : Pos} {s s1 : Sit} {σ : L2.St} {H : Hp} {δ : DEnv} {D' : Ends}
/-- the iterator gives these, from this situation on -/
def ItOk (C : CC) (s : Sit) (xs : List P) (J : L2.It) : Prop := ∀ F s' H i, ExtS s s' → AtS C F s' H →
  (∀ x, xs[i]? = some x → J.go i H ∧ ∀ v H', J.yld i H v H' → ∃ s2, ExtS s' s2 ∧ s2.S = s'.S ∧ AtS C F s2 H' ∧ RepP C s2.G x v) ∧ (xs.length = i → J.stop i H)
def tI (C : CC) (W : WX) (F : Hp) (f : DEnv → Sto → RE (List P)) : TI := fun σ H R => ∃ δ s, AtS C F s H ∧ RepS C s δ σ ∧ Wt C W F σ s (f δ s.S) fun xs s' H' => ∀ J, ItOk C s' xs J → R J H'
theorem PI.imp {wi wj : TI} (h : PI X tg e wi) (k : ∀ σ H R, wj σ H R → wi σ H R) : PI X tg e wj := ⟨fun pins s σ H R I hu => h.run pins s σ H R I (k σ H R hu)⟩
def iSeq (K : PySem.W.Frag) (tl : TE) : TI := fun σ H R => tl σ H fun x H1 => (∃ a, x = .ref a ∧ (((∃ xs, SqL K H1 a xs) ∧ R (Itl K a) H1) ∨ ((∃ xs, SqT K H1 a xs) ∧ R (Itt K a) H1))) ∨ ∃ z, x = .str z ∧ R (Its z) H1
theorem pi_seq {tl : TE} (hl : PE X e tl) : PI X tg e (iSeq X.K tl) := by
  refine ⟨fun pins s σ H R I h => ?_⟩
  refine thn (hl.run pins s σ H _ I h) fun v s1 ⟨x, H1, I1, r1, qq⟩ => ?_
  rcases qq with ⟨a, ea, q1⟩ | ⟨z, ea, q⟩
  case inr =>
    subst ea
    obtain ⟨t, rfl⟩ := r1
    cases ha : z.cps.all (· < 128)
    · exact wpAny_pyIter_wide ha (pi_one (tk := s1.toks) I1 _ (turn_str _ z t "str_iterator" (.inr rfl)) ⟨_, Heap.get?_push_size _ rfl, rfl, rfl⟩ q)
    · exact wpAny_pyIter_ascii ha (pi_one (tk := s1.toks) I1 _ (turn_str _ z t "str_ascii_iterator" (.inl rfl)) ⟨_, Heap.get?_push_size _ rfl, rfl, rfl⟩ q)
  subst ea
  cases r1
  have fp : ∀ b ∈ [s1.heap.objs.size], FpOk X pins H1 b := fun b hb => by
    have e : b = s1.heap.objs.size := by simpa using hb
    subst e
    exact I1.fpOk (Nat.le_refl _) (I1.hok.fresh (Nat.le_refl _))
  rcases q1 with ⟨⟨xs, hq⟩, q⟩ | ⟨⟨xs, hq⟩, q⟩
  · obtain ⟨its, rv, p, hz⟩ := I1.list hq
    exact wpAny_pyIter_list p.isList ⟨s1.heap.objs.size, [s1.heap.objs.size], _, _, H1, rfl, I1.kept (t' := s1.toks) fun b o e => Heap.get?_push_of_some _ e, turn_list a _, ⟨_, Heap.get?_push_size _ rfl, rfl, rfl⟩, fp, q⟩
  · obtain ⟨its, rv, p, hz⟩ := I1.tuple hq
    exact wpAny_pyIter_tuple (show s1.heap.IsTuple a its.toArray from p) ⟨s1.heap.objs.size, [s1.heap.objs.size], _, _, H1, rfl, I1.kept (t' := s1.toks) fun b o e => Heap.get?_push_of_some _ e, turn_tuple a _, ⟨_, Heap.get?_push_size _ rfl, rfl, rfl⟩, fp, q⟩
theorem it_list (hk : C.K = X.K) {xs : List P} {vs : List V} {q : Addr} (hq : s.G q = some (.lst vs)) (r : RepPs C s.G xs vs) : ItOk C s xs (Itl X.K q) := by
  intro F s' H i ex A
  have hH : SqL X.K H q vs := SqL.of (A.sub _ _ (ex.G _ _ hq))
  refine ⟨fun x hx => ?_, fun hi => ⟨vs, hH, by rw [← RepPs.len xs vs r]; omega⟩⟩
  obtain ⟨v, hv, rv⟩ := reps_at xs vs i r hx
  refine ⟨⟨vs, v, hH, hv⟩, fun w H' ⟨e, y⟩ => ?_⟩
  subst e
  have e2 := y vs hH
  rw [hv] at e2
  cases e2
  exact ⟨s', ExtS.refl s', rfl, A, RepP.mono ex.G x v rv⟩
theorem it_tup (hk : C.K = X.K) {xs : List P} {vs : List V} {q : Addr} (hq : SqT C.K s.G q vs) (r : RepPs C s.G xs vs) : ItOk C s xs (Itt X.K q) := by
  intro F s' H i ex A
  rw [hk] at hq
  have hH : SqT X.K H q vs := sqT_mono A.sub (sqT_mono ex.G hq)
  refine ⟨fun x hx => ?_, fun hi => ⟨vs, hH, by rw [← RepPs.len xs vs r]; omega⟩⟩
  obtain ⟨v, hv, rv⟩ := reps_at xs vs i r hx
  refine ⟨⟨vs, v, hH, hv⟩, fun w H' ⟨e, y⟩ => ?_⟩
  subst e
  have e2 := y vs hH
  rw [hv] at e2
  cases e2
  exact ⟨s', ExtS.refl s', rfl, A, RepP.mono ex.G x v rv⟩
def seqD (d : D) (S : Sto) : RE (List P) := (purify d S).bind fun x S2 => match x with
  | .lst xs => .ok xs S2
  | .tup xs => .ok xs S2
  | .str z => .ok (signsP z) S2
  | _ => .stuck
theorem it_str {z : Str} : ItOk C s (signsP z) (Its z) := by
  intro F s' H i ex A
  unfold signsP
  refine ⟨fun x hx => ?_, fun hi => by rw [List.length_map] at hi; exact Nat.le_of_eq (by simpa using hi)⟩
  rw [List.getElem?_map] at hx
  obtain ⟨c, hc, rfl⟩ := Option.map_eq_some_iff.mp hx
  have hc' : z.cps[i]? = some c := by simpa using hc
  refine ⟨(Array.getElem?_eq_some_iff.mp hc').1, fun v H' ⟨e, c', e2, ev⟩ => ?_⟩
  subst e ev
  rw [hc'] at e2
  cases e2
  exact ⟨s', ExtS.refl s', rfl, A, by simp only [RepP]⟩
theorem i_seq (hk : C.K = X.K) (he : PE X e (tE C W F fe)) : PI X tg e (tI C W F fun δ S => (fe δ S).bind seqD) :=
  PI.imp (pi_seq he) fun σ H R ⟨δ, s, A, RR, h⟩ => by
    refine ⟨δ, s, A, RR, Wt.imp (Wt.bind h) fun d s1 H1 _ e1 A1 h1 v r1 => ?_⟩
    obtain ⟨x, s2, e2, A2, r2, h2⟩ := Wt.pur A1 r1 h1
    cases x with
    | lst xs =>
      simp only [RepP] at r2
      obtain ⟨q, vs, rfl, hq, rr⟩ := r2
      exact Or.inl ⟨q, rfl, Or.inl ⟨⟨vs, SqL.of (A2.sub _ _ hq)⟩, h2.now A2 _ (it_list hk hq rr)⟩⟩
    | tup xs =>
      simp only [RepP] at r2
      obtain ⟨q, vs, rfl, hq, rr⟩ := r2
      have hq' := hq
      rw [hk] at hq'
      exact Or.inl ⟨q, rfl, Or.inr ⟨⟨vs, sqT_mono A2.sub hq'⟩, h2.now A2 _ (it_tup hk hq rr)⟩⟩
    | str z =>
      simp only [RepP] at r2
      subst r2
      exact Or.inr ⟨z, rfl, h2.now A2 _ it_str⟩
    | _ => exact h2.elim
theorem range_at : ∀ (n : Nat) (lo : Int) (i : Nat), (rangeP lo n)[i]? = if i < n then some (.int (lo + i)) else none
  | 0, lo, i => by simp [rangeP]
  | n + 1, lo, 0 => by simp [rangeP]
  | n + 1, lo, i + 1 => by
    simp only [rangeP, List.getElem?_cons_succ, range_at n (lo + 1) i, Nat.add_lt_add_iff_right]
    have e : lo + 1 + (i : Int) = lo + ((i + 1 : Nat) : Int) := by omega
    rw [e]
theorem range_len (lo : Int) : ∀ n, (rangeP lo n).length = n
  | 0 => rfl
  | n + 1 => by simp only [rangeP, List.length_cons, range_len (lo + 1) n]
theorem it_rng {lo : Int} {n : Nat} : ItOk C s (rangeP lo n) (Itr lo n) := by
  intro F s' H i ex A
  refine ⟨fun x hx => ?_, fun hi => by rw [range_len] at hi; exact Nat.le_of_eq hi⟩
  rw [range_at] at hx
  split at hx
  · rename_i hlt
    cases hx
    refine ⟨hlt, fun v H' ⟨e, y⟩ => ?_⟩
    subst e y
    exact ⟨s', ExtS.refl s', rfl, A, by simp only [RepP]⟩
  · cases hx
theorem rng_of {i : Int} (h : rngOk i = true) : -(2 ^ 62) ≤ i ∧ i < 2 ^ 62 := by
  unfold rngOk at h
  simp only [Bool.and_eq_true, decide_eq_true_eq] at h
  exact h
def rng1D (d : D) (S : Sto) : RE (List P) := match d with
  | .p (.int j) => if rngOk j then .ok (rangeP 0 j.toNat) S else .stuck
  | _ => .stuck
theorem i_rng1 (hg : Gl X "range") (hm : X.mg "range" = none) (hn : notStar a = true) (ha : PE X a (tE C W F fa)) : PI X tg (.Call (.Name "range" p) [a] [] pos) (tI C W F fun δ S => (fa δ S).bind rng1D) :=
  PI.imp (pi_range1 hg hm (pa_cons ha pa_nil (star_cons hn)) (star_cons hn)) fun σ H R ⟨δ, s, A, RR, h⟩ => by
    refine ⟨δ, s, A, RR, Wt.imp (Wt.bind h) fun d s1 H1 _ e1 A1 h1 v r1 => ?_⟩
    cases d with
    | p z =>
      cases z with
      | int j =>
        simp only [rng1D] at h1
        split at h1
        · rename_i hj
          simp only [RepD, RepP] at r1
          subst r1
          obtain ⟨q1, q2⟩ := rng_of hj
          exact ⟨j, rfl, q1, q2, h1.now A1 _ it_rng⟩
        · exact h1.elim
      | _ => exact h1.elim
    | _ => exact h1.elim
def rng2D (d d2 : D) (S : Sto) : RE (List P) := match d, d2 with
  | .p (.int i), .p (.int j) => if rngOk i && rngOk j then .ok (rangeP i (j - i).toNat) S else .stuck
  | _, _ => .stuck
theorem i_rng2 (hg : Gl X "range") (hm : X.mg "range" = none) (hn : notStar a = true) (hnb : notStar b = true) (ha : PE X a (tE C W F fa)) (hb : PE X b (tE C W F fb)) :
    PI X tg (.Call (.Name "range" p) [a, b] [] pos) (tI C W F fun δ S => (fa δ S).bind fun d S1 => (fb δ S1).bind fun d2 S2 => rng2D d d2 S2) :=
  PI.imp (pi_range2 hg hm (pa_cons ha (pa_cons hb pa_nil (star_cons hnb)) (star_cons hn)) (by rw [star_cons hn, star_cons hnb]; rfl) (star_cons hnb)) fun σ H R ⟨δ, s, A, RR, h⟩ => by
    refine ⟨δ, s, A, RR, Wt.imp (Wt.bind h) fun d s1 H1 _ e1 A1 h1 v r1 => ?_⟩
    refine ⟨δ, s1, A1, RR.mono e1, Wt.imp (Wt.bind h1) fun d2 s2 H2 _ e2 A2 h2 w r2 => ?_⟩
    cases d with
    | p z =>
      cases z with
      | int i =>
        cases d2 with
        | p z =>
          cases z with
          | int j =>
            simp only [rng2D] at h2
            split at h2
            · rename_i hj
              simp only [RepD, RepP] at r1 r2
              subst r1 r2
              simp only [Bool.and_eq_true] at hj
              obtain ⟨q1, q2⟩ := rng_of hj.1
              obtain ⟨q3, q4⟩ := rng_of hj.2
              exact ⟨i, j, rfl, ⟨q1, q2, q3, q4⟩, h2.now A2 _ it_rng⟩
            · exact h2.elim
          | _ => exact h2.elim
        | _ => exact h2.elim
      | _ => exact h2.elim
    | _ => exact h2.elim
theorem zip_at : ∀ (xs ys : List P) (i : Nat), (zipP xs ys)[i]? = match xs[i]?, ys[i]? with
    | some x, some y => some (.tup [x, y])
    | _, _ => none
  | [], ys, i => by simp [zipP]
  | x :: xs, [], i => by
    simp only [zipP]
    cases i with
    | zero => simp
    | succ i => simp
  | x :: xs, y :: ys, 0 => by simp [zipP]
  | x :: xs, y :: ys, i + 1 => by
    simp only [zipP, List.getElem?_cons_succ]
    exact zip_at xs ys i
theorem zip_len : ∀ (xs ys : List P), (zipP xs ys).length = xs.length ∨ (zipP xs ys).length = ys.length
  | [], ys => Or.inl rfl
  | x :: xs, [] => Or.inr rfl
  | x :: xs, y :: ys => by
    simp only [zipP, List.length_cons]
    rcases zip_len xs ys with h | h
    · exact Or.inl (by omega)
    · exact Or.inr (by omega)
theorem zip_len2 : ∀ (xs ys : List P), (zipP xs ys).length ≤ xs.length ∧ (zipP xs ys).length ≤ ys.length
  | [], ys => ⟨Nat.le_refl _, Nat.zero_le _⟩
  | x :: xs, [] => ⟨Nat.zero_le _, Nat.le_refl _⟩
  | x :: xs, y :: ys => by
    simp only [zipP, List.length_cons]
    have := zip_len2 xs ys
    omega
theorem src_mono {K : PySem.W.Frag} {s : Sit} {F : Hp} {p : Src} {xs : List V} (hq : srcSq K s.G p xs) (A : AtS C F s H) : srcSq K H p xs := by
  cases p with
  | l a => exact sqL_mono A.sub hq
  | t a => exact sqT_mono A.sub hq
  | s z => exact hq
theorem src_ext {K : PySem.W.Frag} {s s' : Sit} {p : Src} {xs : List V} (hq : srcSq K s.G p xs) (e : ExtS s s') : srcSq K s'.G p xs := by
  cases p with
  | l a => exact sqL_mono e.G hq
  | t a => exact sqT_mono e.G hq
  | s z => exact hq
theorem it_zip (hk : C.K = X.K) {xs ys : List P} {vs ws : List V} {q q' : Src} (hq : srcSq X.K s.G q vs) (r : RepPs C s.G xs vs) (hq' : srcSq X.K s.G q' ws) (r' : RepPs C s.G ys ws) : ItOk C s (zipP xs ys) (ItzX X.K q q') := by
  intro F s' H i ex A
  have h1 : srcSq X.K H q vs := src_mono (src_ext hq ex) A
  have h2 : srcSq X.K H q' ws := src_mono (src_ext hq' ex) A
  refine ⟨fun z hz => ?_, fun hi => ⟨vs, ws, h1, h2, ?_⟩⟩
  · rw [zip_at] at hz
    split at hz
    · rename_i x y hx hy
      cases hz
      obtain ⟨v, hv, rv⟩ := reps_at xs vs i r hx
      obtain ⟨w, hw, rw'⟩ := reps_at ys ws i r' hy
      refine ⟨⟨vs, ws, v, w, h1, h2, hv, hw⟩, fun u H' ⟨T, x', y', eu, hT, eH, f1, f2⟩ => ?_⟩
      subst eu eH
      have z1 := f1 vs h1
      have z2 := f2 ws h2
      rw [hv] at z1
      rw [hw] at z2
      cases z1
      cases z2
      obtain ⟨A2, e2⟩ := A.grow (p := T) (o := .tup [v, w]) hT
      refine ⟨_, e2, rfl, A2, ?_⟩
      simp only [RepP, RepPs]
      exact ⟨T, [v, w], rfl, Or.inl (Or.inl upd_same), v, [w], rfl, RepP.mono e2.G x v (RepP.mono ex.G x v rv), w, [], rfl, RepP.mono e2.G y w (RepP.mono ex.G y w rw'), rfl⟩
    · cases hz
  · have l1 := RepPs.len xs vs r
    have l2 := RepPs.len ys ws r'
    have := zip_len2 xs ys
    rcases zip_len xs ys with h | h <;> omega
def zipD (x y : P) (S : Sto) : RE (List P) := match seqOf x, seqOf y with
  | some xs, some ys => .ok (zipP xs ys) S
  | _, _ => .stuck
theorem signs_rep {G : Hp} (l : List Nat) : RepPs C G (l.map fun c => P.str ⟨#[c]⟩) (l.map fun c => V.str ⟨#[c]⟩) := by
  induction l with
  | nil => simp only [List.map_nil, RepPs]
  | cons c l ih =>
    simp only [List.map_cons, RepPs, RepP]
    exact ⟨_, _, rfl, rfl, ih⟩
theorem seq_src (hk : C.K = X.K) {x : P} {xs : List P} {v : V} (h : seqOf x = some xs) (r : RepP C s.G x v) : ∃ q vs, v = srcV q ∧ srcSq X.K s.G q vs ∧ RepPs C s.G xs vs := by
  cases x with
  | lst ys =>
    cases h
    simp only [RepP] at r
    obtain ⟨q, vs, rfl, hq, rr⟩ := r
    exact ⟨.l q, vs, rfl, SqL.of hq, rr⟩
  | tup ys =>
    cases h
    simp only [RepP] at r
    obtain ⟨q, vs, rfl, hq, rr⟩ := r
    rw [hk] at hq
    exact ⟨.t q, vs, rfl, hq, rr⟩
  | str z =>
    cases h
    simp only [RepP] at r
    subst r
    exact ⟨.s z, _, rfl, rfl, signs_rep _⟩
  | _ => cases h
theorem i_zip (hk : C.K = X.K) {elts : List Expr} {kk : Nat} {tpos : Pos} (hg : Gl X "zip") (hm : X.mg "zip" = none) (hn : notStar a = true) (hnb : notStar b = true) (ha : PE X a (tE C W F fa)) (hb : PE X b (tE C W F fb)) :
    PI X (.Tuple elts kk tpos) (.Call (.Name "zip" p) [a, b] [] pos) (tI C W F fun δ S => (fa δ S).bind fun d S1 => (purify d S1).bind fun x S2 => (fb δ S2).bind fun d2 S3 => (purify d2 S3).bind fun y S4 => zipD x y S4) :=
  PI.imp (pi_zipX hg hm (pa_cons ha (pa_cons hb pa_nil (star_cons hnb)) (star_cons hn)) (star_cons hn) (star_none (by simp only [List.all_cons, List.all_nil, Bool.and_true]; exact hnb))) fun σ H R ⟨δ, s, A, RR, h⟩ => by
    refine ⟨δ, s, A, RR, Wt.imp (Wt.bind h) fun d s1 H1 _ e1 A1 h1 v r1 => ?_⟩
    obtain ⟨x, s2, e2, A2, r2, h2⟩ := Wt.pur A1 r1 h1
    refine ⟨δ, s2, A2, RR.mono (e1.trans e2), Wt.imp (Wt.bind h2) fun d3 s3 H3 _ e3 A3 h3 w r3 => ?_⟩
    obtain ⟨y, s4, e4, A4, r4, h4⟩ := Wt.pur A3 r3 h3
    unfold zipD at h4
    cases hx : seqOf x with
    | none =>
      rw [hx] at h4
      exact h4.elim
    | some xs =>
      cases hy : seqOf y with
      | none =>
        rw [hx, hy] at h4
        exact h4.elim
      | some ys =>
        rw [hx, hy] at h4
        obtain ⟨q, vs, rfl, hq, rr⟩ := seq_src hk hx r2
        obtain ⟨q', ws, rfl, hq', rr'⟩ := seq_src hk hy r4
        have hq2 := src_ext hq (e3.trans e4)
        exact ⟨q, q', vs, ws, rfl, src_mono hq2 A4, src_mono hq' A4, h4.now A4 _ (it_zip hk hq2 (RepPs.mono (e3.trans e4).G xs vs rr) hq' rr')⟩
theorem enum_at : ∀ (xs : List P) (k i : Nat), (enumP k xs)[i]? = (xs[i]?).map fun x => .tup [.int (k + i : Nat), x]
  | [], k, i => by simp [enumP]
  | x :: xs, k, 0 => by simp [enumP]
  | x :: xs, k, i + 1 => by
    simp only [enumP, List.getElem?_cons_succ, enum_at xs (k + 1) i]
    have e : k + 1 + i = k + (i + 1) := by omega
    rw [e]
theorem enum_len : ∀ (xs : List P) (k : Nat), (enumP k xs).length = xs.length
  | [], k => rfl
  | x :: xs, k => by simp only [enumP, List.length_cons, enum_len xs (k + 1)]
theorem it_enum {xs : List P} {vs : List V} {q : Addr} (hq : s.G q = some (.lst vs)) (r : RepPs C s.G xs vs) : ItOk C s (enumP 0 xs) (Ite X.K q) := by
  intro F s' H i ex A
  have hH : SqL X.K H q vs := SqL.of (A.sub _ _ (ex.G _ _ hq))
  refine ⟨fun z hz => ?_, fun hi => ⟨vs, hH, by rw [← RepPs.len xs vs r]; rw [enum_len] at hi; omega⟩⟩
  rw [enum_at] at hz
  obtain ⟨x, hx, rfl⟩ := Option.map_eq_some_iff.mp hz
  obtain ⟨v, hv, rv⟩ := reps_at xs vs i r hx
  refine ⟨⟨vs, v, hH, hv⟩, fun u H' ⟨T, y, eu, hT, eH, f1⟩ => ?_⟩
  subst eu eH
  have z1 := f1 vs hH
  rw [hv] at z1
  cases z1
  obtain ⟨A2, e2⟩ := A.grow (p := T) (o := .tup [.int (i : Nat), v]) hT
  refine ⟨_, e2, rfl, A2, ?_⟩
  simp only [RepP, RepPs]
  exact ⟨T, [.int (i : Nat), v], rfl, Or.inl (Or.inl upd_same), .int (i : Nat), [v], rfl, by rw [Nat.zero_add], v, [], rfl, RepP.mono e2.G x v (RepP.mono ex.G x v rv), rfl⟩
theorem it_enumT (hk : C.K = X.K) {xs : List P} {vs : List V} {q : Addr} (hq : SqT C.K s.G q vs) (r : RepPs C s.G xs vs) : ItOk C s (enumP 0 xs) (IteT X.K q) := by
  intro F s' H i ex A
  rw [hk] at hq
  have hH : SqT X.K H q vs := sqT_mono A.sub (sqT_mono ex.G hq)
  refine ⟨fun z hz => ?_, fun hi => ⟨vs, hH, by rw [← RepPs.len xs vs r]; rw [enum_len] at hi; omega⟩⟩
  rw [enum_at] at hz
  obtain ⟨x, hx, rfl⟩ := Option.map_eq_some_iff.mp hz
  obtain ⟨v, hv, rv⟩ := reps_at xs vs i r hx
  refine ⟨⟨vs, v, hH, hv⟩, fun u H' ⟨T, y, eu, hT, eH, f1⟩ => ?_⟩
  subst eu eH
  have z1 := f1 vs hH
  rw [hv] at z1
  cases z1
  obtain ⟨A2, e2⟩ := A.grow (p := T) (o := .tup [.int (i : Nat), v]) hT
  refine ⟨_, e2, rfl, A2, ?_⟩
  simp only [RepP, RepPs]
  exact ⟨T, [.int (i : Nat), v], rfl, Or.inl (Or.inl upd_same), .int (i : Nat), [v], rfl, by rw [Nat.zero_add], v, [], rfl, RepP.mono e2.G x v (RepP.mono ex.G x v rv), rfl⟩
def enumD (x : P) (S : Sto) : RE (List P) := match x with
  | .lst xs => .ok (enumP 0 xs) S
  | .tup xs => .ok (enumP 0 xs) S
  | _ => .stuck
theorem i_enum (hk : C.K = X.K) {elts : List Expr} {kk : Nat} {tpos : Pos} (hg : Gl X "enumerate") (hm : X.mg "enumerate" = none) (hn : notStar a = true) (ha : PE X a (tE C W F fa)) :
    PI X (.Tuple elts kk tpos) (.Call (.Name "enumerate" p) [a] [] pos) (tI C W F fun δ S => (fa δ S).bind fun d S1 => (purify d S1).bind enumD) :=
  PI.imp (pi_enumA hg hm (pa_cons ha pa_nil (star_cons hn)) (star_cons hn)) fun σ H R ⟨δ, s, A, RR, h⟩ => by
    refine ⟨δ, s, A, RR, Wt.imp (Wt.bind h) fun d s1 H1 _ e1 A1 h1 v r1 => ?_⟩
    obtain ⟨x, s2, e2, A2, r2, h2⟩ := Wt.pur A1 r1 h1
    cases x with
    | lst xs =>
      simp only [RepP] at r2
      obtain ⟨q, vs, rfl, hq, rr⟩ := r2
      exact ⟨q, rfl, Or.inl ⟨vs, SqL.of (A2.sub _ _ hq), h2.now A2 _ (it_enum hq rr)⟩⟩
    | tup xs =>
      simp only [RepP] at r2
      obtain ⟨q, vs, rfl, hq, rr⟩ := r2
      have hq' := hq
      rw [hk] at hq'
      exact ⟨q, rfl, Or.inr ⟨vs, sqT_mono A2.sub hq', h2.now A2 _ (it_enumT hk hq rr)⟩⟩
    | _ => exact h2.elim
/-! ### for -/
theorem loop_wantE {r : RS} {on : DEnv → Sto → RS} (h : WantS C W F s (loopEnd r on) D') : WantS C W F s r { D' with nx := fun σ H => ∃ δ s', AtS C F s' H ∧ RepS C s' δ σ ∧ ExtS s s' ∧ WantS C W F s' (on δ s'.S) D', ct := fun σ H => ∃ δ s', AtS C F s' H ∧ RepS C s' δ σ ∧ ExtS s s' ∧ WantS C W F s' (on δ s'.S) D', bk := D'.nx } := by
  cases r with
  | next δ S' =>
    intro σ s' H' hS ex A' R'
    subst hS
    exact ⟨δ, s', A', R', ex, WantS.ext ex h⟩
  | cnt δ S' =>
    intro σ s' H' hS ex A' R'
    subst hS
    exact ⟨δ, s', A', R', ex, WantS.ext ex h⟩
  | brk δ S' => exact h
  | ret d S' => exact h
  | exc c x δ S' => exact h
  | stuck => exact h
theorem WantS.impN {r : RS} {N N' : L2.St → Hp → Prop} (k : ∀ σ H, N σ H → N' σ H) (h : WantS C W F s r { D' with nx := N, ct := N, bk := D'.nx }) : WantS C W F s r { D' with nx := N', ct := N', bk := D'.nx } := by
  cases r with
  | next δ S' => exact fun σ s' H' h1 h2 h3 h4 => k _ _ (h σ s' H' h1 h2 h3 h4)
  | cnt δ S' => exact fun σ s' H' h1 h2 h3 h4 => k _ _ (h σ s' H' h1 h2 h3 h4)
  | brk δ S' => exact h
  | ret d S' => exact h
  | exc c x δ S' => exact h
  | stuck => exact h
theorem notSet_it {env : Env} (h : notSet e = true) : ∀ x, foldedSetIterable e env x = pure x := by
  intro x
  cases e <;> first | rfl | cases h
theorem s_for {body : List Stmt} {g : DEnv → Sto → RS} {fi : DEnv → Sto → RE (List P)} {t : Tg} (hp : PassesOwn (model X.prog X.w) X.A X.env X.xe) (hc : X.calm = true) (hi : PI X tg e (tI C W F fi)) (hg : PG X tg (gT C F t)) (hb : PSs X body (tS C W F g)) (hs : notSet e = true) :
    PS X (.For tg e body [] pos) (tS C W F fun δ S => (fi δ S).st δ fun xs S1 => forL (bindT t) g xs δ S1) :=
  PS.imp (ps_for hp hc hi hg hb (notSet_it hs)) fun D σ H ⟨δ, s, A, R, h⟩ => by
    refine ⟨δ, s, A, R, Wt.imp (WantS.st R h) fun xs s1 H1 _ e1 A1 h1 J ok => ?_⟩
    refine ⟨fun i m σ H => m = xs.length - i ∧ i ≤ xs.length ∧ ∃ δ s', AtS C F s' H ∧ RepS C s' δ σ ∧ ExtS s1 s' ∧ WantS C W F s' (forL (bindT t) g (xs.drop i) δ s'.S) D, ⟨xs.length, by simp, Nat.zero_le _, δ, s1, A1, R.mono e1, ExtS.refl s1, by rw [List.drop_zero]; exact h1⟩, ?_⟩
    rintro i m σ H ⟨rfl, hi, δ, s2, A2, R2, e2, h2⟩
    obtain ⟨ok1, ok2⟩ := ok F s2 H i e2 A2
    by_cases hlt : i < xs.length
    · have hx : xs[i]? = some xs[i] := List.getElem?_eq_getElem hlt
      obtain ⟨go, yl⟩ := ok1 _ hx
      refine .inr ⟨go, fun σ H => i + 1 ≤ xs.length ∧ ∃ δ s', AtS C F s' H ∧ RepS C s' δ σ ∧ ExtS s1 s' ∧ WantS C W F s' (forL (bindT t) g (xs.drop (i + 1)) δ s'.S) D, fun σ' H' q => ⟨xs.length - (i + 1), by omega, rfl, q⟩, fun v H' y => ?_⟩
      obtain ⟨s3, e3, hS, A3, r3⟩ := yl v H' y
      rw [List.drop_eq_getElem_cons hlt] at h2
      simp only [forL] at h2
      refine ⟨δ, s3, xs[i], A3, R2.mono e3, r3, ?_⟩
      cases hb : bindT t xs[i] δ with
      | none =>
        rw [hb] at h2
        exact h2.elim
      | some δ' =>
        rw [hb] at h2
        intro σ' R' _
        refine ⟨δ', s3, A3, R', ?_⟩
        have h3 := WantS.ext e3 h2
        rw [← hS] at h3
        exact WantS.impN (fun σ H ⟨δ, s', A, R, ex, w⟩ => ⟨hlt, δ, s', A, R, (e2.trans e3).trans ex, w⟩) (loop_wantE h3)
    · have ei : i = xs.length := by omega
      subst ei
      refine .inl ⟨ok2 rfl, ?_⟩
      rw [List.drop_length] at h2
      exact h2.next A2 R2
end
end RP
end

section
set_option Elab.async false
set_option linter.all false
set_option maxRecDepth 100000
set_option maxHeartbeats 2000000
/-! Comprehensions. -/
namespace RP
open PySem L2
/-- no exception -/
abbrev WF : WX := fun _ _ _ _ => False
section
variable {C : CC} {W : WX} {X : Cx} {k : Nat} {F : Hp} {s s1 : Sit} {σ σ' : L2.St} {H : Hp} {δ : DEnv}
theorem blk_takes {s : Shared} {H : Hp} {scope : Scope} {cenv : Env} {fp : List Addr} : Takes (X.blk s H scope cenv fp) WF := fun u s' ⟨_, _, _, _, _, _, _, _, _, _, _, _, _, _, _, _, w⟩ => w
/-! ### a thing beside -/
theorem AtS.frame (A : AtS C F s H) {D : Addr} {o : HO} (h : H D = none) : AtS C (upd F D o) s (upd H D o) :=
  have hG := A.none_of h
  ⟨fun a u e => by rw [upd_ne (ne_of_none (A.sub a u e) h)]; exact A.sub a u e, A.len, A.fzn, fun n c e => by
    obtain ⟨a, u, k1, k2, k3, k4, k5⟩ := A.live n c e
    have na : a ≠ D := ne_of_none k4 h
    exact ⟨a, u, k1, k2, by rw [upd_ne na]; exact k3, by rw [upd_ne na]; exact k4, k5⟩, A.inj, fun a u e => by
    by_cases ha : a = D
    · subst ha
      rw [upd_same] at e ⊢
      exact ⟨e, hG⟩
    · rw [upd_ne ha] at e ⊢
      exact A.frm a u e⟩
theorem AtS.drop {D : Addr} {o : HO} (A : AtS C (upd F D o) s H) (hF : F D = none) : ∃ H0, H0 D = none ∧ AtS C F s H0 ∧ H = upd H0 D o := by
  obtain ⟨hD, hG⟩ := A.frm D o upd_same
  refine ⟨fun a => if a = D then none else H a, if_pos rfl, ⟨fun a u e => ?_, A.len, A.fzn, fun n c e => ?_, A.inj, fun a u e => ?_⟩, ?_⟩
  · have na : a ≠ D := ne_of_none e hG
    show (if a = D then none else H a) = _
    rw [if_neg na]
    exact A.sub a u e
  · obtain ⟨a, u, k1, k2, k3, k4, k5⟩ := A.live n c e
    have na : a ≠ D := fun z => by
      rw [z, upd_same] at k3
      cases k3
    rw [upd_ne na] at k3
    exact ⟨a, u, k1, k2, k3, by show (if a = D then none else H a) = _; rw [if_neg na]; exact k4, k5⟩
  · have na : a ≠ D := ne_of_none e hF
    have z := A.frm a u (by rw [upd_ne na]; exact e)
    exact ⟨by show (if a = D then none else H a) = _; rw [if_neg na]; exact z.1, z.2⟩
  · funext a
    by_cases ha : a = D
    · subst ha
      rw [upd_same]
      exact hD
    · rw [upd_ne ha]
      show H a = (if a = D then none else H a)
      rw [if_neg ha]
theorem upd_two {D : Addr} {o o' : HO} : upd (upd H D o) D o' = upd H D o' := by
  funext a
  by_cases ha : a = D
  · subst ha
    rw [upd_same, upd_same]
  · rw [upd_ne ha, upd_ne ha, upd_ne ha]
theorem AtS.reframe {D : Addr} {o o' : HO} (A : AtS C (upd F D o) s H) (hF : F D = none) : AtS C (upd F D o') s (upd H D o') := by
  obtain ⟨H0, h0, A0, rfl⟩ := A.drop hF
  rw [upd_two]
  exact A0.frame h0
/-! ### slots that are forgotten -/
theorem wipe_get (σ : L2.St) : ∀ (l : List Nat) (i : Nat), (wipe σ l)[i]? = if i ∈ l ∧ i < σ.length then some none else σ[i]?
  | [], i => by simp [wipe]
  | v :: l, i => by
    simp only [wipe, List.mem_cons]
    by_cases hv : v = i
    · subst hv
      by_cases hl : v < σ.length
      · rw [List.getElem?_set_self (by rw [wipe_length]; exact hl), if_pos ⟨Or.inl rfl, hl⟩]
      · rw [List.getElem?_eq_none (by rw [List.length_set, wipe_length]; omega), if_neg (fun z => hl z.2), List.getElem?_eq_none (by omega)]
    · rw [List.getElem?_set_ne hv, wipe_get σ l i]
      have : (i = v ∨ i ∈ l) ↔ i ∈ l := ⟨fun z => z.elim (fun z => absurd z.symm hv) id, Or.inr⟩
      simp only [this]
theorem wipeD_len (δ : DEnv) : ∀ l : List Nat, (wipeD δ l).length = δ.length
  | [] => rfl
  | v :: l => by simp only [wipeD, List.length_set, wipeD_len δ l]
theorem wipeD_get (δ : DEnv) : ∀ (l : List Nat) (i : Nat), (wipeD δ l)[i]? = if i ∈ l ∧ i < δ.length then some none else δ[i]?
  | [], i => by simp [wipeD]
  | v :: l, i => by
    simp only [wipeD, List.mem_cons]
    by_cases hv : v = i
    · subst hv
      by_cases hl : v < δ.length
      · rw [List.getElem?_set_self (by rw [wipeD_len]; exact hl), if_pos ⟨Or.inl rfl, hl⟩]
      · rw [List.getElem?_eq_none (by rw [List.length_set, wipeD_len]; omega), if_neg (fun z => hl z.2), List.getElem?_eq_none (by omega)]
    · rw [List.getElem?_set_ne hv, wipeD_get δ l i]
      have : (i = v ∨ i ∈ l) ↔ i ∈ l := ⟨fun z => z.elim (fun z => absurd z.symm hv) id, Or.inr⟩
      simp only [this]
theorem RepS.wipe (R : RepS C s δ σ) (l : List Nat) : RepS C s (wipeD δ l) (L2.wipe σ l) := by
  refine ⟨by rw [wipeD_len, wipe_length]; exact R.1, fun i d hd => ?_⟩
  rw [wipeD_get] at hd
  rw [wipe_get]
  split at hd
  · cases hd
  · rename_i hn
    rw [if_neg (by rw [← R.1]; exact hn)]
    exact R.2 i d hd
theorem wipe_upto {l : List Nat} (u : Upto l (wipe σ l) σ') : wipe σ' l = wipe σ l := by
  apply List.ext_getElem?
  intro i
  have hl : σ'.length = σ.length := by rw [u.1, wipe_length]
  rw [wipe_get, wipe_get, hl]
  split
  · rfl
  · rename_i hn
    by_cases hi : i ∈ l
    · have hlt : ¬ i < σ.length := fun z => hn ⟨hi, z⟩
      rw [List.getElem?_eq_none (by omega), List.getElem?_eq_none (by omega)]
    · rw [u.2 i hi, wipe_get, if_neg hn]
theorem RE.bind_assoc {α β γ : Type} (r : RE α) (f : α → Sto → RE β) (g : β → Sto → RE γ) : (r.bind f).bind g = r.bind fun a S => (f a S).bind g := by
  cases r <;> rfl
/-! ### the comprehension -/
theorem lc_want {t : Tg} {fi : DEnv → Sto → RE (List P)} {fc fe : DEnv → Sto → RE D} {lv : Bool} {Q : VK} (h : tE C W F (fun δ S => (fi δ S).bind fun xs S1 => if lineOk xs.length then (compL (bindT t) fc fe (wipeD δ (tgIx t)) xs S1).bind (compR lv) else .stuck) σ H Q) :
    tLc (tI C W F fi) (fun v σ H Q => ∃ F, gT C F t v σ H Q) (fun σ H Q => ∃ F, tT C WF F fc σ H Q) (fun σ H Q => ∃ F, tE C WF F fe σ H Q) (tgIx t) σ H Q := by
  obtain ⟨δ, s, A, R, h⟩ := h
  refine ⟨δ, s, A, R, Wt.imp (Wt.bind h) fun xs s1 H1 _ e1 A1 h1 J ok D hD => ?_⟩
  split at h1
  case isFalse => exact h1.elim
  rename_i hline
  have R1 := R.mono e1
  have hF : F D = none := A1.fnone hD
  let inv : Nat → Hp → Prop := fun i H => i ≤ xs.length ∧ ∃ s' acc vs, ExtS s1 s' ∧ AtS C (upd F D (.lst vs)) s' H ∧ RepPs C s'.G acc vs ∧ acc.length ≤ i ∧
    WantE C W F (RepD C) σ s' ((compL (bindT t) fc fe (wipeD δ (tgIx t)) (xs.drop i) s'.S).bind fun ys S4 => compR lv (acc ++ ys) S4) Q
  refine ⟨fun i m H => m = xs.length - i ∧ inv i H, ⟨xs.length, by simp, Nat.zero_le _, s1, [], [], ExtS.refl s1, A1.frame hD, by simp only [RepPs], Nat.le_refl _, ?_⟩, ?_⟩
  · rw [List.drop_zero]
    exact h1
  rintro i m H ⟨rfl, hi, s2, acc, vs, e2, A2, ra, hacc, h2⟩
  obtain ⟨ok1, ok2⟩ := ok _ s2 H i e2 A2
  by_cases hlt : i < xs.length
  · have hx : xs[i]? = some xs[i] := List.getElem?_eq_getElem hlt
    obtain ⟨go, yl⟩ := ok1 _ hx
    refine .inr ⟨go, inv (i + 1), fun H' q => ⟨xs.length - (i + 1), by omega, rfl, q⟩, fun v H' y => ?_⟩
    obtain ⟨s3, e3, hS, A3, r3⟩ := yl v H' y
    rw [List.drop_eq_getElem_cons hlt] at h2
    simp only [compL] at h2
    have h3 := Wt.ext e3 h2
    rw [← hS] at h3
    refine ⟨_, wipeD δ (tgIx t), s3, xs[i], A3, (R1.mono (e2.trans e3)).wipe _, r3, ?_⟩
    cases hb : bindT t xs[i] (wipeD δ (tgIx t)) with
    | none =>
      rw [hb] at h3
      exact h3.elim
    | some δ' =>
      rw [hb] at h3
      intro σ' R' u'
      refine ⟨wipe_upto u', _, δ', s3, A3, R', ?_⟩
      dsimp only at h3
      cases ht : fc δ' s3.S with
      | stuck =>
        rw [ht] at h3
        exact h3.elim
      | exc c x S' =>
        rw [ht] at h3
        exact h3.elim
      | ok d S1 =>
        rw [ht] at h3
        intro s4 H4 hS4 e4 A4
        subst hS4
        cases d with
        | p z =>
          cases z with
          | bl b =>
            have h4 := Wt.ext e4 h3
            cases b with
            | false =>
              dsimp only
              rw [if_neg Bool.false_ne_true]
              exact ⟨hlt, s4, acc, vs, (e2.trans e3).trans e4, A4, RepPs.mono (e3.trans e4).G acc vs ra, Nat.le_succ_of_le hacc, h4⟩
            | true =>
              dsimp only at h4 ⊢
              rw [if_pos rfl]
              refine ⟨_, δ', s4, A4, R'.mono e4, ?_⟩
              cases hx' : fe δ' s4.S with
              | stuck =>
                rw [hx'] at h4
                exact h4.elim
              | exc c x S' =>
                rw [hx'] at h4
                exact h4.elim
              | ok d2 S2 =>
                rw [hx'] at h4
                intro s5 H5 hS5 e5 A5 w rw'
                subst hS5
                dsimp only at h4
                cases hp : purify d2 s5.S with
                | stuck =>
                  rw [hp] at h4
                  exact h4.elim
                | exc c x S' => exact (purify_not hp).elim
                | ok z S3 =>
                  rw [hp] at h4
                  obtain ⟨s6, hS6, A6, e6, r6⟩ := purify_ok A5 rw' hp
                  subst hS6
                  have hD5 := (A6.frm D _ upd_same).1
                  have ee := (e3.trans e4).trans (e5.trans e6)
                  have ra6 := RepPs.mono ee.G acc vs ra
                  have hl : vs.length < sizeLine := by
                    rw [← RepPs.len acc vs ra]
                    have q1 := line_of hline
                    omega
                  refine ⟨vs, hD5, hl, hlt, s6, acc ++ [z], vs ++ [w], e2.trans ee, A6.reframe hF, reps_app acc vs ra6 (by simp only [RepPs]; exact ⟨w, [], rfl, r6, rfl⟩), by simp; omega, ?_⟩
                  have h5 := Wt.ext (e5.trans e6) h4
                  dsimp only at h5
                  rw [RE.bind_assoc] at h5
                  simp only [RE.bind, List.append_assoc, List.cons_append, List.nil_append] at h5 ⊢
                  exact h5
          | _ => exact h3.elim
        | _ => exact h3.elim
  · have ei : i = xs.length := by omega
    subst ei
    refine .inl ⟨ok2 rfl, ?_⟩
    rw [List.drop_length] at h2
    simp only [compL, RE.bind, List.append_nil] at h2
    obtain ⟨H0, h0, A0, rfl⟩ := A2.drop hF
    cases lv with
    | false => exact want_lst A0 ra h2 D h0
    | true => exact want_new A0 ra h2 D h0
theorem upto_more {l l1 : List Nat} {σ σ' : L2.St} (u : Upto l σ σ') : Upto (l ++ l1) σ σ' := ⟨u.1, fun i hi => u.2 i fun z => hi (List.mem_append_left _ z)⟩
theorem ok_bindQ {α β : Type} (a : α) (S : Sto) (f : α → Sto → RE β) : (RE.ok a S).bind f = f a S := rfl
/-- two clauses -/
theorem lc2_want {t t1 : Tg} {fi fi1 : DEnv → Sto → RE (List P)} {fb fc fe : DEnv → Sto → RE D} {Q : VK} (hb : fb = fun _ S => .ok (.p (.bl true)) S) (h : tE C W F (fun δ S => (fi δ S).bind fun xs S1 => if lineOk xs.length then (comp2L (bindT t) fi1 (bindT t1) fc fe (tgIx t1) (wipeD δ (tgIx t ++ tgIx t1)) 0 xs S1).bind fun ys S2 => .ok (.p (.lst ys)) S2 else .stuck) σ H Q) :
    tLc2 (tI C W F fi) (fun v σ H Q => ∃ F, gT C F t v σ H Q) (fun σ H Q => ∃ F, tT C WF F fb σ H Q) (fun σ H R => ∃ F, tI C WF F fi1 σ H R) (fun v σ H Q => ∃ F, gT C F t1 v σ H Q) (fun σ H Q => ∃ F, tT C WF F fc σ H Q) (fun σ H Q => ∃ F, tE C WF F fe σ H Q) (tgIx t ++ tgIx t1) (tgIx t1) σ H Q := by
  obtain ⟨δ, s, A, R, h⟩ := h
  refine ⟨δ, s, A, R, Wt.imp (Wt.bind h) fun xs s1 H1 _ e1 A1 h1 J ok D hD => ?_⟩
  split at h1
  case isFalse => exact h1.elim
  rename_i hline
  have R1 := R.mono e1
  have hF : F D = none := A1.fnone hD
  let inv : Nat → Hp → Prop := fun i H => i ≤ xs.length ∧ ∃ s' acc vs, ExtS s1 s' ∧ AtS C (upd F D (.lst vs)) s' H ∧ RepPs C s'.G acc vs ∧
    WantE C W F (RepD C) σ s' ((comp2L (bindT t) fi1 (bindT t1) fc fe (tgIx t1) (wipeD δ (tgIx t ++ tgIx t1)) acc.length (xs.drop i) s'.S).bind fun ys S4 => .ok (.p (.lst (acc ++ ys))) S4) Q
  refine ⟨fun i m H => m = xs.length - i ∧ inv i H, ⟨xs.length, by simp, Nat.zero_le _, s1, [], [], ExtS.refl s1, A1.frame hD, by simp only [RepPs], ?_⟩, ?_⟩
  · rw [List.drop_zero]
    exact h1
  rintro i m H ⟨rfl, hi, s2, acc, vs, e2, A2, ra, h2⟩
  obtain ⟨ok1, ok2⟩ := ok _ s2 H i e2 A2
  by_cases hlt : i < xs.length
  · have hx : xs[i]? = some xs[i] := List.getElem?_eq_getElem hlt
    obtain ⟨go, yl⟩ := ok1 _ hx
    refine .inr ⟨go, inv (i + 1), fun H' q => ⟨xs.length - (i + 1), by omega, rfl, q⟩, fun v H' y => ?_⟩
    obtain ⟨s3, e3, hS, A3, r3⟩ := yl v H' y
    rw [List.drop_eq_getElem_cons hlt] at h2
    simp only [comp2L] at h2
    have h3 := Wt.ext e3 h2
    rw [← hS] at h3
    refine ⟨_, wipeD δ (tgIx t ++ tgIx t1), s3, xs[i], A3, (R1.mono (e2.trans e3)).wipe _, r3, ?_⟩
    cases hb1 : bindT t xs[i] (wipeD δ (tgIx t ++ tgIx t1)) with
    | none =>
      rw [hb1] at h3
      exact h3.elim
    | some δ' =>
      rw [hb1] at h3
      intro σ2 R2 u2
      refine ⟨wipe_upto (upto_more u2), _, δ', s3, A3, R2, ?_⟩
      rw [hb]
      intro s4 H4 hS4 e4 A4
      dsimp only
      rw [if_pos rfl]
      refine ⟨_, δ', s4, A4, R2.mono e4, ?_⟩
      have h4 := Wt.ext e4 h3
      rw [← hS4] at h4
      dsimp only at h4
      cases hz : fi1 δ' s4.S with
      | stuck =>
        rw [hz] at h4
        exact h4.elim
      | exc c x S' =>
        rw [hz] at h4
        exact h4.elim
      | ok zs S1' =>
        rw [hz] at h4
        intro s5 H5 hS5 e5 A5 J1 okk
        subst hS5
        try dsimp only at h4
        split at h4
        case isFalse => exact h4.elim
        rename_i hl2
        have ra5 := RepPs.mono ((e3.trans e4).trans e5).G acc vs ra
        have lv := RepPs.len acc vs ra
        let inv1 : Nat → Hp → Prop := fun j H => j ≤ zs.length ∧ ∃ s' ys' vs', ExtS s5 s' ∧ AtS C (upd F D (.lst vs')) s' H ∧ RepPs C s'.G (acc ++ ys') vs' ∧ ys'.length ≤ j ∧
          WantE C W F (RepD C) σ s' ((compL (bindT t1) fc fe (wipeD δ' (tgIx t1)) (zs.drop j) s'.S).bind fun ys S2 => (comp2L (bindT t) fi1 (bindT t1) fc fe (tgIx t1) (wipeD δ (tgIx t ++ tgIx t1)) (acc.length + (ys' ++ ys).length) (xs.drop (i + 1)) S2).bind fun rs S4 => .ok (.p (.lst (acc ++ ((ys' ++ ys) ++ rs)))) S4) Q
        refine ⟨fun j k H => k = zs.length - j ∧ inv1 j H, ⟨zs.length, by simp, Nat.zero_le _, s5, [], vs, ExtS.refl s5, A5, by rw [List.append_nil]; exact ra5, Nat.le_refl _, ?_⟩, ?_⟩
        · rw [List.drop_zero]
          have h5 := Wt.ext e5 h4
          simp only [RE.bind_assoc, ok_bindQ, List.nil_append] at h5 ⊢
          exact h5
        rintro j kk H ⟨rfl, hj, s6, ys', vs', e6, A6, ra6, hys, h6⟩
        obtain ⟨ok3, ok4⟩ := okk _ s6 H j e6 A6
        by_cases hjt : j < zs.length
        · have hzx : zs[j]? = some zs[j] := List.getElem?_eq_getElem hjt
          obtain ⟨go1, yl1⟩ := ok3 _ hzx
          refine .inr ⟨go1, inv1 (j + 1), fun H' q => ⟨zs.length - (j + 1), by omega, rfl, q⟩, fun v1 H7 y1 => ?_⟩
          obtain ⟨s7, e7, hS7, A7, r7⟩ := yl1 v1 H7 y1
          rw [List.drop_eq_getElem_cons hjt] at h6
          simp only [compL] at h6
          have h7 := Wt.ext e7 h6
          rw [← hS7] at h7
          refine ⟨_, wipeD δ' (tgIx t1), s7, zs[j], A7, (R2.mono (e4.trans (e5.trans (e6.trans e7)))).wipe _, r7, ?_⟩
          cases hb2 : bindT t1 zs[j] (wipeD δ' (tgIx t1)) with
          | none =>
            rw [hb2] at h7
            exact h7.elim
          | some δ3 =>
            rw [hb2] at h7
            intro σ3 R3 u3
            refine ⟨wipe_upto u3, _, δ3, s7, A7, R3, ?_⟩
            dsimp only at h7
            cases ht : fc δ3 s7.S with
            | stuck =>
              rw [ht] at h7
              exact h7.elim
            | exc c x S' =>
              rw [ht] at h7
              exact h7.elim
            | ok d S1 =>
              rw [ht] at h7
              intro s8 H8 hS8 e8 A8
              subst hS8
              cases d with
              | p z =>
                cases z with
                | bl b =>
                  have h8 := Wt.ext e8 h7
                  cases b with
                  | false =>
                    dsimp only
                    rw [if_neg Bool.false_ne_true]
                    exact ⟨hjt, s8, ys', vs', (e6.trans e7).trans e8, A8, RepPs.mono (e7.trans e8).G _ vs' ra6, Nat.le_succ_of_le hys, h8⟩
                  | true =>
                    dsimp only at h8 ⊢
                    rw [if_pos rfl]
                    refine ⟨_, δ3, s8, A8, R3.mono e8, ?_⟩
                    cases hx' : fe δ3 s8.S with
                    | stuck =>
                      rw [hx'] at h8
                      exact h8.elim
                    | exc c x S' =>
                      rw [hx'] at h8
                      exact h8.elim
                    | ok d2 S2 =>
                      rw [hx'] at h8
                      intro s9 H9 hS9 e9 A9 w rw'
                      subst hS9
                      dsimp only at h8
                      cases hp : purify d2 s9.S with
                      | stuck =>
                        rw [hp] at h8
                        exact h8.elim
                      | exc c x S' => exact (purify_not hp).elim
                      | ok z S3 =>
                        rw [hp] at h8
                        obtain ⟨s10, hS10, A10, e10, r10⟩ := purify_ok A9 rw' hp
                        subst hS10
                        have hD9 := (A10.frm D _ upd_same).1
                        have ee := (e7.trans e8).trans (e9.trans e10)
                        have ra10 := RepPs.mono ee.G _ vs' ra6
                        have hl : vs'.length < sizeLine := by
                          rw [← RepPs.len _ vs' ra6]
                          have q1 := line_of hl2
                          rw [List.length_append]
                          omega
                        refine ⟨vs', hD9, hl, hjt, s10, ys' ++ [z], vs' ++ [w], e6.trans ee, A10.reframe hF, by rw [← List.append_assoc]; exact reps_app _ vs' ra10 (by simp only [RepPs]; exact ⟨w, [], rfl, r10, rfl⟩), by simp; omega, ?_⟩
                        have h9 := Wt.ext (e9.trans e10) h8
                        dsimp only at h9
                        simp only [RE.bind_assoc, ok_bindQ, List.append_assoc, List.cons_append, List.nil_append] at h9 ⊢
                        exact h9
                | _ => exact h7.elim
              | _ => exact h7.elim
        · have ej : j = zs.length := by omega
          subst ej
          refine .inl ⟨ok4 rfl, ?_⟩
          rw [List.drop_length] at h6
          simp only [compL, ok_bindQ, List.append_nil] at h6
          refine ⟨hlt, s6, acc ++ ys', vs', (e2.trans e3).trans (e4.trans (e5.trans e6)), A6, ra6, ?_⟩
          rw [List.length_append]
          simp only [List.append_assoc] at h6 ⊢
          exact h6
  · have ei : i = xs.length := by omega
    subst ei
    refine .inl ⟨ok2 rfl, ?_⟩
    rw [List.drop_length] at h2
    simp only [comp2L, RE.bind, List.append_nil] at h2
    obtain ⟨H0, h0, A0, rfl⟩ := A2.drop hF
    exact want_lst A0 ra h2 D h0
theorem exF_pe {X : Cx} {e : Expr} {fe : DEnv → Sto → RE D} (h : ∀ F, PE X e (tE C WF F fe)) : PE X e (fun σ H Q => ∃ F, tE C WF F fe σ H Q) := ⟨fun pins s σ H Q I ⟨F, q⟩ => (h F).run pins s σ H Q I q⟩
theorem exF_pt {X : Cx} {e : List Expr} {fe : DEnv → Sto → RE D} (h : ∀ F, PTs X e (tT C WF F fe)) : PTs X e (fun σ H Q => ∃ F, tT C WF F fe σ H Q) := ⟨fun pins s σ H Q I ⟨F, q⟩ => (h F).run pins s σ H Q I q⟩
theorem exF_pg {X : Cx} {e : Expr} {t : Tg} (h : ∀ F, PG X e (gT C F t)) : PG X e (fun v σ H Q => ∃ F, gT C F t v σ H Q) := ⟨fun pins s σ H v u Q I r ⟨F, q⟩ => (h F).run pins s σ H v u Q I r q⟩
/-- what hangs on the block of a comprehension -/
structure BlkIn (C : CC) (X : Cx) (tg elt : Expr) (ifs : List Expr) (scope : Scope) (t : Tg) (fc fe : DEnv → Sto → RE D) : Prop where
  g : ∀ (s : Shared) (H : Hp) (A : Addr) (cl : List (Str × Addr)) (fp : List Addr) (F : Hp), PG (X.blk s H scope (compEnvC scope cl A X.env) fp) tg (gT C F t)
  c : ∀ (s : Shared) (H : Hp) (A : Addr) (cl : List (Str × Addr)) (fp : List Addr) (F : Hp), PTs (X.blk s H scope (compEnvC scope cl A X.env) fp) ifs (tT C WF F fc)
  e : ∀ (s : Shared) (H : Hp) (A : Addr) (cl : List (Str × Addr)) (fp : List Addr) (F : Hp), PE (X.blk s H scope (compEnvC scope cl A X.env) fp) elt (tE C WF F fe)
variable {tg elt iter : Expr} {ifs : List Expr} {scope : Scope} {own : List (Str × Nat)} {t : Tg} {fc fe : DEnv → Sto → RE D} {fi : DEnv → Sto → RE (List P)} {pos py spos : Pos}
theorem x_comp (lv : Bool) (hc : X.calm = true) (hN : X.N.Nodup) (hi : PI X tg iter (tI C W F fi)) (ok : BlkOk X.N X.env.scope scope own) (ho : own.map (·.2) = tgIx t) (b : BlkIn C X tg elt ifs scope t fc fe) (hs : notSet iter = true) :
    PE X (.ListComp elt [⟨tg, iter, ifs, 0⟩] scope pos) (tE C W F fun δ S => (fi δ S).bind fun xs S1 => if lineOk xs.length then (compL (bindT t) fc fe (wipeD δ (tgIx t)) xs S1).bind (compR lv) else .stuck) :=
  PE.imp (pe_lc hc hN hi ok (fun s H A cl fp => exF_pg (b.g s H A cl fp)) (fun s H A cl fp => exF_pt (b.c s H A cl fp)) (fun s H A cl fp => exF_pe (b.e s H A cl fp)) (notSet_it hs)) fun σ H Q h => by
    rw [ho]
    exact lc_want h
theorem s_setc (lv : Bool) {i : Nat} {y : Str} (hc : X.calm = true) (hN : X.N.Nodup) (hy : X.N[i]? = some y) (hyl : X.env.scope.names.lookup y = some .local) (hk : X.env.scope.kind = .function) (hl : (py.line == pos.line) = true) (ha : (scope.names.any fun (n, k) => n == y && (k == .local || k == .cell)) = false)
    (hi : PI X tg iter (tI C W F fi)) (ok : BlkOk X.N X.env.scope scope own) (ho : own.map (·.2) = tgIx t) (b : BlkIn C X tg elt ifs scope t fc fe) (hs : notSet iter = true) :
    PS X (.Assign [.Name y py] (.ListComp elt [⟨tg, iter, ifs, 0⟩] scope pos) spos) (tS C W F fun δ S => ((fi δ S).bind fun xs S1 => if lineOk xs.length then (compL (bindT t) fc fe (wipeD δ (tgIx t)) xs S1).bind (compR lv) else .stuck).st δ fun d S1 => .next (setSlot δ i d) S1) :=
  PS.imp (ps_setLc hc hN hy hyl (sw_true hk hyl hl ha) hi ok (fun s H A cl fp => exF_pg (b.g s H A cl fp)) (fun s H A cl fp => exF_pt (b.c s H A cl fp)) (fun s H A cl fp => exF_pe (b.e s H A cl fp)) (notSet_it hs)) fun D σ H ⟨δ, s, A, R, h⟩ => by
    rw [ho]
    exact lc_want ⟨δ, s, A, R, Wt.imp (WantS.st R h) fun d s' H' _ ex A' hk v r => hk.next A' ((R.mono ex).set r)⟩
theorem exF_pi {X : Cx} {tg e : Expr} {fi : DEnv → Sto → RE (List P)} (h : ∀ F, PI X tg e (tI C WF F fi)) : PI X tg e (fun σ H R => ∃ F, tI C WF F fi σ H R) := ⟨fun pins s σ H R I ⟨F, q⟩ => (h F).run pins s σ H R I q⟩
/-- what hangs on the block of a comprehension of two clauses -/
structure BlkIn2 (C : CC) (X : Cx) (tg tg1 iter1 elt : Expr) (ifs1 : List Expr) (scope : Scope) (t t1 : Tg) (fi1 : DEnv → Sto → RE (List P)) (fc fe : DEnv → Sto → RE D) : Prop where
  g : ∀ (s : Shared) (H : Hp) (A : Addr) (cl : List (Str × Addr)) (fp : List Addr) (F : Hp), PG (X.blk s H scope (compEnvC scope cl A X.env) fp) tg (gT C F t)
  i : ∀ (s : Shared) (H : Hp) (A : Addr) (cl : List (Str × Addr)) (fp : List Addr) (F : Hp), PI (X.blk s H scope (compEnvC scope cl A X.env) fp) tg1 iter1 (tI C WF F fi1)
  g1 : ∀ (s : Shared) (H : Hp) (A : Addr) (cl : List (Str × Addr)) (fp : List Addr) (F : Hp), PG (X.blk s H scope (compEnvC scope cl A X.env) fp) tg1 (gT C F t1)
  c : ∀ (s : Shared) (H : Hp) (A : Addr) (cl : List (Str × Addr)) (fp : List Addr) (F : Hp), PTs (X.blk s H scope (compEnvC scope cl A X.env) fp) ifs1 (tT C WF F fc)
  e : ∀ (s : Shared) (H : Hp) (A : Addr) (cl : List (Str × Addr)) (fp : List Addr) (F : Hp), PE (X.blk s H scope (compEnvC scope cl A X.env) fp) elt (tE C WF F fe)
variable {tg1 iter1 : Expr} {ifs1 : List Expr} {t1 : Tg} {fi1 : DEnv → Sto → RE (List P)}
theorem x_comp2 (hno : ∀ (X : Cx) (F : Hp), PTs X [] (tT C WF F fun _ S => .ok (.p (.bl true)) S)) (hc : X.calm = true) (hN : X.N.Nodup) (hi : PI X tg iter (tI C W F fi)) (ok : BlkOk X.N X.env.scope scope own) (ho : own.map (·.2) = tgIx t ++ tgIx t1) (b : BlkIn2 C X tg tg1 iter1 elt ifs1 scope t t1 fi1 fc fe) (hs : notSet iter = true) (hs1 : notSet iter1 = true) :
    PE X (.ListComp elt [⟨tg, iter, [], 0⟩, ⟨tg1, iter1, ifs1, 0⟩] scope pos) (tE C W F fun δ S => (fi δ S).bind fun xs S1 => if lineOk xs.length then (comp2L (bindT t) fi1 (bindT t1) fc fe (tgIx t1) (wipeD δ (tgIx t ++ tgIx t1)) 0 xs S1).bind fun ys S2 => .ok (.p (.lst ys)) S2 else .stuck) :=
  PE.imp (pe_lc2 hc hN hi ok (by rw [ho]; intro i hi; exact List.mem_append_right _ hi) (fun s H A cl fp => exF_pg (b.g s H A cl fp)) (fun s H A cl fp => exF_pt (fun F => hno _ F)) (fun s H A cl fp => exF_pi (b.i s H A cl fp)) (fun s H A cl fp => exF_pg (b.g1 s H A cl fp)) (fun s H A cl fp => exF_pt (b.c s H A cl fp)) (fun s H A cl fp => exF_pe (b.e s H A cl fp)) (notSet_it hs) (fun env => notSet_it hs1)) fun σ H Q h => by
    rw [ho]
    exact lc2_want rfl h
theorem s_setc2 {i : Nat} {y : Str} (hno : ∀ (X : Cx) (F : Hp), PTs X [] (tT C WF F fun _ S => .ok (.p (.bl true)) S)) (hc : X.calm = true) (hN : X.N.Nodup) (hy : X.N[i]? = some y) (hyl : X.env.scope.names.lookup y = some .local) (hk : X.env.scope.kind = .function) (hl : (py.line == pos.line) = true) (ha : (scope.names.any fun (n, k) => n == y && (k == .local || k == .cell)) = false)
    (hi : PI X tg iter (tI C W F fi)) (ok : BlkOk X.N X.env.scope scope own) (ho : own.map (·.2) = tgIx t ++ tgIx t1) (b : BlkIn2 C X tg tg1 iter1 elt ifs1 scope t t1 fi1 fc fe) (hs : notSet iter = true) (hs1 : notSet iter1 = true) :
    PS X (.Assign [.Name y py] (.ListComp elt [⟨tg, iter, [], 0⟩, ⟨tg1, iter1, ifs1, 0⟩] scope pos) spos) (tS C W F fun δ S => ((fi δ S).bind fun xs S1 => if lineOk xs.length then (comp2L (bindT t) fi1 (bindT t1) fc fe (tgIx t1) (wipeD δ (tgIx t ++ tgIx t1)) 0 xs S1).bind fun ys S2 => .ok (.p (.lst ys)) S2 else .stuck).st δ fun d S1 => .next (setSlot δ i d) S1) :=
  PS.imp (ps_setLc2 hc hN hy hyl (sw_true hk hyl hl ha) hi ok (by rw [ho]; intro i hi; exact List.mem_append_right _ hi) (fun s H A cl fp => exF_pg (b.g s H A cl fp)) (fun s H A cl fp => exF_pt (fun F => hno _ F)) (fun s H A cl fp => exF_pi (b.i s H A cl fp)) (fun s H A cl fp => exF_pg (b.g1 s H A cl fp)) (fun s H A cl fp => exF_pt (b.c s H A cl fp)) (fun s H A cl fp => exF_pe (b.e s H A cl fp)) (notSet_it hs) (fun env => notSet_it hs1)) fun D σ H ⟨δ, s, A, R, h⟩ => by
    rw [ho]
    exact lc2_want rfl ⟨δ, s, A, R, Wt.imp (WantS.st R h) fun d s' H' _ ex A' hk v r => hk.next A' ((R.mono ex).set r)⟩
theorem swaps_cell {y : Str} {l : Nat} {gs : List Comprehension} (hy : X.env.scope.names.lookup y = some .cell) : swapsWith (.ListComp elt gs scope pos) (some (.Name y py)) l X.env = pure false := by
  have ky : X.env.kindOf y = some .cell := hy
  have kk : (some NameKind.cell == some NameKind.local) = false := rfl
  unfold swapsWith
  simp only [ky, kk, Bool.and_false, Bool.false_and]
end
end RP
end

section
set_option Elab.async false
set_option linter.all false
set_option maxRecDepth 100000
set_option maxHeartbeats 2000000
/-! Defs. -/
namespace RP
open PySem L2
section
variable (C : CC)
/-- what a def that may change things promises -/
def spI (g : IFn) : Sp := fun vs H Q E => ∃ F s ds, AtS C F s H ∧ RepDs C s ds vs ∧ match g ds s.S with
  | .ok d S' => ∀ v s' H', s'.S = S' → ExtS s s' → AtS C F s' H' → RepD C s' d v → Q v H'
  | .exc c x S' => ∀ dx s' H', s'.S = S' → ExtS s s' → AtS C F s' H' → RepX C s'.G c x dx → E (.ref (C.CA c)) dx H'
  | .stuck => False
/-- a promise that asks for so many values -/
def nArg (n : Nat) (sp : Sp) : Sp := fun vs H Q E => vs.length = n ∧ sp vs H Q E
end
section
variable {C : CC} {P' : Program} {w : World} {K : PySem.W.Frag} {mg : Str → Option Value} {base : Heap} {k : Nat} {f : Addr} {name qual : Str} {params : Arguments} {body : List Stmt} {scope : Scope} {dV kV doc pm cdv ct oc : Value} {an od : Option Addr} {osl : Array (Option Value)} {N ps : List Str}
theorem repS_start {s : Sit} {ds : List D} {vs : List V} : RepDs C s ds vs → RepS C s (ds.map some ++ List.replicate (N.length - ds.length) none) (L2.start N vs) := by
  have len : ∀ (ds : List D) (vs : List V), RepDs C s ds vs → ds.length = vs.length := by
    intro ds
    induction ds with
    | nil =>
      intro vs h
      cases (show vs = [] from h)
      rfl
    | cons d ds ih =>
      intro vs h
      obtain ⟨v, ws, rfl, _, h2⟩ := h
      simp only [List.length_cons, ih ws h2]
  have get : ∀ (ds : List D) (vs : List V) (i : Nat) (d : D), RepDs C s ds vs → ds[i]? = some d → ∃ v, vs[i]? = some v ∧ RepD C s d v := by
    intro ds
    induction ds with
    | nil =>
      intro vs i d h e
      simp at e
    | cons d' ds ih =>
      intro vs i d h e
      obtain ⟨v, ws, rfl, h1, h2⟩ := h
      cases i with
      | zero =>
        simp only [List.getElem?_cons_zero, Option.some.injEq] at e
        subst e
        exact ⟨v, rfl, h1⟩
      | succ i =>
        simp only [List.getElem?_cons_succ] at e ⊢
        exact ih ws i d h2 e
  intro h
  have hl := len ds vs h
  refine ⟨by unfold L2.start; simp only [List.length_append, List.length_map, List.length_replicate, hl], fun i d hd => ?_⟩
  unfold L2.start
  by_cases hi : i < ds.length
  · rw [List.getElem?_append_left (by simpa using hi), List.getElem?_map] at hd
    cases e : ds[i]? with
    | none =>
      rw [e] at hd
      cases hd
    | some d' =>
      rw [e] at hd
      cases hd
      obtain ⟨v, hv, r⟩ := get ds vs i d h e
      refine ⟨v, ?_, r⟩
      rw [List.getElem?_append_left (by simp only [List.length_map]; omega), List.getElem?_map, hv]
      rfl
  · rw [List.getElem?_append_right (by simpa using hi), List.getElem?_replicate] at hd
    split at hd <;> cases hd
theorem repDs_p {G : Hp} {μ : List Addr} {S : Sto} : ∀ (xs : List P) (vs : List V), RepPs C G xs vs → RepDs C ⟨G, μ, S⟩ (xs.map D.p) vs
  | [], vs, h => by
    simp only [RepPs] at h
    exact h
  | x :: xs, vs, h => by
    simp only [RepPs] at h
    obtain ⟨v, ws, rfl, h1, h2⟩ := h
    exact ⟨v, ws, rfl, h1, repDs_p xs ws h2⟩
/-- around a def's body: what an exception comes to -/
abbrev WE' (E : XK) : WX := fun cls d _ H => E cls d H
/-- THE RULE for a def that may change things -/
theorem fn_imp {g : DEnv → Sto → RS} (lk : K.lookup f = some ⟨oc, od, .func (PySem.W.fnOf name qual params body scope dV kV doc pm an cdv ct), osl⟩) (hcd : PySem.W.codeIn K cdv qual = true) (Sc : FnScope N ps scope)
    (hb : ∀ (A : Around) (outer : List Env) (s : Shared) (H : Hp) (E : XK) (F : Hp), Room k (A.deeper (PyProof.Rows.envOfC qual scope s.heap.objs.size f cdv)) → PSs (cxOf (L2.CX P' w) P' w K mg base N qual scope f cdv A outer s H E) body (tS C (WE' E) F g)) :
    FnOk P' w K mg base (L2.CX P' w) (k + 1) f (PySem.W.fnOf name qual params body scope dV kV doc pm an cdv ct) ps (nArg ps.length (spI C fun ds S => match g (ds.map some ++ List.replicate (N.length - ds.length) none) S with
      | .next _ S' => .ok (.p .non) S'
      | .ret d S' => .ok d S'
      | .exc c x _ S' => .exc c x S'
      | _ => .stuck)) := by
  refine fn_of lk hcd Sc (fun vs H Q E h => h.1) fun A outer s H vs Q E hr ⟨hl, F, t, ds, AA, rd, h⟩ => ?_
  refine ⟨_, hb A outer s H E F hr, _, t, AA, repS_start rd, ?_⟩
  dsimp only at h
  cases hg : g (ds.map some ++ List.replicate (N.length - ds.length) none) t.S with
  | next δ S' =>
    rw [hg] at h
    exact fun σ s' H' h1 h2 h3 _ => h .non s' H' h1 h2 h3 (by simp only [RepD, RepP])
  | ret d S' =>
    rw [hg] at h
    exact fun v s' H' h1 h2 h3 r => h v s' H' h1 h2 h3 r
  | brk δ S' =>
    rw [hg] at h
    exact h.elim
  | cnt δ S' =>
    rw [hg] at h
    exact h.elim
  | exc c x δ S' =>
    rw [hg] at h
    exact fun dx σ s' H' h1 h2 h3 _ rx => h dx s' H' h1 h2 h3 rx
  | stuck =>
    rw [hg] at h
    exact h.elim
/-- a def that is run with data alone, seen from outside -/
def pureOf (g : IFn) : PFn := fun xs => match g (xs.map D.p) [] with
  | .ok d S => match purify d S with
    | .ok x _ => .ok x
    | _ => .stuck
  | .exc c x _ => .exc c x
  | .stuck => .stuck
theorem spP_I {g : IFn} {n : Nat} {vs : List V} {H : Hp} {Q : VK} {E : XK} (h : nArg n (spP C (pureOf g)) vs H Q E) : nArg n (spI C g) vs H Q E := by
  obtain ⟨hl, G, xs, h1, h2, h3⟩ := h
  refine ⟨hl, fun a => if G a = none then H a else none, ⟨G, [], []⟩, xs.map D.p, ⟨h1, rfl, fun n x e => by simp at e, fun n c e => by simp at e, fun n m c c' a e => by simp at e, fun a o e => ?_⟩, repDs_p xs vs h2, ?_⟩
  · have e : (if G a = none then H a else none) = some o := e
    split at e
    · rename_i hn
      exact ⟨e, hn⟩
    · cases e
  · have frz : ∀ {s' : Sit} {H' : Hp}, AtS C (fun a => if G a = none then H a else none) s' H' → Frz G H s'.G H' := fun {s' H'} A a o ha hG => A.frm a o (by show (if G a = none then H a else none) = some o; rw [if_pos hG]; exact ha)
    unfold pureOf at h3
    cases hg : g (xs.map D.p) [] with
    | stuck =>
      rw [hg] at h3
      exact h3
    | exc c x S =>
      rw [hg] at h3
      exact fun dx s' H' _ ex A r => h3 dx s'.G H' ex.G A.sub (frz A) r
    | ok d S =>
      rw [hg] at h3
      intro v s' H' hS ex A r
      subst hS
      dsimp only at h3
      cases hp : purify d s'.S with
      | stuck =>
        rw [hp] at h3
        exact h3.elim
      | exc c x S' => exact (purify_not hp).elim
      | ok x S' =>
        rw [hp] at h3
        obtain ⟨s2, hS2, A2, e2, r2⟩ := purify_ok A r hp
        exact h3 v s2.G H' (ex.G.trans e2.G) A2.sub (frz A2) r2
/-! ### the call of such a def -/
/-- it may be called with what changes -/
def CalI (C : CC) (Pr : Program) (w : World) (K : PySem.W.Frag) (mg : Str → Option Value) (base : Heap) (k : Nat) (u : Value) (g : IFn) : Prop :=
  ∀ (X : Cx) (W : WX) (A : Around) (pins : List (Addr × Obj)) (s : Shared) (σ : L2.St) (H : Hp) (us : List Value) (vs : List V) (Q : VK),
    X.prog = Pr → X.w = w → X.K = K → X.mg = mg → X.base = base → Takes X W → Room k A → A.frames = X.A.frames → Inv X pins σ H s → Vals vs us → spI C g vs H Q (WE W σ) →
    codeAny (model Pr w) A (.call u ⟨us, []⟩) (wants (EP X pins σ Q) X.xe) s
theorem call_of {sp : Sp} {fd : FuncData} {X : Cx} {W : WX} {A : Around} {pins : List (Addr × Obj)} {s : Shared} {σ : L2.St} {H : Hp} {us ds : List Value} {vs dvs : List V} {Q : VK} (F : FnOk X.prog X.w X.K X.mg X.base (L2.CX X.prog X.w) k f fd ps sp) (hb : Binds X.K fd ps ds) (hd : Vals dvs ds)
    (tk : Takes X W) (hr : Room k A) (hA : A.frames = X.A.frames) (I : Inv X pins σ H s) (r : Vals vs us) (hsp : sp (vs ++ dvs) H Q (WE W σ)) : codeAny (model X.prog X.w) A (.call (.ref f) ⟨us, []⟩) (wants (EP X pins σ Q) X.xe) s := by
  have rr : Vals (vs ++ dvs) (us ++ ds) := Vals.append r hd
  have hl : (us ++ ds).length = ps.length := by
    rw [← rr.length]
    exact F.len _ _ _ _ hsp
  have ent : Env0 X.prog X.w X.K X.mg X.base A X.stack s H := by
    obtain ⟨q1, q2, q3, q4, q5, q6, q7, q8⟩ := I.env0
    exact ⟨by rw [hA]; exact q1, q2, q3, q4, q5, q6, q7, q8⟩
  refine codeAny_mono (F.run A X.stack s H ⟨us, []⟩ (us ++ ds) (vs ++ dvs) Q (WE W σ) hr ent (hb s us I.kIn hl) rr hsp) fun r s' hq => ?_
  cases r with
  | error e => exact passAt tk σ pins H s e s' I hq
  | ok fl =>
    cases fl with
    | ret u => exact I.after hq
    | next => exact hq.elim
    | brk => exact hq.elim
    | cont => exact hq.elim
theorem reps_len {G : Hp} {xs : List P} {vs : List V} (h : RepPs C G xs vs) : vs.length = xs.length := (RepPs.len xs vs h).symm
/-- a def with so many parameters, some of which may be left out -/
theorem cal_of {g : IFn} {fd : FuncData} {ds : List Value} {dvs : List V} {dxs : List P} (F : FnOk P' w K mg base (L2.CX P' w) k f fd ps (nArg ps.length (spI C g))) (hb : Binds K fd ps ds) (hd : Vals dvs ds) (hx : ∀ G, RepPs C G dxs dvs) :
    Cal C P' w K mg base k (.ref f) (fun xs => if (xs ++ dxs).length = ps.length then pureOf g (xs ++ dxs) else .stuck) := by
  intro X W A pins s σ H us vs Q e1 e2 e3 e4 e5 tk hr hA I r h
  subst e1 e2 e3 e4 e5
  refine call_of F hb hd tk hr hA I r (spP_I ?_)
  obtain ⟨G, xs, h1, h2, h3⟩ := h
  have app := reps_app xs vs h2 (hx G)
  dsimp only at h3
  by_cases hl : (xs ++ dxs).length = ps.length
  · rw [if_pos hl] at h3
    exact ⟨by rw [reps_len app]; exact hl, G, xs ++ dxs, h1, app, h3⟩
  · rw [if_neg hl] at h3
    exact h3.elim
theorem cal_ofI {g : IFn} {fd : FuncData} (F : FnOk P' w K mg base (L2.CX P' w) k f fd ps (nArg ps.length (spI C g))) (hb : Binds K fd ps []) : CalI C P' w K mg base k (.ref f) (fun ds S => if ds.length = ps.length then g ds S else .stuck) := by
  intro X W A pins s σ H us vs Q e1 e2 e3 e4 e5 tk hr hA I r h
  subst e1 e2 e3 e4 e5
  refine call_of F hb (.nil : Vals [] []) tk hr hA I r ?_
  obtain ⟨F', t, ds, A', rd, h3⟩ := h
  have len : ∀ (ds : List D) (vs : List V), RepDs C t ds vs → ds.length = vs.length := by
    intro ds
    induction ds with
    | nil =>
      intro vs h
      cases (show vs = [] from h)
      rfl
    | cons d ds ih =>
      intro vs h
      obtain ⟨v, ws, rfl, _, h2⟩ := h
      simp only [List.length_cons, ih ws h2]
  dsimp only at h3
  rw [List.append_nil]
  by_cases hl : ds.length = ps.length
  · rw [if_pos hl] at h3
    exact ⟨by rw [← len ds vs rd]; exact hl, F', t, ds, A', rd, h3⟩
  · rw [if_neg hl] at h3
    exact h3.elim
end
section
variable {C : CC} {W : WX} {X : Cx} {k : Nat} {F : Hp} {es : List Expr} {fd : DEnv → Sto → RE (List D)} {pos p : Pos}
theorem spI_of {g : IFn} {s : Sit} {σ : L2.St} {H : Hp} {ds : List D} {vs : List V} {Q : VK} (A : AtS C F s H) (r : RepDs C s ds vs) (h : WantE C W F (RepD C) σ s (g ds s.S) Q) : spI C g vs H Q (WE W σ) := by
  refine ⟨F, s, ds, A, r, ?_⟩
  cases e : g ds s.S with
  | ok d S' =>
    rw [e] at h
    exact fun v s' H' h1 h2 h3 hr => h s' H' h1 h2 h3 v hr
  | exc c x S' =>
    rw [e] at h
    exact fun dx s' H' h1 h2 h3 hr => h dx s' H' h1 h2 h3 hr
  | stuck =>
    rw [e] at h
    exact h
theorem x_icall (sp : Spot C W X k) {x : Str} {u : Value} {g : IFn} (hg : Gl X x) (hm : X.mg x = some u) (hk : PySem.W.keepIn X.K u = true) (cal : CalI C X.prog X.w X.K X.mg X.base k u g) (hd : (x == ("__debug__" : Str)) = false) (hs : es.all notStar = true) (ha : PA X es (tAD C W F fd)) :
    PE X (.Call (.Name x p) es [] pos) (tE C W F fun δ S => (fd δ S).bind fun xs S1 => g xs S1) := by
  refine ⟨fun pins s σ H Q I h => wpAny_Call_Name_kw (ld_glob I hg hm ?_ hd)⟩
  obtain ⟨δ, s0, A, R, hw⟩ := h
  have rd : tAD C W F fd σ H _ := ⟨δ, s0, A, R, Wt.thenA (Rel := RepDs C) R hw⟩
  have run : ∀ us s1, AP X pins σ (fun vs H1 => ∃ d s1, ExtS s0 s1 ∧ AtS C F s1 H1 ∧ RepS C s1 δ σ ∧ RepDs C s1 d vs ∧ WantE C W F (RepD C) σ s1 (g d s1.S) Q) us s1 → wpAny (model X.prog X.w) X.A (call u us) (EP X pins σ Q) X.xe s1 := by
    rintro us s1 ⟨vs, H1, I1, rv, d, t1, e1, A1, R1, r1, w1⟩
    exact wpAny_call (cal X W X.A pins s1 σ H1 us vs Q rfl rfl rfl rfl rfl sp.tk (sp.hr.mono (Nat.le_add_right _ _)) rfl I1 rv (spI_of A1 r1 w1))
  cases es with
  | nil =>
    refine PySem.W.callWith_K0 I.kIn hk ?_
    have z := ha.run pos pins s σ H _ I rd
    have z' : wpAny (model X.prog X.w) X.A (pure []) (AP X pins σ _) X.xe s := z
    exact wpAny_bind (f := fun us => call u us) (wpAny_mono z' (fun us s1 q => run us s1 q) fun _ _ z => z)
  | cons e es =>
    simp only [List.all_cons, Bool.and_eq_true] at hs
    refine PySem.W.callWith_K (h₀ := X.base) I.ok.mod.kin hk (thn (ha.run pos pins s σ H _ I rd) fun us s1 q => ⟨?_, ?_⟩) (star_cons hs.1) (star_none hs.2)
    · obtain ⟨_, _, I1, _⟩ := q
      exact I1.kIn
    · exact run us s1 q
end
end RP
end

section
set_option Elab.async false
set_option linter.all false
set_option maxRecDepth 100000
set_option maxHeartbeats 2000000
/-! Own exceptions: made and raised. -/
namespace RP
open PySem L2 PySem.Spec PyProof.Rows
/-- an own class over ValueError without an __init__ of its own -/
structure BaseT (K : PySem.W.Frag) (B : Addr) : Prop where
  rd : PySem.W.readsIn K B (.type "type") = true
  fc : PySem.W.findCls K (.ref B) (.type "type") "__init__" = some (.val (.builtin "ValueError.__init__"))
  ga : PySem.W.specialIn K (.ref B) "__getattribute__" = some (some (.builtin "type.__getattribute__"))
section
variable {X : Cx} {o e : Expr} {es : List Expr} {to te : TE} {ta : TA} {f x : Str} {p p' p1 p2 pos : Pos} {B : Addr}
theorem handed_init : PySem.W.handedIn (.builtin "ValueError.__init__") = true := by decide +kernel
theorem pe_binit (T : BaseT X.K B) (hg : Gl X x) (hm : X.mg x = some (.ref B)) (hdb : (x == ("__debug__" : Str)) = false) (ha : PA X (e :: es) ta) (hs : (e :: es).all notStar = true) (hn : (e :: es).length < 29) (hl : (p2.endLine == pos.line) = true) :
    PE X (.Call (.Attribute (.Name x p1) "__init__" p2) (e :: es) [] pos) (tVeI X.K ta) := by
  refine ⟨fun pins s σ H Q I h => ?_⟩
  refine PySem.W.methodCall_KW (ld_glob I hg hm ?_ hdb) (meth_form (o := .Name x p1) rfl hs hn hl)
  refine PySem.W.method_cls I.kIn T.ga (PySem.W.cls_value I.kIn T.rd T.fc handed_init ?_)
  have hs' := hs
  simp only [List.all_cons, Bool.and_eq_true] at hs'
  show wpAny _ _ (callWith pos (Value.builtin "ValueError.__init__") [] (backTo pos (starEach (e :: es) X.env)) []) _ _ _
  refine PyProof.Rows.callWith_method1 (thn (ha.run pos pins _ σ H _ (I.tok _) h) fun us s1 ⟨vs, H1, I1, r1, a, C, ws, ev, hl, T, ea, q⟩ => ?_) (star_cons hs'.1) (star_none hs'.2)
  subst ev
  cases r1 with
  | @cons _ u0 _ ur ra rw' =>
    obtain rfl : u0 = Value.ref a := ra
    have hlen : ur.length ≤ sizeLine := by
      rw [← Paired.length rw', sizeLine_eq]
      omega
    exact oinit_ok T I1 ea hlen fun s' J => ⟨.non, H1, J, rfl, q⟩
end
/-! ### __init__ -/
/-- what __init__(self, y) of an own exception does: nothing but self.f = y -/
def spX1 (C : Addr) (f : Str) : Sp := fun vs H Q _ => ∃ a v, vs = [.ref a, v] ∧ H a = some (exo a C none) ∧ ∀ dx, H dx = none → dx ≠ a → Q .non (upd (upd H dx (exd dx [(f, v)])) a (exo a C (some dx)))
def spX0 (C : Addr) : Sp := fun vs H Q _ => ∃ a, vs = [.ref a] ∧ H a = some (exo a C none) ∧ Q .non H
section
variable {P' : Program} {w : World} {K : PySem.W.Frag} {mg : Str → Option Value} {base : Heap} {k : Nat} {fI C B : Addr} {name qual bn self y fl : Str} {params : Arguments} {scope : Scope} {dV kV doc pm cdv ct oc : Value} {an od : Option Addr} {osl : Array (Option Value)} {N ps : List Str} {m : Str} {j : Nat}
  {q1 q2 q3 q4 q5 q6 q7 q8 q9 qa : Pos}
theorem fn_x1 (lk : K.lookup fI = some ⟨oc, od, .func (PySem.W.fnOf name qual params [.Expr (.Call (.Attribute (.Name bn q1) "__init__" q2) [.Name self q3, .Constant (.str m) j q4] [] q5) q6, .Assign [.Attribute (.Name self q7) fl q8] (.Name y q9) qa] scope dV kV doc pm an cdv ct), osl⟩)
    (hcd : PySem.W.codeIn K cdv qual = true) (Sc : FnScope [self, y] [self, y] scope) (T : BaseT K B) (O : OexC K C) (hfl : PySem.W.findIn K (.ref C) fl = some none) (hg : scope.names.lookup bn = some .globalImplicit) (hm : mg bn = some (.ref B)) (hdb : (bn == ("__debug__" : Str)) = false)
    (hl : (q2.endLine == q5.line) = true) (h1 : scope.names.lookup self = some .local) (h2 : scope.names.lookup y = some .local) (d1 : (self == ("__debug__" : Str)) = false) (d2 : (y == ("__debug__" : Str)) = false) (c1 : (self == ("__classdict__" : Str)) = false) (c2 : (y == ("__classdict__" : Str)) = false) :
    L2.FnOk P' w K mg base (L2.CX P' w) (k + 1) fI (PySem.W.fnOf name qual params [.Expr (.Call (.Attribute (.Name bn q1) "__init__" q2) [.Name self q3, .Constant (.str m) j q4] [] q5) q6, .Assign [.Attribute (.Name self q7) fl q8] (.Name y q9) qa] scope dV kV doc pm an cdv ct) [self, y] (spX1 C fl) := by
  refine L2.fn_of lk hcd Sc (fun vs H Q E h => ?_) fun A outer s H vs Q E hr ⟨a, v, ev, ha, hq⟩ => ?_
  · obtain ⟨a, v, rfl, _⟩ := h
    rfl
  subst ev
  refine ⟨_, pss_cons (ps_expr (pe_binit (X := cxOf _ _ _ _ _ _ _ _ _ _ _ _ _ _ _ _) T hg hm hdb (pa_cons (pe_var (i := 0) rfl (.inl h1) d1 c1) (pa_cons pe_str pa_nil)) rfl (by simp) hl)) (pss_one (ps_ost (pe_var (i := 0) rfl (.inl h1) d1 c1) (pe_var (i := 1) rfl (.inl h2) d2 c2))), ?_⟩
  refine ⟨.ref a, rfl, a, C, [.str m], rfl, by simp, O, ha, v, rfl, .ref a, rfl, a, C, rfl, O, hfl, Or.inl ⟨ha, fun dx hdx hne => hq dx hdx hne⟩⟩
theorem fn_x0 (lk : K.lookup fI = some ⟨oc, od, .func (PySem.W.fnOf name qual params [.Expr (.Call (.Attribute (.Name bn q1) "__init__" q2) [.Name self q3, .Constant (.str m) j q4] [] q5) q6] scope dV kV doc pm an cdv ct), osl⟩)
    (hcd : PySem.W.codeIn K cdv qual = true) (Sc : FnScope [self] [self] scope) (T : BaseT K B) (O : OexC K C) (hg : scope.names.lookup bn = some .globalImplicit) (hm : mg bn = some (.ref B)) (hdb : (bn == ("__debug__" : Str)) = false)
    (hl : (q2.endLine == q5.line) = true) (h1 : scope.names.lookup self = some .local) (d1 : (self == ("__debug__" : Str)) = false) (c1 : (self == ("__classdict__" : Str)) = false) :
    L2.FnOk P' w K mg base (L2.CX P' w) (k + 1) fI (PySem.W.fnOf name qual params [.Expr (.Call (.Attribute (.Name bn q1) "__init__" q2) [.Name self q3, .Constant (.str m) j q4] [] q5) q6] scope dV kV doc pm an cdv ct) [self] (spX0 C) := by
  refine L2.fn_of lk hcd Sc (fun vs H Q E h => ?_) fun A outer s H vs Q E hr ⟨a, ev, ha, hq⟩ => ?_
  · obtain ⟨a, rfl, _⟩ := h
    rfl
  subst ev
  refine ⟨_, pss_one (ps_expr (pe_binit (X := cxOf _ _ _ _ _ _ _ _ _ _ _ _ _ _ _ _) T hg hm hdb (pa_cons (pe_var (i := 0) rfl (.inl h1) d1 c1) (pa_cons pe_str pa_nil)) rfl (by simp) hl)), ?_⟩
  exact ⟨.ref a, rfl, a, C, [.str m], rfl, by simp, O, ha, hq⟩
end
/-! ### C(..) -/
section
variable {X : Cx} {k : Nat} {C fI : Addr} {x : Str} {fd : FuncData} {ps : List Str} {e : Expr} {ta : TA} {p pos : Pos} {f : Str}
theorem upd_back {H1 : Hp} {a dx : Addr} {u1 u2 u3 u4 : HO} (ha : H1 a = none) (hne : dx ≠ a) : upd (del (upd (upd (upd H1 a u1) dx u2) a u3) a) dx u4 = upd H1 dx u4 := by
  funext b
  by_cases hb : b = dx
  · subst hb
    rw [upd_same, upd_same]
  · rw [upd_ne hb, upd_ne hb]
    by_cases hba : b = a
    · subst hba
      rw [del_same, ha]
    · rw [del_ne hba, upd_ne hba, upd_ne hb, upd_ne hba]
/-- what the written part says of an own exception and of its __init__ -/
structure XTxt (K : PySem.W.Frag) (C fI : Addr) : Prop where
  o : OexC K C
  iC : PySem.W.findIn K (.ref C) "__init__" = some (some (.ref fI))
  tI : PySem.W.typeIn K (.ref fI) = some (.type "function")
/-- C(e) -/
theorem s_rais1 {CC' : CC} {W : WX} {F : Hp} {c fl : Nat} {fe : DEnv → Sto → RE D} {pos2 : Pos} (T : XTxt X.K (CC'.CA c) fI) (hft : CC'.FT c = [fl]) (F1 : L2.FnOk X.prog X.w X.K X.mg X.base (L2.CX X.prog X.w) k fI fd ps (spX1 (CC'.CA c) (CC'.NM fl))) (hr : L2.Room (k + 1) X.A) (hb : Binds X.K fd ps [])
    (hc : X.calm = true) (tk : Takes X W) (hg : Gl X x) (hm : X.mg x = some (.ref (CC'.CA c))) (he : PE X e (tE CC' W F fe)) (hn : notStar e = true) (hdb : (x == ("__debug__" : Str)) = false) :
    PS X (.Raise (some (.Call (.Name x p) [e] [] pos)) none pos2) (tS CC' W F fun δ S => (fe δ S).st δ fun d S1 => (purify d S1).st δ fun x S2 => .exc c (some x) δ S2) :=
  PS.imp (ps_raise hc tk (pmk_oex (dvs := []) (ds := []) T.o T.iC T.tI F1 hr hb .nil passL hg hm (pa_cons he pa_nil (star_cons hn)) hdb (star_cons hn) rfl)) fun D σ H ⟨δ, s, A, R, h⟩ => by
    refine ⟨δ, s, A, R, Wt.imp (WantS.st R h) fun d s1 H1 _ e1 A1 h1 v r1 => ?_⟩
    obtain ⟨y, s2, e2, A2, r2, h2⟩ := WantS.pur A1 r1 (R.mono e1) h1
    refine ⟨by simp, fun a ha => ⟨a, v, rfl, upd_same, fun dx hdx hne => ⟨rfl, dx, [(CC'.NM fl, v)], upd_same, by rw [upd_ne hne, upd_same], ?_, ?_⟩⟩⟩
    · rw [upd_ne hne] at hdx
      exact hdx
    · rw [upd_back ha hne]
      rw [upd_ne hne] at hdx
      obtain ⟨A3, e3⟩ := A2.grow (p := dx) (o := .xd [(CC'.NM fl, v)]) hdx
      refine h2 (some dx) σ { s2 with G := upd s2.G dx (.xd [(CC'.NM fl, v)]) } _ rfl e3 A3 ((R.mono (e1.trans e2)).mono e3) ⟨dx, v, rfl, ?_, RepP.mono e3.G y v r2⟩
      rw [hft]
      exact upd_same
/-- the end of C(): an exception without a dict -/
theorem mk_endN {pins : List (Addr × Obj)} {σ : L2.St} {H1 H2 : Hp} {Q : XK} {hp hp2 h2 : Heap} {g1 g2 : Array GenState} {d1 d2 : Drawn} {t1 t2 : Nat} {os1 os2 : OsState} {a C : Addr} (T : Raises X (.ref C)) (I1 : Inv X pins σ H1 ⟨hp, g1, d1, t1, os1⟩)
    (ha : hp.objs.size ≤ a) (k : ∀ b o, hp.get? b = some o → hp2.get? b = some o) (un : Un (frs X.stack) [] (upd H1 a (exo a C none)) H2 hp2 h2) (hok : HOk X.prog X.w H2 h2) (ho : os2 = os1) (hb : AllBare g2)
    (ea : H2 a = some (exo a C none)) (q : Q (.ref C) none (del H2 a)) : MkP X pins σ Q (.ref a) ⟨h2, g2, d2, t2, os2⟩ := by
  obtain ⟨t0, hoe⟩ := exo_at hok ea
  have hn : H1 a = none := I1.hok.fresh ha
  obtain ⟨G, g1', g2'⟩ := restrict h2 fun b => decide (b ≠ a)
  have gk : ∀ b, b ≠ a → G.get? b = h2.get? b := fun b hb => g1' b (decide_eq_true hb)
  have ge : G.get? a = none := g2' a (by simp)
  have nha : ∀ {b : Addr} {o : Obj}, hp.get? b = some o → b ≠ a := fun {b o} z => Nat.ne_of_lt (Nat.lt_of_lt_of_le (Heap.lt_size z) ha)
  have up : ∀ {b : Addr}, b ≠ a → H1 b = none → upd H1 a (exo a C none) b = none := fun {b} hb n => by
    rw [upd_ne hb]
    exact n
  have U : Un (frs X.stack) [] H1 (del H2 a) hp G := {
    keep := fun b o z n hf hx => (gk b (nha z)).trans (un.keep b o (k b o z) (up (nha z) n) hf hx)
    slot := fun b o z n hf hx => by
      obtain ⟨sl, e⟩ := un.slot b o (k b o z) (up (nha z) n) hf hx
      exact ⟨sl, (gk b (nha z)).trans e⟩
    free := fun b o z n hx => (del_ne (nha z)).trans (un.free b o (k b o z) (up (nha z) n) hx)
    there := fun b o z hx => by
      obtain ⟨o', e⟩ := un.there b o (k b o z) hx
      exact ⟨o', (gk b (nha z)).trans e⟩
    tups := fun b xs z => (del_ne (ne_of_none z hn)).trans (un.tups b xs (by rw [upd_ne (ne_of_none z hn)]; exact z))
    frzs := fun b o v z => (del_ne (ne_of_none z hn)).trans (un.frzs b o v (by rw [upd_ne (ne_of_none z hn)]; exact z))
    tbls := fun b ps z => by
      obtain ⟨qs, e⟩ := un.tbls b ps (by rw [upd_ne (ne_of_none z hn)]; exact z)
      exact ⟨qs, (del_ne (ne_of_none z hn)).trans e⟩ }
  have hok3 : HOk X.prog X.w (del H2 a) G := fun b o z => by
    have hba : b ≠ a := fun e => by
      rw [e, del_same] at z
      cases z
    rw [del_ne hba] at z
    have noa : ∀ {c : Addr}, H2 c = some (.own b) → c ≠ a := fun {c} hc => at_ne ea hc exo_own
    exact (hok b o z).stay (fun c v hc y => by
        have hca : c ≠ a := by
          rcases hc with hc | hc
          · rw [hc]
            exact hba
          · exact noa hc
        exact (gk c hca).trans y)
      (fun c hc => (del_ne (noa hc)).trans hc) (fun c xs hc => (del_ne (at_ne ea hc exo_tup)).trans hc)
  have J : Inv X pins σ (del H2 a) ⟨G, g2, d2, t2, os2⟩ := I1.call' (ch := []) ho U hok3 hb (fun b z => absurd z (by simp))
  refine ⟨a, _, _, ⟨G, g2, d2, t2, os2⟩, _, .ref C, none, rfl, J, fun b o z => ?_, ge, hoe, ⟨rfl, rfl⟩, rfl, rfl, del_same, rfl, hb, T, q⟩
  by_cases hba : b = a
  · have z' : G.get? b = some o := z
    rw [hba, ge] at z'
    cases z'
  · exact (gk b hba).symm.trans z
theorem del_upd {H1 : Hp} {a : Addr} {u : HO} (ha : H1 a = none) : del (upd H1 a u) a = H1 := by
  funext b
  by_cases hba : b = a
  · subst hba
    rw [del_same, ha]
  · rw [del_ne hba, upd_ne hba]
theorem pmk_x0 (T : XTxt X.K C fI) (F1 : L2.FnOk X.prog X.w X.K X.mg X.base (L2.CX X.prog X.w) k fI fd ps (spX0 C)) (hr : L2.Room (k + 1) X.A) (hb : Binds X.K fd ps []) (hg : Gl X x) (hm : X.mg x = some (.ref C)) (hdb : (x == ("__debug__" : Str)) = false) :
    PMk X (.Call (.Name x p) [] [] pos) (fun σ H Q => Q (.ref C) none H) := by
  intro pins s σ H Q I h
  obtain ⟨nm, q, N, bs, bm, sn, sub, ab, col, dd, k0, k1, k2, k3, k5, hC, hbm⟩ := T.o.cls
  refine wpAny_Call_Name_kw (ld_glob I hg hm ?_ hdb)
  refine PySem.W.callWith_K0 I.kIn T.o.kC ?_
  show wpAny _ _ (call (.ref C) []) _ _ _
  obtain ⟨hp, g, dr, tk, os⟩ := s
  have hsz : hp.objs.size ≤ hp.objs.size + 1 := Nat.le_succ _
  have hn : H (hp.objs.size + 1) = none := I.hok.fresh hsz
  have kk : ∀ b o, hp.get? b = some o → ((hp.push (PySem.W.kdv_tup [])).push (PySem.HandSPX.excO C hp.objs.size)).get? b = some o := fun b o e => Heap.get?_push_of_some _ (Heap.get?_push_of_some _ e)
  have hget : ((hp.push (PySem.W.kdv_tup [])).push (PySem.HandSPX.excO C hp.objs.size)).get? (hp.objs.size + 1) = some (PySem.HandSPX.excO C hp.objs.size) := by
    have e := Heap.get?_push_size (hp.push (PySem.W.kdv_tup [])) (o := PySem.HandSPX.excO C hp.objs.size) rfl
    rwa [Heap.size_push] at e
  have I2 : Inv X pins σ (upd H (hp.objs.size + 1) (exo (hp.objs.size + 1) C none)) ⟨(hp.push (PySem.W.kdv_tup [])).push (PySem.HandSPX.excO C hp.objs.size), g, dr, tk, os⟩ :=
    I.laid (t' := tk) (a := hp.objs.size + 1) (o := exo (hp.objs.size + 1) C none) (h' := (hp.push (PySem.W.kdv_tup [])).push (PySem.HandSPX.excO C hp.objs.size)) kk hsz (exo_ok hget)
  have hq : spX0 C [V.ref (hp.objs.size + 1)] (upd H (hp.objs.size + 1) (exo (hp.objs.size + 1) C none)) (fun v H2 => v = .non ∧ H2 = upd H (hp.objs.size + 1) (exo (hp.objs.size + 1) C none)) (fun _ _ _ => False) := ⟨_, rfl, upd_same, rfl, rfl⟩
  have r2 : Vals [V.ref (hp.objs.size + 1)] [Value.ref (hp.objs.size + 1)] := .cons rfl .nil
  have hl : ([Value.ref (hp.objs.size + 1)] ++ []).length = ps.length := by
    have e := r2.length
    rw [F1.len _ _ _ _ hq] at e
    exact e.symm
  refine wpAny_call (PySem.HandSPX.call_own F.excBase_ValueError (fun Y => PySem.HandSPX.refsVE_contains Y bm hbm) (I.kIn _ _ hC) (PySem.W.looks_findIn I.kIn T.iC) (fun self => PySem.W.bind_fn I.kIn self T.tI) (Nat.zero_le _)
    (codeAny_mono (F1.run _ X.stack _ _ ⟨[Value.ref (hp.objs.size + 1)], []⟩ [Value.ref (hp.objs.size + 1)] _ _ (fun _ _ _ => False) (hr.make C [] []) (I2.env0.make C [] []) (hb _ [Value.ref (hp.objs.size + 1)] I2.kIn hl) r2 hq) fun r s' hq' => ?_))
  cases r with
  | error er => exact passL pins σ _ _ er s' I2 hq'
  | ok fl =>
    cases fl with
    | ret u =>
      obtain ⟨v, H2, os2, bare2, un2, hok2, rv, ev, eH⟩ := hq'
      subst ev eH
      obtain ⟨h2, g2, d2, t2, os'⟩ := s'
      exact ⟨rv, mk_endN (raises_own T.o.exC T.o.tyC) I hsz kk un2 hok2 os2 bare2 upd_same (by rw [del_upd hn]; exact h)⟩
    | next => exact False.elim hq'
    | brk => exact False.elim hq'
    | cont => exact False.elim hq'
theorem s_rais0 {CC' : CC} {W : WX} {F : Hp} {c : Nat} {pos2 : Pos} (T : XTxt X.K (CC'.CA c) fI) (F1 : L2.FnOk X.prog X.w X.K X.mg X.base (L2.CX X.prog X.w) k fI fd ps (spX0 (CC'.CA c))) (hr : L2.Room (k + 1) X.A) (hb : Binds X.K fd ps [])
    (hc : X.calm = true) (tk : Takes X W) (hg : Gl X x) (hm : X.mg x = some (.ref (CC'.CA c))) (hdb : (x == ("__debug__" : Str)) = false) : PS X (.Raise (some (.Call (.Name x p) [] [] pos)) none pos2) (tS CC' W F fun δ S => .exc c none δ S) :=
  PS.imp (ps_raise hc tk (pmk_x0 T F1 hr hb hg hm hdb)) fun D σ H ⟨δ, s, A, R, h⟩ => h none σ s H rfl (ExtS.refl s) A R rfl
end
end RP
end

section
set_option Elab.async false
set_option linter.all false
set_option maxRecDepth 100000
set_option maxHeartbeats 2000000
/-! try with several clauses, each with or without a name. -/
namespace RP
open PySem L2 PySem.Spec PyProof.Rows
abbrev Suite := Addr → Value → Option Addr → TS
/-- one clause: the class it names, the slot of its name, its suite -/
structure Cla where
  cv : Value
  ix : Option Nat
  su : Suite
def endsAs (i : Nat) (D : Ends) : Ends := { nx := fun σ H => D.nx (σ.set i none) H, rt := D.rt, bk := fun σ H => D.bk (σ.set i none) H, ct := fun σ H => D.ct (σ.set i none) H }
def Cla.take (cl : Cla) (a : Addr) (kc : Value) (dd : Option Addr) (D : Ends) (σ : L2.St) (H : Hp) : Prop := match cl.ix with
  | none => cl.su a kc dd D σ H
  | some i => cl.su a kc dd (endsAs i D) (σ.set i (some (.ref a))) H
/-- what the clauses want of an exception, one behind the other -/
def wCla (K : PySem.W.Frag) (Wo : WX) (D : Ends) : List Cla → WX
  | [] => Wo
  | cl :: r => fun kc dd σ H => ∃ yes, PySem.W.exmOne K kc cl.cv = some yes ∧ (yes = true → ∀ a, H a = none → cl.take a kc dd D σ H) ∧ (yes = false → wCla K Wo D r kc dd σ H)
def SuOk (X : Cx) (ss : List Stmt) (su : Suite) : Prop := ∀ (a : Addr) (ob : Obj) (kc : Value) (dd : Option Addr) (pl : List (Addr × Obj)), Zc kc dd ob → (∃ vs, ob.data = .fields vs) → PSs (X.suite a ((a, ob) :: pl)) ss (su a kc dd)
inductive ClaOk (X : Cx) : List ExceptHandler → List Cla → Prop
  | nil : ClaOk X [] []
  | plain {x : Str} {cv : Value} {su : Suite} {st : Stmt} {ss : List Stmt} {p1 p2 : Pos} {hr : List ExceptHandler} {cr : List Cla} (nm : Names X x cv) (hs : SuOk X (st :: ss) su) (r : ClaOk X hr cr) :
      ClaOk X (.ExceptHandler (some (.Name x p1)) none (st :: ss) p2 :: hr) (⟨cv, none, su⟩ :: cr)
  | named {x n : Str} {i : Nat} {cv : Value} {su : Suite} {st : Stmt} {ss : List Stmt} {p1 p2 : Pos} {hr : List ExceptHandler} {cr : List Cla} (nm : Names X x cv) (hi : X.N[i]? = some n) (hl : X.env.kindOf n = some .local) (hs : SuOk X (st :: ss) su) (r : ClaOk X hr cr) :
      ClaOk X (.ExceptHandler (some (.Name x p1)) (some n) (st :: ss) p2 :: hr) (⟨cv, some i, su⟩ :: cr)
section
variable {X : Cx} {body : List Stmt} {h0 : ExceptHandler} {hr : List ExceptHandler} {l : List Cla} {pos : Pos} {tb : WX → TS} {Wo : WX}
theorem ps_try_mix (hst : X.stack = X.env :: X.outer) (hfm : X.env.frame = some X.env.locals) (hN : X.N.Nodup) (tk : Takes X Wo)
    (hbd : ∀ (Wi : WX) (pl : List (Addr × Obj)) (xf : Value → Shared → Prop), Takes (X.tr pl xf) Wi → PassesOwn (model X.prog X.w) X.A X.env xf → PSs (X.tr pl xf) body (tb Wi)) (hc : ClaOk X (h0 :: hr) l) :
    PS X (.Try body (h0 :: hr) [] [] pos) (fun D σ H => tb (wCla X.K Wo D l) D σ H) := by
  refine ⟨fun pins s σ H D I hw => ?_⟩
  have okX := I.ok
  have hfs : X.A.frames = some (X.env :: X.outer) := by rw [okX.frames, hst]
  refine wpAny_Try_except ?_
  have bd := hbd (wCla X.K Wo D l) (X.pn ++ pins) (fun ev s1 => wpAny (model X.prog X.w) X.A (noteFrame ev X.env) (fun _ s2 => wpAny (model X.prog X.w) X.A (setFlight ev none) (fun _ s3 => wpAny (model X.prog X.w) X.A (handleBy ev X.env (h0 :: hr)) (SP X pins D) X.xe s3) X.xe s2) X.xe s1)
  refine wpAny_mono ((bd (fun ev s' xw => ?_) PassesOwn.looking).run [] s σ H D (I.toTry _) hw) (fun fl s1 hsp => ?_) (fun _ _ z => z)
  · obtain ⟨a, G0, sJ, pl, σ1, H1, kc, dd, rfl, J0, nb, up, sky, na, os, ag, wc⟩ := xw
    have J : Inv X pins σ1 H1 sJ := J0.ofTry okX
    have sky1 : Sky G0 (X.env :: X.outer) a (Zc kc dd) X.env.locals s'.heap := hst ▸ sky
    show wpAny (model X.prog X.w) X.A (noteFrame (.ref a) X.env) _ _ _
    refine Sky.land Zc.steady hfs hfm sky1 fun hA fA uA => ?_
    have JA : Inv X pins σ1 H1 { s' with heap := hA } := J.landed nb fA.1 (up.trans uA) os ag
    obtain ⟨oA, vA, gA, zA, dA⟩ := fA.there
    have away : a ∉ frs (X.env :: X.outer) := fun hm => by
      obtain ⟨_, o2, e2, hnf⟩ := fA.2.2.1.mem hm
      rw [gA] at e2
      cases e2
      exact hnf _ dA
    have nLoc : a ≠ X.env.locals := fun z => away (List.mem_filterMap.mpr ⟨X.env, List.mem_cons_self, by rw [hfm, z]⟩)
    have nFs : a ∉ X.fs := fun hm => by
      obtain ⟨en, hen, qq⟩ := List.mem_filterMap.mp hm
      exact away (List.mem_filterMap.mpr ⟨en, List.mem_cons_of_mem _ hen, qq⟩)
    have SA := JA.suite gA dA na nLoc nFs
    have lookT : PySem.W.Looks (model X.prog X.w) hA (typeOf (.ref a)) kc := fun A Q E s k q => wpAny_typeOf_ref (k _ _ gA) (by rw [zA.1]; exact q)
    have test : ∀ {x : Str} {cv : Value} {p1 : Pos} {Q : Value → Shared → Prop} {E : Value → Shared → Prop}, Names X x cv → Q cv { s' with heap := hA } → wpAny (model X.prog X.w) (X.A.mark (some (.ref a))) (eval (.Name x p1) X.env) Q E { s' with heap := hA } := fun {x cv p1 Q E} nm q => by
      obtain ⟨gg, gd, m1 | ⟨m1, m2, m3⟩⟩ := nm
      · exact ld_glob (X := X.suite a ((a, oA) :: (X.pn ++ pins))) SA gg m1 q gd
      · exact ld_blt (X := X.suite a ((a, oA) :: (X.pn ++ pins))) SA gg m1 m2 q m3 gd
    have go : ∀ {hs2 : List ExceptHandler} {l2 : List Cla}, ClaOk X hs2 l2 → wCla X.K Wo D l2 kc dd σ1 H1 → wpAny (model X.prog X.w) X.A (handleBy (.ref a) X.env hs2) (SP X pins D) X.xe { s' with heap := hA } := by
      intro hs2 l2 hk
      induction hk with
      | nil =>
        intro wo
        refine wpAny_handleBy_nil ?_
        obtain ⟨_, _, _, oe, vs, T, _, _, he, _, hd, h1, _⟩ := id fA
        unfold PySem.passOn
        refine wpAny_bind (wpAny_field he hd h1 ?_)
        rw [if_neg (show ¬ ((Value.ref T == Value.none) = true) from by simp)]
        have last : wpAny (model X.prog X.w) X.A (setFlight (.ref a) X.env.frame) (fun _ s4 => wpAny (model X.prog X.w) X.A (throw (.ref a) : Sem Flow) (SP X pins D) X.xe s4) X.xe { s' with heap := hA } := by
          rw [hfm]
          exact HandSPX.setFlight_upZ fA fun h4 q4 u4 => wpAny_throw (tk _ _ ⟨a, G0, sJ, pins, σ1, H1, kc, dd, rfl, J, nb, (up.trans uA).trans u4, .inr (.inr (by rw [hst]; exact q4)), na, os, ag, wo⟩)
        first
          | exact wpAny_bind (wpAny_pure (wpAny_bind last))
          | exact wpAny_bind last
      | plain nm hs r ih =>
        rintro ⟨yes, hy, y1, y2⟩
        refine wpAny_handleBy_cons (codeAny_handlers_test ?_) (by intro q; cases q)
        refine test nm ((PySem.W.exm_one (M := model X.prog X.w) JA.kIn lookT hy).here ?_)
        cases yes with
        | false => exact ih (y2 rfl)
        | true =>
          refine codeAny_handlers_suite (HandSPX.lands_againZ fA fun hB fB uB => ?_)
          have JB : Inv X pins σ1 H1 { s' with heap := hB } := J.landed nb fB.1 ((up.trans uA).trans uB) os ag
          obtain ⟨oB, vB, gB, zB, dB⟩ := fB.there
          refine wpAny_mono ((hs a oB kc dd (X.pn ++ pins) zB ⟨_, dB⟩).run [] _ _ H1 _ (JB.suite gB dB na nLoc nFs) (y1 rfl a na)) (fun fl s6 sp6 => ?_) (fun _ _ z => False.elim z)
          cases fl with
          | ret u =>
            obtain ⟨v6, σ6, H6, S6, r6, q6⟩ := sp6
            exact ⟨v6, σ6, H6, S6.unsuite okX, r6, q6⟩
          | _ =>
            obtain ⟨σ6, H6, S6, q6⟩ := sp6
            exact ⟨σ6, H6, S6.unsuite okX, q6⟩
      | @named x n i cv su st ss p1 p2 hr cr nm hi hl hs r ih =>
        rintro ⟨yes, hy, y1, y2⟩
        refine wpAny_handleBy_cons (codeAny_handlers_test ?_) (by intro q; cases q)
        refine test nm ((PySem.W.exm_one (M := model X.prog X.w) JA.kIn lookT hy).here ?_)
        cases yes with
        | false => exact ih (y2 rfl)
        | true =>
          refine codeAny_handlers_suite_as (HandSPX.lands_againZ fA fun hB fB uB => ?_)
          have JB : Inv X pins σ1 H1 { s' with heap := hB } := J.landed nb fB.1 ((up.trans uA).trans uB) os ag
          obtain ⟨oB, vB, gB, zB, dB⟩ := fB.there
          refine store_ok (X := X.suite a ((a, oB) :: (X.pn ++ pins))) (v := .ref a) (JB.suite gB dB na nLoc nFs) hN hi (.inl hl) rfl (fun s5 S5 => ?_) (.inr hl)
          refine wpAny_mono ((hs a oB kc dd (X.pn ++ pins) zB ⟨_, dB⟩).run [] s5 _ H1 _ S5 (y1 rfl a na)) (fun fl s6 sp6 => ?_) (fun _ _ z => False.elim z)
          have gone : ∀ {σ6 : L2.St} {H6 : Hp} {Q : Shared → Prop}, Inv (X.suite a ((a, oB) :: (X.pn ++ pins))) [] σ6 H6 s6 → (∀ s7, Inv X pins (σ6.set i none) H6 s7 → Q s7) →
              wpAny (model X.prog X.w) X.A (do bindName X.env n .none; unbindBehindTheSuite X.env n p2) (fun _ s7 => Q s7) X.xe s6 := fun S6 hq => gone_ok (S6.unsuite okX) hN hi hl hq
          cases fl with
          | ret u =>
            obtain ⟨v6, σ6, H6, S6, r6, q6⟩ := sp6
            exact gone S6 fun s7 J7 => ⟨v6, _, H6, J7, r6, q6⟩
          | _ =>
            obtain ⟨σ6, H6, S6, q6⟩ := sp6
            exact gone S6 fun s7 J7 => ⟨_, H6, J7, q6⟩
    exact go hc wc
  · cases fl with
    | next =>
      obtain ⟨σ2, H2, J2, q2⟩ := hsp
      exact wpAny_execs_nil ⟨σ2, H2, J2.ofTry okX, q2⟩
    | ret u =>
      obtain ⟨v2, σ2, H2, J2, r2, q2⟩ := hsp
      exact ⟨v2, σ2, H2, J2.ofTry okX, r2, q2⟩
    | _ =>
      obtain ⟨σ2, H2, J2, q2⟩ := hsp
      exact ⟨σ2, H2, J2.ofTry okX, q2⟩
end
end RP
end

section
set_option Elab.async false
set_option linter.all false
set_option maxRecDepth 100000
set_option maxHeartbeats 2000000
/-! try, its suites. -/
namespace RP
open PySem L2 PySem.Spec PyProof.Rows
/-- what is asked of a class whose exception's field is read -/
structure XRd (K : PySem.W.Frag) (C : Addr) (f : Str) : Prop where
  ga : PySem.W.findIn K (.ref C) "__getattribute__" = some (some (.builtin "BaseException.__getattribute__"))
  gg : PySem.W.findIn K (.ref C) "__getattr__" = some none
  no : PySem.W.findIn K (.ref C) f = some none
  ex : PySem.W.subIn K (.ref C) (.type "BaseException") = some true
  hd : PySem.W.hasDictIn K C = true
/-- the exception that a suite has: its class, its value; i: the slot of its name -/
structure Has (C : CC) (cs : List Nat) (i : Option Nat) (a : Addr) (kc : Value) (dd : Option Addr) (s : Sit) (σ : L2.St) (g : Option P) : Prop where
  c : ∃ c ∈ cs, kc = .ref (C.CA c) ∧ RepX C s.G c g dd
  i : ∀ j, i = some j → σ[j]? = some (some (.ref a))
theorem Has.mono {C : CC} {cs : List Nat} {i : Option Nat} {a : Addr} {kc : Value} {dd : Option Addr} {s s' : Sit} {σ : L2.St} {g : Option P} (h : Has C cs i a kc dd s σ g) (e : ExtS s s') : Has C cs i a kc dd s' σ g := by
  obtain ⟨⟨c, hc, hk, r⟩, hi⟩ := h
  refine ⟨⟨c, hc, hk, ?_⟩, hi⟩
  cases g with
  | none => exact r
  | some x =>
    obtain ⟨d, v, h1, h2, h3⟩ := r
    exact ⟨d, v, h1, e.G _ _ h2, RepP.mono e.G x v h3⟩
section
variable (C : CC) (cs : List Nat) (i : Option Nat) (a : Addr) (kc : Value) (dd : Option Addr)
def hR (hx : HX) : TE := fun σ H Q => ∃ F δ s g, AtS C F s H ∧ RepS C s δ σ ∧ Has C cs i a kc dd s σ g ∧ match hxE g δ hx with
  | some x => ∀ v s' H', s'.S = s.S → ExtS s s' → AtS C F s' H' → RepP C s'.G x v → Q v H'
  | none => False
def hRs (hx : List HX) : TA := fun σ H Q => ∃ F δ s g, AtS C F s H ∧ RepS C s δ σ ∧ Has C cs i a kc dd s σ g ∧ match hxEs g δ hx with
  | some x => ∀ v s' H', s'.S = s.S → ExtS s s' → AtS C F s' H' → RepPs C s'.G x v → Q v H'
  | none => False
end
section
variable {C : CC} {cs : List Nat} {i : Option Nat} {a : Addr} {kc : Value} {dd : Option Addr} {X : Cx} {ob : Obj} {pl : List (Addr × Obj)} {e : Expr} {es : List Expr} {pos p : Pos} {hx : HX} {hxs : List HX} {j : Nat} {x : Str}
theorem h_non : PE X (.Constant .none j pos) (hR C cs i a kc dd .non) := PE.imp pe_non fun σ H Q ⟨F, δ, s, g, A, R, hs, h⟩ => h .non s H rfl (ExtS.refl s) A (by simp only [RepP])
theorem h_bl {b : Bool} : PE X (.Constant (.bool b) j pos) (hR C cs i a kc dd (.bl b)) := PE.imp pe_bl fun σ H Q ⟨F, δ, s, g, A, R, hs, h⟩ => h (.bl b) s H rfl (ExtS.refl s) A (by simp only [RepP])
theorem h_int {n : Int} : PE X (.Constant (.int n) j pos) (hR C cs i a kc dd (.int n)) := PE.imp pe_int fun σ H Q ⟨F, δ, s, g, A, R, hs, h⟩ => h (.int n) s H rfl (ExtS.refl s) A (by simp only [RepP])
theorem h_str {n : Str} : PE X (.Constant (.str n) j pos) (hR C cs i a kc dd (.str n)) := PE.imp pe_str fun σ H Q ⟨F, δ, s, g, A, R, hs, h⟩ => h (.str n) s H rfl (ExtS.refl s) A (by simp only [RepP])
theorem h_var (hN : X.N[j]? = some x) (hv : Vis X.env.scope x) (hd : (x == ("__debug__" : Str)) = false) (hc : (x == ("__classdict__" : Str)) = false) : PE X (.Name x pos) (hR C cs i a kc dd (.var j)) :=
  PE.imp (pe_var hN hv hd hc) fun σ H Q ⟨F, δ, s, g, A, R, hs, h⟩ => by
    simp only [hxE] at h
    split at h
    · rename_i y hy
      split at hy
      · rename_i z hz
        cases hy
        obtain ⟨v, hv, r⟩ := R.2 j _ hz
        exact ⟨v, hv, h v s H rfl (ExtS.refl s) A r⟩
      · cases hy
    · exact h.elim
theorem h_given {f : Nat} {fn : Str} {n : Str} (hf : C.NM f = fn) (hft : ∀ c ∈ cs, C.FT c = [f] ∧ XRd X.K (C.CA c) fn) (hz : Zc kc dd ob) (hd : ∃ vs, ob.data = .fields vs) (hN : X.N[j]? = some n) (hv : Vis X.env.scope n) (h1 : (n == ("__debug__" : Str)) = false) (h2 : (n == ("__classdict__" : Str)) = false) :
    PE (X.suite a ((a, ob) :: pl)) (.Attribute (.Name n p) fn pos) (hR C cs (some j) a kc dd .given) := by
  subst hf
  refine ⟨fun pins s σ H Q I h => ?_⟩
  obtain ⟨F, δ, t, g, A, R, hs, h⟩ := h
  have base : PE (X.suite a ((a, ob) :: pl)) (.Name n p) (tVar j) := pe_var hN hv h1 h2
  refine attr_of (base_plain (e := .Name n p) rfl) (thn (base.run pins s σ H (fun v H1 => v = V.ref a ∧ H1 = H) I ⟨.ref a, hs.i j rfl, rfl, rfl⟩) fun u s1 hh => ?_)
  obtain ⟨y, H1, I1, rx, ex, eH⟩ := hh
  subst ex eH
  obtain rfl : u = Value.ref a := rx
  simp only [hxE] at h
  cases g with
  | none => exact h.elim
  | some gx =>
    obtain ⟨c, hc, hk, dx, v, hdd, hG, rv⟩ := hs.c
    obtain ⟨hft1, T⟩ := hft c hc
    rw [hft1] at hG
    subst hk hdd
    obtain ⟨ha, _⟩ := I1.pin (a, ob) (List.mem_append_left _ List.mem_cons_self)
    obtain ⟨vs, hd⟩ := hd
    have hx : ObjOk X.prog X.w H1 s1.heap dx (.xd [(C.NM f, v)]) := I1.hok dx _ (A.sub _ _ hG)
    obtain ⟨mA, hns, hr⟩ := hx
    obtain ⟨od, ho, hl⟩ := lookIn_ns hns
    have l : List.lookup (C.NM f) [(C.NM f, v)] = some v := by simp [List.lookup]
    obtain ⟨u, hu, ru⟩ := RelO.some_of (v := v) (o := mA (C.NM f)) (by rw [← l]; exact hr (C.NM f))
    have J : PySem.W.InstAt s1.heap a ob (C.CA c) (some od) := ⟨ha, hz.1, by unfold PySem.W.notCls; rw [hd] <;> rfl, by rw [hz.2]; exact ho⟩
    exact HandSPX.exc_get I1.kIn J T.ga T.gg T.ex (PySem.W.findObj_own T.hd T.no rfl (by rw [hl, hu])) (handed_of ru) ⟨v, H1, I1.tok _, ru, h v t H1 rfl (ExtS.refl t) A rv⟩
theorem h_no (hN : X.N[j]? = some x) (hv : Vis X.env.scope x) (hd : (x == ("__debug__" : Str)) = false) (hc : (x == ("__classdict__" : Str)) = false) : PE X (.UnaryOp .Not (.Name x p) pos) (hR C cs i a kc dd (.no j)) :=
  PE.imp (pe_not (pe_var hN hv hd hc)) fun σ H Q ⟨F, δ, s, g, A, R, hs, h⟩ => by
    simp only [hxE] at h
    split at h
    · rename_i y hy
      split at hy
      · rename_i b hz
        cases hy
        obtain ⟨v, hv, r⟩ := R.2 j _ hz
        simp only [RepD, RepP] at r
        subst r
        exact ⟨.bl b, hv, b, rfl, h (.bl (!b)) s H rfl (ExtS.refl s) A (by simp only [RepP])⟩
      · cases hy
    · exact h.elim
theorem h_rq {e1 e2 : Expr} {hx1 hx2 : HX} {p1 p2 p3 p4 : Pos} (hk : C.K = X.K) (gd : X.A.guards = some []) (un : X.A.units + 64 < cLine) (hg : Gl X "repr") (hm : X.mg "repr" = none) (he1 : PE X e1 (hR C cs i a kc dd hx1)) (he2 : PE X e2 (hR C cs i a kc dd hx2)) (n1 : notStar e1 = true) (n2 : notStar e2 = true) :
    PE X (.Compare (.Call (.Name "repr" p1) [e1] [] p2) [.Eq] [.Call (.Name "repr" p3) [e2] [] p4] pos) (hR C cs i a kc dd (.rq hx1 hx2)) :=
  PE.imp (pe_cmpR op_eq (pe_callB (call_rpr (C := C) hk gd un) hg hm rfl (pa_cons he1 pa_nil (star_cons n1)) (he := star_cons n1)) (pe_callB (call_rpr (C := C) hk gd un) hg hm rfl (pa_cons he2 pa_nil (star_cons n2)) (he := star_cons n2)) rfl) fun σ H Q ⟨F, δ, s, g, A, R, hh, h⟩ => by
    simp only [hxE] at h
    cases h1 : hxE g δ hx1 with
    | none =>
      simp only [h1] at h
    | some y1 =>
      cases h2 : hxE g δ hx2 with
      | none =>
        simp only [h1, h2] at h
      | some y2 =>
        cases k1 : rprP y1 with
        | stuck => simp only [h1, h2, k1] at h
        | exc c z => simp only [h1, h2, k1] at h
        | ok z1 =>
          cases k2 : rprP y2 with
          | stuck => simp only [h1, h2, k1, k2] at h
          | exc c z => simp only [h1, h2, k1, k2] at h
          | ok z2 =>
            simp only [h1, h2, k1, k2] at h
            refine ⟨F, δ, s, g, A, R, hh, ?_⟩
            rw [h1]
            intro v1 s1 H1 hS1 e1 A1 r1
            obtain ⟨w1, rfl, q1⟩ := rpr_ok r1 k1
            refine q1 H1 (fun x H1 => tCB (rRpr C) (tCons (hR C cs i a kc dd hx2) tNil) σ H1 fun y H2 => rEq x y H2 Q) A1.sub ?_
            refine ⟨F, δ, s1, g, A1, R.mono e1, hh.mono e1, ?_⟩
            rw [h2]
            intro v2 s2 H2 hS2 e2 A2 r2
            obtain ⟨w2, rfl, q2⟩ := rpr_ok r2 k2
            refine q2 H2 (fun y H2 => rEq (V.str w1) y H2 Q) A2.sub ?_
            refine ⟨rfl, ?_⟩
            rw [dec_str]
            exact h (.bl (w1 == w2)) s2 H2 (hS2.trans hS1) (e1.trans e2) A2 (by simp only [RepP, P.isStr])
theorem h_nil : PA X [] (hRs C cs i a kc dd []) := PA.imp pa_nil fun σ H Q ⟨F, δ, s, g, A, R, hs, h⟩ => h [] s H rfl (ExtS.refl s) A (by simp only [RepPs])
theorem h_cons (he : PE X e (hR C cs i a kc dd hx)) (hs : PA X es (hRs C cs i a kc dd hxs)) (hn : notStar e = true) : PA X (e :: es) (hRs C cs i a kc dd (hx :: hxs)) :=
  PA.imp (pa_cons he hs (star_cons hn)) fun σ H Q ⟨F, δ, s, g, A, R, hh, h⟩ => by
    simp only [hxEs] at h
    cases h1 : hxE g δ hx with
    | none =>
      simp only [h1] at h
    | some y =>
      cases h2 : hxEs g δ hxs with
      | none =>
        simp only [h1, h2] at h
      | some ys =>
        simp only [h1, h2] at h
        refine ⟨F, δ, s, g, A, R, hh, ?_⟩
        rw [h1]
        intro v s1 H1 hS1 e1 A1 r1
        refine ⟨F, δ, s1, g, A1, R.mono e1, hh.mono e1, ?_⟩
        rw [h2]
        intro vs s2 H2 hS2 e2 A2 r2
        refine h (v :: vs) s2 H2 (hS2.trans hS1) (e1.trans e2) A2 ?_
        simp only [RepPs]
        exact ⟨v, vs, rfl, RepP.mono e2.G y v r1, r2⟩
theorem h_tup (hs : PA X es (hRs C cs i a kc dd hxs)) : PE X (.Tuple es j pos) (hR C cs i a kc dd (.tup hxs)) :=
  PE.imp (pe_tup hs) fun σ H Q ⟨F, δ, s, g, A, R, hh, h⟩ => by
    simp only [hxE] at h
    cases h2 : hxEs g δ hxs with
    | none =>
      simp only [h2] at h
    | some ys =>
      simp only [h2] at h
      refine ⟨F, δ, s, g, A, R, hh, ?_⟩
      rw [h2]
      intro vs s1 H1 hS1 e1 A1 r1
      by_cases hl : lineOk ys.length = true
      · rw [if_pos hl] at h
        rw [RepPs.len ys vs r1] at hl
        refine ⟨line_of hl, fun q hq => ?_⟩
        obtain ⟨A2, e2⟩ := A1.grow (p := q) (o := .tup vs) hq
        refine h (.ref q) { s1 with G := upd s1.G q (.tup vs) } _ hS1 (e1.trans e2) A2 ?_
        simp only [RepP]
        exact ⟨q, vs, rfl, Or.inl (Or.inl upd_same), RepPs.mono e2.G ys vs r1⟩
      · rw [if_neg hl] at h
        exact h.elim
theorem h_lst (hs : PA X es (hRs C cs i a kc dd hxs)) : PE X (.List es pos) (hR C cs i a kc dd (.lst hxs)) :=
  PE.imp (pe_lst hs) fun σ H Q ⟨F, δ, s, g, A, R, hh, h⟩ => by
    simp only [hxE] at h
    cases h2 : hxEs g δ hxs with
    | none =>
      simp only [h2] at h
    | some ys =>
      simp only [h2] at h
      refine ⟨F, δ, s, g, A, R, hh, ?_⟩
      rw [h2]
      intro vs s1 H1 hS1 e1 A1 r1
      by_cases hl : lineOk ys.length = true
      · rw [if_pos hl] at h
        rw [RepPs.len ys vs r1] at hl
        refine ⟨line_of hl, fun q hq => ?_⟩
        obtain ⟨A2, e2⟩ := A1.grow (p := q) (o := .lst vs) hq
        refine h (.ref q) { s1 with G := upd s1.G q (.lst vs) } _ hS1 (e1.trans e2) A2 ?_
        simp only [RepP]
        exact ⟨q, vs, rfl, upd_same, RepPs.mono e2.G ys vs r1⟩
      · rw [if_neg hl] at h
        exact h.elim
/-! ### the suite -/
def hS (C : CC) (cs : List Nat) (i : Option Nat) (b : HS) : Suite := fun a kc dd D σ H => ∃ F δ s g, AtS C F s H ∧ RepS C s δ σ ∧ Has C cs i a kc dd s σ g ∧ WantS C WF F s (exH g δ s.S b) D
theorem su_ret (he : PE X e (hR C cs i a kc dd hx)) : PSs X [.Return (some e) pos] (hS C cs i (.ret hx) a kc dd) :=
  PSs.imp (pss_one (ps_ret he)) fun D σ H ⟨F, δ, s, g, A, R, hh, h⟩ => by
    simp only [exH] at h
    refine ⟨F, δ, s, g, A, R, hh, ?_⟩
    cases h1 : hxE g δ hx with
    | none =>
      simp only [h1] at h
      exact h.elim
    | some y =>
      simp only [h1] at h
      exact fun v s1 H1 hS1 e1 A1 r1 => h v s1 H1 hS1 e1 A1 r1
theorem su_set {p1 : Pos} (hN : X.N.Nodup) (hi : X.N[j]? = some x) (hl : Loc X.env.scope x) (hf : X.fn x = true ∨ X.env.scope.names.lookup x = some .local) (he : PE X e (hR C cs i a kc dd hx)) (hs : notComp e = true) : PSs X [.Assign [.Name x p1] e pos] (hS C cs i (.set j hx) a kc dd) :=
  PSs.imp (pss_one (ps_set hN hi hl he (swaps_plain hs) hf)) fun D σ H ⟨F, δ, s, g, A, R, hh, h⟩ => by
    simp only [exH] at h
    refine ⟨F, δ, s, g, A, R, hh, ?_⟩
    cases h1 : hxE g δ hx with
    | none =>
      simp only [h1] at h
      exact h.elim
    | some y =>
      simp only [h1] at h
      exact fun v s1 H1 hS1 e1 A1 r1 => h _ s1 H1 hS1 e1 A1 ((R.mono e1).set (d := .p y) r1)
theorem su_inc {p1 p2 p3 p4 : Pos} {k : Int} {q : Nat} (hN : X.N.Nodup) (hi : X.N[j]? = some x) (hl : Loc X.env.scope x) (hf : X.fn x = true ∨ X.env.scope.names.lookup x = some .local) (hd : (x == ("__debug__" : Str)) = false) (hc : (x == ("__classdict__" : Str)) = false) :
    PSs X [.Assign [.Name x p1] (.BinOp (.Name x p2) .Add (.Constant (.int k) q p3) p4) pos] (hS C cs i (.inc j k) a kc dd) :=
  PSs.imp (pss_one (ps_set hN hi hl (pe_add (pe_var hi (hl.elim .inl fun z => .inr (.inl z)) hd hc) pe_int) rfl hf)) fun D σ H ⟨F, δ, s, g, A, R, hh, h⟩ => by
    simp only [exH] at h
    split at h
    · rename_i n hn
      obtain ⟨v, hv, r⟩ := R.2 j _ hn
      simp only [RepD, RepP] at r
      subst r
      exact ⟨.int n, hv, n, k, rfl, rfl, h _ s H rfl (ExtS.refl s) A (R.set (d := .p (.int (n + k))) (by simp only [RepD, RepP]))⟩
    · exact h.elim
theorem su_app {p1 ap cp : Pos} (hi : X.N[j]? = some x) (hv : Vis X.env.scope x) (hd : (x == ("__debug__" : Str)) = false) (hc : (x == ("__classdict__" : Str)) = false) (hn : notStar e = true) (hl : (ap.endLine == cp.line) = true) (he : PE X e (hR C cs i a kc dd hx)) :
    PSs X [.Expr (.Call (.Attribute (.Name x p1) "append" ap) [e] [] cp) pos] (hS C cs i (.app j hx) a kc dd) :=
  PSs.imp (pss_one (ps_expr (pe_bm PySem.F.plainAttrs_list PySem.F.slot_list_append PySem.F.type_list_append mt_append (pe_var hi hv hd hc) (pa_cons he pa_nil (star_cons hn)) (base_plain (e := .Name x p1) rfl) (few_of (by simp only [List.all_cons, List.all_nil, Bool.and_true]; exact hn) (by simp)) hl (star_cons hn) rfl) rfl)) fun D σ H ⟨F, δ, s, g, A, R, hh, h⟩ => by
    simp only [exH] at h
    split at h
    · rename_i d hd
      obtain ⟨v, hv, r⟩ := R.2 j _ hd
      split at h
      · rename_i ys hp
        obtain ⟨q, vs, rfl, hq, rq⟩ := peek_lst A r hp
        refine ⟨.ref q, hv, Or.inl ⟨rfl, vs, SqL.of hq⟩, F, δ, s, g, A, R, hh, ?_⟩
        cases h1 : hxE g δ hx with
        | none =>
          simp only [h1] at h
          exact h.elim
        | some y =>
          simp only [h1] at h
          intro w s1 H1 hS1 e1 A1 r1
          show rAppend (V.ref q) [w] H1 fun _ H2 => D.nx σ H2
          refine app_ok (W := WF) (F := F) (σ := σ) (s0 := s1) A1 (RepD.mono e1 d _ r) r1 ?_
          rw [← hS1] at h
          cases ha : appG d y s1.S with
          | stuck =>
            simp only [ha] at h
            exact h.elim
          | exc c x S' =>
            simp only [ha] at h
            exact h.elim
          | ok d' S' =>
            simp only [ha] at h
            exact fun s2 H2 hS2 e2 A2 v2 r2 => h σ s2 H2 hS2 (e1.trans e2) A2 (R.mono (e1.trans e2))
      · exact h.elim
    · exact h.elim
/-! ### try -/
theorem exH_no {W : WX} {F : Hp} {s : Sit} {g : Option P} {δ : DEnv} {S : Sto} {D : Ends} : ∀ (b : HS), WantS C W F s (exH g δ S b) D → WantS C WF F s (exH g δ S b) D := by
  intro b h
  cases b with
  | ret e =>
    simp only [exH] at h ⊢
    split at h <;> exact h
  | inc q k =>
    simp only [exH] at h ⊢
    split at h <;> exact h
  | set q e =>
    simp only [exH] at h ⊢
    split at h <;> exact h
  | app q e =>
    simp only [exH] at h ⊢
    split at h
    · split at h
      · split at h
        · split at h <;> exact h
        · exact h
      · exact h
    · exact h
theorem RepS.hide {s : Sit} {δ : DEnv} {σ : L2.St} (R : RepS C s δ σ) (j : Nat) (o : Option V) : RepS C s (δ.set j none) (σ.set j o) := by
  refine ⟨by rw [List.length_set, List.length_set]; exact R.1, fun q d hd => ?_⟩
  by_cases hq : j = q
  · subst hq
    by_cases hl : j < δ.length
    · rw [List.getElem?_set_self hl] at hd
      cases hd
    · rw [List.getElem?_eq_none (by rw [List.length_set]; omega)] at hd
      cases hd
  · rw [List.getElem?_set_ne hq] at hd ⊢
    exact R.2 q d hd
/-- the clauses' classes -/
def hsOk (C : CC) (K : PySem.W.Frag) : Hs → List Cla → Prop
  | .nil, l => l = []
  | .cons cs ns i b r, l => ∃ cv l', l = ⟨cv, i, hS C cs i b⟩ :: l' ∧ (∀ c ∈ cs, PySem.W.exmOne K (.ref (C.CA c)) cv = some true) ∧ (∀ c ∈ ns, PySem.W.exmOne K (.ref (C.CA c)) cv = some false) ∧ hsOk C K r l'
theorem hs_want {W : WX} {F : Hp} {K : PySem.W.Frag} {D : Ends} {c : Nat} {x : Option P} {dx : Option Addr} {δ : DEnv} {s : Sit} {σ : L2.St} {H : Hp} (A : AtS C F s H) (R : RepS C s δ σ) (rx : RepX C s.G c x dx) :
    ∀ (hs : Hs) (l : List Cla), hsOk C K hs l → WantS C W F s (exHs hs c x δ s.S) D → wCla K W D l (.ref (C.CA c)) dx σ H
  | .nil, l, hl, h => by
    simp only [hsOk] at hl
    subst hl
    exact h dx σ s H rfl (ExtS.refl s) A R rx
  | .cons cs ns i b r, l, hl, h => by
    simp only [hsOk] at hl
    obtain ⟨cv, l', rfl, y1, y2, hr⟩ := hl
    simp only [exHs] at h
    by_cases hc : cs.contains c = true
    · rw [if_pos hc] at h
      have hm : c ∈ cs := by simpa using hc
      by_cases hsl : slotIn i δ = true
      case neg =>
        rw [if_neg hsl] at h
        exact h.elim
      rw [if_pos hsl] at h
      refine ⟨true, y1 c hm, fun _ q hq => ?_, fun z => nomatch z⟩
      cases i with
      | none =>
        refine ⟨F, δ, s, x, A, R, ⟨⟨c, hm, rfl, rx⟩, fun j z => nomatch z⟩, exH_no (W := W) b ?_⟩
        simp only [goneSlot] at h
        cases hx : exH x δ s.S b with
        | next δ' S' =>
          rw [hx] at h
          exact h
        | _ =>
          rw [hx] at h
          exact h
      | some j =>
        have hjl : j < σ.length := by
          simp only [slotIn, decide_eq_true_eq] at hsl
          rw [← R.1]
          exact hsl
        refine ⟨F, δ.set j none, s, x, A, R.hide j _, ⟨⟨c, hm, rfl, rx⟩, fun j' z => ?_⟩, exH_no (W := W) b ?_⟩
        · cases z
          rw [List.getElem?_set_self hjl]
        · simp only [goneSlot] at h
          cases hx : exH x (δ.set j none) s.S b with
          | next δ' S' =>
            rw [hx] at h
            exact fun σ' s' H' h1 h2 h3 h4 => h (σ'.set j none) s' H' h1 h2 h3 (h4.hide j none)
          | ret d S' =>
            rw [hx] at h
            exact h
          | brk δ' S' =>
            exfalso
            revert hx
            cases b <;> simp only [exH] <;> (repeat' split) <;> intro z <;> cases z
          | cnt δ' S' =>
            exfalso
            revert hx
            cases b <;> simp only [exH] <;> (repeat' split) <;> intro z <;> cases z
          | exc c' x' δ' S' =>
            rw [hx] at h
            exact h
          | stuck =>
            rw [hx] at h
            exact h
    · rw [if_neg hc] at h
      by_cases hn : ns.contains c = true
      · rw [if_pos hn] at h
        have hm : c ∈ ns := by simpa using hn
        exact ⟨false, y2 c hm, fun z => Bool.noConfusion z, fun _ => hs_want A R rx r l' hr h⟩
      · rw [if_neg hn] at h
        exact h.elim
theorem s_try {W : WX} {F : Hp} {body : List Stmt} {h0 : ExceptHandler} {hr : List ExceptHandler} {l : List Cla} {gb : DEnv → Sto → RS} {hs : Hs} (hst : X.stack = X.env :: X.outer) (hfm : X.env.frame = some X.env.locals) (hN : X.N.Nodup) (tk : Takes X W)
    (hbd : ∀ (Wi : WX) (pl : List (Addr × Obj)) (xf : Value → Shared → Prop), Takes (X.tr pl xf) Wi → PassesOwn (model X.prog X.w) X.A X.env xf → PSs (X.tr pl xf) body (tS C Wi F gb)) (hc : ClaOk X (h0 :: hr) l) (ok : hsOk C X.K hs l) :
    PS X (.Try body (h0 :: hr) [] [] pos) (tS C W F fun δ S => match gb δ S with
      | .exc c x δ' S' => exHs hs c x δ' S'
      | r => r) := by
  refine ⟨fun pins s σ H D I h => (ps_try_mix hst hfm hN tk hbd hc).run pins s σ H D I ?_⟩
  obtain ⟨δ, t, A, R, h⟩ := h
  refine ⟨δ, t, A, R, ?_⟩
  dsimp only at h
  cases hg : gb δ t.S with
  | exc c x δ' S' =>
    rw [hg] at h
    intro dx σ' s' H' hS ex A' R' rx
    subst hS
    exact hs_want A' R' rx hs l ok (WantS.ext ex h)
  | next δ' S' =>
    rw [hg] at h
    exact h
  | ret d S' =>
    rw [hg] at h
    exact h
  | brk δ' S' =>
    rw [hg] at h
    exact h
  | cnt δ' S' =>
    rw [hg] at h
    exact h
  | stuck =>
    rw [hg] at h
    exact h
end
end RP
end

section
set_option Elab.async false
set_option linter.all false
set_option maxRecDepth 100000
set_option maxHeartbeats 2000000
/-! New things of own classes. -/
namespace RP
open PySem L2
/-- the fields, if all of them are there, in order, as data -/
def frzF : List Nat → List (Nat × D) → Option (List P)
  | [], [] => some []
  | f :: gs, (g, .p x) :: fs => if f == g then (frzF gs fs).map (x :: ·) else none
  | _, _ => none
/-- C(..): its __init__ is g -/
def mkOf (FT : FldT) (c n : Nat) (dxs : List P) (g : IFn) : PFn := fun xs =>
  if (xs ++ dxs).length + 1 = n then match g (.loc 0 :: (xs ++ dxs).map D.p) [.live (.obj c [])] with
    | .ok (.p .non) S1 => match S1[(0 : Nat)]? with
      | some (.live (.obj c' fs)) => if c' = c then (match frzF (FT c) fs with
        | some ys => .ok (.ob c ys)
        | none => .stuck) else .stuck
      | _ => .stuck
    | .ok _ _ => .stuck
    | .exc c x _ => .exc c x
    | .stuck => .stuck
  else .stuck
section
variable {C : CC} {P' : Program} {w : World} {K : PySem.W.Frag} {mg : Str → Option Value} {base : Heap} {k : Nat} {f : Addr} {ps : List Str}
theorem frzF_ok {s : Sit} : ∀ (gs : List Nat) (fs : List (Nat × D)) (vs : List (Str × V)) {ys : List P}, frzF gs fs = some ys → RepF C s fs vs → ∃ ws, vs = (gs.map C.NM).zip ws ∧ gs.length = ws.length ∧ RepPs C s.G ys ws
  | [], [], vs, ys, h, r => by
    simp only [frzF, Option.some.injEq] at h
    subst h
    have r : vs = [] := r
    exact ⟨[], r, rfl, by simp only [RepPs]⟩
  | [], _ :: _, _, _, h, _ => by simp [frzF] at h
  | _ :: _, [], _, _, h, _ => by simp [frzF] at h
  | f :: gs, (g, .loc n) :: fs, _, _, h, _ => by simp [frzF] at h
  | f :: gs, (g, .cls n) :: fs, _, _, h, _ => by simp [frzF] at h
  | f :: gs, (g, .p x) :: fs, vs, ys, h, r => by
    simp only [frzF] at h
    by_cases e : (f == g) = true
    · rw [if_pos e] at h
      cases q : frzF gs fs with
      | none =>
        rw [q] at h
        cases h
      | some zs =>
        rw [q] at h
        simp only [Option.map_some, Option.some.injEq] at h
        subst h
        obtain ⟨v, ws, rfl, h1, h2⟩ := r
        obtain ⟨us, rfl, hl, hr⟩ := frzF_ok gs fs ws q h2
        have e : f = g := eq_of_beq e
        subst e
        exact ⟨v :: us, rfl, by simp only [List.length_cons, hl], by simp only [RepPs]; exact ⟨v, us, rfl, h1, hr⟩⟩
    · rw [if_neg e] at h
      cases h
theorem env0_A {X : Cx} {A : Around} {pins : List (Addr × Obj)} {σ : L2.St} {H : Hp} {s : Shared} (hA : A.frames = X.A.frames) (I : Inv X pins σ H s) : Env0 X.prog X.w X.K X.mg X.base A X.stack s H := by
  obtain ⟨q1, q2, q3, q4, q5, q6, q7, q8⟩ := I.env0
  exact ⟨by rw [hA]; exact q1, q2, q3, q4, q5, q6, q7, q8⟩
theorem cal_make {c : Nat} {g : IFn} {fd : FuncData} {ds : List Value} {dvs : List V} {dxs : List P} (M : Mk K (C.CA c) f) (kn : C.kn c = true) (F : FnOk P' w K mg base (L2.CX P' w) k f fd ps (nArg ps.length (spI C g))) (hb : Binds K fd ps ds) (hd : Vals dvs ds) (hx : ∀ G, RepPs C G dxs dvs) :
    Cal C P' w K mg base (k + 1) (.ref (C.CA c)) (mkOf C.FT c ps.length dxs g) := by
  intro X W A pins s σ H us vs Q e1 e2 e3 e4 e5 tk hr hA I r h
  subst e1 e2 e3 e4 e5
  obtain ⟨G, xs, h1, h2, h3⟩ := h
  have app := reps_app xs vs h2 (hx G)
  have hsp : ∀ x dx, H x = none → H dx = none → dx ≠ x → nArg ps.length (spI C g) (.ref x :: (vs ++ dvs)) (upd (upd H dx (.own x)) x (.ins (C.CA c) dx [])) (fun v H2 => v = .non ∧ Q (.ref x) H2) (WE W σ) := by
    intro x dx nx nd hne
    unfold mkOf at h3
    by_cases hl : (xs ++ dxs).length + 1 = ps.length
    · rw [if_pos hl] at h3
      refine ⟨by rw [List.length_cons, reps_len app]; exact hl, ?_⟩
      have up : ∀ {a : Addr} {o : HO}, H a = some o → upd (upd H dx (.own x)) x (.ins (C.CA c) dx []) a = some o := fun {a o} e => by
        rw [upd_ne (ne_of_none e nx), upd_ne (ne_of_none e nd)]
        exact e
      have A0 : AtS C (fun a => if G a = none then H a else none) ⟨G, [x], [.live (.obj c [])]⟩ (upd (upd H dx (.own x)) x (.ins (C.CA c) dx [])) := by
        refine ⟨fun a o e => up (h1 a o e), rfl, fun n y e => ?_, fun n y e => ?_, fun n m y z a e1 e2 _ _ => ?_, fun a o e => ?_⟩
        · cases n with
          | zero => simp at e
          | succ n => simp at e
        · cases n with
          | zero =>
            simp only [List.getElem?_cons_zero, Option.some.injEq, Slot.live.injEq] at e
            subst e
            refine ⟨x, _, rfl, h1.free nx, ?_, upd_same, kn, by simp, dx, [], rfl, rfl⟩
            show (if G x = none then H x else none) = none
            rw [nx]
            split <;> rfl
          | succ n => simp at e
        · cases n with
          | zero => cases m with
            | zero => rfl
            | succ m => simp at e2
          | succ n => simp at e1
        · have e : (if G a = none then H a else none) = some o := e
          split at e
          · rename_i hn
            exact ⟨up e, hn⟩
          · cases e
      have frz : ∀ {s' : Sit} {H' : Hp}, AtS C (fun a => if G a = none then H a else none) s' H' → Frz G H s'.G H' := fun {s' H'} A a o ha hG => A.frm a o (by show (if G a = none then H a else none) = some o; rw [if_pos hG]; exact ha)
      refine ⟨_, _, .loc 0 :: (xs ++ dxs).map D.p, A0, ⟨.ref x, vs ++ dvs, rfl, ⟨x, rfl, rfl⟩, repDs_p _ _ app⟩, ?_⟩
      dsimp only
      cases hg : g (.loc 0 :: (xs ++ dxs).map D.p) [.live (.obj c [])] with
      | stuck =>
        rw [hg] at h3
        exact h3
      | exc c' y S =>
        rw [hg] at h3
        exact fun dz s' H' _ ex A r => h3 dz s'.G H' ex.G A.sub (frz A) r
      | ok d S =>
        rw [hg] at h3
        intro v s' H' hS ex A rv
        subst hS
        cases d with
        | loc n => exact h3.elim
        | cls n => exact h3.elim
        | p y =>
          cases y with
          | non =>
            dsimp only at h3
            simp only [RepD, RepP] at rv
            refine ⟨rv, ?_⟩
            cases q : s'.S[0]? with
            | none =>
              rw [q] at h3
              exact h3.elim
            | some sl =>
              rw [q] at h3
              cases sl with
              | fz z => exact h3.elim
              | live cl =>
                cases cl with
                | lst z => exact h3.elim
                | nst z => exact h3.elim
                | obj c' fs =>
                  dsimp only at h3
                  by_cases hc : c' = c
                  · subst hc
                    rw [if_pos rfl] at h3
                    cases qf : frzF (C.FT c') fs with
                    | none =>
                      rw [qf] at h3
                      exact h3.elim
                    | some ys =>
                      rw [qf] at h3
                      obtain ⟨a, o, k1, k2, k3, A2, ex2⟩ := A.freeze (z := .ob c' ys) q fun a o hn rc => by
                        obtain ⟨kk, _, dz, gs, ho, rf⟩ := rc
                        obtain ⟨ws, hw, hlen, hr⟩ := frzF_ok (C.FT c') fs gs qf rf
                        simp only [RepP]
                        exact ⟨kk, a, dz, ws, rfl, by rw [upd_same, ho, hw], hlen, RepPs.mono (Same.new hn) ys ws hr⟩
                      have ha : a = x := by
                        have z : s'.μ[0]? = some x := pre_get ex.μ (show ([x] : List Addr)[0]? = some x from rfl)
                        rw [z] at k1
                        exact (Option.some.inj k1).symm
                      subst ha
                      refine h3 (.ref a) _ H' (ex.G.trans ex2.G) A2.sub (frz A2) ?_
                      obtain ⟨b, j1, j2⟩ := A2.fzn 0 (.ob c' ys) (by show (s'.S.set 0 _)[0]? = _; rw [List.getElem?_set_self (List.getElem?_eq_some_iff.mp q).1])
                      rw [show s'.μ[0]? = some b from j1] at k1
                      cases k1
                      exact j2
                  · rw [if_neg hc] at h3
                    exact h3.elim
          | _ => exact h3.elim
    · rw [if_neg hl] at h3
      exact h3.elim
  have hq := hsp (s.heap.objs.size + 1) s.heap.objs.size (I.hok.fresh (Nat.le_succ _)) (I.hok.fresh (Nat.le_refl _)) (Nat.ne_of_lt (Nat.lt_succ_self _))
  have I2 := Inv.made (C := C.CA c) I
  have r2 : Vals (V.ref (s.heap.objs.size + 1) :: (vs ++ dvs)) (Value.ref (s.heap.objs.size + 1) :: (us ++ ds)) := .cons rfl (r.append hd)
  have hl : (Value.ref (s.heap.objs.size + 1) :: us ++ ds).length = ps.length := by
    have e := r2.length
    rw [F.len _ _ _ _ hq] at e
    exact e.symm
  have ent := env0_A hA I2
  refine make_map (f := f) I.kIn M.makes M.init (beq_iff_eq.mp M.fn) (codeAny_mono (F.run _ X.stack _ _ ⟨Value.ref (s.heap.objs.size + 1) :: us, []⟩ (Value.ref (s.heap.objs.size + 1) :: (us ++ ds)) _ _ (WE W σ) (hr.make (C.CA c) us [])
    (ent.make (C.CA c) us []) (hb _ (Value.ref (s.heap.objs.size + 1) :: us) I2.kIn hl) r2 hq) fun r s' hq' => ?_)
  cases r with
  | error e => exact passAt tk σ pins _ _ e s' I2 hq'
  | ok fl =>
    cases fl with
    | ret u =>
      obtain ⟨v, H', I3, rv, ev, q3⟩ := I2.after hq'
      subst ev
      exact ⟨rv, ⟨V.ref (s.heap.objs.size + 1), H', I3, rfl, q3⟩⟩
    | next => exact False.elim hq'
    | brk => exact False.elim hq'
    | cont => exact False.elim hq'
end
end RP
end

section
set_option Elab.async false
set_option linter.all false
set_option maxRecDepth 100000
set_option maxHeartbeats 2000000
/-! xs[::-1] of lists and of texts. -/
namespace RP
open PySem L2 PySem.Spec PyProof.Rows
theorem rev_ix (n : Nat) : Builtin.Str.strSliceIndices none none (-1) n = (List.range n).reverse := by
  have h : Builtin.Str.strSliceIndices none none (-1) n = sliceRange ((n : Int) - 1) (-1) (-1) := by
    have h1 : ¬ ((-1 : Int) > 0) := by decide
    simp only [Builtin.Str.strSliceIndices, h1, if_false]
  rw [h, PySem.W.krv_sliceRange, PySem.W.krv_range]
theorem rev_pick (z : Str) : ((Builtin.Str.strSliceIndices none none (-1) z.length).filterMap (z.cps[·]?)) = z.cps.toList.reverse := by
  rw [rev_ix, List.filterMap_reverse]
  have := PySem.W.krv_all z.cps
  rw [← this]
  rfl
section
variable {X : Cx}
def tRevX (K : PySem.W.Frag) (te : TE) : TE := fun σ H Q => te σ H fun x H1 => (∃ a xs, x = .ref a ∧ SqL K H1 a xs ∧ ∀ p, H1 p = none → Q (.ref p) (upd H1 p (.lst xs.reverse))) ∨ ∃ z, x = .str z ∧ z.length ≤ sizeLine ∧ Q (.str (revS z)) H1
theorem pe_revX {e : Expr} {te : TE} {k : Nat} {p1 p2 p3 pos : Pos} (he : PE X e te) : PE X (.Subscript e (.Slice none none (some (.UnaryOp .USub (.Constant (.int 1) k p1) p2)) p3) pos) (tRevX X.K te) := by
  refine ⟨fun pins s σ H Q I h => ?_⟩
  refine Subscript_ (thn (he.run pins s σ H _ I h) fun v s1 ⟨x, H1, I1, r1, q1⟩ => ?_)
  have hst : PO X (some (.UnaryOp .USub (.Constant (.int 1) k p1) p2)) (tPart (tUn (rU fun i => .int (-i)) (tC (.int 1)))) := po_some (pe_un un_neg pe_int)
  refine wpAny_Slice (thn (po_none.run pins s1 σ H1 (fun o H2 => o = none ∧ H2 = H1) I1 ⟨rfl, rfl⟩) fun vl s2 ⟨l, H2, I2, pl, el, e2⟩ => ?_)
  subst el e2
  refine thn (po_none.run pins s2 σ H2 (fun o H3 => o = none ∧ H3 = H2) I2 ⟨rfl, rfl⟩) fun vu s3 ⟨u, H3, I3, pu, eu, e3⟩ => ?_
  subst eu e3
  refine thn (hst.run pins s3 σ H3 (fun o H4 => o = some (-1) ∧ H4 = H3) I3 ⟨1, rfl, -1, rfl, rfl, rfl⟩) fun vs s4 ⟨o, H4, I4, ps, eo, e4⟩ => ?_
  subst eo e4
  have I5 : Inv X pins σ H4 { s4 with heap := s4.heap.push { cls := .type "slice", data := .fields #[vl, vu, vs] } } := I4.kept (t' := s4.toks) fun b ob q => Heap.get?_push_of_some _ q
  show wpAny (model X.prog X.w) X.A (subscriptTail e (.Slice none none (some (.UnaryOp .USub (.Constant (.int 1) k p1) p2)) p3) v (.ref s4.heap.objs.size)) (EP X pins σ Q) X.xe { s4 with heap := s4.heap.push { cls := .type "slice", data := .fields #[vl, vu, vs] } }
  rcases q1 with ⟨a, xs, ex, hx, q⟩ | ⟨z, ex, hz, q⟩
  · subst ex
    cases r1
    obtain ⟨its, r, ht, hz⟩ := I5.list hx
    have hlen := r.length
    refine tail_any (ops := [.ref a, .ref s4.heap.objs.size]) ht.isList.typeIs (PySem.slot_list_getitem.lookup) ?_ (by with_unfolding_all rfl)
    refine wpAny_getItem_list_slice ht.isList (Heap.IsSliceOf.new _ vl vu vs) pl pu ps (by decide) ?_ (by rw [List.size_toArray]; omega)
    rw [PySem.W.krv_pick]
    refine ⟨.ref _, _, I5.laid (t' := s4.toks) (o := .lst xs.reverse) (fun b ob q => Heap.get?_push_of_some _ q) (Nat.le_refl _) ?_, rfl, q _ (I5.hok.fresh (Nat.le_refl _))⟩
    exact ⟨by rw [List.length_reverse]; exact hz, _, 0, r.reverse, Heap.get?_push_size _ rfl⟩
  · subst ex
    obtain ⟨t, rfl⟩ := r1
    obtain ⟨l', rfl, hl'⟩ := IsPart.raw pl
    obtain ⟨u', rfl, hu'⟩ := IsPart.raw pu
    obtain ⟨k', rfl, hk'⟩ := IsPart.raw ps
    refine tail_any (ops := [.str z t, .ref s4.heap.objs.size]) (typeIs_str _ z t) (PySem.F.slot_str_getitem.lookup) ?_ (by with_unfolding_all rfl)
    refine wpAny_getItem_str_slice (l := l') (u := u') (st := k') ⟨_, Heap.get?_push_size _ rfl, rfl, rfl⟩ (by rw [hk']; rfl) ?_
    unfold sliceMade slicePicked
    rw [hl', hu', hk']
    show Made.post (if (((-1 : Int)) == 1 && (Builtin.Str.strSliceIndices none none (-1) z.length).length == z.length) = true then Made.val (.str z t)
      else Made.str ⟨((Builtin.Str.strSliceIndices none none (-1) z.length).filterMap (z.cps[·]?)).toArray⟩) (EP X pins σ Q) _
    rw [if_neg (by simp), rev_pick]
    exact ⟨by have hz' : z.cps.size ≤ sizeLine := hz; show z.cps.toList.reverse.toArray.size ≤ _; simpa using hz', .str _, H4, I5.tok _, ⟨_, rfl⟩, q⟩
end
end RP
end

section
set_option Elab.async false
set_option linter.all false
set_option maxRecDepth 100000
set_option maxHeartbeats 2000000
/-! Slices, chains, xs += ys. -/
namespace RP
open PySem L2
section
variable {C : CC} {W : WX} {X : Cx} {k : Nat} {Γ : Tab} {F : Hp} {a b c e o : Expr} {fa fb fc fe : DEnv → Sto → RE D} {pos p p2 : Pos} {s s1 : Sit} {σ : L2.St} {H : Hp} {δ : DEnv} {D' : Ends}
/-- an optional part of a slice -/
def tO (C : CC) (W : WX) (F : Hp) (f : DEnv → Sto → RE (Option Int)) : L2.St → Hp → (Option Int → Hp → Prop) → Prop := fun σ H Q => ∃ δ s, AtS C F s H ∧ RepS C s δ σ ∧ Wt C W F σ s (f δ s.S) fun o _ H' => Q o H'
theorem PO.imp {e : Option Expr} {t u : L2.St → Hp → (Option Int → Hp → Prop) → Prop} (h : PO X e t) (k : ∀ σ H Q, u σ H Q → t σ H Q) : PO X e u := ⟨fun pins s σ H Q I hu => h.run pins s σ H Q I (k σ H Q hu)⟩
theorem o_none : PO X none (tO C W F fun δ S => optI false (fa δ) S) := PO.imp po_none fun σ H Q ⟨δ, s, A, R, h⟩ => h s H rfl (ExtS.refl s) A
theorem o_some (ha : PE X a (tE C W F fa)) : PO X (some a) (tO C W F fun δ S => optI true (fa δ) S) := PO.imp (po_some ha) fun σ H Q ⟨δ, s, A, R, h⟩ => by
  refine ⟨δ, s, A, R, Wt.imp (Wt.bind h) fun d s' H' _ ex A' hk v r => ?_⟩
  cases d with
  | p x =>
    cases x with
    | int i =>
      simp only [RepD, RepP] at r
      exact ⟨i, r, Wt.now A' hk⟩
    | _ => exact hk.elim
  | loc n => exact hk.elim
  | cls n => exact hk.elim
theorem cut_eq {α : Type} {n d : Nat} : ∀ (o : Option Int), cutO n d o = HT.sIx n d o
  | none => rfl
  | some i => rfl
theorem reps_drop {G : Hp} : ∀ (n : Nat) (xs : List P) (vs : List V), RepPs C G xs vs → RepPs C G (xs.drop n) (vs.drop n)
  | 0, xs, vs, h => by simpa using h
  | n + 1, [], vs, h => by
    simp only [RepPs] at h
    subst h
    simp [RepPs]
  | n + 1, x :: xs, vs, h => by
    simp only [RepPs] at h
    obtain ⟨v, ws, rfl, _, h2⟩ := h
    simpa using reps_drop n xs ws h2
theorem reps_take {G : Hp} : ∀ (n : Nat) (xs : List P) (vs : List V), RepPs C G xs vs → RepPs C G (xs.take n) (vs.take n)
  | 0, xs, vs, h => by simp [RepPs]
  | n + 1, [], vs, h => by
    simp only [RepPs] at h
    subst h
    simp [RepPs]
  | n + 1, x :: xs, vs, h => by
    simp only [RepPs] at h
    obtain ⟨v, ws, rfl, h1, h2⟩ := h
    simp only [List.take_succ_cons, RepPs]
    exact ⟨v, _, rfl, h1, reps_take n xs ws h2⟩
theorem reps_cut {G : Hp} {xs : List P} {vs : List V} {lo hi : Option Int} (h : RepPs C G xs vs) : RepPs C G (cutP xs lo hi) (cutV vs lo hi) := by
  unfold cutP cutV
  rw [cut_eq (α := Unit), cut_eq (α := Unit), RepPs.len xs vs h]
  exact reps_take _ _ _ (reps_drop _ _ _ h)
theorem reps_rev {G : Hp} : ∀ (xs : List P) (vs : List V), RepPs C G xs vs → RepPs C G xs.reverse vs.reverse
  | [], vs, h => by
    simp only [RepPs] at h
    subst h
    simp [RepPs]
  | x :: xs, vs, h => by
    simp only [RepPs] at h
    obtain ⟨v, ws, rfl, h1, h2⟩ := h
    rw [List.reverse_cons, List.reverse_cons]
    exact reps_app _ _ (reps_rev xs ws h2) (by simp only [RepPs]; exact ⟨v, [], rfl, h1, rfl⟩)
def rSlc (X : Cx) : V → Option Int → Option Int → Hp → VK → Prop := fun x lo hi H Q => (rSlL X.K x lo hi H Q ∨ rSlT X.K x lo hi H Q) ∨ rSlS x lo hi H Q
theorem sl_all : SlR X (rSlc X) := (sl_list.or sl_tup).or sl_str
theorem slc_ok {d : D} {x : P} {v : V} {lo hi : Option Int} {Q : VK} (hk : C.K = X.K) (A : AtS C F s H) (r : RepD C s d v) (e : peek d s.S = some x) (h : WantE C W F (RepD C) σ s ((slcP x lo hi).lift s.S) Q) : rSlc X v lo hi H Q := by
  cases x with
  | lst xs =>
    obtain ⟨q, vs, rfl, h2, h3⟩ := peek_lst A r e
    exact .inl (.inl ⟨q, vs, rfl, .inl (.inl h2), fun p hp => want_lst A (reps_cut h3) h p hp⟩)
  | tup xs =>
    have rp := peek_pure A r e (fun _ z => by cases z)
    simp only [RepP] at rp
    obtain ⟨q, vs, rfl, h2, h3⟩ := rp
    simp only [slcP] at h
    by_cases hw : cutO xs.length 0 lo = 0 ∧ cutO xs.length xs.length hi = xs.length
    · rw [if_pos hw] at h
      exact h.elim
    · rw [if_neg hw] at h
      rw [cut_eq (α := Unit), cut_eq (α := Unit), RepPs.len xs vs h3] at hw
      exact .inl (.inr ⟨q, vs, rfl, hk ▸ sqT_mono A.sub h2, hw, fun p hp => want_tup A (reps_cut h3) h p hp⟩)
  | str z =>
    have rp := peek_pure A r e (fun _ z => by cases z)
    simp only [RepP] at rp
    subst rp
    simp only [slcP] at h
    by_cases hl : lineOk z.length = true
    · rw [if_pos hl] at h
      refine .inr ⟨z, rfl, line_of hl, ?_⟩
      have e : (⟨(cutP z.cps.toList lo hi).toArray⟩ : Str) = cutS z lo hi := by
        unfold cutP cutS
        have el : z.cps.toList.length = z.length := by
          rw [Array.length_toList]
          rfl
        rw [cut_eq (α := Unit), cut_eq (α := Unit), el]
      rw [← e]
      exact want_str A h
    · rw [if_neg hl] at h
      exact h.elim
  | _ => exact h.elim
def slcD (d1 : D) (o1 o2 : Option Int) (S : Sto) : RE D := match peek d1 S with
  | some x => (slcP x o1 o2).lift S
  | none => .stuck
theorem x_slc {lo hi : Option Expr} {fl fh : DEnv → Sto → RE (Option Int)} (hk : C.K = X.K) (ha : PE X a (tE C W F fa)) (hl : PO X lo (tO C W F fl)) (hh : PO X hi (tO C W F fh)) :
    PE X (.Subscript a (.Slice lo hi none p2) pos) (tE C W F fun δ S => (fa δ S).bind fun d1 S1 => (fl δ S1).bind fun o1 S2 => (fh δ S2).bind fun o2 S3 => match peek d1 S3 with
      | some x => (slcP x o1 o2).lift S3
      | none => .stuck) := by
  refine PE.imp (pe_slice sl_all ha hl hh) fun σ H Q ⟨δ, s, A, R, h⟩ => ?_
  refine ⟨δ, s, A, R, Wt.imp (Wt.bind h) fun d1 s1 H1 _ ex1 A1 h1 v r1 => ?_⟩
  refine ⟨δ, s1, A1, R.mono ex1, Wt.imp (Wt.bind h1) fun o1 s2 H2 _ ex2 A2 h2 => ?_⟩
  refine ⟨δ, s2, A2, (R.mono ex1).mono ex2, Wt.imp (Wt.bind h2) fun o2 s3 H3 _ ex3 A3 h3 => ?_⟩
  have r3 := RepD.mono (ex2.trans ex3) d1 v r1
  cases q : peek d1 s3.S with
  | none =>
    rw [q] at h3
    exact h3.elim
  | some x =>
    rw [q] at h3
    exact slc_ok hk A3 r3 q h3
theorem x_rev {j : Nat} {q1 q2 q3 : Pos} (ha : PE X a (tE C W F fa)) : PE X (.Subscript a (.Slice none none (some (.UnaryOp .USub (.Constant (.int 1) j q1) q2)) q3) pos) (tE C W F fun δ S => (fa δ S).bind fun d1 S1 => revG (peek d1 S1) S1) := by
  refine PE.imp (pe_revX ha) fun σ H Q ⟨δ, s, A, R, h⟩ => ?_
  refine ⟨δ, s, A, R, Wt.imp (Wt.bind h) fun d1 s1 H1 _ ex1 A1 h1 v r1 => ?_⟩
  cases q : peek d1 s1.S with
  | none =>
    rw [q] at h1
    exact h1.elim
  | some x =>
    rw [q] at h1
    cases x with
    | lst xs =>
      obtain ⟨l, vs, rfl, h2, h3⟩ := peek_lst A1 r1 q
      exact .inl ⟨l, vs, rfl, .inl (.inl h2), fun p hp => want_lst A1 (reps_rev _ _ h3) h1 p hp⟩
    | str z =>
      have q1 := peek_pure A1 r1 q (fun _ z => nomatch z)
      simp only [RepP] at q1
      subst q1
      simp only [revG] at h1
      split at h1
      · rename_i hm
        exact .inr ⟨z, rfl, Nat.le_trans (of_decide_eq_true hm) (Nat.le_trans (by decide) sizeLine_big), want_str A1 h1⟩
      · exact h1.elim
    | _ => exact h1.elim
def rChn (op : CmpOp) : R2 := fun x y H Q => ∃ i j b, x = .int i ∧ y = .int j ∧ icmp op i j = some b ∧ Q (.bl b) H
theorem op_chn (op : CmpOp) : OpR X (compareOp op) (rChn op) := by
  intro pins s σ H x y v u Q I rx ry h
  obtain ⟨i, j, b, rfl, rfl, hb, q⟩ := h
  cases op with
  | Lt =>
    simp only [icmp, Option.some.injEq] at hb
    subst hb
    exact op_lt pins s σ H _ _ v u Q I rx ry ⟨i, j, rfl, rfl, q⟩
  | LtE =>
    simp only [icmp, Option.some.injEq] at hb
    subst hb
    exact op_le pins s σ H _ _ v u Q I rx ry ⟨i, j, rfl, rfl, q⟩
  | _ => cases hb
theorem chain_imp {op op' : CmpOp} {Q : VK} (h : tE C W F (fun δ S => (fa δ S).bind fun d1 S1 => (fb δ S1).bind fun d2 S2 => chainD (fc δ) op op' d1 d2 S2) σ H Q) : tChain (rChn op) (rChn op') (tE C W F fa) (tE C W F fb) (tE C W F fc) σ H Q := by
  obtain ⟨δ, s, A, R, h⟩ := h
  refine ⟨δ, s, A, R, Wt.imp (Wt.bind h) fun d1 s1 H1 _ ex1 A1 h1 v r1 => ?_⟩
  refine ⟨δ, s1, A1, R.mono ex1, Wt.imp (Wt.bind h1) fun d2 s2 H2 _ ex2 A2 h2 u r2 => ?_⟩
  have r1' := RepD.mono ex2 d1 v r1
  cases d1 with
  | loc n => exact h2.elim
  | cls n => exact h2.elim
  | p x =>
    cases x with
    | int i =>
      cases d2 with
      | loc n => exact h2.elim
      | cls n => exact h2.elim
      | p y =>
        cases y with
        | int j =>
          simp only [RepD, RepP] at r1' r2
          cases q : icmp op i j with
          | none =>
            simp only [chainD, q] at h2
            exact h2.elim
          | some t =>
            refine ⟨i, j, t, r1', r2, q, t, rfl, ?_⟩
            cases t with
            | false =>
              simp only [chainD, q] at h2
              exact iteF (want_bl A2 h2)
            | true =>
              simp only [chainD, q] at h2
              refine iteT ⟨δ, s2, A2, (R.mono ex1).mono ex2, Wt.imp (Wt.bind h2) fun d3 s3 H3 _ ex3 A3 h3 w r3 => ?_⟩
              cases d3 with
              | loc n => exact h3.elim
              | cls n => exact h3.elim
              | p z =>
                cases z with
                | int k =>
                  simp only [RepD, RepP] at r3
                  cases q2 : icmp op' j k with
                  | none =>
                    simp only [q2] at h3
                    exact h3.elim
                  | some t2 =>
                    simp only [q2] at h3
                    exact ⟨j, k, t2, r2, r3, q2, want_bl A3 h3⟩
                | _ => exact h3.elim
        | _ => exact h2.elim
    | _ => exact h2.elim
theorem x_chain {op op' : CmpOp} (ha : PE X a (tE C W F fa)) (hb : PE X b (tE C W F fb)) (hc : PE X c (tE C W F fc)) (hm : lastMarks [op, op'] [b, c] = false) :
    PE X (.Compare a [op, op'] [b, c] pos) (tE C W F fun δ S => (fa δ S).bind fun d1 S1 => (fb δ S1).bind fun d2 S2 => chainD (fc δ) op op' d1 d2 S2) :=
  PE.imp (pe_chain (op_chn op) (op_chn op') ha hb hc hm) fun σ H Q h => chain_imp h
theorem x_catl (ha : PE X a (tE C W F fa)) (hb : PE X b (tE C W F fb)) :
    PE X (.BinOp a .Add b pos) (tE C W F fun δ S => (fa δ S).bind fun d1 S1 => (fb δ S1).bind fun d2 S2 => match peek d1 S2, peek d2 S2 with
      | some (.lst xs), some (.lst ys) => if lineOk xs.length && lineOk ys.length then .ok (.loc S2.length) (S2 ++ [.live (.lst (xs ++ ys))]) else .stuck
      | _, _ => .stuck) := by
  refine ⟨fun pins s σ H Q I h => wpAny_BinOp (two_of ha hb (fun pins s σ H s0 d1 d2 x y v u Q I A r1 r2 rx ry hw => ?_) I h)⟩
  split at hw
  · rename_i xs ys e1 e2
    by_cases hm : (lineOk xs.length && lineOk ys.length) = true
    · rw [if_pos hm] at hw
      unfold lineOk at hm
      simp only [Bool.and_eq_true, decide_eq_true_eq] at hm
      obtain ⟨a, vs, rfl, h1, k1⟩ := peek_lst A r1 e1
      obtain ⟨b, ws, rfl, h2, k2⟩ := peek_lst A r2 e2
      have l1 := RepPs.len xs vs k1
      have l2 := RepPs.len ys ws k2
      exact op_cat pins s σ H _ _ v u Q I rx ry ⟨a, b, vs, ws, rfl, rfl, h1, h2, Nat.le_trans (by omega) sizeLine_big, fun p hp => want_new A (reps_app xs vs k1 k2) hw p hp⟩
    · rw [if_neg hm] at hw
      exact hw.elim
  · exact hw.elim
theorem s_ext {i : Nat} {x : Str} (hN : X.N.Nodup) (hi : X.N[i]? = some x) (hx : Loc X.env.scope x) (hf : X.fn x = true ∨ X.env.scope.names.lookup x = some .local) (he : PE X e (tE C W F fe)) :
    PS X (.AugAssign (.Name x p) .Add e pos) (tS C W F fun δ S => match δ[i]? with
      | some (some d) => (fe δ S).st δ fun d2 S1 => extD i d d2 δ S1
      | _ => .stuck) := by
  refine PS.imp (ps_aug hN hi hx he (ti := rExt2) (fun pins s σ H x y v u Q I rx ry h => iop_ext pins s σ H x y v u Q I rx ry h) hf) fun D σ H ⟨δ, s, A, R, h⟩ => ?_
  cases q : δ[i]? with
  | none =>
    simp only [q] at h
    exact h.elim
  | some od =>
    cases od with
    | none =>
      simp only [q] at h
      exact h.elim
    | some d =>
      simp only [q] at h
      obtain ⟨v, hv, rv⟩ := R.2 i d q
      refine ⟨v, hv, δ, s, A, R, Wt.imp (WantS.st R h) fun d2 s1 H1 _ ex1 A1 h1 u r2 => ?_⟩
      have R1 := R.mono ex1
      have rv1 := RepD.mono ex1 d v rv
      cases d with
      | p x => exact h1.elim
      | cls n => exact h1.elim
      | loc n =>
        simp only [extD] at h1
        cases q1 : s1.S[n]? with
        | none =>
          simp only [q1] at h1
          exact h1.elim
        | some sl =>
          cases q2 : peek d2 s1.S with
          | none =>
            simp only [q1, q2] at h1
            exact h1.elim
          | some y =>
            cases sl with
            | fz z =>
              simp only [q1, q2] at h1
              exact h1.elim
            | live cl =>
              cases cl with
              | nst ds =>
                simp only [q1, q2] at h1
                exact h1.elim
              | obj c fs =>
                simp only [q1, q2] at h1
                exact h1.elim
              | lst xs =>
                cases y with
                | lst ys =>
                  simp only [q1, q2] at h1
                  obtain ⟨a, o, k1, k2, k3, k4, vs, ho, rvs⟩ := A1.live n _ q1
                  obtain ⟨b, hb, rfl⟩ := rv1
                  rw [k1] at hb
                  cases hb
                  obtain ⟨l, ws, rfl, h2, h3⟩ := peek_lst A1 r2 q2
                  by_cases hl : (lineOk xs.length && lineOk ys.length) = true
                  · rw [if_pos hl] at h1
                    simp only [Bool.and_eq_true] at hl
                    have e1 := RepPs.len _ _ rvs
                    have e2 := RepPs.len _ _ h3
                    have l1 : xs.length ≤ 100000 := of_decide_eq_true hl.1
                    have l2 : ys.length ≤ 100000 := of_decide_eq_true hl.2
                    have big := sizeLine_big
                    refine ⟨a, l, vs, ws, rfl, rfl, by rw [k4, ho], h2, by omega, ?_⟩
                    obtain ⟨A2, ex2⟩ := A1.write (c' := .lst (xs ++ ys)) (o := .lst (vs ++ ws)) q1 k1 ⟨vs ++ ws, rfl, reps_app _ _ rvs h3⟩
                    exact h1 _ _ _ rfl ex2 A2 ((R1.mono ex2).set ⟨a, k1, rfl⟩)
                  · rw [if_neg hl] at h1
                    exact h1.elim
                | _ =>
                  simp only [q1, q2] at h1
                  exact h1.elim
end
end RP
end

section
set_option Elab.async false
set_option linter.all false
set_option maxRecDepth 100000
set_option maxHeartbeats 4000000
/-! Lists that are lent, and lists that a def has made. -/
namespace RP
open PySem L2
section
variable {C : CC} {W : WX} {X : Cx} {k : Nat} {F : Hp} {s s1 : Sit} {σ σ' : L2.St} {H : Hp} {δ : DEnv}
/-! ### a def's own new list -/
theorem flat_rep {G G' : Hp} {x : P} {v : V} (h : flatP x = true) (r : RepP C G x v) : RepP C G' x v := by
  cases x <;> first | (cases h; done) | (simp only [RepP] at r ⊢; exact r)
theorem spI_fresh {g : IFn} {xs : List P} {vs : List V} {Q : VK} (A : AtS C F s H) (r : RepPs C s.G xs vs) (h : WantE C W F (RepD C) σ s (freshG (g (xs.map D.p) []) s.S) Q) : spI C g vs H Q (WE W σ) := by
  have fr : ∀ a o, H a = some o → s.G a = none → (if s.G a = none then H a else none) = some o := fun a o h1 h2 => by rw [if_pos h2]; exact h1
  refine ⟨fun a => if s.G a = none then H a else none, ⟨s.G, [], []⟩, xs.map D.p, ⟨A.sub, rfl, fun n x e => by simp at e, fun n c e => by simp at e, fun n m c c' a e => by simp at e, fun a o e => ?_⟩, repDs_p xs vs r, ?_⟩
  · have e : (if s.G a = none then H a else none) = some o := e
    split at e
    · rename_i hn
      exact ⟨e, hn⟩
    · cases e
  · cases hg : g (xs.map D.p) [] with
    | stuck =>
      rw [hg] at h
      exact h.elim
    | exc c x S =>
      rw [hg] at h
      intro dx s' H' hS ex A' rx
      obtain ⟨A2, e2⟩ := A.call ex.G A'.sub fun a o h1 h2 => A'.frm a o (fr a o h1 h2)
      exact h dx ⟨s'.G, s.μ, s.S⟩ H' rfl e2 A2 rx
    | ok d S =>
      rw [hg] at h
      intro v s' H' hS ex A' rd
      subst hS
      cases d with
      | p x =>
        simp only [freshG] at h
        split at h
        · rename_i hf
          obtain ⟨A2, e2⟩ := A.call ex.G A'.sub fun a o h1 h2 => A'.frm a o (fr a o h1 h2)
          exact h ⟨s'.G, s.μ, s.S⟩ H' rfl e2 A2 v (flat_rep hf rd)
        · exact h.elim
      | cls c => exact h.elim
      | loc n =>
        simp only [freshG] at h
        cases hn : s'.S[n]? with
        | none =>
          rw [hn] at h
          exact h.elim
        | some sl =>
          rw [hn] at h
          cases sl with
          | fz x => exact h.elim
          | live cl =>
            cases cl with
            | nst ds => exact h.elim
            | obj c fs => exact h.elim
            | lst ys =>
              dsimp only at h
              obtain ⟨a, o, m1, g1, f1, h1, rc⟩ := A'.live n _ hn
              obtain ⟨ws, rfl, rw'⟩ := rc
              obtain ⟨b, hb, rfl⟩ := rd
              rw [m1] at hb
              cases hb
              obtain ⟨A2, e2⟩ := A.call ex.G A'.sub fun a o h1 h2 => A'.frm a o (fr a o h1 h2)
              have f1 : (if s.G a = none then H a else none) = none := f1
              have away : ∀ b u, H b = some u → s.G b = none → b ≠ a := fun b u p1 p2 z => by
                rw [z] at p1 p2
                rw [fr a u p1 p2] at f1
                cases f1
              have hF : F a = none := by
                cases q : F a with
                | none => rfl
                | some u => exact absurd rfl (away a u (A.frm a u q).1 (A.frm a u q).2)
              have A3 : AtS C (upd F a (.lst ws)) ⟨s'.G, s.μ, s.S⟩ H' := ⟨A2.sub, A2.len, A2.fzn, fun n c e => by
                obtain ⟨b, u, k1, k2, k3, k4, k5⟩ := A2.live n c e
                obtain ⟨b', u', j1, j2, j3, j4, j5⟩ := A.live n c e
                have k1 : s.μ[n]? = some b := k1
                rw [j1] at k1
                cases k1
                exact ⟨b, u, j1, k2, by rw [upd_ne (away b u' j4 j2)]; exact k3, k4, k5⟩, A2.inj, fun b u e => by
                by_cases hb : b = a
                · subst hb
                  rw [upd_same] at e
                  cases e
                  exact ⟨h1, g1⟩
                · rw [upd_ne hb] at e
                  exact A2.frm b u e⟩
              obtain ⟨H0, h0, A4, rfl⟩ := A3.drop hF
              exact want_new A4 rw' (Wt.ext e2 h) a h0
variable {es : List Expr} {fs : DEnv → Sto → RE (List P)} {fd : DEnv → Sto → RE (List D)} {pos p : Pos}
theorem x_fcall (sp : Spot C W X k) {x : Str} {u : Value} {g : IFn} (hg : Gl X x) (hm : X.mg x = some u) (hk : PySem.W.keepIn X.K u = true) (cal : CalI C X.prog X.w X.K X.mg X.base k u g) (hd : (x == ("__debug__" : Str)) = false) (hs : es.all notStar = true) (ha : PA X es (tAP C W F fs)) :
    PE X (.Call (.Name x p) es [] pos) (tE C W F fun δ S => (fs δ S).bind fun xs S1 => freshG (g (xs.map D.p) []) S1) := by
  refine ⟨fun pins s σ H Q I h => wpAny_Call_Name_kw (ld_glob I hg hm ?_ hd)⟩
  obtain ⟨δ, s0, A, R, hw⟩ := h
  have rd : tAP C W F fs σ H _ := ⟨δ, s0, A, R, Wt.thenA (Rel := fun s => RepPs C s.G) R hw⟩
  have run : ∀ us s1, AP X pins σ (fun vs H1 => ∃ d s1, ExtS s0 s1 ∧ AtS C F s1 H1 ∧ RepS C s1 δ σ ∧ RepPs C s1.G d vs ∧ WantE C W F (RepD C) σ s1 (freshG (g (d.map D.p) []) s1.S) Q) us s1 → wpAny (model X.prog X.w) X.A (call u us) (EP X pins σ Q) X.xe s1 := by
    rintro us s1 ⟨vs, H1, I1, rv, d, t1, e1, A1, R1, r1, w1⟩
    exact wpAny_call (cal X W X.A pins s1 σ H1 us vs Q rfl rfl rfl rfl rfl sp.tk (sp.hr.mono (Nat.le_add_right _ _)) rfl I1 rv (spI_fresh A1 r1 w1))
  cases es with
  | nil =>
    refine PySem.W.callWith_K0 I.kIn hk ?_
    have z := ha.run pos pins s σ H _ I rd
    have z' : wpAny (model X.prog X.w) X.A (pure []) (AP X pins σ _) X.xe s := z
    exact wpAny_bind (f := fun us => call u us) (wpAny_mono z' (fun us s1 q => run us s1 q) fun _ _ z => z)
  | cons e es =>
    simp only [List.all_cons, Bool.and_eq_true] at hs
    refine PySem.W.callWith_K (h₀ := X.base) I.ok.mod.kin hk (thn (ha.run pos pins s σ H _ I rd) fun us s1 q => ⟨?_, ?_⟩) (star_cons hs.1) (star_none hs.2)
    · obtain ⟨_, _, I1, _⟩ := q
      exact I1.kIn
    · exact run us s1 q
/-! ### a call that is lent lists -/
open Classical in
/-- what stands still for a moment: the lists that are lent -/
noncomputable def lentG (ds : List D) (s : Sit) (H : Hp) : Hp := fun a => match s.G a with
  | some o => some o
  | none => if ∃ (n : Nat) (ys : List P), D.loc n ∈ ds ∧ s.S[n]? = some (Slot.live (Cell.lst ys)) ∧ s.μ[n]? = some a then H a else none
variable {ds : List D}
theorem lent_old {a : Addr} {o : HO} (h : s.G a = some o) : lentG ds s H a = some o := by
  unfold lentG
  rw [h]
theorem lent_new {a : Addr} {n : Nat} {ys : List P} (h : s.G a = none) (h0 : D.loc n ∈ ds) (h1 : s.S[n]? = some (.live (.lst ys))) (h2 : s.μ[n]? = some a) : lentG ds s H a = H a := by
  unfold lentG
  rw [h]
  exact if_pos ⟨n, ys, h0, h1, h2⟩
theorem lent_none {a : Addr} (h : s.G a = none) (h1 : ¬ ∃ (n : Nat) (ys : List P), D.loc n ∈ ds ∧ s.S[n]? = some (Slot.live (Cell.lst ys)) ∧ s.μ[n]? = some a) : lentG ds s H a = none := by
  unfold lentG
  rw [h]
  exact if_neg h1
theorem lent_same (A : AtS C F s H) : Same (lentG ds s H) H := fun a o e => by
  unfold lentG at e
  split at e
  · rename_i u q
    cases e
    exact A.sub a _ q
  · split at e
    · exact e
    · cases e
theorem lent_rep (A : AtS C F s H) : ∀ (es : List D) (vs : List V) (xs : List P), (∀ d ∈ es, d ∈ ds) → RepDs C s es vs → peeks es s.S = some xs → RepPs C (lentG ds s H) xs vs
  | [], vs, xs, _, r, e => by
    simp only [peeks, Option.some.injEq] at e
    subst e
    simp only [RepPs]
    exact r
  | d :: es, vs, xs, hd, r, e => by
    obtain ⟨v, ws, rfl, r1, r2⟩ := r
    simp only [peeks] at e
    split at e
    · rename_i x ys q1 q2
      cases e
      simp only [RepPs]
      refine ⟨v, ws, rfl, ?_, lent_rep A es ws ys (fun z hz => hd z (List.mem_cons_of_mem _ hz)) r2 q2⟩
      have old : Same s.G (lentG ds s H) := fun a o z => lent_old z
      cases d with
      | p y =>
        simp only [peek, Option.some.injEq] at q1
        subst q1
        exact RepP.mono old y v r1
      | cls c => cases q1
      | loc n =>
        obtain ⟨a, ha, rfl⟩ := r1
        simp only [peek] at q1
        split at q1
        · rename_i zs q
          cases q1
          obtain ⟨b, o, k1, k2, k3, k4, k5⟩ := A.live n _ q
          rw [ha] at k1
          cases k1
          obtain ⟨us, rfl, k6⟩ := k5
          simp only [RepP]
          exact ⟨a, us, rfl, by rw [lent_new k2 (hd _ List.mem_cons_self) q ha]; exact k4, RepPs.mono old zs us k6⟩
        · rename_i z q
          cases q1
          obtain ⟨b, k1, k2⟩ := A.fzn n _ q
          rw [ha] at k1
          cases k1
          exact RepP.mono old x _ k2
        · cases q1
    · cases e
/-- behind such a call all is as it was -/
theorem lent_back (A : AtS C F s H) {G' H' : Hp} (h1 : Same (lentG ds s H) G') (h2 : Same G' H') (h3 : Frz (lentG ds s H) H G' H') : AtS C F s H' := by
  have old : Same s.G H' := fun a o z => h2 _ _ (h1 _ _ (lent_old z))
  have keep : ∀ a o, H a = some o → s.G a = none → H' a = some o := fun a o z n => by
    by_cases c : ∃ (n : Nat) (ys : List P), D.loc n ∈ ds ∧ s.S[n]? = some (Slot.live (Cell.lst ys)) ∧ s.μ[n]? = some a
    · obtain ⟨m, ys, c0, c1, c2⟩ := c
      exact h2 _ _ (h1 _ _ (by rw [lent_new n c0 c1 c2]; exact z))
    · exact (h3 a o z (lent_none n c)).1
  exact ⟨old, A.len, A.fzn, fun n c e => by
    obtain ⟨a, o, k1, k2, k3, k4, k5⟩ := A.live n c e
    exact ⟨a, o, k1, k2, k3, keep a o k4 k2, k5⟩, A.inj, fun a o e => ⟨keep a o (A.frm a o e).1 (A.frm a o e).2, (A.frm a o e).2⟩⟩
/-! what comes back holds no lent list -/
open Classical in
noncomputable def dropG (ds : List D) (s : Sit) (G' : Hp) : Hp := fun a => if ∃ (n : Nat) (ys : List P), D.loc n ∈ ds ∧ s.S[n]? = some (Slot.live (Cell.lst ys)) ∧ s.μ[n]? = some a then none else G' a
theorem flat_clash {G : Hp} {x y : P} {v : V} (h : (flatP x != flatP y) = true) (r1 : RepP C G x v) (r2 : RepP C G y v) : False := by
  cases x <;> cases y <;> first | (simp [flatP] at h; done) | (simp only [RepP] at r1 r2; grind)
theorem clash_no {G0 G : Hp} {xs ys : List P} {vs : List V} (sm : Same G0 G) (hk : ∀ a o, G0 a = some o → C.K.lookup a = none) (h : clash xs ys = true) (r1 : RepPs C G xs vs) (r2 : RepPs C G0 ys vs) : False := by
  cases xs with
  | nil =>
    cases ys with
    | nil => cases h
    | cons y ys =>
      simp only [RepPs] at r1 r2
      subst r1
      obtain ⟨v, ws, e, _⟩ := r2
      cases e
  | cons x xs =>
    cases ys with
    | nil =>
      simp only [RepPs] at r1 r2
      subst r2
      obtain ⟨v, ws, e, _⟩ := r1
      cases e
    | cons y ys =>
      simp only [RepPs] at r1 r2
      obtain ⟨v, ws, rfl, p1, _⟩ := r1
      obtain ⟨v', ws', e, p2, _⟩ := r2
      cases e
      simp only [clash] at h
      split at h
      · simp only [RepP] at p1 p2
        obtain ⟨a, us, rfl, sq, _⟩ := p1
        obtain ⟨_, b, dx, us', e, hg, _⟩ := p2
        cases e
        have hg' := sm _ _ hg
        rcases sq with (k | ⟨o, k⟩) | ⟨o, its, n, k, _⟩
        · rw [hg'] at k
          cases k
        · rw [hg'] at k
          cases k
        · rw [hk _ _ hg] at k
          cases k
      · exact flat_clash h p1 (RepP.mono sm _ _ p2)
section
variable {G' : Hp} (A : AtS C F s H) (hk : ∀ a o, H a = some o → C.K.lookup a = none) (h1 : Same (lentG ds s H) G')
include A h1
theorem lent_place {a : Addr} (c : ∃ (n : Nat) (ys : List P), D.loc n ∈ ds ∧ s.S[n]? = some (Slot.live (Cell.lst ys)) ∧ s.μ[n]? = some a) : ∃ (n : Nat) (ys : List P) (us : List V), D.loc n ∈ ds ∧ s.S[n]? = some (Slot.live (Cell.lst ys)) ∧ s.G a = none ∧ G' a = some (.lst us) ∧ RepPs C s.G ys us := by
  obtain ⟨n, ys, c0, c1, c2⟩ := c
  obtain ⟨b, o, k1, k2, k3, k4, k5⟩ := A.live n _ c1
  rw [c2] at k1
  cases k1
  obtain ⟨us, rfl, k6⟩ := k5
  exact ⟨n, ys, us, c0, c1, k2, h1 _ _ (by rw [lent_new k2 c0 c1 c2]; exact k4), k6⟩
theorem drop_keep {a : Addr} {o : HO} (h : G' a = some o) (no : ∀ us, o ≠ .lst us) : dropG ds s G' a = some o := by
  unfold dropG
  rw [if_neg]
  · exact h
  · intro c
    obtain ⟨n, ys, us, _, _, _, e, _⟩ := lent_place A h1 c
    rw [h] at e
    cases e
    exact no us rfl
include hk
mutual
theorem sep_rep : ∀ (x : P) (v : V), sepD x ds s.S = true → RepP C G' x v → RepP C (dropG ds s G') x v
  | .non, v, _, r => by simp only [RepP] at r ⊢; exact r
  | .bl _, v, _, r => by simp only [RepP] at r ⊢; exact r
  | .int _, v, _, r => by simp only [RepP] at r ⊢; exact r
  | .str _, v, _, r => by simp only [RepP] at r ⊢; exact r
  | .scr ns, v, _, r => by
    simp only [RepP] at r ⊢
    obtain ⟨a, e, k⟩ := r
    refine ⟨a, e, ?_⟩
    rcases k with ⟨o, k⟩ | k
    · exact .inl ⟨o, drop_keep A h1 k (fun us z => by cases z)⟩
    · exact .inr k
  | .tup xs, v, hs, r => by
    simp only [RepP] at r ⊢
    obtain ⟨a, vs, e, sq, rs⟩ := r
    refine ⟨a, vs, e, ?_, sep_reps xs vs ?_ rs⟩
    · rcases sq with (k | ⟨o, k⟩) | k
      · exact .inl (.inl (drop_keep A h1 k (fun us z => by cases z)))
      · exact .inl (.inr ⟨o, drop_keep A h1 k (fun us z => by cases z)⟩)
      · exact .inr k
    · intro n ys c0 c1
      have := List.all_eq_true.mp hs _ c0
      simp only [c1, sepP] at this
      exact this
  | .lst xs, v, hs, r => by
    simp only [RepP] at r ⊢
    obtain ⟨a, vs, e, hg, rs⟩ := r
    have sep : ∀ (n : Nat) (ys : List P), D.loc n ∈ ds → s.S[n]? = some (Slot.live (Cell.lst ys)) → clash xs ys = true ∧ sepPs ys xs = true := fun n ys c0 c1 => by
      have := List.all_eq_true.mp hs _ c0
      simp only [c1, sepP, Bool.and_eq_true] at this
      exact this
    refine ⟨a, vs, e, ?_, sep_reps xs vs (fun n ys c0 c1 => (sep n ys c0 c1).2) rs⟩
    unfold dropG
    rw [if_neg]
    · exact hg
    · intro c
      obtain ⟨n, ys, us, c0, c1, _, e2, k6⟩ := lent_place A h1 c
      rw [hg] at e2
      cases e2
      exact clash_no (fun b o z => h1 _ _ (lent_old z)) (fun b o z => hk b o (A.sub _ _ z)) (sep n ys c0 c1).1 rs k6
  | .dic ks xs, v, hs, r => by
    simp only [RepP] at r ⊢
    obtain ⟨a, vs, e, hg, hl, rs⟩ := r
    refine ⟨a, vs, e, drop_keep A h1 hg (fun us z => by cases z), hl, sep_reps xs vs ?_ rs⟩
    intro n ys c0 c1
    have := List.all_eq_true.mp hs _ c0
    simp only [c1, sepP] at this
    exact this
  | .ob c xs, v, hs, r => by
    simp only [RepP] at r ⊢
    obtain ⟨kn, a, dx, vs, e, hg, hl, rs⟩ := r
    refine ⟨kn, a, dx, vs, e, drop_keep A h1 hg (fun us z => by cases z), hl, sep_reps xs vs ?_ rs⟩
    intro n ys c0 c1
    have := List.all_eq_true.mp hs _ c0
    simp only [c1, sepP] at this
    exact this
theorem sep_reps : ∀ (xs : List P) (vs : List V), (∀ (n : Nat) (ys : List P), D.loc n ∈ ds → s.S[n]? = some (Slot.live (Cell.lst ys)) → sepPs ys xs = true) → RepPs C G' xs vs → RepPs C (dropG ds s G') xs vs
  | [], vs, _, r => by simp only [RepPs] at r ⊢; exact r
  | x :: xs, vs, hs, r => by
    simp only [RepPs] at r ⊢
    obtain ⟨v, ws, e, r1, r2⟩ := r
    refine ⟨v, ws, e, sep_rep x v ?_ r1, sep_reps xs ws (fun n ys c0 c1 => ?_) r2⟩
    · refine List.all_eq_true.mpr fun d hd => ?_
      cases d with
      | loc n =>
        dsimp only
        split
        · rename_i ys c1
          have := hs n ys hd c1
          simp only [sepPs, Bool.and_eq_true] at this
          exact this.1
        · rfl
      | p y => rfl
      | cls c => rfl
    · have := hs n ys c0 c1
      simp only [sepPs, Bool.and_eq_true] at this
      exact this.2
end
end
theorem drop_at (A : AtS C F s H) {G' H' : Hp} (h1 : Same (lentG ds s H) G') (h2 : Same G' H') (h3 : Frz (lentG ds s H) H G' H') : AtS C F ⟨dropG ds s G', s.μ, s.S⟩ H' ∧ ExtS s ⟨dropG ds s G', s.μ, s.S⟩ := by
  have B := lent_back A h1 h2 h3
  have ex : ExtS s ⟨dropG ds s G', s.μ, s.S⟩ := ⟨(fun a o z => by
    show dropG ds s G' a = some o
    unfold dropG
    rw [if_neg]
    · exact h1 _ _ (lent_old z)
    · intro c
      obtain ⟨n, ys, us, _, _, e, _, _⟩ := lent_place A h1 c
      rw [z] at e
      cases e), List.prefix_refl _⟩
  have none : ∀ a o, H a = some o → s.G a = none → dropG ds s G' a = none := fun a o z n => by
    unfold dropG
    by_cases c : ∃ (n : Nat) (ys : List P), D.loc n ∈ ds ∧ s.S[n]? = some (Slot.live (Cell.lst ys)) ∧ s.μ[n]? = some a
    · rw [if_pos c]
    · rw [if_neg c]
      exact (h3 a o z (lent_none n c)).2
  refine ⟨⟨fun a o z => ?_, A.len, fun n x e => ?_, fun n c e => ?_, A.inj, fun a o e => ?_⟩, ex⟩
  · have z : dropG ds s G' a = some o := z
    unfold dropG at z
    split at z
    · cases z
    · exact h2 _ _ z
  · obtain ⟨a, k1, k2⟩ := A.fzn n x e
    exact ⟨a, k1, RepP.mono ex.G x _ k2⟩
  · obtain ⟨a, o, k1, k2, k3, k4, k5⟩ := A.live n c e
    obtain ⟨a', o', j1, j2, j3, j4, j5⟩ := B.live n c e
    rw [k1] at j1
    cases j1
    exact ⟨a, o', k1, none a o k4 k2, k3, j4, RepC.mono ex c o' j5⟩
  · exact ⟨(B.frm a o e).1, none a o (A.frm a o e).1 (A.frm a o e).2⟩
theorem frz_at (A : AtS C F s H) {G' H' : Hp} {n : Nat} (e : s.S[n]? = some (.live (.lst []))) (h1 : Same (lentG [.loc n] s H) G') (h2 : Same G' H') (h3 : Frz (lentG [.loc n] s H) H G' H') : AtS C F ⟨G', s.μ, s.S.set n (.fz (.lst []))⟩ H' ∧ ExtS s ⟨G', s.μ, s.S.set n (.fz (.lst []))⟩ := by
  have B := lent_back A h1 h2 h3
  have ex : ExtS s ⟨G', s.μ, s.S.set n (.fz (.lst []))⟩ := ⟨fun a o z => h1 _ _ (lent_old z), List.prefix_refl _⟩
  obtain ⟨q, o, k1, k2, k3, k4, vs, ho, rf⟩ := A.live n _ e
  subst ho
  simp only [RepPs] at rf
  subst rf
  have ln : n < s.S.length := (List.getElem?_eq_some_iff.mp e).1
  refine ⟨⟨h2, by show s.μ.length = (s.S.set n _).length; rw [List.length_set]; exact A.len, fun m x z => ?_, fun m c z => ?_, fun m m' c c' a z z' p p' => ?_, fun a o z => ?_⟩, ex⟩
  · have z : (s.S.set n (.fz (.lst [])))[m]? = some (.fz x) := z
    by_cases c : n = m
    · subst c
      rw [List.getElem?_set_self ln] at z
      cases z
      refine ⟨q, k1, ?_⟩
      simp only [RepP]
      exact ⟨q, [], rfl, h1 _ _ (by rw [lent_new k2 List.mem_cons_self e k1]; exact k4), by simp only [RepPs]⟩
    · rw [List.getElem?_set_ne c] at z
      obtain ⟨a, j1, j2⟩ := A.fzn m x z
      exact ⟨a, j1, RepP.mono ex.G x _ j2⟩
  · have z : (s.S.set n (.fz (.lst [])))[m]? = some (.live c) := z
    by_cases d : n = m
    · subst d
      rw [List.getElem?_set_self ln] at z
      cases z
    · rw [List.getElem?_set_ne d] at z
      obtain ⟨a, o, j1, j2, j3, j4, j5⟩ := B.live m c z
      obtain ⟨a', o', i1, i2, i3, i4, i5⟩ := A.live m c z
      rw [i1] at j1
      cases j1
      have no : ¬ ∃ (k : Nat) (ys : List P), D.loc k ∈ [D.loc n] ∧ s.S[k]? = some (Slot.live (Cell.lst ys)) ∧ s.μ[k]? = some a := by
        rintro ⟨k, ys, l0, l1, l2⟩
        cases List.mem_singleton.mp l0
        exact d (A.inj _ _ _ _ _ l1 z l2 i1)
      exact ⟨a, o, i1, (h3 a o' i4 (lent_none i2 no)).2, i3, j4, RepC.mono ex c o j5⟩
  · have z : (s.S.set n (.fz (.lst [])))[m]? = some (.live c) := z
    have z' : (s.S.set n (.fz (.lst [])))[m']? = some (.live c') := z'
    have d : n ≠ m := fun d => by
      subst d
      rw [List.getElem?_set_self ln] at z
      cases z
    have d' : n ≠ m' := fun d => by
      subst d
      rw [List.getElem?_set_self ln] at z'
      cases z'
    rw [List.getElem?_set_ne d] at z
    rw [List.getElem?_set_ne d'] at z'
    exact A.inj m m' c c' a z z' p p'
  · refine ⟨(B.frm a o z).1, ?_⟩
    have no : ¬ ∃ (k : Nat) (ys : List P), D.loc k ∈ [D.loc n] ∧ s.S[k]? = some (Slot.live (Cell.lst ys)) ∧ s.μ[k]? = some a := by
      rintro ⟨k, ys, l0, l1, l2⟩
      obtain ⟨a', o', i1, i2, i3, i4, i5⟩ := A.live k _ l1
      rw [l2] at i1
      cases i1
      rw [i3] at z
      cases z
    exact (h3 a o (A.frm a o z).1 (lent_none (A.frm a o z).2 no)).2
theorem spP_lent {g : PFn} {ds : List D} {xs : List P} {vs : List V} {Q : VK} (A : AtS C F s H) (hk : ∀ a o, H a = some o → C.K.lookup a = none) (r : RepDs C s ds vs) (e : peeks ds s.S = some xs) (h : WantE C W F (RepD C) σ s (lentR ds (g xs) s.S) Q) : spP C g vs H Q (WE W σ) := by
  refine ⟨lentG ds s H, xs, lent_same A, lent_rep A ds vs xs (fun d hd => hd) r e, ?_⟩
  cases hg : g xs with
  | stuck =>
    rw [hg] at h
    exact h
  | exc c x =>
    rw [hg] at h
    cases x with
    | some y => exact h.elim
    | none =>
      intro dx G' H' h1 h2 h3 rx
      exact h dx s H' rfl (ExtS.refl s) (lent_back A h1 h2 h3) rx
  | ok x =>
    rw [hg] at h
    simp only [lentR] at h
    split at h
    · rename_i hf
      intro v G' H' h1 h2 h3 rx
      by_cases c : flatP x = true
      · exact h s H' rfl (ExtS.refl s) (lent_back A h1 h2 h3) v (flat_rep c rx)
      · have hs : sepD x ds s.S = true := by
          simp only [Bool.or_eq_true] at hf
          exact hf.resolve_left c
        obtain ⟨A2, ex⟩ := drop_at A h1 h2 h3
        exact h ⟨dropG ds s G', s.μ, s.S⟩ H' rfl ex A2 v (sep_rep A hk h1 x v hs rx)
    · split at h
      · rename_i n hneg
        split at h
        · rename_i q
          intro v G' H' h1 h2 h3 rx
          obtain ⟨A2, ex⟩ := frz_at A q h1 h2 h3
          exact h ⟨G', s.μ, s.S.set n (.fz (.lst []))⟩ H' rfl ex A2 v rx
        · exact h.elim
      · exact h.elim
def lentC (g : PFn) (ds : List D) (S : Sto) : RE D := match peeks ds S with
  | some xs => lentR ds (g xs) S
  | none => .stuck
theorem x_bcall (sp : Spot C W X k) {x : Str} {u : Value} {g : PFn} (hg : Gl X x) (hm : X.mg x = some u) (hk : PySem.W.keepIn X.K u = true) (cal : Cal C X.prog X.w X.K X.mg X.base k u g) (hd : (x == ("__debug__" : Str)) = false) (hs : es.all notStar = true) (ha : PA X es (tAD C W F fd)) :
    PE X (.Call (.Name x p) es [] pos) (tE C W F fun δ S => (fd δ S).bind fun ds S1 => lentC g ds S1) := by
  refine ⟨fun pins s σ H Q I h => wpAny_Call_Name_kw (ld_glob I hg hm ?_ hd)⟩
  obtain ⟨δ, s0, A, R, hw⟩ := h
  have rd : tAD C W F fd σ H _ := ⟨δ, s0, A, R, Wt.thenA (Rel := RepDs C) R hw⟩
  have run : ∀ us s1, AP X pins σ (fun vs H1 => ∃ d s1, ExtS s0 s1 ∧ AtS C F s1 H1 ∧ RepS C s1 δ σ ∧ RepDs C s1 d vs ∧ WantE C W F (RepD C) σ s1 (lentC g d s1.S) Q) us s1 → wpAny (model X.prog X.w) X.A (call u us) (EP X pins σ Q) X.xe s1 := by
    rintro us s1 ⟨vs, H1, I1, rv, d, t1, e1, A1, R1, r1, w1⟩
    unfold lentC at w1
    have hdis : ∀ a o, H1 a = some o → C.K.lookup a = none := fun a o z => by
      rw [sp.hk]
      cases e : X.K.lookup a with
      | none => rfl
      | some u =>
        have := (I1.bs a u (I1.ok.mod.kin a u e)).2
        rw [z] at this
        cases this
    split at w1
    · rename_i xs q
      exact wpAny_call (cal X W X.A pins s1 σ H1 us vs Q rfl rfl rfl rfl rfl sp.tk (sp.hr.mono (Nat.le_add_right _ _)) rfl I1 rv (spP_lent A1 hdis r1 q w1))
    · exact w1.elim
  cases es with
  | nil =>
    refine PySem.W.callWith_K0 I.kIn hk ?_
    have z := ha.run pos pins s σ H _ I rd
    have z' : wpAny (model X.prog X.w) X.A (pure []) (AP X pins σ _) X.xe s := z
    exact wpAny_bind (f := fun us => call u us) (wpAny_mono z' (fun us s1 q => run us s1 q) fun _ _ z => z)
  | cons e es =>
    simp only [List.all_cons, Bool.and_eq_true] at hs
    refine PySem.W.callWith_K (h₀ := X.base) I.ok.mod.kin hk (thn (ha.run pos pins s σ H _ I rd) fun us s1 q => ⟨?_, ?_⟩) (star_cons hs.1) (star_none hs.2)
    · obtain ⟨_, _, I1, _⟩ := q
      exact I1.kIn
    · exact run us s1 q
/-! ### a comprehension over a list that lives on -/
theorem bor_get {n : Nat} {xs : List P} {S : Sto} (h : borG n xs S = true) : S[n]? = some (.live (.lst xs)) := by
  unfold borG at h
  split at h
  · rename_i ys q
    rw [sameL_eq xs ys h]
    exact q
  · cases h
theorem bor_at {n : Nat} {xs : List P} {S : Sto} (h : S[n]? = some (.live (.lst xs))) : borG n xs S = true := by
  unfold borG
  rw [h]
  exact sameL_refl xs
/-- the iterator gives these as long as the list stands -/
def ItOkB (C : CC) (s : Sit) (n : Nat) (xs : List P) (J : L2.It) : Prop := ∀ F s' H i, ExtS s s' → AtS C F s' H → borG n xs s'.S = true →
  (∀ x, xs[i]? = some x → J.go i H ∧ ∀ v H', J.yld i H v H' → ∃ s2, ExtS s' s2 ∧ s2.S = s'.S ∧ AtS C F s2 H' ∧ RepP C s2.G x v) ∧ (xs.length = i → J.stop i H)
theorem it_bor {n : Nat} {xs : List P} {q : Addr} (hm : s.μ[n]? = some q) : ItOkB C s n xs (Itl X.K q) := by
  intro F s' H i ex A gd
  obtain ⟨a, o, k1, k2, k3, k4, k5⟩ := A.live n _ (bor_get gd)
  have e := pre_get ex.μ hm
  rw [k1] at e
  cases e
  obtain ⟨vs, rfl, r⟩ := k5
  have hH : SqL X.K H q vs := SqL.of k4
  refine ⟨fun x hx => ?_, fun hi => ⟨vs, hH, by rw [← RepPs.len xs vs r]; omega⟩⟩
  obtain ⟨v, hv, rv⟩ := reps_at xs vs i r hx
  refine ⟨⟨vs, v, hH, hv⟩, fun w H' ⟨e, y⟩ => ?_⟩
  subst e
  have e2 := y vs hH
  rw [hv] at e2
  cases e2
  exact ⟨s', ExtS.refl s', rfl, A, rv⟩
def tIB (C : CC) (W : WX) (F : Hp) (i : Nat) : TI := fun σ H R => ∃ δ s, AtS C F s H ∧ RepS C s δ σ ∧ Wt C W F σ s (borV i δ s.S) fun nx s' H' => ∀ J, ItOkB C s' nx.1 nx.2 J → R J H'
theorem i_bor {tg : Expr} {i : Nat} {y : Str} {np : Pos} (hx : PE X (.Name y np) (tE C W F fun δ S => match δ[i]? with
    | some (some d) => .ok d S
    | _ => .stuck)) : PI X tg (.Name y np) (tIB C W F i) :=
  PI.imp (pi_seq hx) fun σ H R ⟨δ, s, A, RR, h⟩ => by
    refine ⟨δ, s, A, RR, ?_⟩
    unfold borV at h
    split at h
    · rename_i n q
      split at h
      · rename_i xs q2
        dsimp only
        rw [q]
        intro s' H' hS ex A' v r
        obtain ⟨a, hm, rfl⟩ := r
        obtain ⟨b, o, k1, k2, k3, k4, k5⟩ := A'.live n (.lst xs) (by rw [hS]; exact q2)
        rw [hm] at k1
        cases k1
        obtain ⟨vs, rfl, k6⟩ := k5
        exact .inl ⟨a, rfl, .inl ⟨⟨vs, SqL.of k4⟩, h s' H' hS ex A' _ (it_bor hm)⟩⟩
      · exact h.elim
    · exact h.elim
theorem lc_wantB {t : Tg} {i0 : Nat} {fc fe : DEnv → Sto → RE D} {lv : Bool} {Q : VK} (h : tE C W F (fun δ S => (borV i0 δ S).bind fun nx S1 => if lineOk nx.2.length then (compB (borG nx.1 nx.2) (bindT t) fc fe (wipeD δ (tgIx t)) nx.2 S1).bind (compR lv) else .stuck) σ H Q) :
    tLc (tIB C W F i0) (fun v σ H Q => ∃ F, gT C F t v σ H Q) (fun σ H Q => ∃ F, tT C WF F fc σ H Q) (fun σ H Q => ∃ F, tE C WF F fe σ H Q) (tgIx t) σ H Q := by
  obtain ⟨δ, s, A, R, h⟩ := h
  refine ⟨δ, s, A, R, Wt.imp (Wt.bind h) fun nx s1 H1 _ e1 A1 h1 J ok D hD => ?_⟩
  obtain ⟨n0, xs⟩ := nx
  dsimp only at h1 ok
  split at h1
  case isFalse => exact h1.elim
  rename_i hline
  have R1 := R.mono e1
  have hF : F D = none := A1.fnone hD
  let inv : Nat → Hp → Prop := fun i H => i ≤ xs.length ∧ ∃ s' acc vs, ExtS s1 s' ∧ AtS C (upd F D (.lst vs)) s' H ∧ RepPs C s'.G acc vs ∧ acc.length ≤ i ∧
    WantE C W F (RepD C) σ s' ((compB (borG n0 xs) (bindT t) fc fe (wipeD δ (tgIx t)) (xs.drop i) s'.S).bind fun ys S4 => compR lv (acc ++ ys) S4) Q
  refine ⟨fun i m H => m = xs.length - i ∧ inv i H, ⟨xs.length, by simp, Nat.zero_le _, s1, [], [], ExtS.refl s1, A1.frame hD, by simp only [RepPs], Nat.le_refl _, ?_⟩, ?_⟩
  · rw [List.drop_zero]
    exact h1
  rintro i m H ⟨rfl, hi, s2, acc, vs, e2, A2, ra, hacc, h2⟩
  have gd : borG n0 xs s2.S = true := by
    cases q : borG n0 xs s2.S with
    | true => rfl
    | false =>
      cases hl : xs.drop i with
      | nil =>
        rw [hl] at h2
        simp only [compB, q, Bool.false_eq_true, if_false, RE.bind] at h2
        exact h2.elim
      | cons y ys =>
        rw [hl] at h2
        simp only [compB, q, Bool.false_eq_true, if_false, RE.bind] at h2
        exact h2.elim
  obtain ⟨ok1, ok2⟩ := ok _ s2 H i e2 A2 gd
  by_cases hlt : i < xs.length
  · have hx : xs[i]? = some xs[i] := List.getElem?_eq_getElem hlt
    obtain ⟨go, yl⟩ := ok1 _ hx
    refine .inr ⟨go, inv (i + 1), fun H' q => ⟨xs.length - (i + 1), by omega, rfl, q⟩, fun v H' y => ?_⟩
    obtain ⟨s3, e3, hS, A3, r3⟩ := yl v H' y
    rw [List.drop_eq_getElem_cons hlt] at h2
    simp only [compB, gd, if_true] at h2
    have h3 := Wt.ext e3 h2
    rw [← hS] at h3
    refine ⟨_, wipeD δ (tgIx t), s3, xs[i], A3, (R1.mono (e2.trans e3)).wipe _, r3, ?_⟩
    cases hb : bindT t xs[i] (wipeD δ (tgIx t)) with
    | none =>
      rw [hb] at h3
      exact h3.elim
    | some δ' =>
      rw [hb] at h3
      intro σ' R' u'
      refine ⟨wipe_upto u', _, δ', s3, A3, R', ?_⟩
      dsimp only at h3
      cases ht : fc δ' s3.S with
      | stuck =>
        rw [ht] at h3
        exact h3.elim
      | exc c x S' =>
        rw [ht] at h3
        exact h3.elim
      | ok d S1 =>
        rw [ht] at h3
        intro s4 H4 hS4 e4 A4
        subst hS4
        cases d with
        | p z =>
          cases z with
          | bl b =>
            have h4 := Wt.ext e4 h3
            cases b with
            | false =>
              dsimp only
              rw [if_neg Bool.false_ne_true]
              exact ⟨hlt, s4, acc, vs, (e2.trans e3).trans e4, A4, RepPs.mono (e3.trans e4).G acc vs ra, Nat.le_succ_of_le hacc, h4⟩
            | true =>
              dsimp only at h4 ⊢
              rw [if_pos rfl]
              refine ⟨_, δ', s4, A4, R'.mono e4, ?_⟩
              cases hx' : fe δ' s4.S with
              | stuck =>
                rw [hx'] at h4
                exact h4.elim
              | exc c x S' =>
                rw [hx'] at h4
                exact h4.elim
              | ok d2 S2 =>
                rw [hx'] at h4
                intro s5 H5 hS5 e5 A5 w rw'
                subst hS5
                dsimp only at h4
                cases hp : purify d2 s5.S with
                | stuck =>
                  rw [hp] at h4
                  exact h4.elim
                | exc c x S' => exact (purify_not hp).elim
                | ok z S3 =>
                  rw [hp] at h4
                  obtain ⟨s6, hS6, A6, e6, r6⟩ := purify_ok A5 rw' hp
                  subst hS6
                  have hD5 := (A6.frm D _ upd_same).1
                  have ee := (e3.trans e4).trans (e5.trans e6)
                  have ra6 := RepPs.mono ee.G acc vs ra
                  have hl : vs.length < sizeLine := by
                    rw [← RepPs.len acc vs ra]
                    have q1 := line_of hline
                    omega
                  refine ⟨vs, hD5, hl, hlt, s6, acc ++ [z], vs ++ [w], e2.trans ee, A6.reframe hF, reps_app acc vs ra6 (by simp only [RepPs]; exact ⟨w, [], rfl, r6, rfl⟩), by simp; omega, ?_⟩
                  have h5 := Wt.ext (e5.trans e6) h4
                  dsimp only at h5
                  rw [RE.bind_assoc] at h5
                  simp only [RE.bind, List.append_assoc, List.cons_append, List.nil_append] at h5 ⊢
                  exact h5
          | _ => exact h3.elim
        | _ => exact h3.elim
  · have ei : i = xs.length := by omega
    subst ei
    refine .inl ⟨ok2 rfl, ?_⟩
    rw [List.drop_length] at h2
    simp only [compB, gd, if_true, RE.bind, List.append_nil] at h2
    obtain ⟨H0, h0, A0, rfl⟩ := A2.drop hF
    cases lv with
    | false => exact want_lst A0 ra h2 D h0
    | true => exact want_new A0 ra h2 D h0
variable {tg elt : Expr} {ifs : List Expr} {scope : Scope} {own : List (Str × Nat)} {t : Tg} {fc fe : DEnv → Sto → RE D} {py spos np : Pos}
theorem x_compb (lv : Bool) {i0 : Nat} {y : Str} (hc : X.calm = true) (hN : X.N.Nodup) (hx : PE X (.Name y np) (tE C W F fun δ S => match δ[i0]? with
    | some (some d) => .ok d S
    | _ => .stuck)) (ok : BlkOk X.N X.env.scope scope own) (ho : own.map (·.2) = tgIx t) (b : BlkIn C X tg elt ifs scope t fc fe) :
    PE X (.ListComp elt [⟨tg, .Name y np, ifs, 0⟩] scope pos) (tE C W F fun δ S => (borV i0 δ S).bind fun nx S1 => if lineOk nx.2.length then (compB (borG nx.1 nx.2) (bindT t) fc fe (wipeD δ (tgIx t)) nx.2 S1).bind (compR lv) else .stuck) :=
  PE.imp (pe_lc hc hN (i_bor hx) ok (fun s H A cl fp => exF_pg (b.g s H A cl fp)) (fun s H A cl fp => exF_pt (b.c s H A cl fp)) (fun s H A cl fp => exF_pe (b.e s H A cl fp)) (notSet_it rfl)) fun σ H Q h => by
    rw [ho]
    exact lc_wantB h
theorem s_setcb (lv : Bool) {i0 i : Nat} {y z : Str} {py spos : Pos} (hc : X.calm = true) (hN : X.N.Nodup) (hy : X.N[i]? = some z) (hyl : X.env.scope.names.lookup z = some .local) (hk : X.env.scope.kind = .function) (hl : (py.line == pos.line) = true) (ha : (scope.names.any fun (n, k) => n == z && (k == .local || k == .cell)) = false)
    (hx : PE X (.Name y np) (tE C W F fun δ S => match δ[i0]? with
    | some (some d) => .ok d S
    | _ => .stuck)) (ok : BlkOk X.N X.env.scope scope own) (ho : own.map (·.2) = tgIx t) (b : BlkIn C X tg elt ifs scope t fc fe) :
    PS X (.Assign [.Name z py] (.ListComp elt [⟨tg, .Name y np, ifs, 0⟩] scope pos) spos) (tS C W F fun δ S => ((borV i0 δ S).bind fun nx S1 => if lineOk nx.2.length then (compB (borG nx.1 nx.2) (bindT t) fc fe (wipeD δ (tgIx t)) nx.2 S1).bind (compR lv) else .stuck).st δ fun d S1 => .next (setSlot δ i d) S1) :=
  PS.imp (ps_setLc hc hN hy hyl (sw_true hk hyl hl ha) (i_bor hx) ok (fun s H A cl fp => exF_pg (b.g s H A cl fp)) (fun s H A cl fp => exF_pt (b.c s H A cl fp)) (fun s H A cl fp => exF_pe (b.e s H A cl fp)) (notSet_it rfl)) fun D σ H ⟨δ, s, A, R, h⟩ => by
    rw [ho]
    exact lc_wantB ⟨δ, s, A, R, Wt.imp (WantS.st R h) fun d s' H' _ ex A' hk v r => hk.next A' ((R.mono ex).set r)⟩
end
end RP
end

section
set_option Elab.async false
set_option linter.all false
set_option maxRecDepth 100000
set_option maxHeartbeats 4000000
/-! Calls with keywords; methods whose own new list goes on living. -/
namespace RP
open PySem L2
/-! ### keywords -/
section
variable (C : CC)
def spK (g : KFn) (vs zs : List V) (H : Hp) (Q : VK) (E : XK) : Prop := ∃ G xs ys, Same G H ∧ RepPs C G xs vs ∧ RepPs C G ys zs ∧ match g xs ys with
  | .ok x => ∀ v G' H', Same G G' → Same G' H' → Frz G H G' H' → RepP C G' x v → Q v H'
  | .exc c x => ∀ dx G' H', Same G G' → Same G' H' → Frz G H G' H' → RepX C G' c x dx → E (.ref (C.CA c)) dx H'
  | .stuck => False
/-- a thing that may be called with n values and keywords -/
def KCal (Pr : Program) (w : World) (K : PySem.W.Frag) (mg : Str → Option Value) (base : Heap) (k : Nat) (u : Value) (n : Nat) (ks : List Str) (g : KFn) : Prop :=
  ∀ (X : Cx) (W : WX) (pins : List (Addr × Obj)) (s : Shared) (σ : L2.St) (H : Hp) (us ws : List Value) (vs zs : List V) (Q : VK),
    X.prog = Pr → X.w = w → X.K = K → X.mg = mg → X.base = base → Takes X W → Room k X.A → Inv X pins σ H s → Vals vs us → Vals zs ws → spK C g vs zs H Q (WE W σ) →
    wpAny (model X.prog X.w) X.A (call u us (ks.zip ws)) (EP X pins σ Q) X.xe s
/-- the same, whose own new list goes on living -/
def KCalI (Pr : Program) (w : World) (K : PySem.W.Frag) (mg : Str → Option Value) (base : Heap) (k : Nat) (u : Value) (n : Nat) (ks : List Str) (g : IFn) : Prop :=
  ∀ (X : Cx) (W : WX) (pins : List (Addr × Obj)) (s : Shared) (σ : L2.St) (H : Hp) (us ws : List Value) (vs zs : List V) (Q : VK),
    X.prog = Pr → X.w = w → X.K = K → X.mg = mg → X.base = base → Takes X W → Room k X.A → Inv X pins σ H s → Vals vs us → Vals zs ws → vs.length = n → spI C g (vs ++ zs) H Q (WE W σ) →
    wpAny (model X.prog X.w) X.A (call u us (ks.zip ws)) (EP X pins σ Q) X.xe s
structure KEnt where
  i : Nat
  x : Str
  n : Nat
  ks : List Str
  f : KFn
  fi : IFn
def KfnsOk (Pr : Program) (w : World) (K : PySem.W.Frag) (mg : Str → Option Value) (base : Heap) (k : Nat) : List KEnt → Prop
  | [] => True
  | e :: l => (∃ u, mg e.x = some u ∧ PySem.W.keepIn K u = true ∧ KCal C Pr w K mg base k u e.n e.ks e.f ∧ KCalI C Pr w K mg base k u e.n e.ks e.fi) ∧ KfnsOk Pr w K mg base k l
def ImtsOk (Pr : Program) (w : World) (K : PySem.W.Frag) (mg : Str → Option Value) (base : Heap) (k : Nat) : List IEnt → Prop
  | [] => True
  | e :: l => (∃ f, Meth K (C.CA e.c) (C.NM e.m) f ∧ (∀ g ∈ C.FT e.c, C.NM g ≠ C.NM e.m) ∧ CalI C Pr w K mg base k (.ref f) e.f ∧ ∀ p ∈ e.kw, KCal C Pr w K mg base k (.ref f) 1 p.1 p.2) ∧ ImtsOk Pr w K mg base k l
def GoodI (Pr : Program) (w : World) (K : PySem.W.Frag) (mg : Str → Option Value) (base : Heap) (k : Nat) (Γ : Tab) : Prop :=
  ∀ c m g, Γ.imeth c m = some g → ∃ f, Meth K (C.CA c) (C.NM m) f ∧ (∀ f ∈ C.FT c, C.NM f ≠ C.NM m) ∧ CalI C Pr w K mg base k (.ref f) g
def GoodK (Pr : Program) (w : World) (K : PySem.W.Frag) (mg : Str → Option Value) (base : Heap) (k : Nat) (Γ : Tab) : Prop :=
  ∀ c m ks g, Γ.kmeth c m ks = some g → ∃ f, Meth K (C.CA c) (C.NM m) f ∧ (∀ f ∈ C.FT c, C.NM f ≠ C.NM m) ∧ KCal C Pr w K mg base k (.ref f) 1 ks g
end
/-- the parameters' order: ix tells each parameter's place among values and keywords -/
def permL {α : Type} (ix : List Nat) (xs ys : List α) : List α := ix.filterMap fun i => (xs ++ ys)[i]?
/-- a def called with n values and m keywords -/
def kOf (n m : Nat) (ix : List Nat) (f : PFn) : KFn := fun xs ys => if xs.length = n ∧ ys.length = m then f (permL ix xs ys) else .stuck
section
variable {C : CC}
theorem reps_ix {G : Hp} : ∀ {xs : List P} {vs : List V}, RepPs C G xs vs → ∀ i : Nat, (xs[i]? = none ∧ vs[i]? = none) ∨ ∃ x v, xs[i]? = some x ∧ vs[i]? = some v ∧ RepP C G x v
  | [], vs, h, i => by
    simp only [RepPs] at h
    subst h
    exact Or.inl ⟨rfl, rfl⟩
  | x :: xs, vs, h, i => by
    simp only [RepPs] at h
    obtain ⟨v, ws, rfl, h1, h2⟩ := h
    cases i with
    | zero => exact Or.inr ⟨x, v, rfl, rfl, h1⟩
    | succ i => exact reps_ix h2 i
theorem reps_perm {G : Hp} {xs ys : List P} {vs zs : List V} (h1 : RepPs C G xs vs) (h2 : RepPs C G ys zs) : ∀ ix : List Nat, RepPs C G (permL ix xs ys) (permL ix vs zs)
  | [] => by simp only [permL, List.filterMap_nil, RepPs]
  | i :: ix => by
    have ih := reps_perm h1 h2 ix
    unfold permL at ih ⊢
    rcases reps_ix (reps_app xs vs h1 h2) i with ⟨a, b⟩ | ⟨x, v, a, b, r⟩
    · rw [List.filterMap_cons, List.filterMap_cons, a, b]
      exact ih
    · rw [List.filterMap_cons, List.filterMap_cons, a, b]
      simp only [RepPs]
      exact ⟨v, _, rfl, r, ih⟩
theorem vals_ix : ∀ {vs : List V} {us : List Value}, Vals vs us → ∀ i : Nat, (vs[i]? = none ∧ us[i]? = none) ∨ ∃ v u, vs[i]? = some v ∧ us[i]? = some u ∧ RelV v u
  | _, _, .nil, i => Or.inl ⟨rfl, rfl⟩
  | _, _, .cons r rr, 0 => Or.inr ⟨_, _, rfl, rfl, r⟩
  | _, _, .cons r rr, i + 1 => vals_ix rr i
theorem vals_perm {vs zs : List V} {us ws : List Value} (h1 : Vals vs us) (h2 : Vals zs ws) : ∀ ix : List Nat, Vals (permL ix vs zs) (permL ix us ws)
  | [] => .nil
  | i :: ix => by
    have ih := vals_perm h1 h2 ix
    unfold permL at ih ⊢
    rcases vals_ix (h1.append h2) i with ⟨a, b⟩ | ⟨v, u, a, b, r⟩
    · rw [List.filterMap_cons, List.filterMap_cons, a, b]
      exact ih
    · rw [List.filterMap_cons, List.filterMap_cons, a, b]
      exact .cons r ih
variable {P' : Program} {w : World} {K : PySem.W.Frag} {mg : Str → Option Value} {base : Heap} {k j : Nat} {f : Addr} {fd : FuncData} {ps ks : List Str} {u : Value} {n : Nat} {g : KFn}
theorem KCal.mono (h : KCal C P' w K mg base k u n ks g) (hk : k ≤ j) : KCal C P' w K mg base j u n ks g := fun X W pins s σ H us ws vs zs Q e1 e2 e3 e4 e5 tk r => h X W pins s σ H us ws vs zs Q e1 e2 e3 e4 e5 tk (r.mono hk)
theorem KCalI.mono {gi : IFn} (h : KCalI C P' w K mg base k u n ks gi) (hk : k ≤ j) : KCalI C P' w K mg base j u n ks gi := fun X W pins s σ H us ws vs zs Q e1 e2 e3 e4 e5 tk r => h X W pins s σ H us ws vs zs Q e1 e2 e3 e4 e5 tk (r.mono hk)
/-- never asked for -/
def kiNo : IFn := fun _ _ => .stuck
theorem kcali_no : KCalI C P' w K mg base k u n ks kiNo := fun X W pins s σ H us ws vs zs Q e1 e2 e3 e4 e5 tk r I a b l h => by
  obtain ⟨F, s, ds, _, _, h⟩ := h
  exact h.elim
theorem KfnsOk.mono (hk : k ≤ j) : ∀ {l : List KEnt}, KfnsOk C P' w K mg base k l → KfnsOk C P' w K mg base j l
  | [], _ => trivial
  | _ :: _, ⟨⟨u, h1, h2, h3, h4⟩, h⟩ => ⟨⟨u, h1, h2, h3.mono hk, h4.mono hk⟩, KfnsOk.mono hk h⟩
theorem ImtsOk.mono (hk : k ≤ j) : ∀ {l : List IEnt}, ImtsOk C P' w K mg base k l → ImtsOk C P' w K mg base j l
  | [], _ => trivial
  | _ :: _, ⟨⟨u, h1, h2, h3, h4⟩, h⟩ => ⟨⟨u, h1, h2, fun X W A pins s σ H us vs Q e1 e2 e3 e4 e5 tk r => h3 X W A pins s σ H us vs Q e1 e2 e3 e4 e5 tk (r.mono hk), fun p hp => (h4 p hp).mono hk⟩, ImtsOk.mono hk h⟩
theorem KfnsOk.app : ∀ {l m : List KEnt}, KfnsOk C P' w K mg base k l → KfnsOk C P' w K mg base k m → KfnsOk C P' w K mg base k (l ++ m)
  | [], _, _, h => h
  | _ :: _, _, ⟨h1, h⟩, h2 => ⟨h1, KfnsOk.app h h2⟩
theorem ImtsOk.app : ∀ {l m : List IEnt}, ImtsOk C P' w K mg base k l → ImtsOk C P' w K mg base k m → ImtsOk C P' w K mg base k (l ++ m)
  | [], _, _, h => h
  | _ :: _, _, ⟨h1, h⟩, h2 => ⟨h1, ImtsOk.app h h2⟩
theorem repDs_ix {s : Sit} : ∀ {xs : List D} {vs : List V}, RepDs C s xs vs → ∀ i : Nat, (xs[i]? = none ∧ vs[i]? = none) ∨ ∃ x v, xs[i]? = some x ∧ vs[i]? = some v ∧ RepD C s x v
  | [], vs, h, i => by
    have h : vs = [] := h
    subst h
    exact Or.inl ⟨rfl, rfl⟩
  | x :: xs, vs, h, i => by
    obtain ⟨v, ws, rfl, h1, h2⟩ := h
    cases i with
    | zero => exact Or.inr ⟨x, v, rfl, rfl, h1⟩
    | succ i => exact repDs_ix h2 i
theorem repDs_perm {s : Sit} {xs : List D} {vs : List V} (h1 : RepDs C s xs vs) : ∀ ix : List Nat, RepDs C s (permL ix xs []) (permL ix vs [])
  | [] => rfl
  | i :: ix => by
    have ih := repDs_perm h1 ix
    unfold permL at ih ⊢
    rw [List.append_nil, List.append_nil] at ih ⊢
    rcases repDs_ix h1 i with ⟨a, b⟩ | ⟨x, v, a, b, r⟩
    · rw [List.filterMap_cons, List.filterMap_cons, a, b]
      exact ih
    · rw [List.filterMap_cons, List.filterMap_cons, a, b]
      exact ⟨v, _, rfl, r, ih⟩
/-- a def called with n values and m keywords, in one row; np: its parameters -/
def kiOf (n m np : Nat) (ix : List Nat) (f : IFn) : IFn := fun ds S => if ds.length = n + m ∧ (permL ix ds []).length = np then f (permL ix ds []) S else .stuck
theorem kcali_fn {g : IFn} {ix : List Nat} (F : FnOk P' w K mg base (L2.CX P' w) k f fd ps (nArg ps.length (spI C g))) (hb : KBn K fd ps n ks (permL ix) (permL ix)) :
    KCalI C P' w K mg base k (.ref f) n ks (kiOf n ks.length ps.length ix g) := by
  intro X W pins s σ H us ws vs zs Q e1 e2 e3 e4 e5 tk hr I r rz ln h
  subst e1 e2 e3 e4 e5
  obtain ⟨F0, s0, ds, h1, h2, h3⟩ := h
  unfold kiOf at h3
  by_cases hl : ds.length = n + ks.length ∧ (permL ix ds []).length = ps.length
  case neg =>
    rw [if_neg hl] at h3
    exact h3.elim
  rw [if_pos hl] at h3
  have rp := repDs_perm h2 ix
  have le := RepDs.len _ _ h2
  rw [hl.1, List.length_append, ln] at le
  have l1 : us.length = n := by rw [← r.length]; exact ln
  have l2 : ws.length = ks.length := by rw [← rz.length]; omega
  have pe : permL ix (vs ++ zs) [] = permL ix vs zs := by unfold permL; rw [List.append_nil]
  have hsp : nArg ps.length (spI C g) (permL ix vs zs) H Q (WE W σ) := by
    rw [← pe]
    exact ⟨by rw [← RepDs.len _ _ rp]; exact hl.2, F0, s0, _, h1, rp, h3⟩
  refine wpAny_call (codeAny_mono (F.run X.A X.stack s H ⟨us, ks.zip ws⟩ (permL ix us ws) (permL ix vs zs) Q (WE W σ) hr I.env0 (hb.to s us ws I.kIn l1 l2) (hb.rel r rz) hsp) fun r s' hq => ?_)
  cases r with
  | error e => exact passAt tk σ pins H s e s' I hq
  | ok fl =>
    cases fl with
    | ret u => exact I.after hq
    | next => exact hq.elim
    | brk => exact hq.elim
    | cont => exact hq.elim
/-- a def -/
theorem kcal_fn {g : IFn} {ix : List Nat} (F : FnOk P' w K mg base (L2.CX P' w) k f fd ps (nArg ps.length (spI C g))) (hb : KBn K fd ps n ks (permL ix) (permL ix)) :
    KCal C P' w K mg base k (.ref f) n ks (kOf n ks.length ix fun xs => if xs.length = ps.length then pureOf g xs else .stuck) := by
  intro X W pins s σ H us ws vs zs Q e1 e2 e3 e4 e5 tk hr I r rz h
  subst e1 e2 e3 e4 e5
  obtain ⟨G, xs, ys, h1, h2, h3, h4⟩ := h
  unfold kOf at h4
  by_cases hl : xs.length = n ∧ ys.length = ks.length
  case neg =>
    rw [if_neg hl] at h4
    exact h4.elim
  rw [if_pos hl] at h4
  have rp := reps_perm h2 h3 ix
  have l1 : us.length = n := by rw [← r.length, ← RepPs.len xs vs h2]; exact hl.1
  have l2 : ws.length = ks.length := by rw [← rz.length, ← RepPs.len ys zs h3]; exact hl.2
  dsimp only at h4
  by_cases hp : (permL ix xs ys).length = ps.length
  case neg =>
    rw [if_neg hp] at h4
    exact h4.elim
  rw [if_pos hp] at h4
  have hsp : nArg ps.length (spI C g) (permL ix vs zs) H Q (WE W σ) := spP_I (g := g) ⟨by rw [← RepPs.len _ _ rp]; exact hp, G, permL ix xs ys, h1, rp, h4⟩
  refine wpAny_call (codeAny_mono (F.run X.A X.stack s H ⟨us, ks.zip ws⟩ (permL ix us ws) (permL ix vs zs) Q (WE W σ) hr I.env0 (hb.to s us ws I.kIn l1 l2) (hb.rel r rz) hsp) fun r s' hq => ?_)
  cases r with
  | error e => exact passAt tk σ pins H s e s' I hq
  | ok fl =>
    cases fl with
    | ret u => exact I.after hq
    | next => exact hq.elim
    | brk => exact hq.elim
    | cont => exact hq.elim
end
section
variable {C : CC} {P' : Program} {w : World} {K : PySem.W.Frag} {mg : Str → Option Value} {base : Heap} {k : Nat} {f : Addr} {fd : FuncData} {ps ks : List Str} {n : Nat}
/-- the promise of __init__ for a new thing -/
theorem make_sp {c : Nat} {g : IFn} {W : WX} {σ : L2.St} {H G : Hp} {xs : List P} {vs : List V} {Q : VK} {m : Nat} (kn : C.kn c = true) (h1 : Same G H) (app : RepPs C G xs vs) (h3 : match mkOf C.FT c m [] g xs with
  | .ok x => ∀ v G' H', Same G G' → Same G' H' → Frz G H G' H' → RepP C G' x v → Q v H'
  | .exc c x => ∀ dx G' H', Same G G' → Same G' H' → Frz G H G' H' → RepX C G' c x dx → WE W σ (.ref (C.CA c)) dx H'
  | .stuck => False) : ∀ x dx, H x = none → H dx = none → dx ≠ x → nArg m (spI C g) (.ref x :: vs) (upd (upd H dx (.own x)) x (.ins (C.CA c) dx [])) (fun v H2 => v = .non ∧ Q (.ref x) H2) (WE W σ) := by
    intro x dx nx nd hne
    unfold mkOf at h3
    simp only [List.append_nil] at h3
    by_cases hl : xs.length + 1 = m
    · rw [if_pos hl] at h3
      refine ⟨by rw [List.length_cons, reps_len app]; exact hl, ?_⟩
      have up : ∀ {a : Addr} {o : HO}, H a = some o → upd (upd H dx (.own x)) x (.ins (C.CA c) dx []) a = some o := fun {a o} e => by
        rw [upd_ne (ne_of_none e nx), upd_ne (ne_of_none e nd)]
        exact e
      have A0 : AtS C (fun a => if G a = none then H a else none) ⟨G, [x], [.live (.obj c [])]⟩ (upd (upd H dx (.own x)) x (.ins (C.CA c) dx [])) := by
        refine ⟨fun a o e => up (h1 a o e), rfl, fun n y e => ?_, fun n y e => ?_, fun n m y z a e1 e2 _ _ => ?_, fun a o e => ?_⟩
        · cases n with
          | zero => simp at e
          | succ n => simp at e
        · cases n with
          | zero =>
            simp only [List.getElem?_cons_zero, Option.some.injEq, Slot.live.injEq] at e
            subst e
            refine ⟨x, _, rfl, h1.free nx, ?_, upd_same, kn, by simp, dx, [], rfl, rfl⟩
            show (if G x = none then H x else none) = none
            rw [nx]
            split <;> rfl
          | succ n => simp at e
        · cases n with
          | zero => cases m with
            | zero => rfl
            | succ m => simp at e2
          | succ n => simp at e1
        · have e : (if G a = none then H a else none) = some o := e
          split at e
          · rename_i hn
            exact ⟨up e, hn⟩
          · cases e
      have frz : ∀ {s' : Sit} {H' : Hp}, AtS C (fun a => if G a = none then H a else none) s' H' → Frz G H s'.G H' := fun {s' H'} A a o ha hG => A.frm a o (by show (if G a = none then H a else none) = some o; rw [if_pos hG]; exact ha)
      refine ⟨_, _, .loc 0 :: xs.map D.p, A0, ⟨.ref x, vs, rfl, ⟨x, rfl, rfl⟩, repDs_p _ _ app⟩, ?_⟩
      dsimp only
      cases hg : g (.loc 0 :: xs.map D.p) [.live (.obj c [])] with
      | stuck =>
        rw [hg] at h3
        exact h3
      | exc c' y S =>
        rw [hg] at h3
        exact fun dz s' H' _ ex A r => h3 dz s'.G H' ex.G A.sub (frz A) r
      | ok d S =>
        rw [hg] at h3
        intro v s' H' hS ex A rv
        subst hS
        cases d with
        | loc n => exact h3.elim
        | cls n => exact h3.elim
        | p y =>
          cases y with
          | non =>
            dsimp only at h3
            simp only [RepD, RepP] at rv
            refine ⟨rv, ?_⟩
            cases q : s'.S[0]? with
            | none =>
              rw [q] at h3
              exact h3.elim
            | some sl =>
              rw [q] at h3
              cases sl with
              | fz z => exact h3.elim
              | live cl =>
                cases cl with
                | lst z => exact h3.elim
                | nst z => exact h3.elim
                | obj c' fs =>
                  dsimp only at h3
                  by_cases hc : c' = c
                  · subst hc
                    rw [if_pos rfl] at h3
                    cases qf : frzF (C.FT c') fs with
                    | none =>
                      rw [qf] at h3
                      exact h3.elim
                    | some ys =>
                      rw [qf] at h3
                      obtain ⟨a, o, k1, k2, k3, A2, ex2⟩ := A.freeze (z := .ob c' ys) q fun a o hn rc => by
                        obtain ⟨kk, _, dz, gs, ho, rf⟩ := rc
                        obtain ⟨ws, hw, hlen, hr⟩ := frzF_ok (C.FT c') fs gs qf rf
                        simp only [RepP]
                        exact ⟨kk, a, dz, ws, rfl, by rw [upd_same, ho, hw], hlen, RepPs.mono (Same.new hn) ys ws hr⟩
                      have ha : a = x := by
                        have z : s'.μ[0]? = some x := pre_get ex.μ (show ([x] : List Addr)[0]? = some x from rfl)
                        rw [z] at k1
                        exact (Option.some.inj k1).symm
                      subst ha
                      refine h3 (.ref a) _ H' (ex.G.trans ex2.G) A2.sub (frz A2) ?_
                      obtain ⟨b, j1, j2⟩ := A2.fzn 0 (.ob c' ys) (by show (s'.S.set 0 _)[0]? = _; rw [List.getElem?_set_self (List.getElem?_eq_some_iff.mp q).1])
                      rw [show s'.μ[0]? = some b from j1] at k1
                      cases k1
                      exact j2
                  · rw [if_neg hc] at h3
                    exact h3.elim
          | _ => exact h3.elim
    · rw [if_neg hl] at h3
      exact h3.elim
/-- a class; ix: the order of the parameters behind self -/
theorem kcal_make {c : Nat} {g : IFn} {ix : List Nat} (M : Mk K (C.CA c) f) (kn : C.kn c = true) (F : FnOk P' w K mg base (L2.CX P' w) k f fd ps (nArg ps.length (spI C g))) {gU : List Value → List Value → List Value} {gV : List V → List V → List V} (hb : KBn K fd ps (n + 1) ks gU gV)
    (hv : ∀ v vs zs, gV (v :: vs) zs = v :: permL ix vs zs) : KCal C P' w K mg base (k + 1) (.ref (C.CA c)) n ks (kOf n ks.length ix (mkOf C.FT c ps.length [] g)) := by
  intro X W pins s σ H us ws vs zs Q e1 e2 e3 e4 e5 tk hr I r rz h
  subst e1 e2 e3 e4 e5
  obtain ⟨G, xs, ys, h1, h2, h3, h4⟩ := h
  unfold kOf at h4
  by_cases hl : xs.length = n ∧ ys.length = ks.length
  case neg =>
    rw [if_neg hl] at h4
    exact h4.elim
  rw [if_pos hl] at h4
  have rp := reps_perm h2 h3 ix
  have made := make_sp kn h1 rp h4 (s.heap.objs.size + 1) s.heap.objs.size (I.hok.fresh (Nat.le_succ _)) (I.hok.fresh (Nat.le_refl _)) (Nat.ne_of_lt (Nat.lt_succ_self _))
  rw [← hv] at made
  have J := Inv.made (C := C.CA c) I
  have rs : Vals (V.ref (s.heap.objs.size + 1) :: vs) (Value.ref (s.heap.objs.size + 1) :: us) := .cons rfl r
  have nu : (Value.ref (s.heap.objs.size + 1) :: us).length = n + 1 := by rw [← rs.length, List.length_cons, ← RepPs.len xs vs h2, hl.1]
  have nw : ws.length = ks.length := by rw [← rz.length, ← RepPs.len ys zs h3, hl.2]
  refine wpAny_call (make_map (f := f) I.kIn M.makes M.init (beq_iff_eq.mp M.fn) (codeAny_mono (F.run _ X.stack _ _ ⟨_ :: us, ks.zip ws⟩ (gU (_ :: us) ws) _ _ (WE W σ) (hr.make (C.CA c) us (ks.zip ws)) (J.env0.make (C.CA c) us (ks.zip ws))
    (hb.to _ _ ws J.kIn nu nw) (hb.rel rs rz) made) fun r s' z => ?_))
  cases r with
  | ok fl =>
    cases fl with
    | ret u =>
      obtain ⟨v, H', I3, rv, ev, q3⟩ := J.after z
      subst ev
      exact ⟨rv, ⟨V.ref (s.heap.objs.size + 1), H', I3, rfl, q3⟩⟩
    | _ => exact False.elim z
  | error e => exact passAt tk σ pins _ _ e s' J z
end
section
variable {C : CC} {W : WX} {X : Cx} {k : Nat} {F : Hp} {Γ : Tab} {fo : DEnv → Sto → RE D} {o : Expr} {es : List Expr} {fs fs2 : DEnv → Sto → RE (List P)} {pos p apos : Pos}
theorem kw_args {kws : List Keyword} {env : Env} {ks : List Str} (h : kws.map Keyword.arg = ks.map some) : (backToKw pos (keywordEach kws env)).all (·.1.isSome) = true ∧ (backToKw pos (keywordEach kws env)).filterMap (·.1) = ks ∧ (backToKw pos (keywordEach kws env)).any (·.1.isNone) = false := by
  induction kws generalizing ks with
  | nil =>
    cases ks with
    | nil => exact ⟨rfl, rfl, rfl⟩
    | cons a b => cases h
  | cons kw kws ih =>
    cases ks with
    | nil => cases h
    | cons a b =>
      rw [List.map_cons, List.map_cons] at h
      obtain ⟨h1, h2⟩ := List.cons.inj h
      obtain ⟨q1, q2, q3⟩ := ih h2
      obtain ⟨nm, v, kp⟩ := kw
      have h1 : nm = some a := h1
      subst h1
      refine ⟨?_, ?_, ?_⟩
      · show (true && (backToKw pos (keywordEach kws env)).all (·.1.isSome)) = true
        rw [q1]
        rfl
      · show a :: (backToKw pos (keywordEach kws env)).filterMap (·.1) = a :: b
        rw [q2]
      · show (false || (backToKw pos (keywordEach kws env)).any (·.1.isNone)) = false
        rw [q3]
        rfl
theorem spK_of {g : KFn} {s : Sit} {σ : L2.St} {H : Hp} {xs ys : List P} {vs zs : List V} {Q : VK} (A : AtS C F s H) (r : RepPs C s.G xs vs) (r2 : RepPs C s.G ys zs) (h : WantE C W F (RepD C) σ s ((g xs ys).lift s.S) Q) : spK C g vs zs H Q (WE W σ) := by
  refine ⟨s.G, xs, ys, A.sub, r, r2, ?_⟩
  cases e : g xs ys with
  | ok x =>
    rw [e] at h
    intro v G' H' h1 h2 h3 hr
    obtain ⟨A', ex⟩ := A.call h1 h2 h3
    exact h ⟨G', s.μ, s.S⟩ H' rfl ex A' v hr
  | exc c x =>
    rw [e] at h
    intro dx G' H' h1 h2 h3 hr
    obtain ⟨A', ex⟩ := A.call h1 h2 h3
    exact h dx ⟨G', s.μ, s.S⟩ H' rfl ex A' hr
  | stuck =>
    rw [e] at h
    exact h
theorem k_nil : PK X [] (tAP C W F fun _ S => .ok [] S) := ⟨fun pos pins s σ H Q I ⟨δ, t, A, R, h⟩ => pk_nil.run pos pins s σ H Q I (h t H rfl (ExtS.refl t) A [] (by simp only [RepPs]))⟩
theorem k_cons {e : Expr} {kws : List Keyword} {nm : Option Str} {kpos : Pos} {fe : DEnv → Sto → RE D} (he : PE X e (tE C W F fe)) (hs : PK X kws (tAP C W F fs)) : PK X (⟨nm, e, kpos⟩ :: kws) (tAP C W F fun δ S => (fe δ S).bind fun d S1 => (purify d S1).bind fun x S2 => (fs δ S2).bind fun xs S3 => .ok (x :: xs) S3) := by
  refine ⟨fun pos pins s σ H Q I ⟨δ, t, A, R, h⟩ => (pk_cons he hs).run pos pins s σ H Q I ?_⟩
  refine ⟨δ, t, A, R, Wt.imp (Wt.bind h) fun d s1 H1 _ e1 A1 h1 v r1 => ?_⟩
  obtain ⟨x, s2, e2, A2, r2, h2⟩ := Wt.pur A1 r1 h1
  refine ⟨δ, s2, A2, R.mono (e1.trans e2), Wt.imp (Wt.bind h2) fun xs s3 H3 _ e3 A3 h3 vs r3 => ?_⟩
  refine h3 s3 H3 rfl (ExtS.refl s3) A3 (v :: vs) ?_
  simp only [RepPs]
  exact ⟨v, vs, rfl, RepP.mono e3.G x v r2, r3⟩
theorem kw_run (sp : Spot C W X k) {u : Value} {g : KFn} {n : Nat} {ks : List Str} {kws : List Keyword} (cal : KCal C X.prog X.w X.K X.mg X.base k u n ks g) (hks : kws.map Keyword.arg = ks.map some) (hb : PK X kws (tAP C W F fs2))
    {pins : List (Addr × Obj)} {σ : L2.St} {H1 : Hp} {s1 : Shared} {Q : VK} {us : List Value} {vs : List V} {d : List P} {t1 : Sit} {δ : DEnv} (I1 : Inv X pins σ H1 s1) (rv : Vals vs us) (A1 : AtS C F t1 H1) (R1 : RepS C t1 δ σ) (r1 : RepPs C t1.G d vs)
    (w1 : WantE C W F (RepD C) σ t1 ((fs2 δ t1.S).bind fun ys S2 => (g d ys).lift S2) Q) :
    wpAny (model X.prog X.w) X.A (evalAll ((backToKw pos (keywordEach kws X.env)).map (·.2))) (fun ws s2 => X.K.In s2.heap ∧ wpAny (model X.prog X.w) X.A (call u us (((backToKw pos (keywordEach kws X.env)).filterMap (·.1)).zip ws)) (EP X pins σ Q) X.xe s2) X.xe s1 := by
  obtain ⟨a1, a2, a3⟩ := kw_args (pos := pos) (env := X.env) hks
  have rd2 : tAP C W F fs2 σ H1 _ := ⟨δ, t1, A1, R1, Wt.thenA (Rel := fun s => RepPs C s.G) R1 w1⟩
  refine thn (hb.run pos pins s1 σ H1 _ I1 rd2) fun ws s2 hh => ?_
  obtain ⟨zs, H2, I2, rz, ys, t2, e2, A2, R2, r2, w2⟩ := hh
  refine ⟨I2.kIn, ?_⟩
  rw [a2]
  exact cal X W pins s2 σ H2 us ws vs zs Q rfl rfl rfl rfl rfl sp.tk (sp.hr.mono (Nat.le_add_right _ _)) I2 rv rz (spK_of A2 (RepPs.mono e2.G d vs r1) r2 w2)
theorem x_kcall0 (sp : Spot C W X k) {x : Str} {u : Value} {g : KFn} {n : Nat} {ks : List Str} {kws : List Keyword} (hg : Gl X x) (hm : X.mg x = some u) (hk : PySem.W.keepIn X.K u = true) (cal : KCal C X.prog X.w X.K X.mg X.base k u n ks g) (hd : (x == ("__debug__" : Str)) = false)
    (hks : kws.map Keyword.arg = ks.map some) (hb : PK X kws (tAP C W F fs2)) :
    PE X (.Call (.Name x p) [] kws pos) (tE C W F fun δ S => (RE.ok ([] : List P) S).bind fun xs S1 => (fs2 δ S1).bind fun ys S2 => (g xs ys).lift S2) := by
  refine ⟨fun pins s σ H Q I h => wpAny_Call_Name_kw (ld_glob I hg hm ?_ hd)⟩
  obtain ⟨δ, s0, A, R, hw⟩ := h
  obtain ⟨a1, a2, a3⟩ := kw_args (pos := pos) (env := X.env) hks
  exact PySem.W.callWith_KW0 (first := []) (h₀ := X.base) I.ok.mod.kin hk a1 (kw_run sp cal hks hb (us := []) (vs := []) I .nil A R (by simp only [RepPs]) hw) (by rw [a3]; rfl)
theorem x_kcall (sp : Spot C W X k) {x : Str} {u : Value} {g : KFn} {n : Nat} {ks : List Str} {kws : List Keyword} {e : Expr} (hg : Gl X x) (hm : X.mg x = some u) (hk : PySem.W.keepIn X.K u = true) (cal : KCal C X.prog X.w X.K X.mg X.base k u n ks g) (hd : (x == ("__debug__" : Str)) = false)
    (hks : kws.map Keyword.arg = ks.map some) (hs : (e :: es).all notStar = true) (ha : PA X (e :: es) (tAP C W F fs)) (hb : PK X kws (tAP C W F fs2)) :
    PE X (.Call (.Name x p) (e :: es) kws pos) (tE C W F fun δ S => (fs δ S).bind fun xs S1 => (fs2 δ S1).bind fun ys S2 => (g xs ys).lift S2) := by
  refine ⟨fun pins s σ H Q I h => wpAny_Call_Name_kw (ld_glob I hg hm ?_ hd)⟩
  obtain ⟨δ, s0, A, R, hw⟩ := h
  obtain ⟨a1, a2, a3⟩ := kw_args (pos := pos) (env := X.env) hks
  have rd : tAP C W F fs σ H _ := ⟨δ, s0, A, R, Wt.thenA (Rel := fun s => RepPs C s.G) R hw⟩
  have hs' := hs
  simp only [List.all_cons, Bool.and_eq_true] at hs'
  refine PySem.W.callWith_KW (first := []) (h₀ := X.base) I.ok.mod.kin hk a1 (thn (ha.run pos pins s σ H _ I rd) fun us s1 q => ?_) (by rw [a3, Bool.or_false]; exact star_none hs) (star_cons hs'.1)
  obtain ⟨vs, H1, I1, rv, d, t1, e1, A1, R1, r1, w1⟩ := q
  exact kw_run sp cal hks hb I1 rv A1 R1 r1 w1
theorem kw_runI (sp : Spot C W X k) {u : Value} {g : IFn} {n : Nat} {ks : List Str} {kws : List Keyword} (cal : KCalI C X.prog X.w X.K X.mg X.base k u n ks g) (hks : kws.map Keyword.arg = ks.map some) (hb : PK X kws (tAP C W F fs2))
    {pins : List (Addr × Obj)} {σ : L2.St} {H1 : Hp} {s1 : Shared} {Q : VK} {us : List Value} {vs : List V} {d : List P} {t1 : Sit} {δ : DEnv} (I1 : Inv X pins σ H1 s1) (rv : Vals vs us) (A1 : AtS C F t1 H1) (R1 : RepS C t1 δ σ) (r1 : RepPs C t1.G d vs)
    (w1 : WantE C W F (RepD C) σ t1 ((fs2 δ t1.S).bind fun ys S2 => if d.length = n then freshG (g ((d ++ ys).map D.p) []) S2 else .stuck) Q) :
    wpAny (model X.prog X.w) X.A (evalAll ((backToKw pos (keywordEach kws X.env)).map (·.2))) (fun ws s2 => X.K.In s2.heap ∧ wpAny (model X.prog X.w) X.A (call u us (((backToKw pos (keywordEach kws X.env)).filterMap (·.1)).zip ws)) (EP X pins σ Q) X.xe s2) X.xe s1 := by
  obtain ⟨a1, a2, a3⟩ := kw_args (pos := pos) (env := X.env) hks
  have rd2 : tAP C W F fs2 σ H1 _ := ⟨δ, t1, A1, R1, Wt.thenA (Rel := fun s => RepPs C s.G) R1 w1⟩
  refine thn (hb.run pos pins s1 σ H1 _ I1 rd2) fun ws s2 hh => ?_
  obtain ⟨zs, H2, I2, rz, ys, t2, e2, A2, R2, r2, w2⟩ := hh
  refine ⟨I2.kIn, ?_⟩
  rw [a2]
  by_cases hn : d.length = n
  case neg =>
    rw [if_neg hn] at w2
    exact w2.elim
  rw [if_pos hn] at w2
  exact cal X W pins s2 σ H2 us ws vs zs Q rfl rfl rfl rfl rfl sp.tk (sp.hr.mono (Nat.le_add_right _ _)) I2 rv rz (by rw [← RepPs.len d vs r1]; exact hn) (spI_fresh A2 (reps_app d vs (RepPs.mono e2.G d vs r1) r2) w2)
theorem x_fkcall (sp : Spot C W X k) {x : Str} {u : Value} {g : IFn} {n : Nat} {ks : List Str} {kws : List Keyword} {e : Expr} (hg : Gl X x) (hm : X.mg x = some u) (hk : PySem.W.keepIn X.K u = true) (cal : KCalI C X.prog X.w X.K X.mg X.base k u n ks g) (hd : (x == ("__debug__" : Str)) = false)
    (hks : kws.map Keyword.arg = ks.map some) (hs : (e :: es).all notStar = true) (ha : PA X (e :: es) (tAP C W F fs)) (hb : PK X kws (tAP C W F fs2)) :
    PE X (.Call (.Name x p) (e :: es) kws pos) (tE C W F fun δ S => (fs δ S).bind fun xs S1 => (fs2 δ S1).bind fun ys S2 => if xs.length = n then freshG (g ((xs ++ ys).map D.p) []) S2 else .stuck) := by
  refine ⟨fun pins s σ H Q I h => wpAny_Call_Name_kw (ld_glob I hg hm ?_ hd)⟩
  obtain ⟨δ, s0, A, R, hw⟩ := h
  obtain ⟨a1, a2, a3⟩ := kw_args (pos := pos) (env := X.env) hks
  have rd : tAP C W F fs σ H _ := ⟨δ, s0, A, R, Wt.thenA (Rel := fun s => RepPs C s.G) R hw⟩
  have hs' := hs
  simp only [List.all_cons, Bool.and_eq_true] at hs'
  refine PySem.W.callWith_KW (first := []) (h₀ := X.base) I.ok.mod.kin hk a1 (thn (ha.run pos pins s σ H _ I rd) fun us s1 q => ?_) (by rw [a3, Bool.or_false]; exact star_none hs) (star_cons hs'.1)
  obtain ⟨vs, H1, I1, rv, d, t1, e1, A1, R1, r1, w1⟩ := q
  exact kw_runI sp cal hks hb I1 rv A1 R1 r1 w1
/-! ### methods -/
theorem x_fmeth (sp : Spot C W X k) (gm : GoodI C X.prog X.w X.K X.mg X.base k Γ) {m : Nat} {x : Str} (hx : C.NM m = x) (hb : plainBase o = true) (hs : es.all notStar = true) (hn : es.length < 29) (hl : (apos.endLine == pos.line) = true) (ho : PE X o (tE C W F fo)) (ha : PA X es (tAP C W F fs)) :
    PE X (.Call (.Attribute o x apos) es [] pos) (tE C W F fun δ S => (fo δ S).bind fun d S1 => methF Γ m d (fs δ) S1) := by
  subst hx
  refine ⟨fun pins s σ H Q I h => ?_⟩
  obtain ⟨δ, s0, A, R, hw⟩ := h
  refine PySem.W.methodCall_KW (thn (ho.run pins s σ H _ I (tE.then A R hw)) fun u s1 ⟨y, H1, I1, ry, d, t1, e1, A1, R1, r1, w1⟩ => ?_) (meth_form hb hs hn hl)
  cases d with
  | p z =>
    cases z with
    | ob c ys =>
      have r1' := r1
      simp only [RepD, RepP] at r1'
      obtain ⟨hc, q, dx, vs, rfl, hq, hlen, rr⟩ := r1'
      cases ry
      have cf := sp.cf.one c hc
      rw [sp.hk] at cf
      cases hg : Γ.imeth c m with
      | none =>
        simp only [methF, hg] at w1
        exact w1.elim
      | some g =>
        simp only [methF, hg] at w1
        have rd : tAP C W F fs σ H1 _ := ⟨δ, t1, A1, R1, Wt.thenA (Rel := fun s => RepPs C s.G) R1 w1⟩
        obtain ⟨f, M, nf, cal⟩ := gm c m g hg
        have ln : ((((C.FT c).map C.NM).zip vs)).lookup (C.NM m) = none := zip_none _ vs fun g' hg' => by
          obtain ⟨j, hj, rfl⟩ := List.mem_map.mp hg'
          exact nf j hj
        refine getmeth_ok I1 (A1.sub _ _ hq) cf.cl M ln ?_
        have run : ∀ us s2, AP X pins σ (fun ws H2 => ∃ d s2, ExtS t1 s2 ∧ AtS C F s2 H2 ∧ RepS C s2 δ σ ∧ RepPs C s2.G d ws ∧ WantE C W F (RepD C) σ s2 (freshG (g ((P.ob c ys :: d).map D.p) []) s2.S) Q) us s2 → wpAny (model X.prog X.w) X.A (call (.ref f) (.ref q :: us)) (EP X pins σ Q) X.xe s2 := by
          rintro us s2 ⟨ws, H2, I2, rv, d, t2, e2, A2, R2, r2, w2⟩
          refine wpAny_call (cal X W X.A pins s2 σ H2 (.ref q :: us) (.ref q :: ws) Q rfl rfl rfl rfl rfl sp.tk (sp.hr.mono (Nat.le_add_right _ _)) rfl I2 (.cons rfl rv) (spI_fresh A2 ?_ w2))
          simp only [RepPs]
          exact ⟨.ref q, ws, rfl, RepP.mono e2.G _ _ r1, r2⟩
        cases es with
        | nil =>
          refine PySem.W.callWith_K0 (first := [.ref q]) I1.kIn M.kp ?_
          have z := ha.run pos pins s1 σ H1 _ I1 rd
          have z' : wpAny (model X.prog X.w) X.A (pure []) (AP X pins σ _) X.xe s1 := z
          exact wpAny_bind (f := fun us => call (.ref f) (.ref q :: us)) (wpAny_mono z' (fun us s2 q => run us s2 q) fun _ _ z => z)
        | cons e es =>
          simp only [List.all_cons, Bool.and_eq_true] at hs
          refine PySem.W.callWith_K (first := [.ref q]) (h₀ := X.base) I.ok.mod.kin M.kp (thn (ha.run pos pins s1 σ H1 _ I1 rd) fun us s2 qq => ⟨?_, ?_⟩) (star_cons hs.1) (star_none hs.2)
          · obtain ⟨_, _, I2, _⟩ := qq
            exact I2.kIn
          · exact run us s2 qq
    | _ => exact w1.elim
  | _ => exact w1.elim
theorem meth_formK {env : Env} {m : Str} {kws : List Keyword} (hb : plainBase o = true) (ha : (backToKw pos (keywordEach kws env)).all (·.1.isSome) = true) (hn : kws.length < 29) (hl : (apos.endLine == pos.line) = true) :
    eval (.Call (.Attribute o m apos) [] kws pos) env = (do
      let ov ← eval o env
      standAt apos.atName
      let (f, first) ← holding [ov] (getMethod ov m (do return (← importBound o env).getD true))
      callWith pos f first (backTo pos (starEach [] env)) (backToKw pos (keywordEach kws env))) := by
  have few : methodCallForm (([] : List Expr).length + kws.length) (backTo pos (starEach [] env)) (backToKw pos (keywordEach kws env)) = true := by
    unfold methodCallForm
    rw [ha]
    simp [backTo, starEach]
    split <;> omega
  show (attributeBase o m env (eval o env) >>= fun ov => standAt apos.atName >>= fun _ => methodCall o m apos pos env ov (([] : List Expr).length + kws.length) (backTo pos (starEach [] env)) (backToKw pos (keywordEach kws env))) = _
  rw [base_plain hb]
  unfold methodCall calleeOf methodCallPos
  rw [few, hl]
  rfl
theorem x_kmeth (sp : Spot C W X k) (gm : GoodK C X.prog X.w X.K X.mg X.base k Γ) {m : Nat} {x : Str} {ks : List Str} {kws : List Keyword} (hx : C.NM m = x) (hb : plainBase o = true) (hks : kws.map Keyword.arg = ks.map some) (hn : kws.length < 29) (hl : (apos.endLine == pos.line) = true) (ho : PE X o (tE C W F fo)) (ha : PK X kws (tAP C W F fs)) :
    PE X (.Call (.Attribute o x apos) [] kws pos) (tE C W F fun δ S => (fo δ S).bind fun d S1 => methK Γ m ks d (fs δ) S1) := by
  subst hx
  refine ⟨fun pins s σ H Q I h => ?_⟩
  obtain ⟨δ, s0, A, R, hw⟩ := h
  obtain ⟨a1, a2, a3⟩ := kw_args (pos := pos) (env := X.env) hks
  refine PySem.W.methodCall_KW (thn (ho.run pins s σ H _ I (tE.then A R hw)) fun u s1 ⟨y, H1, I1, ry, d, t1, e1, A1, R1, r1, w1⟩ => ?_) (meth_formK hb a1 hn hl)
  cases d with
  | p z =>
    cases z with
    | ob c ys =>
      have r1' := r1
      simp only [RepD, RepP] at r1'
      obtain ⟨hc, q, dx, vs, rfl, hq, hlen, rr⟩ := r1'
      cases ry
      have cf := sp.cf.one c hc
      rw [sp.hk] at cf
      cases hg : Γ.kmeth c m ks with
      | none =>
        simp only [methK, hg] at w1
        exact w1.elim
      | some g =>
        simp only [methK, hg] at w1
        obtain ⟨f, M, nf, cal⟩ := gm c m ks g hg
        have ln : ((((C.FT c).map C.NM).zip vs)).lookup (C.NM m) = none := zip_none _ vs fun g' hg' => by
          obtain ⟨j, hj, rfl⟩ := List.mem_map.mp hg'
          exact nf j hj
        refine getmeth_ok I1 (A1.sub _ _ hq) cf.cl M ln ?_
        refine PySem.W.callWith_KW0 (first := [.ref q]) (h₀ := X.base) I1.ok.mod.kin M.kp a1 ?_ (by rw [a3]; rfl)
        exact kw_run (u := .ref f) (n := 1) sp cal hks ha (us := [.ref q]) (vs := [.ref q]) (d := [.ob c ys]) I1 (.cons rfl .nil) A1 R1 (by simp only [RepPs]; exact ⟨.ref q, [], rfl, r1, rfl⟩) w1
    | _ => exact w1.elim
  | _ => exact w1.elim
end
end RP
end

section
set_option Elab.async false
set_option linter.all false
set_option maxRecDepth 100000
set_option maxHeartbeats 4000000
/-! Texts in parts, f-strings, a class called by a local name, classmethods. -/
namespace RP
open PySem L2 PySem.Spec PyProof.Rows ClX
section
variable {C : CC} {W : WX} {X : Cx} {k : Nat} {Γ : Tab} {F : Hp} {a b e o : Expr} {es : List Expr} {fa fb : DEnv → Sto → RE D} {fs : DEnv → Sto → RE (List P)} {pos p apos : Pos}
theorem reps_txts (G : Hp) : ∀ l : List Str, RepPs C G (l.map P.str) (l.map V.str)
  | [] => by simp [RepPs]
  | z :: l => by
    simp only [List.map_cons, RepPs]
    exact ⟨_, _, rfl, by simp only [RepP], reps_txts G l⟩
theorem x_spl (ha : PE X a (tE C W F fa)) (hb : PE X b (tE C W F fb)) (hpb : plainBase a = true) (hnb : notStar b = true) (hl : (apos.endLine == pos.line) = true) :
    PE X (.Call (.Attribute a "split" apos) [b] [] pos) (tE C W F fun δ S => (fa δ S).bind fun d1 S1 => match d1 with
      | .p (.str x) => (fb δ S1).bind fun d2 S2 => match d2 with
        | .p (.str y) => splR x y S2
        | _ => .stuck
      | _ => .stuck) := by
  refine PE.imp (pe_split ha hb (by rw [star_cons hnb]; rfl) (base_plain hpb) hl) fun σ H Q ⟨δ, s, A, R, h⟩ => ?_
  refine ⟨δ, s, A, R, Wt.imp (Wt.bind h) fun d1 s1 H1 _ e1 A1 h1 v r1 => ?_⟩
  cases d1 with
  | p u =>
    cases u with
    | str x =>
      simp only [RepD, RepP] at r1
      subst r1
      refine ⟨⟨x, rfl⟩, δ, s1, A1, R.mono e1, Wt.imp (Wt.bind h1) fun d2 s2 H2 _ e2 A2 h2 w r2 => ?_⟩
      cases d2 with
      | p u =>
        cases u with
        | str y =>
          simp only [RepD, RepP] at r2
          subst r2
          have h2' : WantE C W F (RepD C) σ s2 (splR x y s2.S) Q := h2
          unfold splR at h2'
          split at h2'
          · rename_i hm
            simp only [Bool.and_eq_true, decide_eq_true_eq] at hm
            refine ⟨x, y, rfl, rfl, by simpa using hm.1, ?_, fun p hp => want_lst A2 (reps_txts _ _) h2' p hp⟩
            have := sizeLine_big
            omega
          · exact h2'.elim
        | _ => exact h2.elim
      | _ => exact h2.elim
    | _ => exact h1.elim
  | _ => exact h1.elim
theorem int_textX {i : Int} (h : i.natAbs.log2 < 1920) : (PySem.Str.ofString (toString i)).length ≤ 1921 := by
  rw [PySem.ofString_length]
  exact PySem.int_text_length_le (k := 1920) (by decide) h
theorem fmt_ok {s : Sit} {d : D} {v : V} {y : Str} (r : RepD C s d v) (h : fmtD d = some y) : y.length ≤ 100000 ∧ ((v = .str y ∧ y.length ≤ sizeLine) ∨ ∃ i : Int, v = .int i ∧ i.natAbs.log2 < 1920 ∧ y = Str.ofString (toString i)) := by
  unfold fmtD at h
  split at h
  · split at h
    · rename_i hm
      simp only [RepD, RepP] at r
      have := sizeLine_big
      have hm' := of_decide_eq_true hm
      cases h
      exact ⟨hm', .inl ⟨r, by omega⟩⟩
    · cases h
  · split at h
    · rename_i hm
      simp only [RepD, RepP] at r
      have hm' := of_decide_eq_true hm
      cases h
      have := int_textX hm'
      exact ⟨by omega, .inr ⟨_, r, hm', rfl⟩⟩
    · cases h
  · cases h
theorem str_len_app (a b : Str) : (a ++ b).length = a.length + b.length := by
  show (a.cps ++ b.cps).size = _
  rw [Array.size_append]
  rfl
theorem x_fs3 {z : Str} {j : Nat} {q1 q2 q3 : Pos} (hz : z.length ≤ 1000) (ha : PE X a (tE C W F fa)) (hb : PE X b (tE C W F fb)) :
    PE X (.JoinedStr [.FormattedValue a (-1) none q1, .Constant (.str z) j q2, .FormattedValue b (-1) none q3] pos) (tE C W F fun δ S => (fa δ S).bind fun d1 S1 => match fmtD d1 with
      | some x => (fb δ S1).bind fun d2 S2 => match fmtD d2 with
        | some y => fs3R x z y S2
        | none => .stuck
      | none => .stuck) := by
  refine PE.imp (pe_joined (.cons (pe_fmt ha) (.cons (pe_str (x := z)) (.cons (pe_fmt hb) .nil)))) fun σ H Q ⟨δ, s, A, R, h⟩ => ?_
  refine ⟨δ, s, A, R, Wt.imp (Wt.bind h) fun d1 s1 H1 _ e1 A1 h1 v r1 => ?_⟩
  have big := sizeLine_big
  cases q1' : fmtD d1 with
  | none =>
    rw [q1'] at h1
    exact h1.elim
  | some x =>
    rw [q1'] at h1
    obtain ⟨lx, hv⟩ := fmt_ok r1 q1'
    have rest : (Str.empty ++ x).length ≤ sizeLine ∧ tJs [tC (.str z), tFmt (tE C W F fb)] (Str.empty ++ x) σ H1 fun out H1 => Q (.str out) H1 := by
      rw [Str.empty_append]
      refine ⟨by omega, z, rfl, by rw [str_len_app]; omega, ?_⟩
      refine ⟨δ, s1, A1, R.mono e1, Wt.imp (Wt.bind h1) fun d2 s2 H2 _ e2 A2 h2 w r2 => ?_⟩
      cases q2' : fmtD d2 with
      | none =>
        rw [q2'] at h2
        exact h2.elim
      | some y =>
        rw [q2'] at h2
        obtain ⟨ly, hw⟩ := fmt_ok r2 q2'
        have h2' : WantE C W F (RepD C) σ s2 (fs3R x z y s2.S) Q := h2
        unfold fs3R at h2'
        split at h2'
        · rename_i hm
          simp only [Bool.and_eq_true, decide_eq_true_eq] at hm
          have fin : (x ++ z ++ y).length ≤ sizeLine ∧ Q (.str (x ++ z ++ y)) H2 := ⟨by omega, want_str A2 h2'⟩
          rcases hw with ⟨rfl, hl⟩ | ⟨i, rfl, hl, rfl⟩
          · exact .inl ⟨y, rfl, hl, y, rfl, fin.1, fin.2⟩
          · exact .inr ⟨i, rfl, hl, _, rfl, fin.1, fin.2⟩
        · exact h2'.elim
    rcases hv with ⟨rfl, hl⟩ | ⟨i, rfl, hl, rfl⟩
    · exact .inl ⟨x, rfl, hl, x, rfl, rest.1, rest.2⟩
    · exact .inr ⟨i, rfl, hl, _, rfl, rest.1, rest.2⟩
/-- a class that a local name holds is called -/
theorem x_lcall (sp : Spot C W X k) {i c : Nat} {x : Str} {g : PFn} (hN : X.N[i]? = some x) (hv : Vis X.env.scope x) (hk : PySem.W.keepIn X.K (.ref (C.CA c)) = true) (cal : Cal C X.prog X.w X.K X.mg X.base k (.ref (C.CA c)) g) (hdb : (x == ("__debug__" : Str)) = false) (hcd : (x == ("__classdict__" : Str)) = false) (hs : es.all notStar = true) (ha : PA X es (tAP C W F fs)) :
    PE X (.Call (.Name x p) es [] pos) (tE C W F fun δ S => match δ[i]? with
      | some (some (.cls c')) => if c' = c then ((fs δ S).bind fun xs S1 => (g xs).lift S1) else .stuck
      | _ => .stuck) := by
  refine ⟨fun pins s σ H Q I h => ?_⟩
  obtain ⟨δ, s0, A, R, hw⟩ := h
  dsimp only at hw
  cases hi : δ[i]? with
  | none =>
    rw [hi] at hw
    exact hw.elim
  | some od =>
    rw [hi] at hw
    cases od with
    | none => exact hw.elim
    | some d =>
      cases d with
      | cls c' =>
        dsimp only at hw
        by_cases ec : c' = c
        · subst ec
          rw [if_pos rfl] at hw
          have hσ : σ[i]? = some (some (.ref (C.CA c'))) := by
            obtain ⟨v, hv1, hv2⟩ := R.2 i _ hi
            simp only [RepD] at hv2
            rw [hv1, hv2]
          refine wpAny_Call_Name_kw (thn ((pe_var (pos := p) hN hv hdb hcd).run pins s σ H (fun v H1 => v = .ref (C.CA c') ∧ H1 = H) I ⟨.ref (C.CA c'), hσ, rfl, rfl⟩) fun u s1 ⟨v, H1, I1, r1, q1⟩ => ?_)
          obtain ⟨rfl, rfl⟩ := q1
          cases r1
          have rd : tAP C W F fs σ H1 _ := ⟨δ, s0, A, R, Wt.thenA (Rel := fun s => RepPs C s.G) R hw⟩
          have run : ∀ us s2, AP X pins σ (fun vs H1 => ∃ d s1, ExtS s0 s1 ∧ AtS C F s1 H1 ∧ RepS C s1 δ σ ∧ RepPs C s1.G d vs ∧ WantE C W F (RepD C) σ s1 ((g d).lift s1.S) Q) us s2 → wpAny (model X.prog X.w) X.A (call (.ref (C.CA c')) us) (EP X pins σ Q) X.xe s2 := by
            rintro us s2 ⟨vs, H1, I1, rv, d, t1, e1, A1, R1, r1, w1⟩
            exact cal_run sp cal (sp.hr.mono (Nat.le_add_right _ _)) rfl I1 A1 r1 rv w1
          cases es with
          | nil =>
            refine PySem.W.callWith_K0 I1.kIn hk ?_
            have z := ha.run pos pins s1 σ H1 _ I1 rd
            have z' : wpAny (model X.prog X.w) X.A (pure []) (AP X pins σ _) X.xe s1 := z
            exact wpAny_bind (f := fun us => call (.ref (C.CA c')) us) (wpAny_mono z' (fun us s1 q => run us s1 q) fun _ _ z => z)
          | cons e es =>
            simp only [List.all_cons, Bool.and_eq_true] at hs
            refine PySem.W.callWith_K (h₀ := X.base) I1.ok.mod.kin hk (thn (ha.run pos pins s1 σ H1 _ I1 rd) fun us s2 q => ⟨?_, ?_⟩) (star_cons hs.1) (star_none hs.2)
            · obtain ⟨_, _, I2, _⟩ := q
              exact I2.kIn
            · exact run us s2 q
        · rw [if_neg ec] at hw
          exact hw.elim
      | _ => exact hw.elim
theorem repds_ps {s : Sit} : ∀ (xs : List P) (vs : List V), RepPs C s.G xs vs → RepDs C s (xs.map D.p) vs
  | [], vs, h => by
    simp only [RepPs] at h
    simp only [List.map_nil, RepDs]
    exact h
  | x :: xs, vs, h => by
    simp only [RepPs] at h
    obtain ⟨v, ws, rfl, h1, h2⟩ := h
    simp only [List.map_cons, RepDs]
    exact ⟨v, ws, rfl, by simp only [RepD]; exact h1, repds_ps xs ws h2⟩
/-- a classmethod, by its class's name -/
theorem x_cmeth (sp : Spot C W X k) {c : Nat} {y x : Str} {g : IFn} {mc : Value} {pp f : Addr} (hg : Gl X y) (hm : X.mg y = some (.ref (C.CA c))) (hd : (y == ("__debug__" : Str)) = false) (r : CRead X.K (C.CA c) mc) (cm : CMet X.K (C.CA c) mc x pp f) (cal : CalI C X.prog X.w X.K X.mg X.base k (.ref f) g)
    (hs : (e :: es).all notStar = true) (hn : (e :: es).length < 29) (hl : (apos.endLine == pos.line) = true) (ha : PA X (e :: es) (tAP C W F fs)) :
    PE X (.Call (.Attribute (.Name y p) x apos) (e :: es) [] pos) (tE C W F fun δ S => (fs δ S).bind fun xs S1 => g (.cls c :: xs.map .p) S1) := by
  refine ⟨fun pins s σ H Q I h => ?_⟩
  obtain ⟨δ, s0, A, R, hw⟩ := h
  have rd : tAP C W F fs σ H _ := ⟨δ, s0, A, R, Wt.thenA (Rel := fun s => RepPs C s.G) R hw⟩
  have hs' := hs
  simp only [List.all_cons, Bool.and_eq_true] at hs'
  refine PySem.W.methodCall_KW (ld_glob I hg hm ?_ hd) (meth_form (o := .Name y p) rfl hs hn hl)
  refine getmethcm_ok I r cm fun s2 I2 => ?_
  refine callwith_cm I2 (base_none I (Nat.le_refl _)) cm.fi (thn (ha.run pos _ s2 σ H _ I2 rd) fun us s3 ⟨vs, H2, I3, rv, d, t1, e1, A1, R1, r1, w1⟩ => ⟨⟨pin_at I3, I3.kIn⟩, ?_⟩) (star_cons hs'.1) (star_none hs'.2)
  have rr : RepDs C t1 (.cls c :: d.map .p) (.ref (C.CA c) :: vs) := by
    simp only [RepDs]
    exact ⟨.ref (C.CA c), vs, rfl, by simp only [RepD], repds_ps d vs r1⟩
  have z : wpAny (model X.prog X.w) X.A (call (.ref s.heap.objs.size) us) (EP X _ σ Q) X.xe s3 :=
    wpAny_call (PySem.W.method_call (pin_at I3) (cal X W X.A _ s3 σ H2 (.ref (C.CA c) :: us) (.ref (C.CA c) :: vs) Q rfl rfl rfl rfl rfl sp.tk (sp.hr.mono (Nat.le_add_right _ _)) rfl I3 (.cons rfl rv) (spI_of A1 rr w1)))
  exact thn z fun _ _ y => unpinE y
end
/-- called with n values and keywords, the values being anything (a class) -/
def KCalC (C : CC) (Pr : Program) (w : World) (K : PySem.W.Frag) (mg : Str → Option Value) (base : Heap) (k : Nat) (u : Value) (n : Nat) (ks : List Str) (g : IFn) : Prop :=
  ∀ (X : Cx) (W : WX) (pins : List (Addr × Obj)) (s : Shared) (σ : L2.St) (H : Hp) (us ws : List Value) (vs zs : List V) (Q : VK),
    X.prog = Pr → X.w = w → X.K = K → X.mg = mg → X.base = base → Takes X W → Room k X.A → Inv X pins σ H s → Vals vs us → Vals zs ws → vs.length = n → spI C g (vs ++ zs) H Q (WE W σ) →
    codeAny (model X.prog X.w) X.A (.call u ⟨us, ks.zip ws⟩) (wants (EP X pins σ Q) X.xe) s
section
variable {C : CC} {P' : Program} {w : World} {K : PySem.W.Frag} {mg : Str → Option Value} {base : Heap} {k j : Nat} {f : Addr} {fd : FuncData} {ps ks : List Str} {u : Value} {n : Nat}
theorem KCalC.mono {gi : IFn} (h : KCalC C P' w K mg base k u n ks gi) (hk : k ≤ j) : KCalC C P' w K mg base j u n ks gi := fun X W pins s σ H us ws vs zs Q e1 e2 e3 e4 e5 tk r => h X W pins s σ H us ws vs zs Q e1 e2 e3 e4 e5 tk (r.mono hk)
theorem kcalc_fn {g : IFn} {ix : List Nat} (F : FnOk P' w K mg base (L2.CX P' w) k f fd ps (nArg ps.length (spI C g))) (hb : KBn K fd ps n ks (permL ix) (permL ix)) :
    KCalC C P' w K mg base k (.ref f) n ks (kiOf n ks.length ps.length ix g) := by
  intro X W pins s σ H us ws vs zs Q e1 e2 e3 e4 e5 tk hr I r rz ln h
  subst e1 e2 e3 e4 e5
  obtain ⟨F0, s0, ds, h1, h2, h3⟩ := h
  unfold kiOf at h3
  by_cases hl : ds.length = n + ks.length ∧ (permL ix ds []).length = ps.length
  case neg =>
    rw [if_neg hl] at h3
    exact h3.elim
  rw [if_pos hl] at h3
  have rp := repDs_perm h2 ix
  have le := RepDs.len _ _ h2
  rw [hl.1, List.length_append, ln] at le
  have l1 : us.length = n := by rw [← r.length]; exact ln
  have l2 : ws.length = ks.length := by rw [← rz.length]; omega
  have pe : permL ix (vs ++ zs) [] = permL ix vs zs := by unfold permL; rw [List.append_nil]
  have hsp : nArg ps.length (spI C g) (permL ix vs zs) H Q (WE W σ) := by
    rw [← pe]
    exact ⟨by rw [← RepDs.len _ _ rp]; exact hl.2, F0, s0, _, h1, rp, h3⟩
  refine codeAny_mono (F.run X.A X.stack s H ⟨us, ks.zip ws⟩ (permL ix us ws) (permL ix vs zs) Q (WE W σ) hr I.env0 (hb.to s us ws I.kIn l1 l2) (hb.rel r rz) hsp) fun r s' hq => ?_
  cases r with
  | error e => exact passAt tk σ pins H s e s' I hq
  | ok fl =>
    cases fl with
    | ret u => exact I.after hq
    | next => exact hq.elim
    | brk => exact hq.elim
    | cont => exact hq.elim
end
section
variable {C : CC} {W : WX} {X : Cx} {k : Nat} {F : Hp} {fs : DEnv → Sto → RE (List P)} {pos p apos : Pos}
/-- a classmethod, with keywords alone -/
theorem x_kcmeth (sp : Spot C W X k) {c : Nat} {y x : Str} {gk : IFn} {mc : Value} {pp f : Addr} {ks : List Str} {kws : List Keyword} (hg : Gl X y) (hm : X.mg y = some (.ref (C.CA c))) (hd : (y == ("__debug__" : Str)) = false) (r : CRead X.K (C.CA c) mc) (cm : CMet X.K (C.CA c) mc x pp f) (cal : KCalC C X.prog X.w X.K X.mg X.base k (.ref f) 1 ks gk)
    (hks : kws.map Keyword.arg = ks.map some) (hn : kws.length < 29) (hl : (apos.endLine == pos.line) = true) (ha : PK X kws (tAP C W F fs)) :
    PE X (.Call (.Attribute (.Name y p) x apos) [] kws pos) (tE C W F fun δ S => (fs δ S).bind fun xs S1 => gk (.cls c :: xs.map .p) S1) := by
  refine ⟨fun pins s σ H Q I h => ?_⟩
  obtain ⟨δ, s0, A, R, hw⟩ := h
  obtain ⟨a1, a2, a3⟩ := kw_args (pos := pos) (env := X.env) hks
  have rd : tAP C W F fs σ H _ := ⟨δ, s0, A, R, Wt.thenA (Rel := fun s => RepPs C s.G) R hw⟩
  refine PySem.W.methodCall_KW (ld_glob I hg hm ?_ hd) (meth_formK (o := .Name y p) rfl a1 hn hl)
  refine getmethcm_ok I r cm fun s2 I2 => ?_
  refine PySem.W.callWith_of (first := []) (by rw [a3]; rfl) (PySem.W.keeps_M cm.fi) (PyProof.Rows.evalArgs_kw2_nil a1 (thn (ha.run pos _ s2 σ H _ I2 rd) fun ws s3 ⟨zs, H2, I3, rz, d, t1, e1, A1, R1, r1, w1⟩ => ⟨⟨pin_at I3, I3.kIn⟩, ?_⟩))
  rw [a2]
  have rr : RepDs C t1 (.cls c :: d.map .p) ([.ref (C.CA c)] ++ zs) := by
    simp only [List.singleton_append, RepDs]
    exact ⟨.ref (C.CA c), zs, rfl, by simp only [RepD], repds_ps d zs r1⟩
  have z : wpAny (model X.prog X.w) X.A (call (.ref s.heap.objs.size) [] (ks.zip ws)) (EP X _ σ Q) X.xe s3 :=
    wpAny_call (PySem.W.method_call (pin_at I3) (cal X W _ s3 σ H2 [.ref (C.CA c)] ws [.ref (C.CA c)] zs Q rfl rfl rfl rfl rfl sp.tk (sp.hr.mono (Nat.le_add_right _ _)) I3 (.cons rfl .nil) rz rfl (spI_of A1 rr w1)))
  exact thn z fun _ _ y => unpinE y
end
end RP
end

section
set_option Elab.async false
set_option linter.all false
set_option maxRecDepth 100000
set_option maxHeartbeats 4000000
/-! The checker: an expression of the evaluator against the text's own. -/
namespace RP
open PySem L2
/-- what is known of the module's names -/
structure Gs where
  fns : List (Str × Nat)
  ifns : List (Str × Nat) := []
  kfns : List (Nat × Str × Nat × List Str) := []
  gcs : List (Str × Nat) := []
  free : List Str
  cls : List (Str × Nat) := []
  tys : List Ty := []
  nm : List Str
  ft : FldT
  xc : List (Str × Nat) := []
  exm : Nat → Nat → Option Bool := fun _ _ => none
  xr : List Nat := []
  cms : List (Nat × Nat) := []
  kcms : List (Nat × Nat × Nat × List Str) := []
/-- what is known of a block's names -/
structure Ck where
  N : List Str
  sc : Scope
  fnb : Str → Bool
def Ck.blk (c : Ck) (scope : Scope) : Ck := ⟨c.N, relS scope c.sc, fun x => scope.names.lookup x == some .cell⟩
def visB (sc : Scope) (x : Str) : Bool := (sc.names.lookup x == some .local || sc.names.lookup x == some .cell || sc.names.lookup x == some .free) && !(x == ("__debug__" : Str)) && !(x == ("__classdict__" : Str))
def locB (ck : Ck) (x : Str) : Bool := (ck.sc.names.lookup x == some .local || ck.sc.names.lookup x == some .cell) && (ck.fnb x || ck.sc.names.lookup x == some .local)
def glB (sc : Scope) (x : Str) : Bool := sc.names.lookup x == some .globalImplicit && !(x == ("__debug__" : Str))
def freeB (T : Gs) (ck : Ck) (x : Str) : Bool := glB ck.sc x && T.free.contains x
def tyN : Ty → Str
  | .int => "int"
  | .bool => "bool"
  | .str => "str"
  | .tup => "tuple"
  | .lst => "list"
  | .own _ => ""
def isOwn : Ty → Option Nat
  | .own c => some c
  | _ => none
def blkB (ck : Ck) (scope : Scope) (ix : List Nat) : Bool := scope.kind == .function && scope.names.all (fun y => scope.names.lookup y.1 == some y.2) && ix.all (fun i => decide (i < ck.N.length)) &&
  scope.names.all (fun y => !(y.2 == .free) || (ck.sc.names.lookup y.1 == some .cell || ck.sc.names.lookup y.1 == some .free)) &&
  scope.names.all (fun y => !(y.2 == .local || y.2 == .cell) || ((ix.map fun i => ck.N.getD i "").contains y.1 || !ck.N.contains y.1))
section
variable (T : Gs)
mutual
def chkTg (ck : Ck) : Tg → Expr → Bool
  | .name i, e => match e with
    | .Name x _ => ck.N[i]? == some x && locB ck x
    | _ => false
  | .tup ts, e => match e with
    | .Tuple es _ _ => es.all notStar && (es.length == tgsLen ts && chkTgs ck ts es)
    | _ => false
def chkTgs (ck : Ck) : Tgs → List Expr → Bool
  | .nil, l => l.isEmpty
  | .cons t ts, l => match l with
    | e :: es => chkTg ck t e && chkTgs ck ts es
    | [] => false
end
/-- a constant of the text -/
def constB : P → Expr → Bool
  | .str s, .Constant (.str t) _ _ => decide (s = t)
  | .int s, .Constant (.int t) _ _ => decide (s = t)
  | .bl s, .Constant (.bool t) _ _ => decide (s = t)
  | .non, .Constant .none _ _ => true
  | _, _ => false
def dspOk : List Str → List P → List (Option Expr) → List Expr → Bool
  | [], [], [], [] => true
  | k :: ks, x :: xs, some (.Constant (.str z) _ _) :: r, e :: l => decide (k = z) && (constB x e && dspOk ks xs r l)
  | _, _, _, _ => false
mutual
def chkE (ck : Ck) : E → Expr → Bool
  | .var i, e => match e with
    | .Name x _ => ck.N[i]? == some x && visB ck.sc x
    | _ => false
  | .gc k, e => match e with
    | .Name x _ => glB ck.sc x && T.gcs.lookup x == some k
    | _ => false
  | .non, e => match e with
    | .Constant .none _ _ => true
    | _ => false
  | .bl b, e => match e with
    | .Constant (.bool c) _ _ => b == c
    | _ => false
  | .int i, e => match e with
    | .Constant (.int j) _ _ => decide (i = j)
    | _ => false
  | .str s, e => match e with
    | .Constant (.str t) _ _ => s == t
    | _ => false
  | .bin op a b, e => match e with
    | .BinOp a' op' b' _ => decide (op = op') && (chkE ck a a' && chkE ck b b')
    | _ => false
  | .neg a, e => match e with
    | .UnaryOp .USub a' _ => chkE ck a a'
    | _ => false
  | .not a, e => match e with
    | .UnaryOp .Not a' _ => chkE ck a a'
    | _ => false
  | .cmp op a b, e => match e with
    | .Compare a' [op'] [b'] _ => decide (op = op') && (notSet b' && (chkE ck a a' && chkE ck b b'))
    | _ => false
  | .chain op1 op2 a b c, e => match e with
    | .Compare a' [p1, p2] [b', c'] _ => decide (op1 = p1) && (decide (op2 = p2) && (!(lastMarks [p1, p2] [b', c']) && (chkE ck a a' && (chkE ck b b' && chkE ck c c'))))
    | _ => false
  | .and a b, e => match e with
    | .BoolOp .And [a', b'] _ => chkE ck a a' && chkE ck b b'
    | .BoolOp .And (a' :: b' :: c' :: r) pos => chkE ck a a' && chkE ck b (.BoolOp .And (b' :: c' :: r) pos)
    | _ => false
  | .or a b, e => match e with
    | .BoolOp .Or [a', b'] _ => chkE ck a a' && chkE ck b b'
    | .BoolOp .Or (a' :: b' :: c' :: r) pos => chkE ck a a' && chkE ck b (.BoolOp .Or (b' :: c' :: r) pos)
    | _ => false
  | .ite t a b, e => match e with
    | .IfExp t' a' b' _ => chkE ck t t' && (chkE ck a a' && chkE ck b b')
    | _ => false
  | .tup es, e => match e with
    | .Tuple l _ _ => chkEs ck es l
    | _ => false
  | .lst es, e => match e with
    | .List l _ => chkEs ck es l
    | _ => false
  | .newl es, e => match e with
    | .List l _ => chkEs ck es l
    | _ => false
  | .dsp ks vs, e => match e with
    | .Dict keys l _ => dspOk ks vs keys l
    | _ => false
  | .newn es, e => match e with
    | .List l _ => chkEs ck es l
    | _ => false
  | .catl a b, e => match e with
    | .BinOp a' .Add b' _ => chkE ck a a' && chkE ck b b'
    | _ => false
  | .sub a i, e => match e with
    | .Subscript a' i' _ => notSlice i' && (chkE ck a a' && chkE ck i i')
    | _ => false
  | .subn a i, e => match e with
    | .Subscript a' i' _ => notSlice i' && (chkE ck a a' && chkE ck i i')
    | _ => false
  | .slc a hl lo hh hi, e => match e with
    | .Subscript a' (.Slice lo' hi' none _) _ => chkE ck a a' && ((match lo' with
      | some l => hl && chkE ck lo l
      | none => !hl) && (match hi' with
      | some l => hh && chkE ck hi l
      | none => !hh))
    | _ => false
  | .rev a, e => match e with
    | .Subscript a' (.Slice none none (some (.UnaryOp .USub (.Constant (.int 1) _ _) _)) _) _ => chkE ck a a'
    | _ => false
  | .attr a f, e => match e with
    | .Attribute a' x _ => T.nm[f]? == some x && (plainBase a' && chkE ck a a')
    | _ => false
  | .call k es, e => match e with
    | .Call (.Name x _) l [] _ => glB ck.sc x && (T.fns.lookup x == some k && (l.all notStar && chkEs ck es l))
    | _ => false
  | .icall k es, e => match e with
    | .Call (.Name x _) l [] _ => glB ck.sc x && (T.ifns.lookup x == some k && (l.all notStar && chkEs ck es l))
    | _ => false
  | .kcall k es ks, e => match e with
    | .Call (.Name x _) l kws _ => glB ck.sc x && (match T.kfns.lookup k with
      | some (y, n, names) => x == y && (decide (l.length = n) && (decide (kws.map Keyword.arg = names.map some) && (l.all notStar && (chkEs ck es l && chkKs ck ks kws))))
      | none => false)
    | _ => false
  | .meth a m es, e => match e with
    | .Call (.Attribute o x ap) l [] pos => T.nm[m]? == some x && (plainBase o && (l.all notStar && (decide (l.length < 29) && (ap.endLine == pos.line && (chkE ck a o && chkEs ck es l)))))
    | _ => false
  | .kmeth a m ks es, e => match e with
    | .Call (.Attribute o x ap) [] kws pos => T.nm[m]? == some x && (plainBase o && (decide (kws.map Keyword.arg = ks.map some) && (decide (kws.length < 29) && (ap.endLine == pos.line && (chkE ck a o && chkKs ck es kws)))))
    | _ => false
  | .app a b, e => match e with
    | .Call (.Attribute o x ap) [v] [] pos => x == ("append" : Str) && (plainBase o && (notStar v && (ap.endLine == pos.line && (chkE ck a o && chkE ck b v))))
    | _ => false
  | .clr a, e => match e with
    | .Call (.Attribute o x ap) [] [] pos => x == ("clear" : Str) && (plainBase o && (ap.endLine == pos.line && chkE ck a o))
    | _ => false
  | .b1 b a, e => match e with
    | .Call (.Name x _) [v] [] _ => x == b1N b && (freeB T ck x && (notStar v && chkE ck a v))
    | _ => false
  | .b2 b a c, e => match e with
    | .Call (.Name x _) [v, u] [] _ => x == b2N b && (freeB T ck x && (notStar v && (notStar u && (chkE ck a v && chkE ck c u))))
    | _ => false
  | .cpl a, e => match e with
    | .Call (.Name x _) [v] [] _ => x == ("list" : Str) && (freeB T ck x && (notStar v && chkE ck a v))
    | _ => false
  | .isi a t, e => match e with
    | .Call (.Name x _) [v, .Name y _] [] _ => x == ("isinstance" : Str) && (freeB T ck x && (notStar v && (T.tys.contains t && ((match isOwn t with
      | some c => glB ck.sc y && T.cls.lookup y == some c
      | none => y == tyN t && freeB T ck y) && chkE ck a v))))
    | _ => false
  | .comp lv elt tg it hc c, e => match e with
    | .ListComp elt' [⟨tg', iter', ifs', 0⟩] scope _ => chkIt ck it tg' iter' && (notSet iter' && (blkB ck scope (tgIx tg) && (chkTg (ck.blk scope) tg tg' && (chkE (ck.blk scope) elt elt' && (match ifs' with
      | [] => !hc
      | [t] => hc && chkE (ck.blk scope) c t
      | _ => false)))))
    | _ => false
  | .fcall k es, e => match e with
    | .Call (.Name x _) l [] _ => glB ck.sc x && (T.ifns.lookup x == some k && (l.all notStar && chkEs ck es l))
    | _ => false
  | .bcall k es, e => match e with
    | .Call (.Name x _) l [] _ => glB ck.sc x && (T.fns.lookup x == some k && (l.all notStar && chkEs ck es l))
    | _ => false
  | .fmeth a m es, e => match e with
    | .Call (.Attribute o x ap) l [] pos => T.nm[m]? == some x && (plainBase o && (l.all notStar && (decide (l.length < 29) && (ap.endLine == pos.line && (chkE ck a o && chkEs ck es l)))))
    | _ => false
  | .compb lv elt tg i hc c, e => match e with
    | .ListComp elt' [⟨tg', .Name y _, ifs', 0⟩] scope _ => (ck.N[i]? == some y && visB ck.sc y) && (blkB ck scope (tgIx tg) && (chkTg (ck.blk scope) tg tg' && (chkE (ck.blk scope) elt elt' && (match ifs' with
      | [] => !hc
      | [t] => hc && chkE (ck.blk scope) c t
      | _ => false))))
    | _ => false
  | .fkcall k es ks, e => match e with
    | .Call (.Name x _) (a :: l) kws _ => glB ck.sc x && (match T.kfns.lookup k with
      | some (y, n, names) => x == y && (decide (kws.map Keyword.arg = names.map some) && ((a :: l).all notStar && (chkEs ck es (a :: l) && chkKs ck ks kws)))
      | none => false)
    | _ => false
  | .spl a b, e => match e with
    | .Call (.Attribute o x ap) [v] [] pos => x == ("split" : Str) && (plainBase o && (notStar v && (ap.endLine == pos.line && (chkE ck a o && chkE ck b v))))
    | _ => false
  | .fs3 a z b, e => match e with
    | .JoinedStr [.FormattedValue a' k none _, .Constant (.str t) _ _, .FormattedValue b' l none _] _ => decide (k = -1) && (decide (l = -1) && (z == t && (decide (z.length ≤ 1000) && (chkE ck a a' && chkE ck b b'))))
    | _ => false
  | .lcall i c k y es, e => match e with
    | .Call (.Name x _) l [] _ => (ck.N[i]? == some x && visB ck.sc x) && (T.cls.lookup y == some c && (T.fns.lookup y == some k && (l.all notStar && chkEs ck es l)))
    | _ => false
  | .cmeth c m y es, e => match e with
    | .Call (.Attribute (.Name y' _) x ap) (v :: l) [] pos => y' == y && (glB ck.sc y' && (T.cls.lookup y' == some c && (T.nm[m]? == some x && (T.cms.contains (c, m) && ((v :: l).all notStar && (decide ((v :: l).length < 29) && (ap.endLine == pos.line && chkEs ck es (v :: l))))))))
    | _ => false
  | .kcmeth j c y es, e => match e with
    | .Call (.Attribute (.Name y' _) x ap) [] kws pos => y' == y && (glB ck.sc y' && (T.cls.lookup y' == some c && (match T.kcms.lookup j with
      | some (c', m, ks) => decide (c' = c) && (T.nm[m]? == some x && (decide (kws.map Keyword.arg = ks.map some) && (decide (kws.length < 29) && (ap.endLine == pos.line && chkKs ck es kws))))
      | none => false)))
    | _ => false
  | .comp2 elt tg it tg1 it1 hc c, e => match e with
    | .ListComp elt' [⟨tg', iter', [], 0⟩, ⟨tg1', iter1', ifs', 0⟩] scope _ => chkIt ck it tg' iter' && (notSet iter' && (notSet iter1' && (blkB ck scope (tgIx tg ++ tgIx tg1) && (chkTg (ck.blk scope) tg tg' && (chkIt (ck.blk scope) it1 tg1' iter1' && (chkTg (ck.blk scope) tg1 tg1' && (chkE (ck.blk scope) elt elt' && (match ifs' with
      | [] => !hc
      | [t] => hc && chkE (ck.blk scope) c t
      | _ => false))))))))
    | _ => false
def chkEs (ck : Ck) : Es → List Expr → Bool
  | .nil, l => l.isEmpty
  | .cons e es, l => match l with
    | a :: r => notStar a && (chkE ck e a && chkEs ck es r)
    | [] => false
  | .star e es, l => match l with
    | .Starred a _ :: r => chkE ck e a && chkEs ck es r
    | _ => false
def chkKs (ck : Ck) : Es → List Keyword → Bool
  | .nil, l => l.isEmpty
  | .cons e es, l => match l with
    | ⟨_, a, _⟩ :: r => chkE ck e a && chkKs ck es r
    | [] => false
  | .star _ _, _ => false
def chkIt (ck : Ck) : It → Expr → Expr → Bool
  | .seq e, _, a => chkE ck e a
  | .rng1 e, _, a => match a with
    | .Call (.Name x _) [v] [] _ => x == ("range" : Str) && (freeB T ck x && (notStar v && chkE ck e v))
    | _ => false
  | .rng2 e f, _, a => match a with
    | .Call (.Name x _) [v, u] [] _ => x == ("range" : Str) && (freeB T ck x && (notStar v && (notStar u && (chkE ck e v && chkE ck f u))))
    | _ => false
  | .zip e f, tg, a => match tg with
    | .Tuple _ _ _ => (match a with
      | .Call (.Name x _) [v, u] [] _ => x == ("zip" : Str) && (freeB T ck x && (notStar v && (notStar u && (chkE ck e v && chkE ck f u))))
      | _ => false)
    | _ => false
  | .enum e, tg, a => match tg with
    | .Tuple _ _ _ => (match a with
      | .Call (.Name x _) [v] [] _ => x == ("enumerate" : Str) && (freeB T ck x && (notStar v && chkE ck e v))
      | _ => false)
    | _ => false
end
end
end RP
end

section
set_option Elab.async false
set_option linter.all false
set_option maxRecDepth 100000
/-! Dicts that are written out in the text. -/
namespace RP
open PySem L2 PySem.Spec PyProof.Rows
section
variable {C : CC} {W : WX} {X : Cx} {F : Hp} {pos : Pos}
/-! ### dicts that are written out -/
theorem const_pe {x : P} {e : Expr} (h : constB x e = true) : ∃ v, PE X e (tC v) ∧ ∀ G, RepP C G x v := by
  unfold constB at h
  split at h
  · cases of_decide_eq_true h
    exact ⟨_, pe_str, fun G => by simp only [RepP]⟩
  · cases of_decide_eq_true h
    exact ⟨_, pe_int, fun G => by simp only [RepP]⟩
  · cases of_decide_eq_true h
    exact ⟨_, pe_bl, fun G => by simp only [RepP]⟩
  · exact ⟨_, pe_non, fun G => by simp only [RepP]⟩
  · cases h
theorem dsp_pps : ∀ (ks : List Str) (xs : List P) (keys : List (Option Expr)) (l : List Expr), dspOk ks xs keys l = true →
    ∃ (trs : List (TE × TE)) (vs : List V), PPs X pos keys l trs ∧ keys.all (·.isSome) = true ∧ keys.length = l.length ∧ ks.length = vs.length ∧ keys.length = ks.length ∧ (∀ G, RepPs C G xs vs) ∧ (∀ σ H Q, Q ((ks.map V.str).zip vs) H → tPairs trs σ H Q)
  | [], [], [], [], _ => ⟨[], [], pps_nil, rfl, rfl, rfl, rfl, fun G => by simp only [RepPs], fun σ H Q q => q⟩
  | [], [], [], _ :: _, h => by simp [dspOk] at h
  | [], [], _ :: _, l, h => by simp [dspOk] at h
  | [], _ :: _, r, l, h => by simp [dspOk] at h
  | _ :: _, [], r, l, h => by simp [dspOk] at h
  | k :: ks, x :: xs, [], l, h => by simp [dspOk] at h
  | k :: ks, x :: xs, some _ :: r, [], h => by simp [dspOk] at h
  | k :: ks, x :: xs, none :: r, l, h => by simp [dspOk] at h
  | k :: ks, x :: xs, some e' :: r, e :: l, h => by
    unfold dspOk at h
    split at h
    case h_1 a b c d => cases a
    case h_2 k2 ks2 x2 xs2 z2 j2 p2 r2 e2 l2 a b c d =>
      cases a
      cases b
      cases c
      cases d
      simp only [Bool.and_eq_true, decide_eq_true_eq] at h
      obtain ⟨rfl, h1, h2⟩ := h
      obtain ⟨v, pv, rv⟩ := const_pe (X := X) (C := C) h1
      obtain ⟨trs, vs, a1, a2, a3, a4, a5, a6, a7⟩ := dsp_pps _ _ _ _ h2
      refine ⟨(tC (.str k), tC v) :: trs, v :: vs, pps_cons pe_str pv a1, by simpa using a2, by simp [a3], by simp [a4], by simp [a5], fun G => by simp only [RepPs]; exact ⟨v, vs, rfl, rv G, a6 G⟩, fun σ H Q q => ?_⟩
      show tPairs trs σ H fun ps H3 => Q ((V.str k, v) :: ps) H3
      exact a7 σ H _ q
    case h_3 => cases h
theorem merge_new : ∀ (more kvs : List (Key × V)), ((kvs ++ more).map (·.1)).Nodup → mergeK kvs more = kvs ++ more
  | [], kvs, _ => by simp [mergeK]
  | p :: more, kvs, h => by
    have e : putK kvs p.1 p.2 = kvs ++ [p] := by
      unfold putK
      rw [if_neg]
      intro c
      rw [List.any_eq_true] at c
      obtain ⟨q, hq, hqp⟩ := c
      have := of_decide_eq_true hqp
      rw [List.map_append, List.map_cons] at h
      have d := (List.nodup_append.mp h).2.2 q.1 (List.mem_map_of_mem hq) p.1 List.mem_cons_self
      exact d this
    have ih := merge_new more (kvs ++ [p]) (by simpa using h)
    show mergeK (putK kvs p.1 p.2) more = _
    rw [e, ih]
    simp
theorem zip_keys (ks : List Str) (vs : List V) (hl : ks.length = vs.length) : (((ks.map (Sum.inr : Str → Key)).zip vs).map (·.1)) = ks.map Sum.inr ∧ ((ks.map (Sum.inr : Str → Key)).zip vs).map (fun kv => (kV kv.1, kv.2)) = (ks.map V.str).zip vs := by
  induction ks generalizing vs with
  | nil => exact ⟨rfl, rfl⟩
  | cons k ks ih =>
    cases vs with
    | nil => cases hl
    | cons v vs =>
      obtain ⟨a, b⟩ := ih vs (by simpa using hl)
      simp only [List.map_cons, List.zip_cons_cons]
      exact ⟨by rw [a], by rw [b]; rfl⟩
theorem x_dsp {ks : List Str} {xs : List P} {keys : List (Option Expr)} {l : List Expr} (h : dspOk ks xs keys l = true) : PE X (.Dict keys l pos) (tE C W F fun _ S => if decide (ks.length = xs.length) && (decide (xs.length ≤ 15) && (decide ks.Nodup && xs.all flatP)) then .ok (.p (.dic ks xs)) S else .stuck) := by
  obtain ⟨trs, vs, a1, a2, a3, a4, a5, a6, a7⟩ := dsp_pps (X := X) (C := C) (pos := pos) ks xs keys l h
  have mk : ∀ {σ : L2.St} {H : Hp} {Q : VK}, tE C W F (fun _ S => if decide (ks.length = xs.length) && (decide (xs.length ≤ 15) && (decide ks.Nodup && xs.all flatP)) then .ok (.p (.dic ks xs)) S else .stuck) σ H Q → ks.Nodup ∧ xs.length ≤ 15 ∧ ∀ p, H p = none → Q (.ref p) (upd H p (.dK ((ks.map Sum.inr).zip vs))) := by
    rintro σ H Q ⟨δ, s, A, R, w⟩
    dsimp only at w
    split at w
    · rename_i c
      simp only [Bool.and_eq_true, decide_eq_true_eq] at c
      refine ⟨c.2.2.1, c.2.1, fun p hp => ?_⟩
      obtain ⟨A', ex⟩ := A.grow (o := .dK ((ks.map Sum.inr).zip vs)) hp
      refine w.to A' rfl ex ?_
      simp only [RepD, RepP]
      exact ⟨p, vs, rfl, upd_same, a4, a6 _⟩
    · exact w.elim
  by_cases hz : keys = []
  · subst hz
    have kz : ks = [] := List.length_eq_zero_iff.mp (by simpa using a5.symm)
    subst kz
    have lz : l = [] := List.length_eq_zero_iff.mp (by simpa using a3.symm)
    subst lz
    refine PE.imp pe_dnewK fun σ H Q q => ?_
    intro p hp
    exact (mk q).2.2 p hp
  · by_cases hc : ks.Nodup ∧ xs.length ≤ 15
    · have lx : xs.length = vs.length := RepPs.len xs vs (a6 fun _ => none)
      refine PE.imp (pe_disp a1 a2 a3 hz (by omega)) fun σ H Q q => ?_
      obtain ⟨nd, l15, go⟩ := mk q
      intro p hp
      refine a7 _ _ _ ⟨upd_same, (ks.map Sum.inr).zip vs, (zip_keys ks vs a4).2.symm, by rw [List.length_zip, List.length_map]; omega, ?_⟩
      have mg := merge_new ((ks.map (Sum.inr : Str → Key)).zip vs) [] (by rw [List.nil_append, (zip_keys ks vs a4).1]; exact nd.map _ (fun a b ne e => ne (Sum.inr.inj e)))
      rw [mg, List.nil_append]
      have uu : ∀ (H : Hp) (o o' : HO), upd (upd H p o) p o' = upd H p o' := fun H o o' => by
        funext b
        by_cases hb : b = p
        · subst hb
          rw [upd_same, upd_same]
        · rw [upd_ne hb, upd_ne hb, upd_ne hb]
      rw [uu]
      exact go p hp
    · exact ⟨fun pins s σ H Q I q => (hc ⟨(mk q).1, (mk q).2.1⟩).elim⟩
end
end RP
end

section
set_option Elab.async false
set_option linter.all false
set_option maxRecDepth 100000
set_option maxHeartbeats 4000000
/-! The checker is sound: expressions. -/
namespace RP
open PySem L2
structure TabOk (C : CC) (Pr : Program) (w : World) (K : PySem.W.Frag) (mg : Str → Option Value) (base : Heap) (k : Nat) (Γ : Tab) (T : Gs) : Prop where
  gm : GoodM C Pr w K mg base k Γ
  fns : ∀ x i, T.fns.lookup x = some i → ∃ u g, mg x = some u ∧ PySem.W.keepIn K u = true ∧ Γ.fns.lookup i = some g ∧ Cal C Pr w K mg base k u g
  ifns : ∀ x i, T.ifns.lookup x = some i → ∃ u g, mg x = some u ∧ PySem.W.keepIn K u = true ∧ Γ.ifns.lookup i = some g ∧ CalI C Pr w K mg base k u g
  kfns : ∀ i x n ks, T.kfns.lookup i = some (x, n, ks) → ∃ u g, mg x = some u ∧ PySem.W.keepIn K u = true ∧ Γ.kfns.lookup i = some g ∧ KCal C Pr w K mg base k u n ks g
  kifns : ∀ i x n ks, T.kfns.lookup i = some (x, n, ks) → ∃ u g, mg x = some u ∧ PySem.W.keepIn K u = true ∧ Γ.kifns.lookup i = some (n, g) ∧ KCalI C Pr w K mg base k u n ks g
  imts : GoodI C Pr w K mg base k Γ
  kmts : GoodK C Pr w K mg base k Γ
  gcs : ∀ x i, T.gcs.lookup x = some i → ∃ a p, mg x = some (.ref a) ∧ Γ.gcs.lookup i = some p ∧ ∀ G, RepP C G p (.ref a)
  free : ∀ x ∈ T.free, mg x = none
  cls : ∀ x c, T.cls.lookup x = some c → mg x = some (.ref (C.CA c))
  kit : ∀ t ∈ T.tys, KitF C t
  nm : ∀ f x, T.nm[f]? = some x → C.NM f = x
  ft : C.FT = T.ft
  xinj : ∀ c g f, g ∈ C.FT c → C.NM f = C.NM g → f = g
  xc : ∀ x c, T.xc.lookup x = some c → mg x = some (.ref (C.CA c))
  x0 : ∀ x c, T.xc.lookup x = some c → T.ft c = [] → ∃ fI fd ps, XTxt K (C.CA c) fI ∧ L2.FnOk Pr w K mg base (L2.CX Pr w) k fI fd ps (spX0 (C.CA c)) ∧ Binds K fd ps []
  x1 : ∀ x c fl, T.xc.lookup x = some c → T.ft c = [fl] → ∃ fI fd ps, XTxt K (C.CA c) fI ∧ L2.FnOk Pr w K mg base (L2.CX Pr w) k fI fd ps (spX1 (C.CA c) (C.NM fl)) ∧ Binds K fd ps []
  exm : ∀ c' c b, T.exm c' c = some b → PySem.W.exmOne K (.ref (C.CA c')) (.ref (C.CA c)) = some b
  xr : ∀ c f, c ∈ T.xr → T.ft c = [f] → XRd K (C.CA c) (C.NM f)
  cms : ∀ c m, (c, m) ∈ T.cms → ∃ mc pp f g, ClX.CRead K (C.CA c) mc ∧ ClX.CMet K (C.CA c) mc (C.NM m) pp f ∧ Γ.cmeth c m = some g ∧ CalI C Pr w K mg base k (.ref f) g
  kcms : ∀ j c m ks, T.kcms.lookup j = some (c, m, ks) → ∃ mc pp f g, ClX.CRead K (C.CA c) mc ∧ ClX.CMet K (C.CA c) mc (C.NM m) pp f ∧ Γ.kcms.lookup j = some g ∧ KCalC C Pr w K mg base k (.ref f) 1 ks g
  kb : 25 ≤ k
structure Good (C : CC) (W : WX) (X : Cx) (k : Nat) (Γ : Tab) (T : Gs) (ck : Ck) : Prop where
  sp : Spot C W X k
  hr : Room (k + (eqDeep + 1)) X.A
  N : X.N = ck.N
  nd : ck.N.Nodup
  sc : X.env.scope = ck.sc
  fk : ck.sc.kind = .function
  fn : X.fn = ck.fnb
  calm : X.calm = true
  tb : TabOk C X.prog X.w X.K X.mg X.base k Γ T
def isBO : Expr → Bool
  | .BoolOp _ _ _ => true
  | _ => false
/-- an expression, read in every way -/
structure EOk (C : CC) (W : WX) (X : Cx) (F : Hp) (e : Expr) (f : DEnv → Sto → RE D) : Prop where
  pe : PE X e (tE C W F f)
  pt : PT X e (tT C W F f)
  pw : isBO e = true → PW X e (tT C W F f)
section
variable {C : CC} {W : WX} {X : Cx} {k : Nat} {Γ : Tab} {T : Gs} {ck : Ck} {F : Hp} {e a b c : Expr} {f fa fb fc : DEnv → Sto → RE D} {pos : Pos}
theorem EOk.val (h : PE X e (tE C W F f)) (p : plainTest e = true) : EOk C W X F e f := ⟨h, t_val h p, fun z => by cases e <;> first | (cases p; done) | (cases z; done)⟩
theorem lk_of {α β : Type} [BEq α] [LawfulBEq α] {x : Option α} {y : α} (h : (x == some y) = true) : x = some y := by simpa using h
theorem Good.gl (g : Good C W X k Γ T ck) {x : Str} (h : glB ck.sc x = true) : Gl X x ∧ (x == ("__debug__" : Str)) = false := by
  unfold glB at h
  simp only [Bool.and_eq_true, beq_iff_eq, Bool.not_eq_true'] at h
  refine ⟨?_, h.2⟩
  show X.env.scope.names.lookup x = _
  rw [g.sc]
  exact h.1
theorem Good.fr (g : Good C W X k Γ T ck) {x : Str} (h : freeB T ck x = true) : Gl X x ∧ (x == ("__debug__" : Str)) = false ∧ X.mg x = none := by
  unfold freeB at h
  simp only [Bool.and_eq_true] at h
  exact ⟨(g.gl h.1).1, (g.gl h.1).2, g.tb.free x (by simpa using h.2)⟩
theorem Good.vis (g : Good C W X k Γ T ck) {x : Str} (h : visB ck.sc x = true) : Vis X.env.scope x ∧ (x == ("__debug__" : Str)) = false ∧ (x == ("__classdict__" : Str)) = false := by
  unfold visB at h
  simp only [Bool.and_eq_true, Bool.or_eq_true, beq_iff_eq, Bool.not_eq_true'] at h
  obtain ⟨⟨h1, h2⟩, h3⟩ := h
  refine ⟨?_, h2, h3⟩
  unfold Vis
  rw [g.sc]
  rcases h1 with (h1 | h1) | h1
  · exact .inl h1
  · exact .inr (.inl h1)
  · exact .inr (.inr h1)
theorem Good.loc (g : Good C W X k Γ T ck) {x : Str} (h : locB ck x = true) : Loc X.env.scope x ∧ (X.fn x = true ∨ X.env.scope.names.lookup x = some .local) := by
  unfold locB at h
  simp only [Bool.and_eq_true, Bool.or_eq_true, beq_iff_eq] at h
  rw [g.sc, g.fn]
  exact h
theorem Good.ix (g : Good C W X k Γ T ck) {x : Str} {i : Nat} (h : (ck.N[i]? == some x) = true) : X.N[i]? = some x := by
  rw [g.N]
  simpa using h
theorem blk_ok (g : Good C W X k Γ T ck) {scope : Scope} {ix : List Nat} (h : blkB ck scope ix = true) : BlkOk X.N X.env.scope scope (ix.map fun i => (ck.N.getD i "", i)) ∧ scope.kind = .function := by
  unfold blkB at h
  simp only [Bool.and_eq_true, beq_iff_eq, List.all_eq_true, Bool.or_eq_true, Bool.not_eq_true', decide_eq_true_eq] at h
  obtain ⟨⟨⟨⟨h1, h2⟩, h3⟩, h4⟩, h5⟩ := h
  rw [g.N, g.sc]
  refine ⟨⟨h1, h2, fun p hp => ?_, fun y hy e => ?_, fun y hy e => ?_⟩, h1⟩
  · obtain ⟨i, hi, rfl⟩ := List.mem_map.mp hp
    have := h3 i hi
    simp [List.getElem?_eq_getElem this]
  · rcases h4 y hy with z | z
    · rw [e] at z
      cases z
    · exact z
  · rcases h5 y hy with z | z
    · rcases e with e | e <;> rw [e] at z <;> simp at z
    · rcases z with z | z
      · refine .inl ?_
        rw [List.map_map]
        simpa [Function.comp_def] using z
      · exact .inr (by simpa using z)
theorem Good.blk (g : Good C W X k Γ T ck) {scope : Scope} (hk : scope.kind = .function) (s : Shared) (H : Hp) (A : Addr) (cl : List (Str × Addr)) (fp : List Addr) : Good C WF (X.blk s H scope (compEnvC scope cl A X.env) fp) k Γ T (ck.blk scope) := by
  obtain ⟨sp, hr, hN, nd, hsc, fk, fn, calm, tb⟩ := g
  refine ⟨⟨sp.cf, sp.nm, sp.fl, sp.hk, blk_takes, sp.hr, sp.py⟩, hr, hN, nd, ?_, hk, rfl, calm, tb⟩
  show relabel scope X.env = relS scope ck.sc
  rw [← hsc]
  rfl
theorem x_one {op : BoolOp} (h : PE X a (tE C W F f)) : PE X (.BoolOp op [a] pos) (tE C W F f) := ⟨fun pins s σ H Q I hq => h.run pins s σ H Q I hq⟩
theorem x_gc (g : Good C W X k Γ T ck) {x : Str} {j : Nat} (hg : glB ck.sc x = true) (hl : T.gcs.lookup x = some j) : PE X (.Name x pos) (tE C W F fun _ S => match Γ.gcs.lookup j with
    | some x => .ok (.p x) S
    | none => .stuck) := by
  obtain ⟨a, p, h1, h2, h3⟩ := g.tb.gcs x j hl
  refine PE.imp (pe_glob (v := .ref a) (g.gl hg).1 h1 rfl (g.gl hg).2) fun σ H Q ⟨δ, s, A, R, h⟩ => ?_
  rw [h2] at h
  exact h.ok A (h3 _)
theorem t_chain {op op' : CmpOp} (ha : PE X a (tE C W F fa)) (hb : PE X b (tE C W F fb)) (hc : PE X c (tE C W F fc)) (hm : lastMarks [op, op'] [b, c] = false) :
    PT X (.Compare a [op, op'] [b, c] pos) (tT C W F fun δ S => (fa δ S).bind fun d1 S1 => (fb δ S1).bind fun d2 S2 => chainD (fc δ) op op' d1 d2 S2) := by
  refine PT.imp (pt_chain (op_chn op) (op_chn op') ha hb hc hm) fun σ H Q h => ?_
  exact chain_imp (tE_of_tT h)

/-! ### targets -/
mutual
theorem ckTg (g : Good C W X k Γ T ck) : ∀ (t : Tg) (e : Expr), chkTg ck t e = true → PG X e (gT C F t)
  | .name i, e, h => by
    simp only [chkTg] at h
    split at h
    · rename_i x p
      simp only [Bool.and_eq_true] at h
      exact g_name (by rw [g.N]; exact g.nd) (g.ix h.1) (g.loc h.2).1 (g.loc h.2).2
    · cases h
  | .tup ts, e, h => by
    simp only [chkTg] at h
    split at h
    · rename_i es j p
      simp only [Bool.and_eq_true, beq_iff_eq] at h
      exact g_tup g.sp.hk g.calm (ckTgs g ts es h.2.2 h.1) h.1 h.2.1
    · cases h
theorem ckTgs (g : Good C W X k Γ T ck) : ∀ (t : Tgs) (l : List Expr), chkTgs ck t l = true → l.all notStar = true → PGs X l (gTs C F t)
  | .nil, l, h, _ => by
    simp only [chkTgs, List.isEmpty_iff] at h
    subst h
    exact g_nil
  | .cons t ts, l, h, hs => by
    simp only [chkTgs] at h
    cases l with
    | nil => cases h
    | cons e es =>
      simp only [Bool.and_eq_true] at h
      simp only [List.all_cons, Bool.and_eq_true] at hs
      exact g_cons (ckTg g t e h.1) (ckTgs g ts es h.2 hs.2) hs.1
end
theorem ty_pe (g : Good C W X k Γ T ck) {t : Ty} {y : Str} {p : Pos} (h : (match isOwn t with
      | some c => glB ck.sc y && T.cls.lookup y == some c
      | none => y == tyN t && freeB T ck y) = true) : PE X (.Name y p) (tC (tyCV C t)) := by
  cases t with
  | own c =>
    simp only [isOwn, Bool.and_eq_true, beq_iff_eq] at h
    exact pe_glob (g.gl h.1).1 (g.tb.cls y c h.2) rfl (g.gl h.1).2
  | int =>
    simp only [isOwn, tyN, Bool.and_eq_true, beq_iff_eq] at h
    obtain ⟨rfl, h⟩ := h
    exact pe_bltn (u := .type "int") (g.fr h).1 (g.fr h).2.2 (by decide +kernel) rfl
  | bool =>
    simp only [isOwn, tyN, Bool.and_eq_true, beq_iff_eq] at h
    obtain ⟨rfl, h⟩ := h
    exact pe_bltn (u := .type "bool") (g.fr h).1 (g.fr h).2.2 (by decide +kernel) rfl
  | str =>
    simp only [isOwn, tyN, Bool.and_eq_true, beq_iff_eq] at h
    obtain ⟨rfl, h⟩ := h
    exact pe_bltn (u := .type "str") (g.fr h).1 (g.fr h).2.2 (by decide +kernel) rfl
  | tup =>
    simp only [isOwn, tyN, Bool.and_eq_true, beq_iff_eq] at h
    obtain ⟨rfl, h⟩ := h
    exact pe_bltn (u := .type "tuple") (g.fr h).1 (g.fr h).2.2 (by decide +kernel) rfl
  | lst =>
    simp only [isOwn, tyN, Bool.and_eq_true, beq_iff_eq] at h
    obtain ⟨rfl, h⟩ := h
    exact pe_bltn (u := .type "list") (g.fr h).1 (g.fr h).2.2 (by decide +kernel) rfl
theorem pts_of {c : Expr} {f : DEnv → Sto → RE D} (h : PT X c (tT C W F f)) : PTs X [c] (tT C W F (optT true f)) := pts_one h
theorem pts_no {f : DEnv → Sto → RE D} : PTs X [] (tT C W F (optT false f)) := ⟨fun pins s σ H Q I ⟨δ, s0, A, R, h⟩ => pts_nil.run pins s σ H Q I (want_T A h)⟩
/-! ### expressions -/
mutual
theorem ckE : ∀ (ir : E) {W : WX} {X : Cx} {ck : Ck} {F : Hp} {e : Expr}, Good C W X k Γ T ck → chkE T ck ir e = true → EOk C W X F e (evE Γ C.FT ir)
  | .var i, W, X, ck, F, e, g, h => by
    simp only [chkE] at h
    split at h
    · rename_i x p
      simp only [Bool.and_eq_true] at h
      exact .val (x_var (g.ix h.1) (g.vis h.2).1 (g.vis h.2).2.1 (g.vis h.2).2.2 C.FT) rfl
    · cases h
  | .gc j, W, X, ck, F, e, g, h => by
    simp only [chkE] at h
    split at h
    · simp only [Bool.and_eq_true, beq_iff_eq] at h
      exact .val (x_gc g h.1 h.2) rfl
    · cases h
  | .non, W, X, ck, F, e, g, h => by
    simp only [chkE] at h
    split at h
    · exact .val (x_non C.FT) rfl
    · cases h
  | .bl b, W, X, ck, F, e, g, h => by
    simp only [chkE] at h
    split at h
    · simp only [beq_iff_eq] at h
      subst h
      exact .val (x_bl C.FT) rfl
    · cases h
  | .int i, W, X, ck, F, e, g, h => by
    simp only [chkE] at h
    split at h
    · simp only [decide_eq_true_eq] at h
      subst h
      exact .val (x_int C.FT) rfl
    · cases h
  | .str z, W, X, ck, F, e, g, h => by
    simp only [chkE] at h
    split at h
    · simp only [beq_iff_eq] at h
      subst h
      exact .val (x_str C.FT) rfl
    · cases h
  | .bin op a b, W, X, ck, F, e, g, h => by
    simp only [chkE] at h
    split at h
    · simp only [Bool.and_eq_true, decide_eq_true_eq] at h
      obtain ⟨rfl, h1, h2⟩ := h
      exact .val (x_bin g.sp g.tb.gm (ckE a g h1).pe (ckE b g h2).pe) rfl
    · cases h
  | .neg a, W, X, ck, F, e, g, h => by
    simp only [chkE] at h
    split at h
    · exact .val (x_neg g.sp g.tb.gm (ckE a g h).pe) rfl
    · cases h
  | .not a, W, X, ck, F, e, g, h => by
    simp only [chkE] at h
    split at h
    · exact ⟨x_not (ckE a g h).pe, t_not (ckE a g h).pt, fun z => by cases z⟩
    · cases h
  | .cmp op a b, W, X, ck, F, e, g, h => by
    simp only [chkE] at h
    split at h
    · simp only [Bool.and_eq_true, decide_eq_true_eq] at h
      obtain ⟨rfl, h0, h1, h2⟩ := h
      exact ⟨x_cmp g.sp g.tb.gm g.hr (ckE a g h1).pe (ckE b g h2).pe h0, t_cmp g.sp g.tb.gm g.hr (ckE a g h1).pe (ckE b g h2).pe h0, fun z => by cases z⟩
    · cases h
  | .chain op1 op2 a b c, W, X, ck, F, e, g, h => by
    simp only [chkE] at h
    split at h
    · simp only [Bool.and_eq_true, decide_eq_true_eq, Bool.not_eq_true'] at h
      obtain ⟨rfl, rfl, h0, h1, h2, h3⟩ := h
      exact ⟨x_chain (ckE a g h1).pe (ckE b g h2).pe (ckE c g h3).pe h0, t_chain (ckE a g h1).pe (ckE b g h2).pe (ckE c g h3).pe h0, fun z => by cases z⟩
    · cases h
  | .and a b, W, X, ck, F, e, g, h => by
    simp only [chkE] at h
    split at h
    · rename_i a1 b1 p1
      simp only [Bool.and_eq_true] at h
      have w := w_and (pos := p1) (ckE a (F := F) g h.1).pt (pw_and1 (ckE b (F := F) g h.2).pt)
      exact ⟨x_and (ckE a g h.1).pe (x_one (ckE b g h.2).pe), w.pt, fun _ => w⟩
    · simp only [Bool.and_eq_true] at h
      have w := w_and (ckE a (F := F) g h.1).pt ((ckE b (F := F) g h.2).pw rfl)
      exact ⟨x_and (ckE a g h.1).pe (ckE b g h.2).pe, w.pt, fun _ => w⟩
    · cases h
  | .or a b, W, X, ck, F, e, g, h => by
    simp only [chkE] at h
    split at h
    · rename_i a1 b1 p1
      simp only [Bool.and_eq_true] at h
      have w := w_or (pos := p1) (ckE a (F := F) g h.1).pt (pw_or1 (ckE b (F := F) g h.2).pt)
      exact ⟨x_or (ckE a g h.1).pe (x_one (ckE b g h.2).pe), w.pt, fun _ => w⟩
    · simp only [Bool.and_eq_true] at h
      have w := w_or (ckE a (F := F) g h.1).pt ((ckE b (F := F) g h.2).pw rfl)
      exact ⟨x_or (ckE a g h.1).pe (ckE b g h.2).pe, w.pt, fun _ => w⟩
    · cases h
  | .ite t a b, W, X, ck, F, e, g, h => by
    simp only [chkE] at h
    split at h
    · simp only [Bool.and_eq_true] at h
      obtain ⟨h0, h1, h2⟩ := h
      exact ⟨x_ite (ckE t g h0).pt (ckE a g h1).pe (ckE b g h2).pe, t_ite (ckE t g h0).pt (ckE a g h1).pt (ckE b g h2).pt, fun z => by cases z⟩
    · cases h
  | .tup es, W, X, ck, F, e, g, h => by
    simp only [chkE] at h
    split at h
    · exact .val (x_tup (ckEs es g h)) rfl
    · cases h
  | .lst es, W, X, ck, F, e, g, h => by
    simp only [chkE] at h
    split at h
    · exact .val (x_lst (ckEs es g h)) rfl
    · cases h
  | .newl es, W, X, ck, F, e, g, h => by
    simp only [chkE] at h
    split at h
    · exact .val (x_newl (ckEs es g h)) rfl
    · cases h
  | .dsp ks vs, W, X, ck, F, e, g, h => by
    simp only [chkE] at h
    split at h
    · exact .val (x_dsp h) rfl
    · cases h
  | .newn es, W, X, ck, F, e, g, h => by
    simp only [chkE] at h
    split at h
    · exact .val (x_newn (ckDs es g h)) rfl
    · cases h
  | .catl a b, W, X, ck, F, e, g, h => by
    simp only [chkE] at h
    split at h
    · simp only [Bool.and_eq_true] at h
      exact .val (x_catl (ckE a g h.1).pe (ckE b g h.2).pe) rfl
    · cases h
  | .sub a i, W, X, ck, F, e, g, h => by
    simp only [chkE] at h
    split at h
    · simp only [Bool.and_eq_true] at h
      exact .val (x_sub g.hr.units g.sp.hk h.1 (ckE a g h.2.1).pe (ckE i g h.2.2).pe) rfl
    · cases h
  | .subn a i, W, X, ck, F, e, g, h => by
    simp only [chkE] at h
    split at h
    · simp only [Bool.and_eq_true] at h
      exact .val (x_subn h.1 (ckE a g h.2.1).pe (ckE i g h.2.2).pe) rfl
    · cases h
  | .slc a hl lo hh hi, W, X, ck, F, e, g, h => by
    simp only [chkE] at h
    split at h
    · rename_i a' lo' hi' q1 q2
      simp only [Bool.and_eq_true] at h
      obtain ⟨h0, h1, h2⟩ := h
      have l1 : PO X lo' (tO C W F fun δ S => optI hl (evE Γ C.FT lo δ) S) := by
        cases lo' with
        | none =>
          simp only [Bool.not_eq_true'] at h1
          subst h1
          exact o_none
        | some l =>
          simp only [Bool.and_eq_true] at h1
          obtain ⟨rfl, h1⟩ := h1
          exact o_some (ckE lo g h1).pe
      have l2 : PO X hi' (tO C W F fun δ S => optI hh (evE Γ C.FT hi δ) S) := by
        cases hi' with
        | none =>
          simp only [Bool.not_eq_true'] at h2
          subst h2
          exact o_none
        | some l =>
          simp only [Bool.and_eq_true] at h2
          obtain ⟨rfl, h2⟩ := h2
          exact o_some (ckE hi g h2).pe
      exact .val (x_slc g.sp.hk (ckE a g h0).pe l1 l2) rfl
    · cases h
  | .rev a, W, X, ck, F, e, g, h => by
    simp only [chkE] at h
    split at h
    · exact .val (x_rev (ckE a g h).pe) rfl
    · cases h
  | .attr a f, W, X, ck, F, e, g, h => by
    simp only [chkE] at h
    split at h
    · simp only [Bool.and_eq_true, beq_iff_eq] at h
      exact .val (x_attr g.sp g.tb.gm (g.tb.nm _ _ h.1) h.2.1 (ckE a g h.2.2).pe) rfl
    · cases h
  | .call j es, W, X, ck, F, e, g, h => by
    simp only [chkE] at h
    split at h
    · simp only [Bool.and_eq_true, beq_iff_eq] at h
      obtain ⟨h0, h1, h2, h3⟩ := h
      obtain ⟨u, q, k1, k2, k3, k4⟩ := g.tb.fns _ _ h1
      refine .val (PE.imp (x_call g.sp (g.gl h0).1 k1 k2 k4 (g.gl h0).2 h2 (ckEs es (F := F) g h3)) fun σ H Q hq => ?_) rfl
      simp only [evE, k3] at hq
      exact hq
    · cases h
  | .icall j es, W, X, ck, F, e, g, h => by
    simp only [chkE] at h
    split at h
    · simp only [Bool.and_eq_true, beq_iff_eq] at h
      obtain ⟨h0, h1, h2, h3⟩ := h
      obtain ⟨u, q, k1, k2, k3, k4⟩ := g.tb.ifns _ _ h1
      refine .val (PE.imp (x_icall g.sp (g.gl h0).1 k1 k2 k4 (g.gl h0).2 h2 (ckDs es (F := F) g h3)) fun σ H Q hq => ?_) rfl
      simp only [evE, k3] at hq
      exact hq
    · cases h
  | .kcall j es ks, W, X, ck, F, e, g, h => by
    simp only [chkE] at h
    split at h
    · simp only [Bool.and_eq_true] at h
      obtain ⟨h0, h1⟩ := h
      split at h1
      · rename_i y n names hk
        simp only [Bool.and_eq_true, beq_iff_eq, decide_eq_true_eq] at h1
        obtain ⟨rfl, h2, h3, h4, h5, h6⟩ := h1
        obtain ⟨u, q, k1, k2, k3, k4⟩ := g.tb.kfns _ _ _ _ hk
        rename_i l kws q1 q2
        cases l with
        | nil =>
          cases es with
          | nil =>
            refine .val (PE.imp (x_kcall0 g.sp (g.gl h0).1 k1 k2 k4 (g.gl h0).2 h3 (ckKs ks (F := F) g h6)) fun σ H Q hq => ?_) rfl
            simp only [evE, evEs, k3] at hq
            exact hq
          | cons _ _ => simp only [chkEs] at h5; cases h5
          | star _ _ => simp only [chkEs] at h5; cases h5
        | cons a l =>
          refine .val (PE.imp (x_kcall g.sp (g.gl h0).1 k1 k2 k4 (g.gl h0).2 h3 h4 (ckEs es (F := F) g h5) (ckKs ks (F := F) g h6)) fun σ H Q hq => ?_) rfl
          simp only [evE, k3] at hq
          exact hq
      · cases h1
    · cases h
  | .fmeth a m es, W, X, ck, F, e, g, h => by
    simp only [chkE] at h
    split at h
    · simp only [Bool.and_eq_true, beq_iff_eq, decide_eq_true_eq] at h
      obtain ⟨h0, h1, h2, h3, h4, h5, h6⟩ := h
      exact .val (x_fmeth g.sp g.tb.imts (g.tb.nm _ _ h0) h1 h2 h3 (by simpa using h4) (ckE a g h5).pe (ckEs es g h6)) rfl
    · cases h
  | .kmeth a m ks es, W, X, ck, F, e, g, h => by
    simp only [chkE] at h
    split at h
    · simp only [Bool.and_eq_true, beq_iff_eq, decide_eq_true_eq] at h
      obtain ⟨h0, h1, h2, h3, h4, h5, h6⟩ := h
      exact .val (x_kmeth g.sp g.tb.kmts (g.tb.nm _ _ h0) h1 h2 h3 (by simpa using h4) (ckE a g h5).pe (ckKs es g h6)) rfl
    · cases h
  | .meth a m es, W, X, ck, F, e, g, h => by
    simp only [chkE] at h
    split at h
    · simp only [Bool.and_eq_true, beq_iff_eq, decide_eq_true_eq] at h
      obtain ⟨h0, h1, h2, h3, h4, h5, h6⟩ := h
      exact .val (x_meth g.sp g.tb.gm (g.tb.nm _ _ h0) h1 h2 h3 (by simpa using h4) (ckE a g h5).pe (ckEs es g h6)) rfl
    · cases h
  | .app a b, W, X, ck, F, e, g, h => by
    simp only [chkE] at h
    split at h
    · simp only [Bool.and_eq_true, beq_iff_eq] at h
      obtain ⟨rfl, h1, h2, h3, h4, h5⟩ := h
      exact .val (x_app g.sp.hk h1 h2 (by simpa using h3) (ckE a g h4).pe (ckE b g h5).pe) rfl
    · cases h
  | .clr a, W, X, ck, F, e, g, h => by
    simp only [chkE] at h
    split at h
    · simp only [Bool.and_eq_true, beq_iff_eq] at h
      obtain ⟨rfl, h1, h2, h3⟩ := h
      exact .val (x_clr h1 (by simpa using h2) (ckE a g h3).pe) rfl
    · cases h
  | .b1 bb a, W, X, ck, F, e, g, h => by
    simp only [chkE] at h
    split at h
    · simp only [Bool.and_eq_true, beq_iff_eq] at h
      obtain ⟨h0, h1, h2, h3⟩ := h
      exact .val (x_b1 g.calm g.sp.hk g.hr.gd g.hr.units bb h0 (g.fr h1).1 (g.fr h1).2.2 h2 (ckE a g h3).pe) rfl
    · cases h
  | .b2 bb a c, W, X, ck, F, e, g, h => by
    simp only [chkE] at h
    split at h
    · simp only [Bool.and_eq_true, beq_iff_eq] at h
      obtain ⟨h0, h1, h2, h3, h4, h5⟩ := h
      exact .val (x_b2 g.calm bb h0 (g.fr h1).1 (g.fr h1).2.2 h2 h3 (ckE a g h4).pe (ckE c g h5).pe) rfl
    · cases h
  | .cpl a, W, X, ck, F, e, g, h => by
    simp only [chkE] at h
    split at h
    · simp only [Bool.and_eq_true, beq_iff_eq] at h
      obtain ⟨rfl, h1, h2, h3⟩ := h
      exact .val (x_cpl g.sp.hk (g.fr h1).1 (g.fr h1).2.2 h2 (ckE a g h3).pe) rfl
    · cases h
  | .isi a t, W, X, ck, F, e, g, h => by
    simp only [chkE] at h
    split at h
    · simp only [Bool.and_eq_true, beq_iff_eq] at h
      obtain ⟨rfl, h1, h2, h3, h4, h5⟩ := h
      exact .val (x_isi g.sp (g.tb.kit t (by simpa using h3)) (g.fr h1).1 (g.fr h1).2.2 h2 (ty_pe g h4) rfl (ckE a g h5).pe) rfl
    · cases h
  | .comp lv elt tg it hc c, W, X, ck, F, e, g, h => by
    simp only [chkE] at h
    split at h
    · simp only [Bool.and_eq_true] at h
      obtain ⟨h0, h1, h2, h3, h4, h5⟩ := h
      obtain ⟨bo, hk⟩ := blk_ok g h2
      refine .val (x_comp lv g.calm (by rw [g.N]; exact g.nd) (ckIt it g h0) bo (by rw [List.map_map]; simp [Function.comp_def]) ⟨fun s H A cl fp F => ckTg (g.blk hk s H A cl fp) tg _ h3, fun s H A cl fp F => ?_, fun s H A cl fp F => (ckE elt (g.blk hk s H A cl fp) h4).pe⟩ h1) rfl
      split at h5
      · simp only [Bool.not_eq_true'] at h5
        subst h5
        exact pts_no
      · simp only [Bool.and_eq_true] at h5
        obtain ⟨rfl, h5⟩ := h5
        exact pts_of (ckE c (g.blk hk s H A cl fp) h5).pt
      · cases h5
    · cases h
  | .fcall j es, W, X, ck, F, e, g, h => by
    simp only [chkE] at h
    split at h
    · simp only [Bool.and_eq_true, beq_iff_eq] at h
      obtain ⟨h0, h1, h2, h3⟩ := h
      obtain ⟨u, q, k1, k2, k3, k4⟩ := g.tb.ifns _ _ h1
      refine .val (PE.imp (x_fcall g.sp (g.gl h0).1 k1 k2 k4 (g.gl h0).2 h2 (ckEs es (F := F) g h3)) fun σ H Q hq => ?_) rfl
      simp only [evE, k3] at hq
      exact hq
    · cases h
  | .bcall j es, W, X, ck, F, e, g, h => by
    simp only [chkE] at h
    split at h
    · simp only [Bool.and_eq_true, beq_iff_eq] at h
      obtain ⟨h0, h1, h2, h3⟩ := h
      obtain ⟨u, q, k1, k2, k3, k4⟩ := g.tb.fns _ _ h1
      refine .val (PE.imp (x_bcall g.sp (g.gl h0).1 k1 k2 k4 (g.gl h0).2 h2 (ckDs es (F := F) g h3)) fun σ H Q hq => ?_) rfl
      simp only [evE, k3] at hq
      exact hq
    · cases h
  | .compb lv elt tg i hc c, W, X, ck, F, e, g, h => by
    simp only [chkE] at h
    split at h
    · simp only [Bool.and_eq_true] at h
      obtain ⟨h0, h2, h3, h4, h5⟩ := h
      obtain ⟨bo, hk⟩ := blk_ok g h2
      refine .val (x_compb lv g.calm (by rw [g.N]; exact g.nd) (x_var (Γ := Γ) (g.ix h0.1) (g.vis h0.2).1 (g.vis h0.2).2.1 (g.vis h0.2).2.2 C.FT) bo (by rw [List.map_map]; simp [Function.comp_def]) ⟨fun s H A cl fp F => ckTg (g.blk hk s H A cl fp) tg _ h3, fun s H A cl fp F => ?_, fun s H A cl fp F => (ckE elt (g.blk hk s H A cl fp) h4).pe⟩) rfl
      split at h5
      · simp only [Bool.not_eq_true'] at h5
        subst h5
        exact pts_no
      · simp only [Bool.and_eq_true] at h5
        obtain ⟨rfl, h5⟩ := h5
        exact pts_of (ckE c (g.blk hk s H A cl fp) h5).pt
      · cases h5
    · cases h
  | .fkcall j es ks, W, X, ck, F, e, g, h => by
    simp only [chkE] at h
    split at h
    · rw [Bool.and_eq_true] at h
      obtain ⟨h0, h1⟩ := h
      split at h1
      · rename_i y n names hk
        rw [Bool.and_eq_true, Bool.and_eq_true, Bool.and_eq_true, Bool.and_eq_true, beq_iff_eq, decide_eq_true_eq] at h1
        obtain ⟨rfl, h3, h4, h5, h6⟩ := h1
        obtain ⟨u, q, k1, k2, k3, k4⟩ := g.tb.kifns _ _ _ _ hk
        refine .val (PE.imp (x_fkcall g.sp (g.gl h0).1 k1 k2 k4 (g.gl h0).2 h3 h4 (ckEs es (F := F) g h5) (ckKs ks (F := F) g h6)) fun σ H Q hq => ?_) rfl
        simp only [evE, k3] at hq
        exact hq
      · cases h1
    · cases h
  | .spl a b, W, X, ck, F, e, g, h => by
    simp only [chkE] at h
    split at h
    · simp only [Bool.and_eq_true, beq_iff_eq] at h
      obtain ⟨rfl, h1, h2, h3, h4, h5⟩ := h
      exact .val (x_spl (ckE a g h4).pe (ckE b g h5).pe h1 h2 (beq_iff_eq.mpr h3)) rfl
    · cases h
  | .fs3 a z b, W, X, ck, F, e, g, h => by
    simp only [chkE] at h
    split at h
    · simp only [Bool.and_eq_true, beq_iff_eq, decide_eq_true_eq] at h
      obtain ⟨rfl, rfl, rfl, h1, h4, h5⟩ := h
      exact .val (x_fs3 h1 (ckE a g h4).pe (ckE b g h5).pe) rfl
    · cases h
  | .lcall i c j y es, W, X, ck, F, e, g, h => by
    simp only [chkE] at h
    split at h
    · simp only [Bool.and_eq_true, beq_iff_eq] at h
      obtain ⟨⟨h0, h1⟩, h2, h3, h4, h5⟩ := h
      obtain ⟨u, q, k1, k2, k3, k4⟩ := g.tb.fns _ _ h3
      have e := (g.tb.cls _ _ h2).symm.trans k1
      cases e
      refine .val (PE.imp (x_lcall g.sp (g.ix (beq_iff_eq.mpr h0)) (g.vis h1).1 k2 k4 (g.vis h1).2.1 (g.vis h1).2.2 h4 (ckEs es (F := F) g h5)) fun σ H Q hq => ?_) rfl
      simp only [evE, k3] at hq
      exact hq
    · cases h
  | .cmeth c m y es, W, X, ck, F, e, g, h => by
    simp only [chkE] at h
    split at h
    · rename_i y' p x ap v l pos
      rw [Bool.and_eq_true, Bool.and_eq_true, Bool.and_eq_true, Bool.and_eq_true, Bool.and_eq_true, Bool.and_eq_true, Bool.and_eq_true, Bool.and_eq_true, beq_iff_eq, beq_iff_eq, beq_iff_eq, decide_eq_true_eq] at h
      obtain ⟨rfl, h0, h1, h2, h3, h4, h5, h6, h7⟩ := h
      obtain ⟨mc, pp, f, q, r1, r2, r3, r4⟩ := g.tb.cms c m (by simpa using h3)
      rw [g.tb.nm _ _ h2] at r2
      refine .val (PE.imp (x_cmeth g.sp (g.gl h0).1 (g.tb.cls _ _ h1) (g.gl h0).2 r1 r2 r4 h4 h5 h6 (ckEs es (F := F) g h7)) fun σ H Q hq => ?_) rfl
      simp only [evE, r3] at hq
      exact hq
    · cases h
  | .kcmeth j c y es, W, X, ck, F, e, g, h => by
    simp only [chkE] at h
    split at h
    · rename_i y' p x ap kws pos
      rw [Bool.and_eq_true, Bool.and_eq_true, Bool.and_eq_true, beq_iff_eq, beq_iff_eq] at h
      obtain ⟨rfl, h0, h1, h2⟩ := h
      split at h2
      · rename_i c' m ks hj
        rw [Bool.and_eq_true, Bool.and_eq_true, Bool.and_eq_true, Bool.and_eq_true, Bool.and_eq_true, beq_iff_eq, decide_eq_true_eq, decide_eq_true_eq, decide_eq_true_eq] at h2
        obtain ⟨rfl, h3, h4, h5, h6, h7⟩ := h2
        obtain ⟨mc, pp, f, q, r1, r2, r3, r4⟩ := g.tb.kcms _ _ _ _ hj
        rw [g.tb.nm _ _ h3] at r2
        refine .val (PE.imp (x_kcmeth g.sp (g.gl h0).1 (g.tb.cls _ _ h1) (g.gl h0).2 r1 r2 r4 h4 h5 h6 (ckKs es (F := F) g h7)) fun σ H Q hq => ?_) rfl
        simp only [evE, r3] at hq
        exact hq
      · cases h2
    · cases h
  | .comp2 elt tg it tg1 it1 hc c, W, X, ck, F, e, g, h => by
    simp only [chkE] at h
    split at h
    · simp only [Bool.and_eq_true] at h
      obtain ⟨h0, h1, h1', h2, h3, h6, h7, h4, h5⟩ := h
      obtain ⟨bo, hk⟩ := blk_ok g h2
      refine .val (x_comp2 (fun X F => pts_no (f := fun _ _ => .stuck)) g.calm (by rw [g.N]; exact g.nd) (ckIt it g h0) bo (by rw [List.map_map]; simp [Function.comp_def]) ⟨fun s H A cl fp F => ckTg (g.blk hk s H A cl fp) tg _ h3, fun s H A cl fp F => ckIt it1 (g.blk hk s H A cl fp) h6, fun s H A cl fp F => ckTg (g.blk hk s H A cl fp) tg1 _ h7, fun s H A cl fp F => ?_, fun s H A cl fp F => (ckE elt (g.blk hk s H A cl fp) h4).pe⟩ h1 h1') rfl
      split at h5
      · simp only [Bool.not_eq_true'] at h5
        subst h5
        exact pts_no
      · simp only [Bool.and_eq_true] at h5
        obtain ⟨rfl, h5⟩ := h5
        exact pts_of (ckE c (g.blk hk s H A cl fp) h5).pt
      · cases h5
    · cases h
theorem ckEs : ∀ (ir : Es) {W : WX} {X : Cx} {ck : Ck} {F : Hp} {l : List Expr}, Good C W X k Γ T ck → chkEs T ck ir l = true → PA X l (tAP C W F (evEs Γ C.FT ir))
  | .nil, W, X, ck, F, l, g, h => by
    simp only [chkEs, List.isEmpty_iff] at h
    subst h
    exact a_nil
  | .cons e es, W, X, ck, F, l, g, h => by
    simp only [chkEs] at h
    split at h
    · simp only [Bool.and_eq_true] at h
      exact a_cons (ckE e g h.2.1).pe (ckEs es g h.2.2) h.1
    · cases h
  | .star e es, W, X, ck, F, l, g, h => by
    simp only [chkEs] at h
    split at h
    · simp only [Bool.and_eq_true] at h
      exact a_star g.sp.hk (ckE e g h.1).pe (ckEs es g h.2)
    · cases h
theorem ckDs : ∀ (ir : Es) {W : WX} {X : Cx} {ck : Ck} {F : Hp} {l : List Expr}, Good C W X k Γ T ck → chkEs T ck ir l = true → PA X l (tAD C W F (evDs Γ C.FT ir))
  | .nil, W, X, ck, F, l, g, h => by
    simp only [chkEs, List.isEmpty_iff] at h
    subst h
    exact d_nil
  | .cons e es, W, X, ck, F, l, g, h => by
    simp only [chkEs] at h
    split at h
    · simp only [Bool.and_eq_true] at h
      exact d_cons (ckE e g h.2.1).pe (ckDs es g h.2.2) h.1
    · cases h
  | .star e es, W, X, ck, F, l, g, h => by
    simp only [chkEs] at h
    split at h
    · simp only [Bool.and_eq_true] at h
      exact ⟨fun pos pins s σ H Q I ⟨δ, s0, A, R, hq⟩ => hq.elim⟩
    · cases h
theorem ckKs : ∀ (ir : Es) {W : WX} {X : Cx} {ck : Ck} {F : Hp} {l : List Keyword}, Good C W X k Γ T ck → chkKs T ck ir l = true → PK X l (tAP C W F (evEs Γ C.FT ir))
  | .nil, W, X, ck, F, l, g, h => by
    simp only [chkKs, List.isEmpty_iff] at h
    subst h
    exact k_nil
  | .cons e es, W, X, ck, F, l, g, h => by
    simp only [chkKs] at h
    split at h
    · simp only [Bool.and_eq_true] at h
      exact k_cons (ckE e g h.1).pe (ckKs es g h.2)
    · cases h
  | .star e es, W, X, ck, F, l, g, h => by
    simp only [chkKs] at h
    cases h
theorem ckIt : ∀ (ir : It) {W : WX} {X : Cx} {ck : Ck} {F : Hp} {tg e : Expr}, Good C W X k Γ T ck → chkIt T ck ir tg e = true → PI X tg e (tI C W F (evIt Γ C.FT ir))
  | .seq a, W, X, ck, F, tg, e, g, h => by
    simp only [chkIt] at h
    exact i_seq g.sp.hk (ckE a g h).pe
  | .rng1 a, W, X, ck, F, tg, e, g, h => by
    simp only [chkIt] at h
    split at h
    · simp only [Bool.and_eq_true, beq_iff_eq] at h
      obtain ⟨rfl, h1, h2, h3⟩ := h
      exact i_rng1 (g.fr h1).1 (g.fr h1).2.2 h2 (ckE a g h3).pe
    · cases h
  | .rng2 a b, W, X, ck, F, tg, e, g, h => by
    simp only [chkIt] at h
    split at h
    · simp only [Bool.and_eq_true, beq_iff_eq] at h
      obtain ⟨rfl, h1, h2, h3, h4, h5⟩ := h
      exact i_rng2 (g.fr h1).1 (g.fr h1).2.2 h2 h3 (ckE a g h4).pe (ckE b g h5).pe
    · cases h
  | .zip a b, W, X, ck, F, tg, e, g, h => by
    simp only [chkIt] at h
    split at h
    · split at h
      · simp only [Bool.and_eq_true, beq_iff_eq] at h
        obtain ⟨rfl, h1, h2, h3, h4, h5⟩ := h
        exact i_zip g.sp.hk (g.fr h1).1 (g.fr h1).2.2 h2 h3 (ckE a g h4).pe (ckE b g h5).pe
      · cases h
    · cases h
  | .enum a, W, X, ck, F, tg, e, g, h => by
    simp only [chkIt] at h
    split at h
    · split at h
      · simp only [Bool.and_eq_true, beq_iff_eq] at h
        obtain ⟨rfl, h1, h2, h3⟩ := h
        exact i_enum g.sp.hk (g.fr h1).1 (g.fr h1).2.2 h2 (ckE a g h3).pe
      · cases h
    · cases h
end
end
end RP
end

section
set_option Elab.async false
set_option linter.all false
set_option maxRecDepth 100000
set_option maxHeartbeats 4000000
/-! The checker: statements. -/
namespace RP
open PySem L2
/-- swappedStores, told ahead -/
def isStar : Expr → Bool
  | .Starred .. => true
  | _ => false
def swN (sc : Scope) (line : Nat) : Expr → Option Str
  | .Name id pos => if sc.names.lookup id == some .local && pos.line == line then some id else none
  | _ => none
def swS (ts vs : List Expr) (sc : Scope) : Option (Option (List Str)) :=
  if (!(ts.length == 2 || ts.length == 3) || vs.length != ts.length) = true then some none
  else if vs.any isStar = true then some none
  else
    let names := ts.filterMap (swN sc ((ts.head?.map (·.pos.line)).getD 0))
    if (names.length != ts.length || names.eraseDups.length != names.length) = true then some none
    else if vs.all (foldedForSure 8) = true then some none
    else if vs.all (constantsAlone 8) = true then none else some (some names)
theorem sw_ok {ts vs : List Expr} {env : Env} {o : Option (List Str)} {k k2 : Nat} {p p2 : Pos} (hk : env.scope.kind = .function) (h : swS ts vs env.scope = some o) : swappedStores [.Tuple ts k p] (.Tuple vs k2 p2) env = pure o := by
  have hb : env.blockKind = .function := by
    unfold Env.blockKind
    rw [hk]
    rfl
  unfold swappedStores
  unfold swS at h
  simp only [hb]
  have e1 : (fun x : Expr => match x with | .Starred .. => true | _ => false) = isStar := by
    funext x
    cases x <;> rfl
  have e2 : (fun x : Expr => match x with
    | .Name id pos => if (env.kindOf id == some .local && pos.line == (ts.head?.map (·.pos.line)).getD 0) = true then some id else none
    | _ => none) = swN env.scope ((ts.head?.map (·.pos.line)).getD 0) := by
    funext x
    cases x <;> rfl
  have e3 : (ScopeKind.function != ScopeKind.function) = false := rfl
  simp only [e3, Bool.or_false]
  split at h
  · rename_i c1
    cases h
    exact if_pos c1
  · rename_i c1
    refine (if_neg c1).trans ?_
    split at h
    · rename_i c2
      cases h
      exact if_pos c2
    · rename_i c2
      refine (if_neg c2).trans ?_
      dsimp only at h
      split at h
      · rename_i c3
        cases h
        exact if_pos c3
      · rename_i c3
        refine (if_neg c3).trans ?_
        split at h
        · rename_i c4
          cases h
          exact if_pos c4
        · rename_i c4
          refine (if_neg c4).trans ?_
          split at h
          · cases h
          · rename_i c5
            cases h
            exact if_neg c5
/-- the value of a comprehension stored: is the list itself the name's -/
def swB (sc : Scope) (x : Str) (p epos : Pos) (scope : Scope) : Bool := sc.names.lookup x == some .local && p.line == epos.line && !(scope.names.any fun (n, k) => n == x && (k == .local || k == .cell))
theorem swB_no {env : Env} {elt : Expr} {gs : List Comprehension} {scope : Scope} {epos p : Pos} {x : Str} {l : Nat} (h : swB env.scope x p epos scope = false) : swapsWith (.ListComp elt gs scope epos) (some (.Name x p)) l env = pure false := by
  unfold swapsWith
  unfold swB at h
  have e : env.kindOf x = env.scope.names.lookup x := rfl
  simp only [e]
  show pure (env.blockKind == .function && env.scope.names.lookup x == some .local && p.line == epos.line && !(scope.names.any fun (n, k) => n == x && (k == .local || k == .cell))) = pure false
  rw [Bool.and_assoc, Bool.and_assoc, ← Bool.and_assoc (env.scope.names.lookup x == some .local), h, Bool.and_false]
section
variable (T : Gs) (ck : Ck)
mutual
def chkHX (i : Option Nat) (cs : List Nat) : HX → Expr → Bool
  | .non, e => match e with
    | .Constant .none _ _ => true
    | _ => false
  | .bl b, e => match e with
    | .Constant (.bool c) _ _ => b == c
    | _ => false
  | .int n, e => match e with
    | .Constant (.int m) _ _ => decide (n = m)
    | _ => false
  | .str z, e => match e with
    | .Constant (.str t) _ _ => z == t
    | _ => false
  | .var j, e => match e with
    | .Name x _ => ck.N[j]? == some x && visB ck.sc x
    | _ => false
  | .given, e => match e with
    | .Attribute (.Name n _) fn _ => (match i with
      | some j => ck.N[j]? == some n && (visB ck.sc n && cs.all fun c => T.xr.contains c && (match T.ft c with
        | [f] => T.nm[f]? == some fn
        | _ => false))
      | none => false)
    | _ => false
  | .no j, e => match e with
    | .UnaryOp .Not (.Name x _) _ => ck.N[j]? == some x && visB ck.sc x
    | _ => false
  | .rq a b, e => match e with
    | .Compare (.Call (.Name x _) [e1] [] _) [.Eq] [.Call (.Name y _) [e2] [] _] _ => x == ("repr" : Str) && (y == ("repr" : Str) && (freeB T ck "repr" && (notStar e1 && (notStar e2 && (chkHX i cs a e1 && chkHX i cs b e2)))))
    | _ => false
  | .tup xs, e => match e with
    | .Tuple es _ _ => chkHXs i cs xs es
    | _ => false
  | .lst xs, e => match e with
    | .List es _ => chkHXs i cs xs es
    | _ => false
def chkHXs (i : Option Nat) (cs : List Nat) : List HX → List Expr → Bool
  | [], l => l.isEmpty
  | x :: xs, l => match l with
    | e :: es => notStar e && (chkHX i cs x e && chkHXs i cs xs es)
    | [] => false
end
def chkSu (i : Option Nat) (cs : List Nat) : HS → List Stmt → Bool
  | .ret hx, l => match l with
    | [.Return (some e) _] => chkHX T ck i cs hx e
    | _ => false
  | .inc j n, l => match l with
    | [.Assign [.Name x _] (.BinOp (.Name y _) .Add (.Constant (.int m) _ _) _) _] => x == y && (decide (n = m) && (ck.N[j]? == some x && (locB ck x && visB ck.sc x)))
    | _ => false
  | .app j hx, l => match l with
    | [.Expr (.Call (.Attribute (.Name x _) y ap) [e] [] cp) _] => y == ("append" : Str) && (ck.N[j]? == some x && (visB ck.sc x && (notStar e && (ap.endLine == cp.line && chkHX T ck i cs hx e))))
    | _ => false
  | .set j hx, l => match l with
    | [.Assign [.Name x _] e _] => ck.N[j]? == some x && (locB ck x && (notComp e && chkHX T ck i cs hx e))
    | _ => false
/-- the clauses of a try -/
def chkHs : Hs → List ExceptHandler → Bool
  | .nil, l => l.isEmpty
  | .cons cs ns i b r, l => match l with
    | .ExceptHandler (some (.Name x _)) n ss _ :: hr => glB ck.sc x && ((match T.xc.lookup x with
      | some c => cs.all (fun d => T.exm d c == some true) && ns.all (fun d => T.exm d c == some false)
      | none => false) && ((match i, n with
      | none, none => true
      | some j, some y => ck.N[j]? == some y && ck.sc.names.lookup y == some .local
      | _, _ => false) && (chkSu T ck i cs b ss && chkHs r hr)))
    | _ => false
mutual
def chkS : S → Stmt → Bool
  | .asg t e, s => match s with
    | .Assign [.Name x p] e' pos => (match t with
      | .name i => ck.N[i]? == some x && (locB ck x && (chkE T ck e e' && (notComp e' || (match e' with
        | .ListComp _ _ scope epos => !(swB ck.sc x p epos scope) || (match e with
          | .comp .. => true
          | .compb .. => true
          | .comp2 .. => true
          | _ => false)
        | _ => false))))
      | .tup _ => false)
    | .Assign [.Tuple es j p] e' pos => (match t with
      | .name _ => false
      | .tup ts => chkTg ck (.tup ts) (.Tuple es j p) && (chkE T ck e e' && (match e' with
        | .Tuple vs _ _ => swS es vs ck.sc == some none
        | _ => notTup e')))
    | _ => false
  | .par i j a b, s => match s with
    | .Assign [.Tuple [.Name x px, .Name y py] _ _] (.Tuple [a', b'] _ _) _ => ck.N[i]? == some x && (ck.N[j]? == some y && (decide (i ≠ j) && (ck.sc.names.lookup x == some .local && (ck.sc.names.lookup y == some .local && (notStar a' && (notStar b' && (swS [.Name x px, .Name y py] [a', b'] ck.sc == some (some [x, y]) && (chkE T ck a a' && chkE T ck b b'))))))))
    | _ => false
  | .par3 i j l a b c, s => match s with
    | .Assign [.Tuple [.Name x px, .Name y py, .Name z pz] _ _] (.Tuple [a', b', c'] _ _) _ => ck.N[i]? == some x && (ck.N[j]? == some y && (ck.N[l]? == some z && (decide (i ≠ j) && (decide (i ≠ l) && (decide (j ≠ l) && (ck.sc.names.lookup x == some .local && (ck.sc.names.lookup y == some .local && (ck.sc.names.lookup z == some .local && (notStar a' && (notStar b' && (notStar c' && (swS [.Name x px, .Name y py, .Name z pz] [a', b', c'] ck.sc == some (some [x, y, z]) && (chkE T ck a a' && (chkE T ck b b' && chkE T ck c c'))))))))))))))
    | _ => false
  | .setf o f e, s => match s with
    | .Assign [.Attribute o' x _] e' _ => T.nm[f]? == some x && (notComp e' && (chkE T ck o o' && chkE T ck e e'))
    | _ => false
  | .seti o i e, s => match s with
    | .Assign [.Subscript o' i' _] e' _ => notSlice i' && (notComp e' && (chkE T ck o o' && (chkE T ck i i' && chkE T ck e e')))
    | _ => false
  | .ext i e, s => match s with
    | .AugAssign (.Name x _) .Add e' _ => ck.N[i]? == some x && (locB ck x && chkE T ck e e')
    | _ => false
  | .expr e, s => match s with
    | .Expr e' _ => notComp e' && chkE T ck e e'
    | _ => false
  | .ret e, s => match s with
    | .Return (some e') _ => chkE T ck e e'
    | _ => false
  | .retn, s => match s with
    | .Return none _ => true
    | _ => false
  | .ifs c a b, s => match s with
    | .If c' a' b' _ => chkE T ck c c' && (chkSs a a' && chkSs b b')
    | _ => false
  | .whl c b, s => match s with
    | .While c' b' [] _ => chkE T ck c c' && chkSs b b'
    | _ => false
  | .for_ t it b, s => match s with
    | .For t' it' b' [] _ => chkTg ck t t' && (notSet it' && (chkIt T ck it t' it' && chkSs b b'))
    | _ => false
  | .brk, s => match s with
    | .Break _ => true
    | _ => false
  | .cnt, s => match s with
    | .Continue _ => true
    | _ => false
  | .pass, s => match s with
    | .Pass _ => true
    | _ => false
  | .rais0 c, s => match s with
    | .Raise (some (.Call (.Name x _) [] [] _)) none _ => glB ck.sc x && (T.xc.lookup x == some c && (T.ft c).isEmpty)
    | _ => false
  | .rais1 c e, s => match s with
    | .Raise (some (.Call (.Name x _) [e'] [] _)) none _ => glB ck.sc x && (T.xc.lookup x == some c && ((T.ft c).length == 1 && (notStar e' && chkE T ck e e')))
    | _ => false
  | .tr b hs, s => match s with
    | .Try b' (h :: hr) [] [] _ => chkSs b b' && chkHs T ck hs (h :: hr)
    | _ => false
def chkSs : Ss → List Stmt → Bool
  | .nil, l => l.isEmpty
  | .cons s r, l => match l with
    | x :: xs => chkS s x && chkSs r xs
    | [] => false
end
end
end RP
end

section
set_option Elab.async false
set_option linter.all false
set_option maxRecDepth 100000
set_option maxHeartbeats 4000000
/-! The checker is sound: statements. -/
namespace RP
open PySem L2
structure GoodS (C : CC) (W : WX) (X : Cx) (k : Nat) (Γ : Tab) (T : Gs) (ck : Ck) : Prop where
  g : Good C W X k Γ T ck
  own : PassesOwn (model X.prog X.w) X.A X.env X.xe
  stk : X.stack = X.env :: X.outer
  frm : X.env.frame = some X.env.locals
section
variable {C : CC} {W : WX} {X : Cx} {k : Nat} {Γ : Tab} {T : Gs} {ck : Ck} {F : Hp} {e a b c : Expr} {fa fb fc : DEnv → Sto → RE D} {pos : Pos}
theorem s_par {i j : Nat} {x y : Str} {px py pt pt2 : Pos} {kt k2 : Nat} (hc : X.calm = true) (hN : X.N.Nodup) (hi : X.N[i]? = some x) (hj : X.N[j]? = some y) (hij : i ≠ j) (hx : X.env.scope.names.lookup x = some .local) (hy : X.env.scope.names.lookup y = some .local)
    (ha : PE X a (tE C W F fa)) (hb : PE X b (tE C W F fb)) (na : notStar a = true) (nb : notStar b = true) (hw : swappedStores [.Tuple [.Name x px, .Name y py] kt pt] (.Tuple [a, b] k2 pt2) X.env = pure (some [x, y])) :
    PS X (.Assign [.Tuple [.Name x px, .Name y py] kt pt] (.Tuple [a, b] k2 pt2) pos) (tS C W F fun δ S => (fa δ S).st δ fun d1 S1 => (fb δ S1).st δ fun d2 S2 => .next (setSlot (setSlot δ i d1) j d2) S2) :=
  PS.imp (ps_par hc hN hi hj hij hx hy (pa_cons ha (pa_cons hb pa_nil (star_cons nb)) (star_cons na)) hw) fun D σ H ⟨δ, s, A, R, h⟩ => by
    refine ⟨δ, s, A, R, Wt.imp (WantS.st R h) fun d1 s1 H1 _ e1 A1 h1 v r1 => ?_⟩
    refine ⟨δ, s1, A1, R.mono e1, Wt.imp (WantS.st (R.mono e1) h1) fun d2 s2 H2 _ e2 A2 h2 u r2 => ?_⟩
    exact ⟨v, u, rfl, h2.next A2 ((((R.mono e1).mono e2).set (RepD.mono e2 d1 v r1)).set r2)⟩
theorem s_par3 {i j l : Nat} {x y z : Str} {px py pz pt pt2 : Pos} {kt k2 : Nat} (hc : X.calm = true) (hN : X.N.Nodup) (hi : X.N[i]? = some x) (hj : X.N[j]? = some y) (hl : X.N[l]? = some z) (hij : i ≠ j) (hil : i ≠ l) (hjl : j ≠ l) (hx : X.env.scope.names.lookup x = some .local) (hy : X.env.scope.names.lookup y = some .local) (hz : X.env.scope.names.lookup z = some .local)
    (ha : PE X a (tE C W F fa)) (hb : PE X b (tE C W F fb)) (hcc : PE X c (tE C W F fc)) (na : notStar a = true) (nb : notStar b = true) (nc : notStar c = true) (hw : swappedStores [.Tuple [.Name x px, .Name y py, .Name z pz] kt pt] (.Tuple [a, b, c] k2 pt2) X.env = pure (some [x, y, z])) :
    PS X (.Assign [.Tuple [.Name x px, .Name y py, .Name z pz] kt pt] (.Tuple [a, b, c] k2 pt2) pos) (tS C W F fun δ S => (fa δ S).st δ fun d1 S1 => (fb δ S1).st δ fun d2 S2 => (fc δ S2).st δ fun d3 S3 => .next (setSlot (setSlot (setSlot δ i d1) j d2) l d3) S3) :=
  PS.imp (ps_par3 hc hN hi hj hl hij hil hjl hx hy hz (pa_cons ha (pa_cons hb (pa_cons hcc pa_nil (star_cons nc)) (star_cons nb)) (star_cons na)) hw) fun D σ H ⟨δ, s, A, R, h⟩ => by
    refine ⟨δ, s, A, R, Wt.imp (WantS.st R h) fun d1 s1 H1 _ e1 A1 h1 v r1 => ?_⟩
    refine ⟨δ, s1, A1, R.mono e1, Wt.imp (WantS.st (R.mono e1) h1) fun d2 s2 H2 _ e2 A2 h2 u r2 => ?_⟩
    refine ⟨δ, s2, A2, (R.mono e1).mono e2, Wt.imp (WantS.st ((R.mono e1).mono e2) h2) fun d3 s3 H3 _ e3 A3 h3 w r3 => ?_⟩
    exact ⟨v, u, w, rfl, h3.next A3 ((((((R.mono e1).mono e2).mono e3).set (RepD.mono (e2.trans e3) d1 v r1)).set (RepD.mono e3 d2 u r2)).set r3)⟩
/-! ### except suites -/
section
variable {cs : List Nat} {i : Option Nat} {ad : Addr} {kc : Value} {dd : Option Addr} {ob : Obj} {pl : List (Addr × Obj)}
mutual
theorem ckHX (g : Good C W X k Γ T ck) (hz : Zc kc dd ob) (hd : ∃ vs, ob.data = .fields vs) : ∀ (hx : HX) {e : Expr}, chkHX T ck i cs hx e = true → PE (X.suite ad ((ad, ob) :: pl)) e (hR C cs i ad kc dd hx)
  | .non, e, h => by
    simp only [chkHX] at h
    split at h
    · exact h_non
    · cases h
  | .bl b, e, h => by
    simp only [chkHX] at h
    split at h
    · simp only [beq_iff_eq] at h
      subst h
      exact h_bl
    · cases h
  | .int n, e, h => by
    simp only [chkHX] at h
    split at h
    · simp only [decide_eq_true_eq] at h
      subst h
      exact h_int
    · cases h
  | .str n, e, h => by
    simp only [chkHX] at h
    split at h
    · simp only [beq_iff_eq] at h
      subst h
      exact h_str
    · cases h
  | .var j, e, h => by
    simp only [chkHX] at h
    split at h
    · simp only [Bool.and_eq_true] at h
      exact h_var (X := X.suite ad ((ad, ob) :: pl)) (g.ix h.1) (g.vis h.2).1 (g.vis h.2).2.1 (g.vis h.2).2.2
    · cases h
  | .no j, e, h => by
    simp only [chkHX] at h
    split at h
    · simp only [Bool.and_eq_true] at h
      exact h_no (X := X.suite ad ((ad, ob) :: pl)) (g.ix h.1) (g.vis h.2).1 (g.vis h.2).2.1 (g.vis h.2).2.2
    · cases h
  | .rq a b, e, h => by
    simp only [chkHX] at h
    split at h
    · simp only [Bool.and_eq_true, beq_iff_eq] at h
      obtain ⟨rfl, rfl, h1, h2, h3, h4, h5⟩ := h
      exact h_rq (X := X.suite ad ((ad, ob) :: pl)) g.sp.hk g.hr.gd g.hr.units (g.fr h1).1 (g.fr h1).2.2 (ckHX g hz hd a h4) (ckHX g hz hd b h5) h2 h3
    · cases h
  | .given, e, h => by
    simp only [chkHX] at h
    split at h
    · rename_i n p fn q
      cases i with
      | none => cases h
      | some j =>
        simp only [Bool.and_eq_true, List.all_eq_true] at h
        obtain ⟨h0, h1, h2⟩ := h
        have hf : ∀ c ∈ cs, ∃ f, T.ft c = [f] ∧ T.nm[f]? = some fn ∧ XRd X.K (C.CA c) (C.NM f) := fun c hc => by
          obtain ⟨h3, h4⟩ := h2 c hc
          split at h4
          · rename_i f hf
            exact ⟨f, hf, by simpa using h4, g.tb.xr c f (by simpa using h3) hf⟩
          · cases h4
        cases cs with
        | nil => exact ⟨fun pins s σ H Q I ⟨F, δ, t, gg, A, R, hs, hq⟩ => by
            obtain ⟨⟨c, hc, _⟩, _⟩ := hs
            cases hc⟩
        | cons c0 cs' =>
          obtain ⟨f0, e0, n0, _⟩ := hf c0 List.mem_cons_self
          have nf := g.tb.nm f0 fn n0
          refine h_given (f := f0) nf (fun c hc => ?_) hz hd (g.ix h0) (g.vis h1).1 (g.vis h1).2.1 (g.vis h1).2.2
          obtain ⟨f, e1, n1, r1⟩ := hf c hc
          have e3 : f = f0 := by
            have z := g.tb.nm f fn n1
            have in0 : f0 ∈ C.FT c0 := by rw [g.tb.ft, e0]; exact List.mem_singleton.mpr rfl
            exact g.tb.xinj c0 f0 f in0 (by rw [z, nf])
          subst e3
          refine ⟨by rw [g.tb.ft, e1], ?_⟩
          rw [← nf]
          exact r1
    · cases h
  | .tup xs, e, h => by
    simp only [chkHX] at h
    split at h
    · exact h_tup (ckHXs g hz hd xs h)
    · cases h
  | .lst xs, e, h => by
    simp only [chkHX] at h
    split at h
    · exact h_lst (ckHXs g hz hd xs h)
    · cases h
theorem ckHXs (g : Good C W X k Γ T ck) (hz : Zc kc dd ob) (hd : ∃ vs, ob.data = .fields vs) : ∀ (hx : List HX) {l : List Expr}, chkHXs T ck i cs hx l = true → PA (X.suite ad ((ad, ob) :: pl)) l (hRs C cs i ad kc dd hx)
  | [], l, h => by
    simp only [chkHXs, List.isEmpty_iff] at h
    subst h
    exact h_nil
  | x :: xs, l, h => by
    simp only [chkHXs] at h
    split at h
    · simp only [Bool.and_eq_true] at h
      exact h_cons (ckHX g hz hd x h.2.1) (ckHXs g hz hd xs h.2.2) h.1
    · cases h
end
end
theorem ckSu (g : Good C W X k Γ T ck) {i : Option Nat} {cs : List Nat} {b : HS} {l : List Stmt} (h : chkSu T ck i cs b l = true) : SuOk X l (hS C cs i b) := by
  intro ad ob kc dd pl hz hd
  cases b with
  | ret hx =>
    simp only [chkSu] at h
    split at h
    · exact su_ret (ckHX g hz hd hx h)
    · cases h
  | inc j n =>
    simp only [chkSu] at h
    split at h
    · simp only [Bool.and_eq_true, beq_iff_eq, decide_eq_true_eq] at h
      obtain ⟨rfl, rfl, h1, h2, h3⟩ := h
      exact su_inc (X := X.suite ad ((ad, ob) :: pl)) (by rw [show (X.suite ad ((ad, ob) :: pl)).N = X.N from rfl, g.N]; exact g.nd) (g.ix (by simpa using h1)) (g.loc h2).1 (g.loc h2).2 (g.vis h3).2.1 (g.vis h3).2.2
    · cases h
  | app j hx =>
    simp only [chkSu] at h
    split at h
    · simp only [Bool.and_eq_true, beq_iff_eq] at h
      obtain ⟨rfl, h1, h2, h3, h4, h5⟩ := h
      exact su_app (X := X.suite ad ((ad, ob) :: pl)) (g.ix (by simpa using h1)) (g.vis h2).1 (g.vis h2).2.1 (g.vis h2).2.2 h3 (by simpa using h4) (ckHX g hz hd hx h5)
    · cases h
  | set j hx =>
    simp only [chkSu] at h
    split at h
    · simp only [Bool.and_eq_true] at h
      obtain ⟨h1, h2, h3, h4⟩ := h
      exact su_set (X := X.suite ad ((ad, ob) :: pl)) (by rw [show (X.suite ad ((ad, ob) :: pl)).N = X.N from rfl, g.N]; exact g.nd) (g.ix h1) (g.loc h2).1 (g.loc h2).2 (ckHX g hz hd hx h4) h3
    · cases h
theorem ss_ne {l : List Stmt} {b : HS} {i : Option Nat} {cs : List Nat} (h : chkSu T ck i cs b l = true) : ∃ s ss, l = s :: ss := by
  cases l with
  | nil =>
    cases b <;> simp only [chkSu] at h <;> cases h
  | cons s ss => exact ⟨s, ss, rfl⟩
theorem ckHs (g : Good C W X k Γ T ck) : ∀ (hs : Hs) {l : List ExceptHandler}, chkHs T ck hs l = true → ∃ cl, ClaOk X l cl ∧ hsOk C X.K hs cl
  | .nil, l, h => by
    simp only [chkHs, List.isEmpty_iff] at h
    subst h
    exact ⟨[], .nil, by simp only [hsOk]⟩
  | .cons cs ns i b r, l, h => by
    simp only [chkHs] at h
    split at h
    · rename_i x p n ss q hr
      simp only [Bool.and_eq_true] at h
      obtain ⟨h0, h1, h2, h3, h4⟩ := h
      obtain ⟨cl, c1, c2⟩ := ckHs g r h4
      obtain ⟨st, ss', rfl⟩ := ss_ne h3
      cases hx : T.xc.lookup x with
      | none =>
        rw [hx] at h1
        cases h1
      | some c =>
        rw [hx] at h1
        simp only [Bool.and_eq_true, List.all_eq_true, beq_iff_eq] at h1
        have nm : Names X x (.ref (C.CA c)) := ⟨(g.gl h0).1, (g.gl h0).2, .inl (g.tb.xc x c hx)⟩
        refine ⟨⟨.ref (C.CA c), i, hS C cs i b⟩ :: cl, ?_, ?_⟩
        · cases i with
          | none =>
            cases n with
            | none => exact .plain nm (ckSu g h3) c1
            | some y => cases h2
          | some j =>
            cases n with
            | none => cases h2
            | some y =>
              simp only [Bool.and_eq_true, beq_iff_eq] at h2
              refine .named nm (g.ix (by simpa using h2.1)) ?_ (ckSu g h3) c1
              show X.env.scope.names.lookup y = _
              rw [g.sc]
              exact h2.2
        · simp only [hsOk]
          exact ⟨_, _, rfl, fun d hd => g.tb.exm d c true (h1.1 d hd), fun d hd => g.tb.exm d c false (h1.2 d hd), c2⟩
    · cases h
/-! ### statements -/
theorem GoodS.nd (g : GoodS C W X k Γ T ck) : X.N.Nodup := by rw [g.g.N]; exact g.g.nd
theorem GoodS.kind (g : GoodS C W X k Γ T ck) : X.env.scope.kind = .function := by rw [g.g.sc]; exact g.g.fk
theorem GoodS.tr (g : GoodS C W X k Γ T ck) {Wi : WX} {pl : List (Addr × Obj)} {xf : Value → Shared → Prop} (tk : Takes (X.tr pl xf) Wi) (hp : PassesOwn (model X.prog X.w) X.A X.env xf) : GoodS C Wi (X.tr pl xf) k Γ T ck := by
  obtain ⟨⟨sp, hr, hN, nd, hsc, fk, fn, calm, tb⟩, own, stk, frm⟩ := g
  exact ⟨⟨⟨sp.cf, sp.nm, sp.fl, sp.hk, tk, sp.hr, sp.py⟩, hr, hN, nd, hsc, fk, fn, calm, tb⟩, hp, stk, frm⟩
theorem ck_setc (g : GoodS C W X k Γ T ck) {lv hc : Bool} {elt cc : E} {tg : Tg} {it : It} {i : Nat} {x : Str} {p epos : Pos} {elt' : Expr} {gs : List Comprehension} {scope : Scope} (hi : X.N[i]? = some x) (h : chkE T ck (.comp lv elt tg it hc cc) (.ListComp elt' gs scope epos) = true) (hs : swB ck.sc x p epos scope = true) :
    PS X (.Assign [.Name x p] (.ListComp elt' gs scope epos) pos) (tS C W F fun δ S => (evE Γ C.FT (.comp lv elt tg it hc cc) δ S).st δ fun d S1 => .next (setSlot δ i d) S1) := by
  unfold swB at hs
  simp only [Bool.and_eq_true, beq_iff_eq, Bool.not_eq_true'] at hs
  simp only [chkE] at h
  split at h
  · rename_i heq
    cases heq
    simp only [Bool.and_eq_true] at h
    obtain ⟨h0, h1, h2, h3, h4, h5⟩ := h
    obtain ⟨bo, hk⟩ := blk_ok g.g h2
    refine s_setc lv g.g.calm g.nd hi (by rw [g.g.sc]; exact hs.1.1) g.kind (by simpa using hs.1.2) hs.2 (ckIt it g.g h0) bo (by rw [List.map_map]; simp [Function.comp_def]) ⟨fun s H A cl fp F => ckTg (g.g.blk hk s H A cl fp) tg _ h3, fun s H A cl fp F => ?_, fun s H A cl fp F => (ckE elt (g.g.blk hk s H A cl fp) h4).pe⟩ h1
    split at h5
    · simp only [Bool.not_eq_true'] at h5
      subst h5
      exact pts_no
    · simp only [Bool.and_eq_true] at h5
      obtain ⟨rfl, h5⟩ := h5
      exact pts_of (ckE cc (g.g.blk hk s H A cl fp) h5).pt
    · cases h5
  · cases h
theorem ck_setcb (g : GoodS C W X k Γ T ck) {lv hc : Bool} {elt cc : E} {tg : Tg} {j : Nat} {i : Nat} {x : Str} {p epos : Pos} {elt' : Expr} {gs : List Comprehension} {scope : Scope} (hi : X.N[i]? = some x) (h : chkE T ck (.compb lv elt tg j hc cc) (.ListComp elt' gs scope epos) = true) (hs : swB ck.sc x p epos scope = true) :
    PS X (.Assign [.Name x p] (.ListComp elt' gs scope epos) pos) (tS C W F fun δ S => (evE Γ C.FT (.compb lv elt tg j hc cc) δ S).st δ fun d S1 => .next (setSlot δ i d) S1) := by
  unfold swB at hs
  simp only [Bool.and_eq_true, beq_iff_eq, Bool.not_eq_true'] at hs
  simp only [chkE] at h
  split at h
  · rename_i heq
    cases heq
    simp only [Bool.and_eq_true] at h
    obtain ⟨h0, h2, h3, h4, h5⟩ := h
    obtain ⟨bo, hk⟩ := blk_ok g.g h2
    refine s_setcb lv g.g.calm g.nd hi (by rw [g.g.sc]; exact hs.1.1) g.kind (by simpa using hs.1.2) hs.2 (x_var (Γ := Γ) (g.g.ix h0.1) (g.g.vis h0.2).1 (g.g.vis h0.2).2.1 (g.g.vis h0.2).2.2 C.FT) bo (by rw [List.map_map]; simp [Function.comp_def]) ⟨fun s H A cl fp F => ckTg (g.g.blk hk s H A cl fp) tg _ h3, fun s H A cl fp F => ?_, fun s H A cl fp F => (ckE elt (g.g.blk hk s H A cl fp) h4).pe⟩
    split at h5
    · simp only [Bool.not_eq_true'] at h5
      subst h5
      exact pts_no
    · simp only [Bool.and_eq_true] at h5
      obtain ⟨rfl, h5⟩ := h5
      exact pts_of (ckE cc (g.g.blk hk s H A cl fp) h5).pt
    · cases h5
  · cases h
theorem ck_setc2 (g : GoodS C W X k Γ T ck) {hc : Bool} {elt cc : E} {tg tg1 : Tg} {it it1 : It} {i : Nat} {x : Str} {p epos : Pos} {elt' : Expr} {gs : List Comprehension} {scope : Scope} (hi : X.N[i]? = some x) (h : chkE T ck (.comp2 elt tg it tg1 it1 hc cc) (.ListComp elt' gs scope epos) = true) (hs : swB ck.sc x p epos scope = true) :
    PS X (.Assign [.Name x p] (.ListComp elt' gs scope epos) pos) (tS C W F fun δ S => (evE Γ C.FT (.comp2 elt tg it tg1 it1 hc cc) δ S).st δ fun d S1 => .next (setSlot δ i d) S1) := by
  unfold swB at hs
  simp only [Bool.and_eq_true, beq_iff_eq, Bool.not_eq_true'] at hs
  simp only [chkE] at h
  split at h
  · rename_i heq
    cases heq
    simp only [Bool.and_eq_true] at h
    obtain ⟨h0, h1, h1', h2, h3, h6, h7, h4, h5⟩ := h
    obtain ⟨bo, hk⟩ := blk_ok g.g h2
    refine s_setc2 (fun X F => pts_no (f := fun _ _ => .stuck)) g.g.calm g.nd hi (by rw [g.g.sc]; exact hs.1.1) g.kind (by simpa using hs.1.2) hs.2 (ckIt it g.g h0) bo (by rw [List.map_map]; simp [Function.comp_def]) ⟨fun s H A cl fp F => ckTg (g.g.blk hk s H A cl fp) tg _ h3, fun s H A cl fp F => ckIt it1 (g.g.blk hk s H A cl fp) h6, fun s H A cl fp F => ckTg (g.g.blk hk s H A cl fp) tg1 _ h7, fun s H A cl fp F => ?_, fun s H A cl fp F => (ckE elt (g.g.blk hk s H A cl fp) h4).pe⟩ h1 h1'
    split at h5
    · simp only [Bool.not_eq_true'] at h5
      subst h5
      exact pts_no
    · simp only [Bool.and_eq_true] at h5
      obtain ⟨rfl, h5⟩ := h5
      exact pts_of (ckE cc (g.g.blk hk s H A cl fp) h5).pt
    · cases h5
  · cases h
mutual
theorem ckS : ∀ (ir : S) {W : WX} {X : Cx} {F : Hp} {s : Stmt}, GoodS C W X k Γ T ck → chkS T ck ir s = true → PS X s (tS C W F (exS Γ C.FT ir))
  | .asg t e, W, X, F, s, g, h => by
    simp only [chkS] at h
    split at h
    · rename_i x p e' pos
      cases t with
      | tup ts => cases h
      | name i =>
        simp only [Bool.and_eq_true, Bool.or_eq_true] at h
        obtain ⟨h0, h1, h2, h3⟩ := h
        by_cases hn : notComp e' = true
        · exact s_set g.nd (g.g.ix h0) (g.g.loc h1).1 (g.g.loc h1).2 (ckE e g.g h2).pe (swaps_plain hn)
        · rcases h3 with h3 | h3
          · exact absurd h3 hn
          · split at h3
            · rename_i elt' gs scope epos
              by_cases hw : swB ck.sc x p epos scope = true
              · rw [hw] at h3
                cases e with
                | comp lv elt tg it hc cc => exact ck_setc g (g.g.ix h0) h2 hw
                | compb lv elt tg j hc cc => exact ck_setcb g (g.g.ix h0) h2 hw
                | comp2 elt tg it tg1 it1 hc cc => exact ck_setc2 g (g.g.ix h0) h2 hw
                | _ => cases h3
              · exact s_set g.nd (g.g.ix h0) (g.g.loc h1).1 (g.g.loc h1).2 (ckE e g.g h2).pe (swB_no (by rw [g.g.sc]; simpa using hw))
            · cases h3
    · rename_i es j p e' pos
      cases t with
      | name i => cases h
      | tup ts =>
        simp only [Bool.and_eq_true] at h
        obtain ⟨h0, h2, h3⟩ := h
        refine s_tup (ckTg g.g (.tup ts) _ h0) (ckE e g.g h2).pe ?_
        split at h3
        · simp only [beq_iff_eq] at h3
          exact sw_ok g.kind (by rw [g.g.sc]; exact h3)
        · exact swapped_plain h3
    · cases h
  | .par i j a b, W, X, F, s, g, h => by
    simp only [chkS] at h
    split at h
    · simp only [Bool.and_eq_true, beq_iff_eq, decide_eq_true_eq] at h
      obtain ⟨h0, h1, h2, h3, h4, h5, h6, h7, h8, h9⟩ := h
      exact s_par g.g.calm g.nd (g.g.ix (by simpa using h0)) (g.g.ix (by simpa using h1)) h2 (by rw [g.g.sc]; exact h3) (by rw [g.g.sc]; exact h4) (ckE a g.g h8).pe (ckE b g.g h9).pe h5 h6 (sw_ok g.kind (by rw [g.g.sc]; exact h7))
    · cases h
  | .par3 i j l a b c, W, X, F, s, g, h => by
    simp only [chkS] at h
    split at h
    · simp only [Bool.and_eq_true, beq_iff_eq, decide_eq_true_eq] at h
      obtain ⟨h0, h1, h2, h3, h4, h5, h6, h7, h8, h9, h10, h11, h12, h13, h14, h15⟩ := h
      exact s_par3 g.g.calm g.nd (g.g.ix (by simpa using h0)) (g.g.ix (by simpa using h1)) (g.g.ix (by simpa using h2)) h3 h4 h5 (by rw [g.g.sc]; exact h6) (by rw [g.g.sc]; exact h7) (by rw [g.g.sc]; exact h8) (ckE a g.g h13).pe (ckE b g.g h14).pe (ckE c g.g h15).pe h9 h10 h11 (sw_ok g.kind (by rw [g.g.sc]; exact h12))
    · cases h
  | .setf o f e, W, X, F, s, g, h => by
    simp only [chkS] at h
    split at h
    · simp only [Bool.and_eq_true, beq_iff_eq] at h
      obtain ⟨h0, h1, h2, h3⟩ := h
      exact s_setf g.g.sp (g.g.tb.nm _ _ h0) (ckE o g.g h2).pe (ckE e g.g h3).pe h1
    · cases h
  | .seti o i e, W, X, F, s, g, h => by
    simp only [chkS] at h
    split at h
    · simp only [Bool.and_eq_true] at h
      obtain ⟨h0, h1, h2, h3, h4⟩ := h
      exact s_seti h0 (ckE o g.g h2).pe (ckE i g.g h3).pe (ckE e g.g h4).pe h1
    · cases h
  | .ext i e, W, X, F, s, g, h => by
    simp only [chkS] at h
    split at h
    · simp only [Bool.and_eq_true] at h
      obtain ⟨h0, h1, h2⟩ := h
      exact s_ext g.nd (g.g.ix h0) (g.g.loc h1).1 (g.g.loc h1).2 (ckE e g.g h2).pe
    · cases h
  | .expr e, W, X, F, s, g, h => by
    simp only [chkS] at h
    split at h
    · simp only [Bool.and_eq_true] at h
      exact s_expr (ckE e g.g h.2).pe h.1
    · cases h
  | .ret e, W, X, F, s, g, h => by
    simp only [chkS] at h
    split at h
    · exact s_ret (ckE e g.g h).pe
    · cases h
  | .retn, W, X, F, s, g, h => by
    simp only [chkS] at h
    split at h
    · exact s_retn
    · cases h
  | .ifs c a b, W, X, F, s, g, h => by
    simp only [chkS] at h
    split at h
    · simp only [Bool.and_eq_true] at h
      exact s_if (ckE c g.g h.1).pt (ckSs a g h.2.1) (ckSs b g h.2.2)
    · cases h
  | .whl c b, W, X, F, s, g, h => by
    simp only [chkS] at h
    split at h
    · simp only [Bool.and_eq_true] at h
      refine PS.imp (s_whl (C := C) (W := W) (F := F) fuel g.own (ckE c g.g h.1).pt (ckSs b g h.2)) fun D σ H hq => ?_
      simp only [exS] at hq
      exact hq
    · cases h
  | .for_ t it b, W, X, F, s, g, h => by
    simp only [chkS] at h
    split at h
    · simp only [Bool.and_eq_true] at h
      obtain ⟨h0, h1, h2, h3⟩ := h
      exact s_for g.own g.g.calm (ckIt it g.g h2) (ckTg g.g t _ h0) (ckSs b g h3) h1
    · cases h
  | .brk, W, X, F, s, g, h => by
    simp only [chkS] at h
    split at h
    · exact s_brk
    · cases h
  | .cnt, W, X, F, s, g, h => by
    simp only [chkS] at h
    split at h
    · exact s_cnt
    · cases h
  | .pass, W, X, F, s, g, h => by
    simp only [chkS] at h
    split at h
    · exact s_pass
    · cases h
  | .rais0 c, W, X, F, s, g, h => by
    simp only [chkS] at h
    split at h
    · simp only [Bool.and_eq_true, beq_iff_eq, List.isEmpty_iff] at h
      obtain ⟨h0, h1, h2⟩ := h
      obtain ⟨fI, fd, ps, k1, k2, k3⟩ := g.g.tb.x0 _ c h1 h2
      exact s_rais0 k1 k2 (g.g.hr.mono (by unfold eqDeep; omega)).r k3 g.g.calm g.g.sp.tk (g.g.gl h0).1 (g.g.tb.xc _ c h1) (g.g.gl h0).2
    · cases h
  | .rais1 c e, W, X, F, s, g, h => by
    simp only [chkS] at h
    split at h
    · simp only [Bool.and_eq_true, beq_iff_eq] at h
      obtain ⟨h0, h1, h2, h3, h4⟩ := h
      obtain ⟨fl, hf⟩ := List.length_eq_one_iff.mp h2
      obtain ⟨fI, fd, ps, k1, k2, k3⟩ := g.g.tb.x1 _ c fl h1 hf
      exact s_rais1 k1 (by rw [g.g.tb.ft]; exact hf) k2 (g.g.hr.mono (by unfold eqDeep; omega)).r k3 g.g.calm g.g.sp.tk (g.g.gl h0).1 (g.g.tb.xc _ c h1) (ckE e g.g h4).pe h3 (g.g.gl h0).2
    · cases h
  | .tr b hs, W, X, F, s, g, h => by
    simp only [chkS] at h
    split at h
    · simp only [Bool.and_eq_true] at h
      obtain ⟨cl, c1, c2⟩ := ckHs g.g hs h.2
      exact s_try g.stk g.frm g.nd g.g.sp.tk (fun Wi pl xf tk hp => ckSs b (g.tr tk hp) h.1) c1 c2
    · cases h
theorem ckSs : ∀ (ir : Ss) {W : WX} {X : Cx} {F : Hp} {l : List Stmt}, GoodS C W X k Γ T ck → chkSs T ck ir l = true → PSs X l (tS C W F (exSs Γ C.FT ir))
  | .nil, W, X, F, l, g, h => by
    simp only [chkSs, List.isEmpty_iff] at h
    subst h
    exact ss_nil
  | .cons s r, W, X, F, l, g, h => by
    simp only [chkSs] at h
    split at h
    · simp only [Bool.and_eq_true] at h
      exact ss_cons (ckS s g h.1) (ckSs r g h.2)
    · cases h
end
end
end RP
end

section
set_option Elab.async false
set_option linter.all false
set_option maxRecDepth 100000
set_option maxHeartbeats 4000000
/-! Defs of the text, what the top has left, and the law's end. -/
namespace RP
open PySem L2
/-! ### parameters -/
def plainPar (p : Arguments) (ps : List Str) : Bool := p.posonlyargs.isEmpty && p.vararg.isNone && p.kwonlyargs.isEmpty && p.kwarg.isNone && decide (p.args.map (·.arg) = ps)
theorem zip_lookup {α : Type} : ∀ (ps : List Str) (us : List α) (x : Str), us.length = ps.length → x ∈ ps → ((ps.zip us).lookup x).isSome = true
  | [], _, x, _, h => by cases h
  | p :: ps, [], x, hl, _ => by simp at hl
  | p :: ps, u :: us, x, hl, h => by
    rw [List.zip_cons_cons, List.lookup_cons]
    cases q : (x == p) with
    | true => rfl
    | false =>
      rcases List.mem_cons.mp h with e | h
      · rw [e] at q
        simp at q
      · exact zip_lookup ps us x (by simpa using hl) h
theorem fm_congr {α β : Type} {f g : α → Option β} : ∀ (l : List α), (∀ x ∈ l, f x = g x) → l.filterMap f = l.filterMap g
  | [], _ => rfl
  | a :: l, h => by rw [List.filterMap_cons, List.filterMap_cons, h a List.mem_cons_self, fm_congr l fun x hx => h x (List.mem_cons_of_mem _ hx)]
theorem zip_filter {α : Type} : ∀ (ps : List Str) (us : List α), us.length = ps.length → ps.Nodup → (ps.filterMap fun n => ((ps.zip us).lookup n).map (n, ·)) = ps.zip us
  | [], us, _, _ => rfl
  | p :: ps, [], hl, _ => by simp at hl
  | p :: ps, u :: us, hl, hn => by
    have hn' := List.nodup_cons.mp hn
    rw [List.filterMap_cons]
    have e0 : ((p :: ps).zip (u :: us)).lookup p = some u := by
      rw [List.zip_cons_cons, List.lookup_cons]
      simp
    rw [e0]
    simp only [Option.map_some, List.zip_cons_cons]
    congr 1
    rw [← zip_filter ps us (by simpa using hl) hn'.2, zip_filter ps us (by simpa using hl) hn'.2]
    refine Eq.trans (fm_congr ps fun x hx => ?_) (zip_filter ps us (by simpa using hl) hn'.2)
    rw [List.lookup_cons]
    have : (x == p) = false := by
      rw [beq_eq_false_iff_ne]
      intro e
      exact hn'.1 (e ▸ hx)
    rw [this]
theorem bind_plain {x qual : Str} {params : Arguments} {body : List Stmt} {scope : Scope} {kV doc pm cdv ct : Value} {an : Option Addr} {ps : List Str} {us : List Value} (h : plainPar params ps = true) (hn : ps.Nodup) (hl : us.length = ps.length) :
    bindArgs (PySem.W.fnOf x qual params body scope .none kV doc pm an cdv ct) ⟨us, []⟩ = pure (ps.zip us) := by
  unfold plainPar at h
  simp only [Bool.and_eq_true, List.isEmpty_iff, Option.isNone_iff_eq_none, decide_eq_true_eq] at h
  obtain ⟨⟨⟨⟨h1, h2⟩, h3⟩, h4⟩, h5⟩ := h
  obtain ⟨p1, p2, p3, p4, p5, p6, p7⟩ := params
  dsimp only at h1 h2 h3 h4 h5
  subst h1 h2 h3 h4
  unfold bindArgs PySem.W.fnOf
  have m : ps.filter (fun n => ((ps.zip us).lookup n).isNone) = [] := by
    rw [List.filter_eq_nil_iff]
    intro a ha
    have := zip_lookup ps us a hl ha
    simp only [Option.isNone_iff_eq_none]
    intro z
    rw [z] at this
    cases this
  have z := zip_filter ps us hl hn
  simp only [List.map_nil, List.nil_append, h5, List.append_nil]
  simp [seqItems?, notAStandIn, hl, -List.isEmpty_iff, -List.filter_eq_nil_iff, -Bool.not_eq_eq_eq_not]
  simp only [List.drop_nil, List.length_nil, Nat.sub_zero, List.take_length, m, z, List.isEmpty_nil, Bool.not_true, Bool.false_eq_true, if_false]
/-! ### a def of the text -/
def fnScB (N ps : List Str) (sc : Scope) : Bool := sc.kind == .function && !sc.isCoroutine && !sc.isGenerator && decide N.Nodup && decide (N.take ps.length = ps) && ps.all (fun x => sc.names.lookup x == some .local || sc.names.lookup x == some .cell) && sc.names.all (fun y => !(y.2 == .free))
theorem fnSc_ok {N ps : List Str} {sc : Scope} (h : fnScB N ps sc = true) : FnScope N ps sc := by
  unfold fnScB at h
  simp only [Bool.and_eq_true, beq_iff_eq, Bool.not_eq_true', decide_eq_true_eq, List.all_eq_true, Bool.or_eq_true] at h
  obtain ⟨⟨⟨⟨⟨⟨h1, h2⟩, h3⟩, h4⟩, h5⟩, h6⟩, h7⟩ := h
  exact ⟨h1, h2, h3, h4, h5, h6, fun y hy e => by
    have := h7 y hy
    rw [e] at this
    cases this⟩
/-- a def: where it stands, and its text -/
structure DD where
  ad : PySem.W.Frag → Addr
  name : Str
  qual : Str
  params : Arguments
  body : List Stmt
  scope : Scope
  dfl : List He.Dv := []
abbrev Seen : Type := Option (Str × Str × Arguments × FuncBody × Scope × Addr × List (Str × Addr) × Addr)
def seeF (K : PySem.W.Frag) (a : Addr) : Seen := match K.lookup a with
  | some o => (match o.data with
    | .func g => some (g.name, g.qualname, g.params, g.body, g.scope, g.globals, g.closure, g.builtins)
    | _ => none)
  | none => none
def DD.told (d : DD) : Seen := some (d.name, d.qual, d.params, .stmts d.body, d.scope, mainGlobals, [], builtinsNs)
def DD.dvs (K : PySem.W.Frag) (d : DD) : List V := d.dfl.map (He.Dv.v K)
def DD.ok (K : PySem.W.Frag) (d : DD) : Bool := PySem.W.keepIn K (.ref (d.ad K)) && (match K.lookup (d.ad K) with
  | some o => (match o.data with
    | .func g => PySem.W.codeIn K g.code d.qual && He.dflB K g.defaults (d.dvs K)
    | _ => false)
  | none => false)
theorem DD.fn {K : PySem.W.Frag} {d : DD} (e : seeF K (d.ad K) = d.told) (c : d.ok K = true) : ∃ fd, FunD K d.name d.qual d.params d.body d.scope (d.dvs K) [] (d.ad K) fd := by
  unfold DD.ok at c
  simp only [Bool.and_eq_true] at c
  obtain ⟨kp, c⟩ := c
  unfold seeF DD.told at e
  cases q : K.lookup (d.ad K) with
  | none =>
    rw [q] at c
    cases c
  | some o =>
    rw [q] at c e
    obtain ⟨oc, od, dt, osl⟩ := o
    cases dt with
    | func g =>
      obtain ⟨n1, n2, n3, n4, n5, n6, n7, n8, n9, n10, n11, n12, n13, n14, n15⟩ := g
      simp only [Option.some.injEq, Prod.mk.injEq] at e
      obtain ⟨h1, h2, h3, h4, h5, h6, h7, h8⟩ := e
      subst h1 h2 h3 h4 h5 h6 h7 h8
      simp only [Bool.and_eq_true] at c
      exact ⟨_, ⟨oc, od, n8, n9, n10, n11, n12, n13, n14, osl, rfl, q, c.1, He.dflB_ok c.2, .inl rfl⟩, kp⟩
    | _ => cases c
/-- what an address stands for: a global, a method of a class, the getter of a property -/
def gA (x : Str) (K : PySem.W.Frag) : Addr := He.ga K x
def mA (c m : Str) (K : PySem.W.Frag) : Addr := He.ma K (He.ga K c) m
def pA (c m : Str) (K : PySem.W.Frag) : Addr := match PySem.W.recIn K (He.ma K (He.ga K c) m) "property" with
  | some (.ref g :: _) => g
  | _ => 0
def cmA (c m : Str) (K : PySem.W.Frag) : Addr := match PySem.W.recIn K (He.ma K (He.ga K c) m) "classmethod" with
  | some (.ref g :: _) => g
  | _ => 0
/-! ### the Hook -/
abbrev AlR : Type := Bool × List Seen
def lookR (ex : PySem.W.Frag → Bool) (fn : List DD) (K : PySem.W.Frag) : AlR := (ex K && fn.all (fun d => d.ok K), fn.map fun d => seeF K (d.ad K))
/-- lists of addresses and objects, reckoned once -/
def frcL {α : Type} : List Addr → (List Addr → α) → α
  | [], k => k []
  | a :: r, k => HandSHeadRun.frNat a fun a => frcL r fun r => k (a :: r)
theorem frcL_eq {α : Type} : ∀ (l : List Addr) (k : List Addr → α), frcL l k = k l
  | [], k => rfl
  | a :: r, k => by
    show HandSHeadRun.frNat a (fun a => frcL r fun r => k (a :: r)) = _
    rw [HandSHeadRun.frNat_eq, frcL_eq]
def frcK {α : Type} : PySem.W.Frag → (PySem.W.Frag → α) → α
  | [], k => k []
  | (a, o) :: r, k => HandSHeadRun.frNat a fun a => frcK r fun r => k ((a, o) :: r)
theorem frcK_eq {α : Type} : ∀ (l : PySem.W.Frag) (k : PySem.W.Frag → α), frcK l k = k l
  | [], k => rfl
  | (a, o) :: r, k => by
    show HandSHeadRun.frNat a (fun a => frcK r fun r => k ((a, o) :: r)) = _
    rw [HandSHeadRun.frNat_eq, frcK_eq]
def refsG (g : Addr → Option Obj) (a : Addr) : List Addr := match g a with
  | some o => He.refsD o
  | none => []
def bitB (m a : Nat) : Bool := (m >>> a) % 2 == 1
/-- what is new, and the mask with it -/
def newR {α : Type} : List Addr → Nat → List Addr → (List Addr → Nat → α) → α
  | [], m, r, k => k r m
  | a :: l, m, r, k => HandSHeadRun.frNat a fun a => match bitB m a with
    | true => newR l m r k
    | false => HandSHeadRun.frNat (m ||| (1 <<< a)) fun m => newR l m (a :: r) k
theorem newR_eq {α : Type} (k : List Addr → Nat → α) : ∀ (l : List Addr) (m : Nat) (r : List Addr), newR l m r k = k (newR l m r Prod.mk).1 (newR l m r Prod.mk).2
  | [], m, r => rfl
  | a :: l, m, r => by
    unfold newR
    simp only [HandSHeadRun.frNat_eq]
    cases bitB m a with
    | true => exact newR_eq k l m r
    | false => exact newR_eq k l _ _
def reachR {α : Type} (g : Addr → Option Obj) : Nat → List Addr → Nat → List Addr → (List Addr → α) → α
  | 0, _, _, acc, k => k acc
  | n + 1, front, m, acc, k => newR (front.flatMap (refsG g)) m [] fun new m => reachR g n new m (acc ++ new) k
def reachL (g : Addr → Option Obj) (n : Nat) (f : List Addr) (m : Nat) (acc : List Addr) : List Addr := reachR g n f m acc id
theorem reachR_eq {α : Type} (g : Addr → Option Obj) (k : List Addr → α) : ∀ (n : Nat) (f : List Addr) (m : Nat) (acc : List Addr), reachR g n f m acc k = k (reachL g n f m acc)
  | 0, _, _, acc => rfl
  | n + 1, f, m, acc => by
    show (newR (f.flatMap (refsG g)) m [] fun new m => reachR g n new m (acc ++ new) k) = k (newR (f.flatMap (refsG g)) m [] fun new m => reachR g n new m (acc ++ new) id)
    refine (newR_eq _ _ _ _).trans ((reachR_eq g k n _ _ _).trans (congrArg k ?_))
    exact (newR_eq (fun new m => reachR g n new m (acc ++ new) id) _ _ _).symm
def mask0 : Nat := (1 <<< mainGlobals) ||| (1 <<< cStatics)
/-- what is asked of the objects that the module's names reach -/
def askR {α : Type} (n : Nat) (g : Addr → Option Obj) (p : PySem.W.Frag → α) : α := reachR g n [mainGlobals, cStatics] mask0 [mainGlobals, cStatics] fun as => frcL as fun as => frcK (He.frG g as) fun K => p K
theorem askR_eq {α : Type} {n : Nat} {g : Addr → Option Obj} {p : PySem.W.Frag → α} : askR n g p = p (He.frG g (reachL g n [mainGlobals, cStatics] mask0 [mainGlobals, cStatics])) := by
  unfold askR
  rw [reachR_eq, frcL_eq, frcK_eq]
def okB (fn : List DD) (K : PySem.W.Frag) : Bool := fn.all (fun d => d.ok K)
def seenL (fn : List DD) (K : PySem.W.Frag) : List Seen := fn.map fun d => seeF K (d.ad K)
def obsR (n : Nat) (ex : PySem.W.Frag → Bool) (fn : List DD) (g : Addr → Option Obj) : AlR := (askR n g ex && askR n g (okB fn), askR n g (seenL fn))
theorem obsR_is {n : Nat} {ex : PySem.W.Frag → Bool} {fn : List DD} {g : Addr → Option Obj} : obsR n ex fn g = lookR ex fn (He.frG g (reachL g n [mainGlobals, cStatics] mask0 [mainGlobals, cStatics])) := by
  unfold obsR
  rw [askR_eq, askR_eq, askR_eq]
  rfl
def hookR (n : Nat) (ex : PySem.W.Frag → Bool) (fn : List DD) : PySem.W.Hook where
  α := AlR
  obs s := obsR n ex fn s.heap.get?
  val _ := (true, fn.map DD.told)
  says _ h := ∃ K : PySem.W.Frag, K.In h ∧ lookR ex fn K = (true, fn.map DD.told)
  of _ _ e := ⟨_, He.frG_in, obsR_is.symm.trans e⟩
  keeps _ _ _ := fun ⟨K, i, c⟩ k => ⟨K, PySem.W.Frag.In.keeps i k, c⟩
theorem obsR_eq {n : Nat} {ex : PySem.W.Frag → Bool} {fn : List DD} {g : Addr → Option Obj} {s : Shared} (h : ∀ a, g a = s.heap.get? a) : obsR n ex fn g = (hookR n ex fn).obs s := by
  rw [show g = s.heap.get? from funext h]
  rfl
/-- one run, asked in parts -/
theorem run_two {α β γ : Type} {x : Option α} {f : α → β} {g : α → γ} {a : β} {b : γ} (h1 : x.map f = some a) (h2 : x.map g = some b) : x.map (fun s => (f s, g s)) = some (a, b) := by
  cases x with
  | none => cases h1
  | some s =>
    simp only [Option.map_some, Option.some.injEq] at h1 h2 ⊢
    rw [h1, h2]
theorem run_and {α : Type} {x : Option α} {f g : α → Bool} (h1 : x.map f = some true) (h2 : x.map g = some true) : x.map (fun s => f s && g s) = some true := by
  cases x with
  | none => cases h1
  | some s =>
    simp only [Option.map_some, Option.some.injEq] at h1 h2 ⊢
    rw [h1, h2]
    rfl
theorem look_ex {ex : PySem.W.Frag → Bool} {fn : List DD} {K : PySem.W.Frag} (c : lookR ex fn K = (true, fn.map DD.told)) : ex K = true := by
  have := congrArg Prod.fst c
  unfold lookR at this
  simp only [Bool.and_eq_true] at this
  exact this.1
theorem look_fn {ex : PySem.W.Frag → Bool} {fn : List DD} {K : PySem.W.Frag} (c : lookR ex fn K = (true, fn.map DD.told)) {d : DD} (h : d ∈ fn) : ∃ fd, FunD K d.name d.qual d.params d.body d.scope (d.dvs K) [] (d.ad K) fd := by
  have c1 := congrArg Prod.fst c
  have c2 := congrArg Prod.snd c
  unfold lookR at c1 c2
  simp only [Bool.and_eq_true, List.all_eq_true] at c1
  exact DD.fn (List.map_inj_left.mp c2 d h) (c1.2 d h)
end RP
end

section
set_option Elab.async false
set_option linter.all false
set_option maxRecDepth 100000
set_option maxHeartbeats 4000000
/-! From the checked text to tables of defs. -/
namespace RP
open PySem L2
/-- what is known whatever the level -/
structure Stat (C : CC) (Pr : Program) (w : World) (K : PySem.W.Frag) (mg : Str → Option Value) (base : Heap) (T : Gs) (gcs : List (Nat × P)) : Prop where
  cf : ClsFs C
  nm : NmOk C
  fl : FldOk C
  hk : C.K = K
  gcs : ∀ x i, T.gcs.lookup x = some i → ∃ a p, mg x = some (.ref a) ∧ gcs.lookup i = some p ∧ ∀ G, RepP C G p (.ref a)
  free : ∀ x ∈ T.free, mg x = none
  cls : ∀ x c, T.cls.lookup x = some c → mg x = some (.ref (C.CA c))
  kit : ∀ t ∈ T.tys, KitF C t
  nmT : ∀ f x, T.nm[f]? = some x → C.NM f = x
  ft : C.FT = T.ft
  xinj : ∀ c g f, g ∈ C.FT c → C.NM f = C.NM g → f = g
  xc : ∀ x c, T.xc.lookup x = some c → mg x = some (.ref (C.CA c))
  x0 : ∀ x c, T.xc.lookup x = some c → T.ft c = [] → ∃ fI fd ps, XTxt K (C.CA c) fI ∧ L2.FnOk Pr w K mg base (L2.CX Pr w) 1 fI fd ps (spX0 (C.CA c)) ∧ Binds K fd ps []
  x1 : ∀ x c fl, T.xc.lookup x = some c → T.ft c = [fl] → ∃ fI fd ps, XTxt K (C.CA c) fI ∧ L2.FnOk Pr w K mg base (L2.CX Pr w) 1 fI fd ps (spX1 (C.CA c) (C.NM fl)) ∧ Binds K fd ps []
  exm : ∀ c' c b, T.exm c' c = some b → PySem.W.exmOne K (.ref (C.CA c')) (.ref (C.CA c)) = some b
  xr : ∀ c f, c ∈ T.xr → T.ft c = [f] → XRd K (C.CA c) (C.NM f)
  ns : base.NoSeer
  nl : base.NoLimit
  tr : Pr.given.tree = none
section
variable (C : CC) (Pr : Program) (w : World) (K : PySem.W.Frag) (mg : Str → Option Value) (base : Heap) (k : Nat)
def FnsOk : List (Str × Nat × PFn) → Prop
  | [] => True
  | e :: l => (∃ u, mg e.1 = some u ∧ PySem.W.keepIn K u = true ∧ Cal C Pr w K mg base k u e.2.2) ∧ FnsOk l
def IfnsOk : List (Str × Nat × IFn) → Prop
  | [] => True
  | e :: l => (∃ u, mg e.1 = some u ∧ PySem.W.keepIn K u = true ∧ CalI C Pr w K mg base k u e.2.2) ∧ IfnsOk l
/-- a method: the names of the class's fields are others -/
def MtsOk : List MEnt → Prop
  | [] => True
  | e :: l => (∃ f, Meth K (C.CA e.c) (C.NM e.m) f ∧ (∀ g ∈ C.FT e.c, C.NM g ≠ C.NM e.m) ∧ Cal C Pr w K mg base k (.ref f) e.f ∧ ∀ op, opM op = some e.m → PySem.W.findIn K (.ref (C.CA e.c)) (PySem.dunderR op.info.2) = some none) ∧ MtsOk l
def PrsOk : List MEnt → Prop
  | [] => True
  | e :: l => (∃ p f, PropOf K (C.CA e.c) (C.NM e.m) p f ∧ Cal C Pr w K mg base k (.ref f) e.f) ∧ PrsOk l
end
/-- a classmethod -/
def CmsOk (C : CC) (Pr : Program) (w : World) (K : PySem.W.Frag) (mg : Str → Option Value) (base : Heap) (k : Nat) : List IEnt → Prop
  | [] => True
  | e :: l => (∃ mc pp f, ClX.CRead K (C.CA e.c) mc ∧ ClX.CMet K (C.CA e.c) mc (C.NM e.m) pp f ∧ CalI C Pr w K mg base k (.ref f) e.f) ∧ CmsOk C Pr w K mg base k l
/-- a classmethod called with keywords -/
structure CEnt where
  j : Nat
  c : Nat
  m : Nat
  ks : List Str
  f : IFn
def KcsOk (C : CC) (Pr : Program) (w : World) (K : PySem.W.Frag) (mg : Str → Option Value) (base : Heap) (k : Nat) : List CEnt → Prop
  | [] => True
  | e :: l => (∃ mc pp f, ClX.CRead K (C.CA e.c) mc ∧ ClX.CMet K (C.CA e.c) mc (C.NM e.m) pp f ∧ KCalC C Pr w K mg base k (.ref f) 1 e.ks e.f) ∧ KcsOk C Pr w K mg base k l
section
variable {C : CC} {Pr : Program} {w : World} {K : PySem.W.Frag} {mg : Str → Option Value} {base : Heap} {k j : Nat} {T : Gs} {Γ : Tab} {G0 : List (Nat × P)}
theorem CalI.mono {u : Value} {g : IFn} (h : CalI C Pr w K mg base k u g) (hk : k ≤ j) : CalI C Pr w K mg base j u g := fun X W A pins s σ H us vs Q e1 e2 e3 e4 e5 tk r => h X W A pins s σ H us vs Q e1 e2 e3 e4 e5 tk (r.mono hk)
theorem CmsOk.mono (hk : k ≤ j) : ∀ {l : List IEnt}, CmsOk C Pr w K mg base k l → CmsOk C Pr w K mg base j l
  | [], _ => trivial
  | _ :: _, ⟨⟨mc, pp, f, h1, h2, h3⟩, h⟩ => ⟨⟨mc, pp, f, h1, h2, h3.mono hk⟩, CmsOk.mono hk h⟩
theorem CmsOk.app : ∀ {l m : List IEnt}, CmsOk C Pr w K mg base k l → CmsOk C Pr w K mg base k m → CmsOk C Pr w K mg base k (l ++ m)
  | [], _, _, h => h
  | _ :: _, _, ⟨h1, h⟩, h2 => ⟨h1, CmsOk.app h h2⟩
theorem CmsOk.get : ∀ {l : List IEnt}, CmsOk C Pr w K mg base k l → ∀ c m, (c, m) ∈ l.map (fun e => (e.c, e.m)) → ∃ mc pp f g, ClX.CRead K (C.CA c) mc ∧ ClX.CMet K (C.CA c) mc (C.NM m) pp f ∧ findI c m l = some g ∧ CalI C Pr w K mg base k (.ref f) g
  | [], _, c, m, h => by cases h
  | e :: l, h, c, m, q => by
    simp only [findI]
    by_cases z : (e.c == c && e.m == m) = true
    · rw [if_pos z]
      simp only [Bool.and_eq_true, beq_iff_eq] at z
      obtain ⟨rfl, rfl⟩ := z
      obtain ⟨mc, pp, f, h1, h2, h3⟩ := h.1
      exact ⟨mc, pp, f, e.f, h1, h2, rfl, h3⟩
    · rw [if_neg z]
      rw [List.map_cons] at q
      rcases List.mem_cons.mp q with r | r
      · exfalso
        apply z
        cases r
        simp
      · exact CmsOk.get h.2 c m r
theorem KcsOk.mono (hk : k ≤ j) : ∀ {l : List CEnt}, KcsOk C Pr w K mg base k l → KcsOk C Pr w K mg base j l
  | [], _ => trivial
  | _ :: _, ⟨⟨mc, pp, f, h1, h2, h3⟩, h⟩ => ⟨⟨mc, pp, f, h1, h2, h3.mono hk⟩, KcsOk.mono hk h⟩
theorem KcsOk.app : ∀ {l m : List CEnt}, KcsOk C Pr w K mg base k l → KcsOk C Pr w K mg base k m → KcsOk C Pr w K mg base k (l ++ m)
  | [], _, _, h => h
  | _ :: _, _, ⟨h1, h⟩, h2 => ⟨h1, KcsOk.app h h2⟩
theorem KcsOk.get : ∀ {l : List CEnt}, KcsOk C Pr w K mg base k l → ∀ i c m ks, (l.map fun e => (e.j, e.c, e.m, e.ks)).lookup i = some (c, m, ks) → ∃ mc pp f g, ClX.CRead K (C.CA c) mc ∧ ClX.CMet K (C.CA c) mc (C.NM m) pp f ∧ (l.map fun e => (e.j, e.f)).lookup i = some g ∧ KCalC C Pr w K mg base k (.ref f) 1 ks g
  | [], _, i, c, m, ks, h => by cases h
  | e :: l, h, i, c, m, ks, q => by
    rw [List.map_cons, List.lookup_cons] at q
    rw [List.map_cons, List.lookup_cons]
    cases z : i == e.j with
    | true =>
      rw [z] at q
      cases q
      obtain ⟨mc, pp, f, a1, a2, a3⟩ := h.1
      exact ⟨mc, pp, f, e.f, a1, a2, rfl, a3⟩
    | false =>
      rw [z] at q
      exact KcsOk.get h.2 i c m ks q
theorem FnsOk.mono (hk : k ≤ j) : ∀ {l : List (Str × Nat × PFn)}, FnsOk C Pr w K mg base k l → FnsOk C Pr w K mg base j l
  | [], _ => trivial
  | _ :: _, ⟨⟨u, h1, h2, h3⟩, h⟩ => ⟨⟨u, h1, h2, h3.mono hk⟩, FnsOk.mono hk h⟩
theorem IfnsOk.mono (hk : k ≤ j) : ∀ {l : List (Str × Nat × IFn)}, IfnsOk C Pr w K mg base k l → IfnsOk C Pr w K mg base j l
  | [], _ => trivial
  | _ :: _, ⟨⟨u, h1, h2, h3⟩, h⟩ => ⟨⟨u, h1, h2, h3.mono hk⟩, IfnsOk.mono hk h⟩
theorem MtsOk.mono (hk : k ≤ j) : ∀ {l : List MEnt}, MtsOk C Pr w K mg base k l → MtsOk C Pr w K mg base j l
  | [], _ => trivial
  | _ :: _, ⟨⟨u, h1, h2, h3, h4⟩, h⟩ => ⟨⟨u, h1, h2, h3.mono hk, h4⟩, MtsOk.mono hk h⟩
theorem PrsOk.mono (hk : k ≤ j) : ∀ {l : List MEnt}, PrsOk C Pr w K mg base k l → PrsOk C Pr w K mg base j l
  | [], _ => trivial
  | _ :: _, ⟨⟨p, f, h1, h2⟩, h⟩ => ⟨⟨p, f, h1, h2.mono hk⟩, PrsOk.mono hk h⟩
theorem FnsOk.app : ∀ {l m : List (Str × Nat × PFn)}, FnsOk C Pr w K mg base k l → FnsOk C Pr w K mg base k m → FnsOk C Pr w K mg base k (l ++ m)
  | [], _, _, h => h
  | _ :: _, _, ⟨h1, h⟩, h2 => ⟨h1, FnsOk.app h h2⟩
theorem IfnsOk.app : ∀ {l m : List (Str × Nat × IFn)}, IfnsOk C Pr w K mg base k l → IfnsOk C Pr w K mg base k m → IfnsOk C Pr w K mg base k (l ++ m)
  | [], _, _, h => h
  | _ :: _, _, ⟨h1, h⟩, h2 => ⟨h1, IfnsOk.app h h2⟩
theorem MtsOk.app : ∀ {l m : List MEnt}, MtsOk C Pr w K mg base k l → MtsOk C Pr w K mg base k m → MtsOk C Pr w K mg base k (l ++ m)
  | [], _, _, h => h
  | _ :: _, _, ⟨h1, h⟩, h2 => ⟨h1, MtsOk.app h h2⟩
theorem PrsOk.app : ∀ {l m : List MEnt}, PrsOk C Pr w K mg base k l → PrsOk C Pr w K mg base k m → PrsOk C Pr w K mg base k (l ++ m)
  | [], _, _, h => h
  | _ :: _, _, ⟨h1, h⟩, h2 => ⟨h1, PrsOk.app h h2⟩
theorem find_mem {c m : Nat} {g : PFn} : ∀ {l : List MEnt}, findM c m l = some g → ⟨c, m, g⟩ ∈ l
  | [], h => by cases h
  | e :: l, h => by
    simp only [findM] at h
    split at h
    · rename_i q
      simp only [Bool.and_eq_true, beq_iff_eq] at q
      cases h
      obtain ⟨c', m', f'⟩ := e
      obtain ⟨rfl, rfl⟩ := q
      exact List.mem_cons_self
    · exact List.mem_cons_of_mem _ (find_mem h)
theorem MtsOk.at_ : ∀ {l : List MEnt} {e : MEnt}, MtsOk C Pr w K mg base k l → e ∈ l → ∃ f, Meth K (C.CA e.c) (C.NM e.m) f ∧ (∀ g ∈ C.FT e.c, C.NM g ≠ C.NM e.m) ∧ Cal C Pr w K mg base k (.ref f) e.f ∧ ∀ op, opM op = some e.m → PySem.W.findIn K (.ref (C.CA e.c)) (PySem.dunderR op.info.2) = some none
  | a :: l, e, h, m => by
    rcases List.mem_cons.mp m with q | q
    · rw [q]
      exact h.1
    · exact MtsOk.at_ h.2 q
theorem PrsOk.at_ : ∀ {l : List MEnt} {e : MEnt}, PrsOk C Pr w K mg base k l → e ∈ l → ∃ p f, PropOf K (C.CA e.c) (C.NM e.m) p f ∧ Cal C Pr w K mg base k (.ref f) e.f
  | a :: l, e, h, m => by
    rcases List.mem_cons.mp m with q | q
    · rw [q]
      exact h.1
    · exact PrsOk.at_ h.2 q
theorem goodM_of (hm : MtsOk C Pr w K mg base k Γ.mts) (hp : PrsOk C Pr w K mg base k Γ.prs) : GoodM C Pr w K mg base k Γ :=
  ⟨fun c m g h => by
    obtain ⟨f, h1, h2, h3, _⟩ := hm.at_ (find_mem h)
    exact ⟨f, h1, h2, h3⟩, fun c m g h => hp.at_ (find_mem h), fun c g op m ho h => by
    obtain ⟨f, _, _, _, h4⟩ := hm.at_ (find_mem h)
    exact h4 op ho⟩
theorem lk_fn {α : Type} : ∀ {l : List (Str × Nat × α)} {x : Str} {i : Nat}, (l.map fun e => (e.1, e.2.1)).lookup x = some i → ∃ e ∈ l, e.1 = x ∧ e.2.1 = i
  | [], x, i, h => by cases h
  | e :: l, x, i, h => by
    rw [List.map_cons, List.lookup_cons] at h
    split at h
    · rename_i q
      cases h
      exact ⟨e, List.mem_cons_self, (eq_of_beq q).symm, rfl⟩
    · obtain ⟨e', h1, h2⟩ := lk_fn h
      exact ⟨e', List.mem_cons_of_mem _ h1, h2⟩
theorem lk_ix {α : Type} : ∀ {l : List (Str × Nat × α)} {e : Str × Nat × α}, (l.map fun e => e.2.1).Nodup → e ∈ l → (l.map fun e => (e.2.1, e.2.2)).lookup e.2.1 = some e.2.2
  | a :: l, e, hn, h => by
    rw [List.map_cons] at hn ⊢
    rw [List.lookup_cons]
    have hn' := List.nodup_cons.mp hn
    rcases List.mem_cons.mp h with q | q
    · rw [q]
      simp
    · have : (e.2.1 == a.2.1) = false := by
        rw [beq_eq_false_iff_ne]
        intro z
        exact hn'.1 (by rw [← z]; exact List.mem_map.mpr ⟨e, q, rfl⟩)
      rw [this]
      exact lk_ix hn'.2 q
theorem FnsOk.at_ : ∀ {l : List (Str × Nat × PFn)} {e : Str × Nat × PFn}, FnsOk C Pr w K mg base k l → e ∈ l → ∃ u, mg e.1 = some u ∧ PySem.W.keepIn K u = true ∧ Cal C Pr w K mg base k u e.2.2
  | a :: l, e, h, m => by
    rcases List.mem_cons.mp m with q | q
    · rw [q]
      exact h.1
    · exact FnsOk.at_ h.2 q
theorem IfnsOk.at_ : ∀ {l : List (Str × Nat × IFn)} {e : Str × Nat × IFn}, IfnsOk C Pr w K mg base k l → e ∈ l → ∃ u, mg e.1 = some u ∧ PySem.W.keepIn K u = true ∧ CalI C Pr w K mg base k u e.2.2
  | a :: l, e, h, m => by
    rcases List.mem_cons.mp m with q | q
    · rw [q]
      exact h.1
    · exact IfnsOk.at_ h.2 q
/-- the table of these defs -/
def tabOf (fs : List (Str × Nat × PFn)) (is : List (Str × Nat × IFn)) (ms ps : List MEnt) (gcs : List (Nat × P)) (ks : List KEnt := []) (js : List IEnt := []) (cs : List IEnt := []) (ds : List CEnt := []) : Tab := ⟨fs.map fun e => (e.2.1, e.2.2), is.map fun e => (e.2.1, e.2.2), ms, ps, gcs, ks.map fun e => (e.i, e.f), js, ks.map (fun e => (e.i, e.n, e.fi)), cs, ds.map fun e => (e.j, e.f)⟩
def namesOf (T : Gs) (fs : List (Str × Nat × PFn)) (is : List (Str × Nat × IFn)) (ks : List KEnt := []) (cs : List IEnt := []) (ds : List CEnt := []) : Gs := { T with cms := cs.map fun e => (e.c, e.m), kcms := ds.map fun e => (e.j, e.c, e.m, e.ks), fns := fs.map fun e => (e.1, e.2.1), ifns := is.map fun e => (e.1, e.2.1), kfns := ks.map fun e => (e.i, e.x, e.n, e.ks) }
theorem KfnsOk.get : ∀ {l : List KEnt}, KfnsOk C Pr w K mg base k l → ∀ i x n ks, (l.map fun e => (e.i, e.x, e.n, e.ks)).lookup i = some (x, n, ks) → ∃ u g, mg x = some u ∧ PySem.W.keepIn K u = true ∧ (l.map fun e => (e.i, e.f)).lookup i = some g ∧ KCal C Pr w K mg base k u n ks g
  | [], _, i, x, n, ks, h => by cases h
  | e :: l, h, i, x, n, ks, q => by
    rw [List.map_cons, List.lookup_cons] at q
    rw [List.map_cons, List.lookup_cons]
    cases c : i == e.i with
    | true =>
      rw [c] at q
      cases q
      obtain ⟨u, a1, a2, a3, _⟩ := h.1
      exact ⟨u, e.f, a1, a2, rfl, a3⟩
    | false =>
      rw [c] at q
      exact KfnsOk.get h.2 i x n ks q
theorem KfnsOk.getI : ∀ {l : List KEnt}, KfnsOk C Pr w K mg base k l → ∀ i x n ks, (l.map fun e => (e.i, e.x, e.n, e.ks)).lookup i = some (x, n, ks) → ∃ u g, mg x = some u ∧ PySem.W.keepIn K u = true ∧ (l.map fun e => (e.i, e.n, e.fi)).lookup i = some (n, g) ∧ KCalI C Pr w K mg base k u n ks g
  | [], _, i, x, n, ks, h => by cases h
  | e :: l, h, i, x, n, ks, q => by
    rw [List.map_cons, List.lookup_cons] at q
    rw [List.map_cons, List.lookup_cons]
    cases c : i == e.i with
    | true =>
      rw [c] at q
      cases q
      obtain ⟨u, a1, a2, _, a3⟩ := h.1
      exact ⟨u, e.fi, a1, a2, rfl, a3⟩
    | false =>
      rw [c] at q
      exact KfnsOk.getI h.2 i x n ks q
theorem lk_kw : ∀ {l : List (List Str × KFn)} {ks : List Str} {g : KFn}, l.lookup ks = some g → (ks, g) ∈ l
  | [], ks, g, h => by cases h
  | (a, b) :: l, ks, g, h => by
    rw [List.lookup_cons] at h
    split at h
    · rename_i q
      cases h
      rw [eq_of_beq q]
      exact List.mem_cons_self
    · exact List.mem_cons_of_mem _ (lk_kw h)
theorem ImtsOk.getK : ∀ {l : List IEnt}, ImtsOk C Pr w K mg base k l → ∀ c m ks g, findK c m ks l = some g → ∃ f, Meth K (C.CA c) (C.NM m) f ∧ (∀ g ∈ C.FT c, C.NM g ≠ C.NM m) ∧ KCal C Pr w K mg base k (.ref f) 1 ks g
  | [], _, c, m, ks, g, h => by cases h
  | e :: l, h, c, m, ks, g, q => by
    simp only [findK] at q
    split at q
    · rename_i z
      simp only [Bool.and_eq_true, beq_iff_eq] at z
      obtain ⟨rfl, rfl⟩ := z
      obtain ⟨f, h1, h2, _, h4⟩ := h.1
      exact ⟨f, h1, h2, h4 _ (lk_kw q)⟩
    · exact ImtsOk.getK h.2 c m ks g q
theorem ImtsOk.get : ∀ {l : List IEnt}, ImtsOk C Pr w K mg base k l → ∀ c m g, findI c m l = some g → ∃ f, Meth K (C.CA c) (C.NM m) f ∧ (∀ g ∈ C.FT c, C.NM g ≠ C.NM m) ∧ CalI C Pr w K mg base k (.ref f) g
  | [], _, c, m, g, h => by cases h
  | e :: l, h, c, m, g, q => by
    simp only [findI] at q
    split at q
    · rename_i z
      simp only [Bool.and_eq_true, beq_iff_eq] at z
      cases q
      obtain ⟨rfl, rfl⟩ := z
      obtain ⟨f, h1, h2, h3, _⟩ := h.1
      exact ⟨f, h1, h2, h3⟩
    · exact ImtsOk.get h.2 c m g q
theorem tab_of {fs : List (Str × Nat × PFn)} {is : List (Str × Nat × IFn)} {ms ps : List MEnt} {ks : List KEnt} {js cs : List IEnt} {ds : List CEnt} (st : Stat C Pr w K mg base T G0) (h1 : FnsOk C Pr w K mg base k fs) (h2 : IfnsOk C Pr w K mg base k is) (h3 : MtsOk C Pr w K mg base k ms) (h4 : PrsOk C Pr w K mg base k ps)
    (n1 : (fs.map fun e => e.2.1).Nodup) (n2 : (is.map fun e => e.2.1).Nodup) (hk : 25 ≤ k) (h5 : KfnsOk C Pr w K mg base k ks := by trivial) (h6 : ImtsOk C Pr w K mg base k js := by trivial) (h7 : CmsOk C Pr w K mg base k cs := by trivial) (h8 : KcsOk C Pr w K mg base k ds := by trivial) : TabOk C Pr w K mg base k (tabOf fs is ms ps G0 ks js cs ds) (namesOf T fs is ks cs ds) :=
  ⟨goodM_of h3 h4, fun x i h => by
    obtain ⟨e, m, rfl, rfl⟩ := lk_fn h
    obtain ⟨u, a, b, c⟩ := h1.at_ m
    exact ⟨u, e.2.2, a, b, lk_ix n1 m, c⟩, fun x i h => by
    obtain ⟨e, m, rfl, rfl⟩ := lk_fn h
    obtain ⟨u, a, b, c⟩ := h2.at_ m
    exact ⟨u, e.2.2, a, b, lk_ix n2 m, c⟩, h5.get, h5.getI, h6.get, h6.getK, st.gcs, st.free, st.cls, st.kit, st.nmT, st.ft, st.xinj, st.xc, fun x c h z => by
    obtain ⟨fI, fd, ps, a, b, d⟩ := st.x0 x c h z
    exact ⟨fI, fd, ps, a, b.mono (by omega), d⟩, fun x c fl h z => by
    obtain ⟨fI, fd, ps, a, b, d⟩ := st.x1 x c fl h z
    exact ⟨fI, fd, ps, a, b.mono (by omega), d⟩, st.exm, st.xr, h7.get, h8.get, hk⟩
/-! ### a def -/
theorem room_py {A : Around} (h : 25 ≤ k) (hr : Room (k + (eqDeep + 1)) A) : A.depth + Builtin.pylongFrames < recursionLimit := by
  have h1 := hr.dp
  have h2 : Builtin.pylongFrames = 100 := rfl
  have h3 : eqDeep = 6 := rfl
  omega
theorem def_ok {x qual : Str} {params : Arguments} {body : List Stmt} {scope : Scope} {dvs : List V} {f : Addr} {fd : FuncData} {N ps : List Str} {ir : Ss} (Fd : FunD K x qual params body scope dvs [] f fd) (Sc : fnScB N ps scope = true)
    (st : Stat C Pr w K mg base T G0) {T' : Gs} (tb : TabOk C Pr w K mg base k Γ T') (h : chkSs T' ⟨N, scope, fun _ => true⟩ ir body = true) :
    FnOk Pr w K mg base (L2.CX Pr w) (k + (eqDeep + 1) + 1) f fd ps (nArg ps.length (spI C (runI Γ C.FT N.length ir))) := by
  obtain ⟨oc, od, dV, kV, doc, pm, an, cdv, ct, osl, rfl, lk, hcd, _, _⟩ := Fd.ex
  have S := fnSc_ok Sc
  have z := fn_imp (k := k + (eqDeep + 1)) (C := C) (P' := Pr) (w := w) (mg := mg) (base := base) (g := exSs Γ C.FT ir) lk hcd S fun A outer s H E F hr => by
    refine ckSs ir ⟨⟨⟨st.cf, st.nm, st.fl, st.hk, takes_of rfl rfl rfl rfl, hr.mono (by omega), fun hf s1 hb => PySem.PylongRoom.of (st.nl.keeps hb) (room_py tb.kb hr) (PySem.SeerAt.of (st.ns.keeps hb) st.tr hf S.gen S.co rfl rfl)⟩, hr, rfl, S.nd, rfl, S.kind, rfl, rfl, tb⟩, passes_of rfl, rfl, rfl⟩ h
  refine Eq.mp (congrArg (fun g => FnOk Pr w K mg base (L2.CX Pr w) (k + (eqDeep + 1) + 1) f _ ps (nArg ps.length (spI C g))) ?_) z
  funext ds S
  unfold runI
  generalize exSs Γ C.FT ir (ds.map some ++ List.replicate (N.length - ds.length) none) S = r
  cases r <;> rfl
/-- the def, called with data -/
def fnP (FT : FldT) (Γ : Tab) (n np : Nat) (ir : Ss) : PFn := fun xs => if xs.length = np then pureOf (runI Γ FT n ir) xs else .stuck
def fnI (FT : FldT) (Γ : Tab) (n np : Nat) (ir : Ss) : IFn := fun ds S => if ds.length = np then runI Γ FT n ir ds S else .stuck
theorem calP {f : Addr} {fd : FuncData} {ps : List Str} {g : IFn} (F : FnOk Pr w K mg base (L2.CX Pr w) k f fd ps (nArg ps.length (spI C g))) (hb : Binds K fd ps []) : Cal C Pr w K mg base k (.ref f) (fun xs => if xs.length = ps.length then pureOf g xs else .stuck) := by
  have z := cal_of (dxs := []) F hb .nil fun G => by simp only [RepPs]
  simp only [List.append_nil] at z
  exact z
/-- either of two arities -/
def eitherP (f g : PFn) : PFn := fun xs => match f xs with
  | .stuck => g xs
  | r => r
theorem cal_or {u : Value} {f g : PFn} (h1 : Cal C Pr w K mg base k u f) (h2 : Cal C Pr w K mg base k u g) : Cal C Pr w K mg base k u (eitherP f g) := by
  intro X W A pins s σ H us vs Q e1 e2 e3 e4 e5 tk hr hA I r ⟨G, xs, q1, q2, q3⟩
  unfold eitherP at q3
  cases q : f xs with
  | stuck =>
    rw [q] at q3
    exact h2 X W A pins s σ H us vs Q e1 e2 e3 e4 e5 tk hr hA I r ⟨G, xs, q1, q2, q3⟩
  | ok x =>
    rw [q] at q3
    exact h1 X W A pins s σ H us vs Q e1 e2 e3 e4 e5 tk hr hA I r ⟨G, xs, q1, q2, by rw [q]; exact q3⟩
  | exc c x =>
    rw [q] at q3
    exact h1 X W A pins s σ H us vs Q e1 e2 e3 e4 e5 tk hr hA I r ⟨G, xs, q1, q2, by rw [q]; exact q3⟩
theorem binds_plain {x qual : Str} {params : Arguments} {body : List Stmt} {scope : Scope} {f : Addr} {fd : FuncData} {ps : List Str} (Fd : FunD K x qual params body scope [] [] f fd) (h : plainPar params ps = true) (hn : ps.Nodup) : Binds K fd ps [] :=
  Fd.bindsN fun _ _ _ _ _ _ us hl => bind_plain h hn hl
end
end RP
end

section
set_option Elab.async false
set_option linter.all false
set_option maxRecDepth 100000
set_option maxHeartbeats 4000000
/-! The layout of a program: its classes, names, fields; what the top must have left of them. -/
namespace RP
open PySem L2
structure Lay where
  own : List (Nat × Str)
  xs : List (Nat × Str × List Nat)
  bas : Str
  nm : List Str
  flds : List (Nat × List Nat)
  free : List Str
  gcs : List (Str × Nat × List Str)
  mts : List (Nat × Nat)
  prs : List (Nat × Nat)
  mks : List Nat
  glo : List Str
  cms : List (Nat × Nat) := []
def Lay.cn (L : Lay) (c : Nat) : Str := match L.own.lookup c with
  | some x => x
  | none => match L.xs.lookup c with
    | some e => e.1
    | none => ""
def Lay.ft (L : Lay) : FldT := fun c => match L.flds.lookup c with
  | some l => l
  | none => match L.xs.lookup c with
    | some e => e.2
    | none => []
def Lay.NM (L : Lay) (i : Nat) : Str := L.nm.getD i ""
def Lay.cc (L : Lay) (K : PySem.W.Frag) : CC := ⟨K, fun c => He.ga K (L.cn c), L.ft, L.NM, fun c => (L.own.lookup c).isSome⟩
def Lay.tys (L : Lay) : List Ty := [.int, .bool, .str, .tup, .lst] ++ L.own.map fun e => .own e.1
def Lay.exm (L : Lay) (c' c : Nat) : Option Bool := if (L.xs.lookup c').isSome && (L.xs.lookup c).isSome then some (c' == c) else none
def Lay.T (L : Lay) : Gs := { fns := [], gcs := L.gcs.map fun e => (e.1, e.2.1), free := L.free, cls := L.own.map fun e => (e.2, e.1), tys := L.tys, nm := L.nm, ft := L.ft, xc := L.xs.map fun e => (e.2.1, e.1), exm := L.exm, xr := (L.xs.filter fun e => e.2.2.length == 1).map (·.1) }
def Lay.G0 (L : Lay) : List (Nat × P) := L.gcs.map fun e => (e.2.1, .tup (e.2.2.map P.str))
/-! ### looks -/
abbrev Fr := PySem.W.Frag
def ooB (a b : Option (Option Value)) : Bool := decide (a = b)
def clsB (K : Fr) (c : Addr) : Bool := PySem.W.plainGet K c Str.empty && PySem.W.hasDictIn K c && PySem.W.plainOver K c && ooB (PySem.W.findIn K (.ref c) "__setattr__") (some (some (.builtin "object.__setattr__"))) &&
  ooB (PySem.W.findIn K (.ref c) "__class__") (some (some (.builtin "object.__class__"))) && ooB (PySem.W.specialIn K (.builtin "object.__class__") "__get__") (some (some (.builtin "getset_descriptor.__get__"))) && decide (PySem.W.takesIn K (.builtin "object.__class__") = some true) &&
  decide (PySem.W.mroIn K c (.type "object") = some true) && PySem.W.selfFirst K c && ooB (PySem.W.findIn K (.ref c) "__ne__") (some (some (.builtin "object.__ne__")))
theorem clsB_ok {K : Fr} {c : Addr} (h : clsB K c = true) : ClsF K c := by
  unfold clsB ooB at h
  simp only [Bool.and_eq_true, decide_eq_true_eq] at h
  obtain ⟨⟨⟨⟨⟨⟨⟨⟨⟨h1, h2⟩, h3⟩, h4⟩, h5⟩, h6⟩, h7⟩, h8⟩, h9⟩, h10⟩ := h
  exact ⟨⟨h1, h2, h3, h4⟩, h5, h6, h7, h8, h9, h10⟩
def baseB (K : Fr) (c : Addr) : Bool := PySem.W.readsIn K c (.type "type") && (match PySem.W.findCls K (.ref c) (.type "type") "__init__" with
  | some (.val (.builtin n)) => n == "ValueError.__init__"
  | _ => false) && ooB (PySem.W.specialIn K (.ref c) "__getattribute__") (some (some (.builtin "type.__getattribute__")))
theorem baseB_ok {K : Fr} {c : Addr} (h : baseB K c = true) : BaseT K c := by
  unfold baseB ooB at h
  simp only [Bool.and_eq_true, decide_eq_true_eq] at h
  refine ⟨h.1.1, ?_, h.2⟩
  have h2 := h.1.2
  split at h2
  · rename_i n e
    rw [e, eq_of_beq h2]
  · cases h2
def oexB (K : Fr) (c : Addr) : Bool := (match K.lookup c with
  | some o => (match o.cls, o.data, o.slots.toList with
    | .type t, .cls cd, [_, _, _, _, some (.builtin n), _] => t == "type" && n == "ValueError.__new__" && cd.hasDict && !cd.hasDel && (match cd.mro with
      | .ref c' :: bm => c' == c && PySem.HandSPX.refsVE bm
      | _ => false)
    | _, _, _ => false)
  | none => false) && ooB (PySem.W.findIn K (.ref c) "__setattr__") (some (some (.builtin "object.__setattr__"))) && decide (PySem.W.subIn K (.ref c) (.type "BaseException") = some true) && decide (PySem.W.typeIn K (.ref c) = some (.type "type")) && PySem.W.keepIn K (.ref c)
theorem oexB_ok {K : Fr} {c : Addr} (h : oexB K c = true) : OexC K c := by
  unfold oexB ooB at h
  simp only [Bool.and_eq_true, decide_eq_true_eq] at h
  obtain ⟨⟨⟨⟨h1, h2⟩, h3⟩, h4⟩, h5⟩ := h
  refine ⟨?_, h2, h3, h4, h5⟩
  split at h1
  · rename_i o ho
    obtain ⟨oc, od, dt, sl⟩ := o
    dsimp only at h1
    split at h1
    · rename_i t cd k0 k1 k2 k3 n k5 hs
      simp only [Bool.and_eq_true, beq_iff_eq, Bool.not_eq_true'] at h1
      obtain ⟨⟨⟨⟨rfl, rfl⟩, hd⟩, hdel⟩, hm⟩ := h1
      obtain ⟨nm, bs, mro, ns, qn, hdd, sn, sub, ab, col, del⟩ := cd
      dsimp only at hm hd hdel
      subst hd hdel
      have hsl : sl = #[k0, k1, k2, k3, some (.builtin "ValueError.__new__"), k5] := by
        obtain ⟨l⟩ := sl
        exact congrArg Array.mk hs
      subst hsl
      split at hm
      · rename_i c' bm
        simp only [Bool.and_eq_true, beq_iff_eq] at hm
        obtain ⟨rfl, hb⟩ := hm
        exact ⟨_, _, _, _, _, _, _, _, _, _, _, _, _, _, _, ho, hb⟩
      · cases hm
    · cases h1
  · cases h1
def xrdB (K : Fr) (c : Addr) (f : Str) : Bool := ooB (PySem.W.findIn K (.ref c) "__getattribute__") (some (some (.builtin "BaseException.__getattribute__"))) && ooB (PySem.W.findIn K (.ref c) "__getattr__") (some none) && ooB (PySem.W.findIn K (.ref c) f) (some none) && decide (PySem.W.subIn K (.ref c) (.type "BaseException") = some true) && PySem.W.hasDictIn K c
theorem xrdB_ok {K : Fr} {c : Addr} {f : Str} (h : xrdB K c f = true) : XRd K c f := by
  unfold xrdB ooB at h
  simp only [Bool.and_eq_true, decide_eq_true_eq] at h
  obtain ⟨⟨⟨⟨h1, h2⟩, h3⟩, h4⟩, h5⟩ := h
  exact ⟨h1, h2, h3, h4, h5⟩
/-- isinstance against a class: what each kind of value answers -/
def kitB (L : Lay) (K : Fr) (t : Ty) : Bool :=
  let v := tyC (L.cc K) t
  decide (PySem.W.kitOne K (.type "NoneType") v = some false) && decide (PySem.W.kitOne K (.type "bool") v = some (t == .int || t == .bool)) && decide (PySem.W.kitOne K (.type "int") v = some (t == .int)) && decide (PySem.W.kitOne K (.type "str") v = some (t == .str)) &&
  decide (PySem.W.kitOne K (.type "tuple") v = some (t == .tup)) && decide (PySem.W.kitOne K (.type "list") v = some (t == .lst)) && decide (PySem.W.kitOne K (.type "dict") v = some false) && L.own.all fun e => decide (PySem.W.kitOne K (.ref (He.ga K e.2)) v = some (t == .own e.1))
theorem lk_own {α : Type} : ∀ {l : List (Nat × α)} {c : Nat} {x : α}, l.lookup c = some x → (c, x) ∈ l
  | [], c, x, h => by cases h
  | (d, y) :: l, c, x, h => by
    rw [List.lookup_cons] at h
    split at h
    · rename_i q
      cases h
      rw [eq_of_beq q]
      exact List.mem_cons_self
    · exact List.mem_cons_of_mem _ (lk_own h)
theorem lk_str {α : Type} : ∀ {l : List (Str × α)} {c : Str} {x : α}, l.lookup c = some x → (c, x) ∈ l
  | [], c, x, h => by cases h
  | (d, y) :: l, c, x, h => by
    rw [List.lookup_cons] at h
    split at h
    · rename_i q
      cases h
      rw [eq_of_beq q]
      exact List.mem_cons_self
    · exact List.mem_cons_of_mem _ (lk_str h)
theorem kitB_ok {L : Lay} {K : Fr} {t : Ty} (h : kitB L K t = true) : KitF (L.cc K) t := by
  unfold kitB at h
  simp only [Bool.and_eq_true, decide_eq_true_eq, List.all_eq_true] at h
  obtain ⟨⟨⟨⟨⟨⟨⟨h1, h2⟩, h3⟩, h4⟩, h5⟩, h6⟩, h8⟩, h7⟩ := h
  intro x b hx hi
  show PySem.W.kitOne K _ _ = _
  cases x with
  | non => simp only [isiP, Option.some.injEq] at hi; subst hi; exact h1
  | bl _ => simp only [isiP, Option.some.injEq] at hi; subst hi; exact h2
  | int _ => simp only [isiP, Option.some.injEq] at hi; subst hi; exact h3
  | str _ => simp only [isiP, Option.some.injEq] at hi; subst hi; exact h4
  | tup _ => simp only [isiP, Option.some.injEq] at hi; subst hi; exact h5
  | lst _ => simp only [isiP, Option.some.injEq] at hi; subst hi; exact h6
  | scr _ => cases hi
  | dic _ _ => simp only [isiP, Option.some.injEq] at hi; subst hi; exact h8
  | ob c xs =>
    simp only [isiP, Option.some.injEq] at hi
    subst hi
    have hc : (L.own.lookup c).isSome = true := hx
    obtain ⟨y, hy⟩ := Option.isSome_iff_exists.mp hc
    have z := h7 _ (lk_own hy)
    have e : L.cn c = y := by
      unfold Lay.cn
      rw [hy]
    show PySem.W.kitOne K (.ref (He.ga K (L.cn c))) _ = _
    rw [e]
    exact z
/-! ### all of it -/
def gloB (K : Fr) (x : Str) : Bool := ooB (PySem.W.nsIn K mainGlobals x) (some (some (.ref (He.ga K x))))
def methB (K : Fr) (c : Addr) (m : Str) : Bool := ooB (PySem.W.findIn K (.ref c) m) (some (some (.ref (He.ma K c m)))) && PySem.W.isFn K (.ref (He.ma K c m)) && PySem.W.keepIn K (.ref (He.ma K c m))
def norB (K : Fr) (c : Addr) (m : Nat) : Bool := [Operator.Add, .Sub, .Mult].all fun op => !(opM op == some m) || ooB (PySem.W.findIn K (.ref c) (PySem.dunderR op.info.2)) (some none)
def propB (K : Fr) (c : Addr) (m : Str) : Bool := ooB (PySem.W.findIn K (.ref c) m) (some (some (.ref (He.ma K c m)))) && ooB (PySem.W.specialIn K (.ref (He.ma K c m)) "__get__") (some (some (.builtin "property.__get__"))) && decide (PySem.W.takesIn K (.ref (He.ma K c m)) = some true) && (match PySem.W.recIn K (He.ma K c m) "property" with
  | some (.ref _ :: _) => true
  | _ => false)
def cmB (K : Fr) (c : Addr) (m : Str) : Bool := PySem.W.readsIn K c (.type "type") && ooB (PySem.W.specialIn K (.ref c) "__getattribute__") (some (some (.builtin "type.__getattribute__"))) && (match PySem.W.findCls K (.ref c) (.type "type") m with
  | some (.get (.builtin n) (.ref p) .none (.ref d)) => n == "classmethod.__get__" && p == He.ma K c m && d == c
  | _ => false) && (match PySem.W.recIn K (He.ma K c m) "classmethod" with
  | some (.ref g :: _) => PySem.W.fnIn K g
  | _ => false)
def mkB (K : Fr) (c : Addr) : Bool := PySem.W.makesIn K c && ooB (PySem.W.findIn K (.ref c) "__init__") (some (some (.ref (He.ma K c "__init__")))) && PySem.W.isFn K (.ref (He.ma K c "__init__")) && PySem.W.keepIn K (.ref c)
def Lay.look (L : Lay) (K : Fr) : Bool :=
  L.own.all (fun e => gloB K e.2 && clsB K (He.ga K e.2)) &&
  L.own.all (fun e => L.own.all fun d => e.1 == d.1 || (decide (PySem.W.subIn K (.ref (He.ga K e.2)) (.ref (He.ga K d.2)) = some false) && !(He.ga K e.2 == He.ga K d.2))) &&
  L.own.all (fun e => (L.ft e.1).all fun f => ooB (PySem.W.findIn K (.ref (He.ga K e.2)) (L.NM f)) (some none)) &&
  L.tys.all (kitB L K) && L.free.all (fun x => ooB (PySem.W.nsIn K mainGlobals x) (some none)) &&
  L.gcs.all (fun e => gloB K e.1 && He.tupB K e.1 (e.2.2.map He.Dv.str)) &&
  gloB K L.bas && baseB K (He.ga K L.bas) &&
  L.xs.all (fun e => gloB K e.2.1 && oexB K (He.ga K e.2.1) && ooB (PySem.W.findIn K (.ref (He.ga K e.2.1)) "__init__") (some (some (.ref (He.ma K (He.ga K e.2.1) "__init__")))) && decide (PySem.W.typeIn K (.ref (He.ma K (He.ga K e.2.1) "__init__")) = some (.type "function"))) &&
  L.xs.all (fun e => L.xs.all fun d => decide (PySem.W.exmOne K (.ref (He.ga K e.2.1)) (.ref (He.ga K d.2.1)) = some (e.1 == d.1))) &&
  L.xs.all (fun e => match e.2.2 with
    | [f] => xrdB K (He.ga K e.2.1) (L.NM f)
    | _ => true) &&
  L.mts.all (fun e => methB K (He.ga K (L.cn e.1)) (L.NM e.2) && norB K (He.ga K (L.cn e.1)) e.2) &&
  L.prs.all (fun e => propB K (He.ga K (L.cn e.1)) (L.NM e.2)) &&
  L.mks.all (fun c => gloB K (L.cn c) && mkB K (He.ga K (L.cn c))) &&
  L.glo.all (gloB K) &&
  L.cms.all (fun e => cmB K (He.ga K (L.cn e.1)) (L.NM e.2))
/-- what must hold of the layout itself -/
def Lay.ok (L : Lay) : Bool := decide L.nm.Nodup && L.nm.all (fun x => !(x == ("" : Str))) && decide (L.nm.take 8 = ([("__add__" : Str), "__sub__", "__mul__", "__neg__", "__eq__", "__lt__", "__le__", "append"] : List Str)) &&
  decide (L.own.map (·.1)).Nodup && decide (L.own.map (·.2)).Nodup && decide (L.xs.map (·.1)).Nodup && decide (L.xs.map (·.2.1)).Nodup && L.own.all (fun e => (L.xs.lookup e.1).isNone) && decide (L.gcs.map (·.2.1)).Nodup && decide (L.gcs.map (·.1)).Nodup &&
  L.flds.all (fun e => e.2.all fun f => decide (f < L.nm.length)) && L.xs.all (fun e => e.2.2.all fun f => decide (f < L.nm.length)) && L.flds.all (fun e => (L.xs.lookup e.1).isNone) &&
  L.mts.all (fun e => (L.ft e.1).all fun f => !(L.NM f == L.NM e.2))

structure LayOk (L : Lay) : Prop where
  nd : L.nm.Nodup
  ne : ∀ x ∈ L.nm, x ≠ ("" : Str)
  tk : L.nm.take 8 = ([("__add__" : Str), "__sub__", "__mul__", "__neg__", "__eq__", "__lt__", "__le__", "append"] : List Str)
  on : (L.own.map (·.1)).Nodup
  os : (L.own.map (·.2)).Nodup
  xn : (L.xs.map (·.1)).Nodup
  xs : (L.xs.map (·.2.1)).Nodup
  ox : ∀ e ∈ L.own, L.xs.lookup e.1 = none
  gn : (L.gcs.map (·.2.1)).Nodup
  gs : (L.gcs.map (·.1)).Nodup
  fl : ∀ e ∈ L.flds, ∀ f ∈ e.2, f < L.nm.length
  xf : ∀ e ∈ L.xs, ∀ f ∈ e.2.2, f < L.nm.length
  fx : ∀ e ∈ L.flds, L.xs.lookup e.1 = none
  mf : ∀ e ∈ L.mts, ∀ f ∈ L.ft e.1, L.NM f ≠ L.NM e.2
theorem lay_ok {L : Lay} (h : L.ok = true) : LayOk L := by
  unfold Lay.ok at h
  simp only [Bool.and_eq_true] at h
  obtain ⟨⟨⟨⟨⟨⟨⟨⟨⟨⟨⟨⟨⟨a1, a2⟩, a3⟩, a4⟩, a5⟩, a6⟩, a7⟩, a8⟩, a9⟩, a10⟩, a11⟩, a12⟩, a13⟩, a14⟩ := h
  simp only [List.all_eq_true, decide_eq_true_eq, Option.isNone_iff_eq_none, Bool.not_eq_true', beq_eq_false_iff_ne] at *
  exact ⟨a1, a2, a3, a4, a5, a6, a7, a8, a9, a10, a11, a12, a13, a14⟩
structure LookOk (L : Lay) (K : Fr) : Prop where
  own : ∀ e ∈ L.own, gloB K e.2 = true ∧ clsB K (He.ga K e.2) = true
  two : ∀ e ∈ L.own, ∀ d ∈ L.own, e.1 = d.1 ∨ (PySem.W.subIn K (.ref (He.ga K e.2)) (.ref (He.ga K d.2)) = some false ∧ He.ga K e.2 ≠ He.ga K d.2)
  na : ∀ e ∈ L.own, ∀ f ∈ L.ft e.1, PySem.W.findIn K (.ref (He.ga K e.2)) (L.NM f) = some none
  kit : ∀ t ∈ L.tys, kitB L K t = true
  free : ∀ x ∈ L.free, PySem.W.nsIn K mainGlobals x = some none
  gcs : ∀ e ∈ L.gcs, gloB K e.1 = true ∧ He.tupB K e.1 (e.2.2.map He.Dv.str) = true
  bg : gloB K L.bas = true
  bb : baseB K (He.ga K L.bas) = true
  xs : ∀ e ∈ L.xs, ((gloB K e.2.1 = true ∧ oexB K (He.ga K e.2.1) = true) ∧ PySem.W.findIn K (.ref (He.ga K e.2.1)) "__init__" = some (some (.ref (He.ma K (He.ga K e.2.1) "__init__")))) ∧ PySem.W.typeIn K (.ref (He.ma K (He.ga K e.2.1) "__init__")) = some (.type "function")
  exm : ∀ e ∈ L.xs, ∀ d ∈ L.xs, PySem.W.exmOne K (.ref (He.ga K e.2.1)) (.ref (He.ga K d.2.1)) = some (e.1 == d.1)
  xr : ∀ e ∈ L.xs, (match e.2.2 with
    | [f] => xrdB K (He.ga K e.2.1) (L.NM f)
    | _ => true) = true
  mts : ∀ e ∈ L.mts, methB K (He.ga K (L.cn e.1)) (L.NM e.2) = true ∧ norB K (He.ga K (L.cn e.1)) e.2 = true
  prs : ∀ e ∈ L.prs, propB K (He.ga K (L.cn e.1)) (L.NM e.2) = true
  mks : ∀ c ∈ L.mks, gloB K (L.cn c) = true ∧ mkB K (He.ga K (L.cn c)) = true
  glo : ∀ x ∈ L.glo, gloB K x = true
  cms : ∀ e ∈ L.cms, cmB K (He.ga K (L.cn e.1)) (L.NM e.2) = true
theorem look_ok {L : Lay} {K : Fr} (h : L.look K = true) : LookOk L K := by
  unfold Lay.look ooB at h
  simp only [Bool.and_eq_true] at h
  obtain ⟨⟨⟨⟨⟨⟨⟨⟨⟨⟨⟨⟨⟨⟨⟨a1, a2⟩, a3⟩, a4⟩, a5⟩, a6⟩, a7⟩, a8⟩, a9⟩, a10⟩, a11⟩, a12⟩, a13⟩, a14⟩, a15⟩, a16⟩ := h
  simp only [List.all_eq_true, decide_eq_true_eq, Bool.and_eq_true, Bool.or_eq_true, beq_iff_eq, Bool.not_eq_true', beq_eq_false_iff_ne] at a1 a2 a3 a4 a5 a6 a9 a10 a11 a12 a13 a14 a15 a16
  exact ⟨a1, a2, a3, a4, a5, a6, a7, a8, a9, a10, a11, a12, a13, a14, a15, a16⟩
section
variable {L : Lay} {K : Fr} {Pr : Program} {w : World} {h : Heap} {mg : Str → Option Value} {base : Heap}
theorem glo_mg (X : K.In h) (G : h.Ns mainGlobals mg) {x : Str} (c : gloB K x = true) : mg x = some (.ref (He.ga K x)) := PySem.W.mg_of X G (of_decide_eq_true c)
theorem nm_inj (ho : LayOk L) {f g : Nat} (hg : g < L.nm.length) (e : L.NM f = L.NM g) : f = g := by
  have eg : L.NM g = L.nm[g] := by
    unfold Lay.NM
    rw [List.getD_eq_getElem?_getD, List.getElem?_eq_getElem hg]
    rfl
  by_cases hf : f < L.nm.length
  · have ef : L.NM f = L.nm[f] := by
      unfold Lay.NM
      rw [List.getD_eq_getElem?_getD, List.getElem?_eq_getElem hf]
      rfl
    rw [ef, eg] at e
    exact (List.getElem_inj ho.nd).mp e
  · have ef : L.NM f = "" := by
      unfold Lay.NM
      rw [List.getD_eq_getElem?_getD, List.getElem?_eq_none (by omega)]
      rfl
    rw [ef, eg] at e
    exact absurd e.symm (ho.ne _ (List.getElem_mem hg))
theorem ft_lt (ho : LayOk L) {c g : Nat} (hg : g ∈ L.ft c) : g < L.nm.length := by
  unfold Lay.ft at hg
  split at hg
  · rename_i l hl
    exact ho.fl _ (lk_own hl) g hg
  · split at hg
    · rename_i e he
      exact ho.xf _ (lk_own he) g hg
    · cases hg
theorem lk_swap {α : Type} : ∀ {l : List (Nat × Str × α)} {x : Str} {c : Nat}, (l.map fun e => (e.2.1, e.1)).lookup x = some c → ∃ y, (c, x, y) ∈ l
  | [], x, c, h => by cases h
  | (d, z, y) :: l, x, c, h => by
    rw [List.map_cons, List.lookup_cons] at h
    split at h
    · rename_i q
      cases h
      rw [eq_of_beq q]
      exact ⟨y, List.mem_cons_self⟩
    · obtain ⟨y', hy⟩ := lk_swap h
      exact ⟨y', List.mem_cons_of_mem _ hy⟩
theorem lk_mem {α : Type} : ∀ {l : List (Nat × α)} {c : Nat} {x : α}, (l.map (·.1)).Nodup → (c, x) ∈ l → l.lookup c = some x
  | (d, y) :: l, c, x, hn, h => by
    rw [List.map_cons] at hn
    have hn' := List.nodup_cons.mp hn
    rw [List.lookup_cons]
    rcases List.mem_cons.mp h with q | q
    · cases q
      simp
    · have : (c == d) = false := by
        rw [beq_eq_false_iff_ne]
        intro z
        exact hn'.1 (by rw [← z]; exact List.mem_map.mpr ⟨(c, x), q, rfl⟩)
      rw [this]
      exact lk_mem hn'.2 q
theorem lk_no {α : Type} : ∀ {l : List (Nat × α)} {c : Nat}, (∀ e ∈ l, e.1 ≠ c) → l.lookup c = none
  | [], c, _ => rfl
  | (d, y) :: l, c, h => by
    rw [List.lookup_cons]
    have : (c == d) = false := by
      rw [beq_eq_false_iff_ne]
      intro z
      exact h (d, y) List.mem_cons_self z.symm
    rw [this]
    exact lk_no fun e he => h e (List.mem_cons_of_mem _ he)
/-- an exception's number: its name, its fields -/
theorem xs_cn (ho : LayOk L) {c : Nat} {x : Str} {l : List Nat} (hm : (c, x, l) ∈ L.xs) : L.cn c = x ∧ L.ft c = l := by
  have e := lk_mem ho.xn hm
  have n1 : L.own.lookup c = none := lk_no fun d hd z => by
    have := ho.ox d hd
    rw [z, e] at this
    cases this
  have n2 : L.flds.lookup c = none := lk_no fun d hd z => by
    have := ho.fx d hd
    rw [z, e] at this
    cases this
  unfold Lay.cn Lay.ft
  rw [n1, n2, e]
  exact ⟨rfl, rfl⟩
theorem own_cn {c : Nat} {x : Str} (hm : L.own.lookup c = some x) : L.cn c = x := by
  unfold Lay.cn
  rw [hm]
/-- the __init__ of an exception with a value, without one: its text -/
def xini (bas : Str) (d : DD) (fl : Option Str) : Bool := match d.body with
  | .Expr (.Call (.Attribute (.Name bn _) ini q2) [.Name s1 _, .Constant (.str _) _ _] [] q5) _ :: r => bn == bas && (ini == ("__init__" : Str) && (q2.endLine == q5.line && (glB d.scope bn && (visB d.scope s1 && (d.scope.names.lookup s1 == some .local && (d.dfl.isEmpty && (match r, fl with
    | [], none => fnScB [s1] [s1] d.scope && plainPar d.params [s1]
    | [.Assign [.Attribute (.Name s2 _) f _] (.Name y _) _], some fl => s2 == s1 && (f == fl && (visB d.scope y && (d.scope.names.lookup y == some .local && (fnScB [s1, y] [s1, y] d.scope && plainPar d.params [s1, y]))))
    | _, _ => false)))))))
  | _ => false
theorem reps_strs {C : CC} {G : Hp} : ∀ l : List Str, RepPs C G (l.map P.str) ((l.map He.Dv.str).map (He.Dv.v K))
  | [] => by simp [RepPs]
  | a :: l => by
    simp only [List.map_cons, RepPs]
    exact ⟨_, _, rfl, by simp only [RepP, He.Dv.v], reps_strs l⟩
theorem vis_nd {sc : Scope} {x : Str} (h : visB sc x = true) : (x == ("__debug__" : Str)) = false ∧ (x == ("__classdict__" : Str)) = false := by
  unfold visB at h
  simp only [Bool.and_eq_true, Bool.not_eq_true'] at h
  exact ⟨h.1.2, h.2⟩
theorem xini_0 {d : DD} {bas : Str} {fd : FuncData} {fI C B : Addr} (h : xini bas d none = true) (Fd : FunD K d.name d.qual d.params d.body d.scope (d.dvs K) [] fI fd) (T : BaseT K B) (O : OexC K C) (hm : mg bas = some (.ref B)) :
    ∃ ps, L2.FnOk Pr w K mg base (L2.CX Pr w) 1 fI fd ps (spX0 C) ∧ Binds K fd ps [] := by
  unfold xini at h
  obtain ⟨ad, name, qual, params, body, scope, dfl⟩ := d
  dsimp only [DD.dvs] at h Fd
  split at h
  · simp only [Bool.and_eq_true, beq_iff_eq, List.isEmpty_iff] at h
    obtain ⟨rfl, rfl, h3, h4, h5, h6, h7, h8⟩ := h
    subst h7
    split at h8
    · simp only [Bool.and_eq_true] at h8
      obtain ⟨oc, od, dV, kV, doc, pm, an, cdv, ct, osl, e, lk, hcd, _, _⟩ := Fd.ex
      have bd := binds_plain Fd h8.2 (fnSc_ok h8.1).nd
      subst e
      unfold glB at h4
      simp only [Bool.and_eq_true, beq_iff_eq, Bool.not_eq_true'] at h4
      exact ⟨_, fn_x0 (k := 0) lk hcd (fnSc_ok h8.1) T O h4.1 hm h4.2 (by simpa using h3) h6 (vis_nd h5).1 (vis_nd h5).2, bd⟩
    · rename_i hh
      cases hh
    · cases h8
  · cases h
theorem xini_1 {d : DD} {bas fl : Str} {fd : FuncData} {fI C B : Addr} (h : xini bas d (some fl) = true) (Fd : FunD K d.name d.qual d.params d.body d.scope (d.dvs K) [] fI fd) (T : BaseT K B) (O : OexC K C) (hm : mg bas = some (.ref B)) (hfl : PySem.W.findIn K (.ref C) fl = some none) :
    ∃ ps, L2.FnOk Pr w K mg base (L2.CX Pr w) 1 fI fd ps (spX1 C fl) ∧ Binds K fd ps [] := by
  unfold xini at h
  obtain ⟨ad, name, qual, params, body, scope, dfl⟩ := d
  dsimp only [DD.dvs] at h Fd
  split at h
  · simp only [Bool.and_eq_true, beq_iff_eq, List.isEmpty_iff] at h
    obtain ⟨rfl, rfl, h3, h4, h5, h6, h7, h8⟩ := h
    subst h7
    split at h8
    · rename_i hh
      cases hh
    · rename_i s2 q7 f q8 y q9 qa fl' hh
      cases hh
      simp only [Bool.and_eq_true, beq_iff_eq] at h8
      obtain ⟨rfl, rfl, g3, g4, g5, g6⟩ := h8
      obtain ⟨oc, od, dV, kV, doc, pm, an, cdv, ct, osl, e, lk, hcd, _, _⟩ := Fd.ex
      have bd := binds_plain Fd g6 (fnSc_ok g5).nd
      subst e
      unfold glB at h4
      simp only [Bool.and_eq_true, beq_iff_eq, Bool.not_eq_true'] at h4
      exact ⟨_, fn_x1 (k := 0) lk hcd (fnSc_ok g5) T O hfl h4.1 hm h4.2 (by simpa using h3) h6 g4 (vis_nd h5).1 (vis_nd g3).1 (vis_nd h5).2 (vis_nd g3).2, bd⟩
    · cases h8
  · cases h
theorem stat_of (ho : LayOk L) (hl : LookOk L K) (X : K.In h) (G : h.Ns mainGlobals mg) (xd : List (Nat × DD)) (hx : ∀ e ∈ L.xs, ∃ d fd, xd.lookup e.1 = some d ∧ d.ad K = He.ma K (He.ga K e.2.1) "__init__" ∧ xini L.bas d (e.2.2.head?.map L.NM) = true ∧ FunD K d.name d.qual d.params d.body d.scope (d.dvs K) [] (d.ad K) fd) :
    (ns : base.NoSeer) → (nl : base.NoLimit) → (tr : Pr.given.tree = none) → Stat (L.cc K) Pr w K mg base L.T L.G0 := by
  intro ns nl tr
  refine ⟨?_, ?_, ?_, rfl, ?_, ?_, ?_, ?_, ?_, rfl, ?_, ?_, ?_, ?_, ?_, ?_, ns, nl, tr⟩
  · refine ⟨fun c hc => ?_, fun c d hc hd hne => ?_⟩
    · obtain ⟨x, hx⟩ := Option.isSome_iff_exists.mp (show (L.own.lookup c).isSome = true from hc)
      show ClsF K (He.ga K (L.cn c))
      rw [own_cn hx]
      exact clsB_ok (hl.own _ (lk_own hx)).2
    · obtain ⟨x, hx⟩ := Option.isSome_iff_exists.mp (show (L.own.lookup c).isSome = true from hc)
      obtain ⟨y, hy⟩ := Option.isSome_iff_exists.mp (show (L.own.lookup d).isSome = true from hd)
      show PySem.W.subIn K (.ref (He.ga K (L.cn c))) (.ref (He.ga K (L.cn d))) = some false ∧ He.ga K (L.cn c) ≠ He.ga K (L.cn d)
      rw [own_cn hx, own_cn hy]
      rcases hl.two _ (lk_own hx) _ (lk_own hy) with z | z
      · exact absurd z hne
      · exact z
  · have at8 : ∀ i, i < 8 → L.NM i = (L.nm.take 8).getD i "" := fun i hi => by
      unfold Lay.NM
      rw [List.getD_eq_getElem?_getD, List.getD_eq_getElem?_getD, List.getElem?_take_of_lt hi]
    rw [ho.tk] at at8
    exact ⟨at8 0 (by decide), at8 1 (by decide), at8 2 (by decide), at8 3 (by decide), at8 4 (by decide), at8 5 (by decide), at8 6 (by decide), at8 7 (by decide)⟩
  · refine ⟨fun c _ g hg f e => nm_inj ho (ft_lt ho hg) e, fun c hc g hg => ?_⟩
    obtain ⟨x, hx⟩ := Option.isSome_iff_exists.mp (show (L.own.lookup c).isSome = true from hc)
    show PySem.W.findIn K (.ref (He.ga K (L.cn c))) (L.NM g) = some none
    rw [own_cn hx]
    exact hl.na _ (lk_own hx) g hg
  · intro x i hi
    obtain ⟨⟨y, j, l⟩, hm, rfl, rfl⟩ := lk_fn (l := L.gcs) hi
    refine ⟨He.ga K y, .tup (l.map P.str), glo_mg X G (hl.gcs _ hm).1, ?_, fun G' => ?_⟩
    · have z := lk_ix (l := L.gcs.map fun e => (e.1, e.2.1, P.tup (e.2.2.map P.str))) (e := (y, j, P.tup (l.map P.str))) (by rw [List.map_map]; exact ho.gn) (List.mem_map.mpr ⟨_, hm, rfl⟩)
      rw [List.map_map] at z
      exact z
    · have t := He.tupB_ok (hl.gcs _ hm).2 G'
      simp only [RepP]
      refine ⟨He.ga K y, _, rfl, t, ?_⟩
      exact reps_strs _
  · intro x hx
    exact PySem.W.mg_none_of X G (hl.free x hx)
  · intro x c hc
    have hm : (c, x) ∈ L.own := by
      have z := lk_str (show (L.own.map fun e => (e.2, e.1)).lookup x = some c from hc)
      obtain ⟨⟨a, b⟩, h1, h2⟩ := List.mem_map.mp z
      cases h2
      exact h1
    show mg x = some (.ref (He.ga K (L.cn c)))
    rw [own_cn (lk_mem ho.on hm)]
    exact glo_mg X G (hl.own _ hm).1
  · intro t ht
    exact kitB_ok (hl.kit t ht)
  · intro f x hf
    have hf : L.nm[f]? = some x := hf
    show L.NM f = x
    unfold Lay.NM
    rw [List.getD_eq_getElem?_getD, hf]
    rfl
  · intro c g f hg e
    exact nm_inj ho (ft_lt ho hg) e
  · intro x c hc
    obtain ⟨l, hm⟩ := lk_swap (l := L.xs) hc
    show mg x = some (.ref (He.ga K (L.cn c)))
    rw [(xs_cn ho hm).1]
    exact glo_mg X G (hl.xs _ hm).1.1.1
  · intro x c hc hf
    obtain ⟨l, hm⟩ := lk_swap (l := L.xs) hc
    have hfl : l = [] := by
      rw [← (xs_cn ho hm).2]
      exact hf
    subst hfl
    obtain ⟨d, fd, _, ha, hi, Fd⟩ := hx _ hm
    obtain ⟨⟨⟨_, o⟩, iC⟩, tI⟩ := hl.xs _ hm
    have ec : (L.cc K).CA c = He.ga K x := congrArg (He.ga K) (xs_cn ho hm).1
    rw [ha] at Fd
    rw [ec]
    obtain ⟨ps, F0, B⟩ := xini_0 (Pr := Pr) (w := w) (base := base) hi Fd (baseB_ok hl.bb) (oexB_ok o) (glo_mg X G hl.bg)
    exact ⟨_, fd, ps, ⟨oexB_ok o, iC, tI⟩, F0, B⟩
  · intro x c fl hc hf
    obtain ⟨l, hm⟩ := lk_swap (l := L.xs) hc
    have hfl : l = [fl] := by
      rw [← (xs_cn ho hm).2]
      exact hf
    subst hfl
    obtain ⟨d, fd, _, ha, hi, Fd⟩ := hx _ hm
    obtain ⟨⟨⟨_, o⟩, iC⟩, tI⟩ := hl.xs _ hm
    have ec : (L.cc K).CA c = He.ga K x := congrArg (He.ga K) (xs_cn ho hm).1
    rw [ha] at Fd
    rw [ec]
    have xr := xrdB_ok (hl.xr _ hm)
    obtain ⟨ps, F0, B⟩ := xini_1 (Pr := Pr) (w := w) (base := base) hi Fd (baseB_ok hl.bb) (oexB_ok o) (glo_mg X G hl.bg) xr.no
    exact ⟨_, fd, ps, ⟨oexB_ok o, iC, tI⟩, F0, B⟩
  · intro c' c b hb
    have hb : L.exm c' c = some b := hb
    unfold Lay.exm at hb
    split at hb
    · rename_i q
      simp only [Bool.and_eq_true] at q
      obtain ⟨e', he'⟩ := Option.isSome_iff_exists.mp q.1
      obtain ⟨e, he⟩ := Option.isSome_iff_exists.mp q.2
      cases hb
      have z := hl.exm _ (lk_own he') _ (lk_own he)
      show PySem.W.exmOne K (.ref (He.ga K (L.cn c'))) (.ref (He.ga K (L.cn c))) = _
      rw [(xs_cn ho (lk_own he')).1, (xs_cn ho (lk_own he)).1]
      exact z
    · cases hb
  · intro c f hc hf
    obtain ⟨⟨c0, x, l⟩, h1, rfl⟩ := List.mem_map.mp (show c ∈ (L.xs.filter fun e => e.2.2.length == 1).map (·.1) from hc)
    have hm := (List.mem_filter.mp h1).1
    have hfl : l = [f] := by
      rw [← (xs_cn ho hm).2]
      exact hf
    subst hfl
    show XRd K (He.ga K (L.cn c0)) (L.NM f)
    rw [(xs_cn ho hm).1]
    exact xrdB_ok (hl.xr _ hm)
end
end RP
end

section
set_option Elab.async false
set_option linter.all false
set_option maxRecDepth 100000
set_option maxHeartbeats 4000000
/-! The entries of the tables, and the law's end. -/
namespace RP
open PySem L2
section
variable {L : Lay} {K : Fr} {Pr : Program} {w : World} {h : Heap} {mg : Str → Option Value} {base : Heap} {k : Nat} {Γ : Tab} {T' : Gs} {N ps : List Str} {ir : Ss} {name qual : Str} {params : Arguments} {body : List Stmt} {scope : Scope} {fd : FuncData} {f : Addr} {dvs : List V}
/-- a def's text is as told -/
structure Txt (T' : Gs) (N ps : List Str) (ir : Ss) (params : Arguments) (body : List Stmt) (scope : Scope) : Prop where
  sc : fnScB N ps scope = true
  ck : chkSs T' ⟨N, scope, fun _ => true⟩ ir body = true
  pl : plainPar params ps = true
theorem txt_of {b : Bool} (hb : b = (fnScB N ps scope && chkSs T' ⟨N, scope, fun _ => true⟩ ir body && plainPar params ps)) (h : b = true) : Txt T' N ps ir params body scope := by
  subst hb
  simp only [Bool.and_eq_true] at h
  exact ⟨h.1.1, h.1.2, h.2⟩
theorem ent_fn {x : Str} (X : K.In h) (G : h.Ns mainGlobals mg) (st : Stat (L.cc K) Pr w K mg base L.T L.G0) (tb : TabOk (L.cc K) Pr w K mg base k Γ T') (hg : gloB K x = true) (Fd : FunD K name qual params body scope [] [] (gA x K) fd) (t : Txt T' N ps ir params body scope) :
    ∃ u, mg x = some u ∧ PySem.W.keepIn K u = true ∧ Cal (L.cc K) Pr w K mg base (k + 9) u (fnP L.ft Γ N.length ps.length ir) :=
  ⟨_, glo_mg X G hg, Fd.kp, Cal.mono (calP (def_ok Fd t.sc st tb t.ck) (binds_plain Fd t.pl (List.Nodup.sublist (List.take_sublist ps.length N) (fnSc_ok t.sc).nd |> fun z => (fnSc_ok t.sc).pre ▸ z))) (by unfold eqDeep; omega)⟩
theorem ent_ifn {x : Str} (X : K.In h) (G : h.Ns mainGlobals mg) (st : Stat (L.cc K) Pr w K mg base L.T L.G0) (tb : TabOk (L.cc K) Pr w K mg base k Γ T') (hg : gloB K x = true) (Fd : FunD K name qual params body scope [] [] (gA x K) fd) (t : Txt T' N ps ir params body scope) :
    ∃ u, mg x = some u ∧ PySem.W.keepIn K u = true ∧ CalI (L.cc K) Pr w K mg base (k + 9) u (fnI L.ft Γ N.length ps.length ir) :=
  ⟨_, glo_mg X G hg, Fd.kp, CalI.mono (cal_ofI (def_ok Fd t.sc st tb t.ck) (binds_plain Fd t.pl (List.Nodup.sublist (List.take_sublist ps.length N) (fnSc_ok t.sc).nd |> fun z => (fnSc_ok t.sc).pre ▸ z))) (by unfold eqDeep; omega)⟩
theorem meth_of {c : Addr} {m : Str} (hm : methB K c m = true) : Meth K c m (He.ma K c m) := by
  unfold methB ooB at hm
  simp only [Bool.and_eq_true, decide_eq_true_eq] at hm
  exact ⟨hm.1.1, hm.1.2, hm.2⟩
theorem nor_of {c : Addr} {m : Nat} (hn : norB K c m = true) (op : Operator) (ho : opM op = some m) : PySem.W.findIn K (.ref c) (PySem.dunderR op.info.2) = some none := by
  unfold norB ooB at hn
  simp only [List.all_cons, List.all_nil, Bool.and_true, Bool.and_eq_true, Bool.or_eq_true, decide_eq_true_eq, Bool.not_eq_true', beq_eq_false_iff_ne] at hn
  obtain ⟨h1, h2, h3⟩ := hn
  cases op <;> first | (cases ho; done) | skip
  · exact h1.resolve_left (fun z => z ho)
  · exact h2.resolve_left (fun z => z ho)
  · exact h3.resolve_left (fun z => z ho)
theorem ent_mt {c m : Nat} (ho : LayOk L) (hl : LookOk L K) (st : Stat (L.cc K) Pr w K mg base L.T L.G0) (tb : TabOk (L.cc K) Pr w K mg base k Γ T') (hm : (c, m) ∈ L.mts) (Fd : FunD K name qual params body scope [] [] (mA (L.cn c) (L.NM m) K) fd) (t : Txt T' N ps ir params body scope) :
    ∃ f, Meth K ((L.cc K).CA c) ((L.cc K).NM m) f ∧ (∀ g ∈ (L.cc K).FT c, (L.cc K).NM g ≠ (L.cc K).NM m) ∧ Cal (L.cc K) Pr w K mg base (k + 9) (.ref f) (fnP L.ft Γ N.length ps.length ir) ∧ ∀ op, opM op = some m → PySem.W.findIn K (.ref ((L.cc K).CA c)) (PySem.dunderR op.info.2) = some none :=
  ⟨_, meth_of (hl.mts _ hm).1, ho.mf _ hm, Cal.mono (calP (def_ok Fd t.sc st tb t.ck) (binds_plain Fd t.pl (List.Nodup.sublist (List.take_sublist ps.length N) (fnSc_ok t.sc).nd |> fun z => (fnSc_ok t.sc).pre ▸ z))) (by unfold eqDeep; omega), nor_of (hl.mts _ hm).2⟩
theorem prop_of {c : Addr} {m : Str} (hm : propB K c m = true) : ∃ g rest, PySem.W.recIn K (He.ma K c m) "property" = some (.ref g :: rest) ∧ PropOf K c m (He.ma K c m) g := by
  unfold propB ooB at hm
  simp only [Bool.and_eq_true, decide_eq_true_eq] at hm
  obtain ⟨⟨⟨h1, h2⟩, h3⟩, h4⟩ := hm
  split at h4
  · rename_i g rest e
    exact ⟨g, rest, e, h1, h2, h3, rest, e⟩
  · cases h4
theorem ent_pr {c m : Nat} (hl : LookOk L K) (st : Stat (L.cc K) Pr w K mg base L.T L.G0) (tb : TabOk (L.cc K) Pr w K mg base k Γ T') (hm : (c, m) ∈ L.prs) (Fd : FunD K name qual params body scope [] [] (pA (L.cn c) (L.NM m) K) fd) (t : Txt T' N ps ir params body scope) :
    ∃ p f, PropOf K ((L.cc K).CA c) ((L.cc K).NM m) p f ∧ Cal (L.cc K) Pr w K mg base (k + 9) (.ref f) (fnP L.ft Γ N.length ps.length ir) := by
  obtain ⟨g, rest, e, hp⟩ := prop_of (hl.prs _ hm)
  have ea : pA (L.cn c) (L.NM m) K = g := by
    unfold pA
    rw [e]
  rw [ea] at Fd
  exact ⟨_, g, hp, Cal.mono (calP (def_ok Fd t.sc st tb t.ck) (binds_plain Fd t.pl (List.Nodup.sublist (List.take_sublist ps.length N) (fnSc_ok t.sc).nd |> fun z => (fnSc_ok t.sc).pre ▸ z))) (by unfold eqDeep; omega)⟩
theorem cm_of {c : Addr} {m : Str} (h : cmB K c m = true) : ∃ g rest, PySem.W.recIn K (He.ma K c m) "classmethod" = some (.ref g :: rest) ∧ ClX.CRead K c (.type "type") ∧ ClX.CMet K c (.type "type") m (He.ma K c m) g := by
  unfold cmB ooB at h
  simp only [Bool.and_eq_true, decide_eq_true_eq] at h
  obtain ⟨⟨⟨h1, h2⟩, h3⟩, h4⟩ := h
  split at h4
  · rename_i g rest e
    refine ⟨g, rest, e, ⟨h1, h2⟩, ?_, ⟨rest, e⟩, h4⟩
    split at h3
    · rename_i n p d e2
      simp only [Bool.and_eq_true, beq_iff_eq] at h3
      obtain ⟨⟨rfl, rfl⟩, rfl⟩ := h3
      exact e2
    · cases h3
  · cases h4
theorem ent_cm {c m : Nat} (hl : LookOk L K) (st : Stat (L.cc K) Pr w K mg base L.T L.G0) (tb : TabOk (L.cc K) Pr w K mg base k Γ T') (hm : (c, m) ∈ L.cms) (Fd : FunD K name qual params body scope [] [] (cmA (L.cn c) (L.NM m) K) fd) (t : Txt T' N ps ir params body scope) :
    ∃ mc pp f, ClX.CRead K ((L.cc K).CA c) mc ∧ ClX.CMet K ((L.cc K).CA c) mc ((L.cc K).NM m) pp f ∧ CalI (L.cc K) Pr w K mg base (k + 9) (.ref f) (fnI L.ft Γ N.length ps.length ir) := by
  obtain ⟨g, rest, e, hr, hc⟩ := cm_of (hl.cms _ hm)
  have ea : cmA (L.cn c) (L.NM m) K = g := by
    unfold cmA
    rw [e]
  rw [ea] at Fd
  exact ⟨_, _, g, hr, hc, CalI.mono (cal_ofI (def_ok Fd t.sc st tb t.ck) (binds_plain Fd t.pl (List.Nodup.sublist (List.take_sublist ps.length N) (fnSc_ok t.sc).nd |> fun z => (fnSc_ok t.sc).pre ▸ z))) (by unfold eqDeep; omega)⟩
theorem mk_of {c : Addr} (hm : mkB K c = true) : Mk K c (He.ma K c "__init__") := by
  unfold mkB ooB at hm
  simp only [Bool.and_eq_true, decide_eq_true_eq] at hm
  exact ⟨hm.1.1.1, hm.1.1.2, hm.1.2, hm.2⟩
theorem ent_mk {c : Nat} (X : K.In h) (G : h.Ns mainGlobals mg) (hl : LookOk L K) (st : Stat (L.cc K) Pr w K mg base L.T L.G0) (tb : TabOk (L.cc K) Pr w K mg base k Γ T') (hm : c ∈ L.mks) (kn : (L.own.lookup c).isSome = true) (Fd : FunD K name qual params body scope [] [] (mA (L.cn c) "__init__" K) fd) (t : Txt T' N ps ir params body scope) :
    ∃ u, mg (L.cn c) = some u ∧ PySem.W.keepIn K u = true ∧ Cal (L.cc K) Pr w K mg base (k + 9) u (mkOf L.ft c ps.length [] (runI Γ L.ft N.length ir)) :=
  ⟨_, glo_mg X G (hl.mks _ hm).1, (mk_of (hl.mks _ hm).2).kp, Cal.mono (cal_make (C := L.cc K) (dxs := []) (mk_of (hl.mks _ hm).2) kn (def_ok Fd t.sc st tb t.ck) (binds_plain Fd t.pl (List.Nodup.sublist (List.take_sublist ps.length N) (fnSc_ok t.sc).nd |> fun z => (fnSc_ok t.sc).pre ▸ z)) .nil fun G => by simp only [RepPs]) (by unfold eqDeep; omega)⟩
/-- a class whose __init__ has a default for its last parameter -/
theorem ent_mk1 {c : Nat} {dv : V} {dx : P} (X : K.In h) (G : h.Ns mainGlobals mg) (hl : LookOk L K) (st : Stat (L.cc K) Pr w K mg base L.T L.G0) (tb : TabOk (L.cc K) Pr w K mg base k Γ T') (hm : c ∈ L.mks) (kn : (L.own.lookup c).isSome = true) (Fd : FunD K name qual params body scope [dv] [] (mA (L.cn c) "__init__" K) fd) (sc : fnScB N ps scope = true) (ck : chkSs T' ⟨N, scope, fun _ => true⟩ ir body = true)
    (b1 : ∃ ds, Vals [dv] ds ∧ Binds K fd ps ds) (b0 : ∃ ds, Vals [] ds ∧ Binds K fd ps ds) (hd : ∀ G, RepP (L.cc K) G dx dv) :
    ∃ u, mg (L.cn c) = some u ∧ PySem.W.keepIn K u = true ∧ Cal (L.cc K) Pr w K mg base (k + 9) u (eitherP (mkOf L.ft c ps.length [] (runI Γ L.ft N.length ir)) (mkOf L.ft c ps.length [dx] (runI Γ L.ft N.length ir))) := by
  obtain ⟨ds1, v1, b1⟩ := b1
  obtain ⟨ds0, v0, b0⟩ := b0
  have F := def_ok Fd sc st tb ck
  exact ⟨_, glo_mg X G (hl.mks _ hm).1, (mk_of (hl.mks _ hm).2).kp, Cal.mono (cal_or
    (cal_make (C := L.cc K) (dxs := []) (mk_of (hl.mks _ hm).2) kn F b0 v0 fun G => by simp only [RepPs])
    (cal_make (C := L.cc K) (dxs := [dx]) (mk_of (hl.mks _ hm).2) kn F b1 v1 fun G => by simp only [RepPs]; exact ⟨dv, [], rfl, hd G, rfl⟩)) (by unfold eqDeep; omega)⟩
/-! ### keywords -/
def selfP {α : Type} (ix : List Nat) (us ws : List α) : List α := match us with
  | [] => []
  | u :: us => u :: permL ix us ws
theorem vals_self {vs zs : List V} {us ws : List Value} (ix : List Nat) (h1 : Vals vs us) (h2 : Vals zs ws) : Vals (selfP ix vs zs) (selfP ix us ws) := by
  cases h1 with
  | nil => exact .nil
  | cons r rr => exact .cons r (vals_perm rr h2 ix)
theorem kbn_fn {n : Nat} {ks : List Str} {ix : List Nat} (Fd : FunD K name qual params body scope [] [] f fd) (h : ∀ (kV doc pm : Value) (an : Option Addr) (cdv ct : Value) (us ws : List Value), us.length = n → ws.length = ks.length → bindArgs (PySem.W.fnOf name qual params body scope .none kV doc pm an cdv ct) ⟨us, ks.zip ws⟩ = pure (ps.zip (permL ix us ws))) :
    KBn K fd ps n ks (permL ix) (permL ix) := by
  obtain ⟨oc, od, dV, kV, doc, pm, an, cdv, ct, osl, rfl, lk, hcd, hD, hK⟩ := Fd.ex
  rcases hD with ⟨_, rfl⟩ | ⟨e, _⟩
  · exact ⟨fun s us ws X l1 l2 => .of_eq (h kV doc pm an cdv ct us ws l1 l2), fun r1 r2 => vals_perm r1 r2 ix⟩
  · exact absurd rfl e
theorem kbn_mk {n : Nat} {ks : List Str} {ix : List Nat} (Fd : FunD K name qual params body scope [] [] f fd) (h : ∀ (kV doc pm : Value) (an : Option Addr) (cdv ct : Value) (us ws : List Value), us.length = n → ws.length = ks.length → bindArgs (PySem.W.fnOf name qual params body scope .none kV doc pm an cdv ct) ⟨us, ks.zip ws⟩ = pure (ps.zip (selfP ix us ws))) :
    KBn K fd ps n ks (selfP ix) (selfP ix) := by
  obtain ⟨oc, od, dV, kV, doc, pm, an, cdv, ct, osl, rfl, lk, hcd, hD, hK⟩ := Fd.ex
  rcases hD with ⟨_, rfl⟩ | ⟨e, _⟩
  · exact ⟨fun s us ws X l1 l2 => .of_eq (h kV doc pm an cdv ct us ws l1 l2), fun r1 r2 => vals_self ix r1 r2⟩
  · exact absurd rfl e
theorem kbn_mk1 {n : Nat} {ks : List Str} {ix : List Nat} {dv : V} (Fd : FunD K name qual params body scope [dv] [] f fd) (h : ∀ (T : Addr) (kV doc pm : Value) (an : Option Addr) (cdv ct : Value) (us its ws : List Value), us.length = n → its.length = 1 → ws.length = ks.length →
      ∃ k, bindArgs (PySem.W.fnOf name qual params body scope (.ref T) kV doc pm an cdv ct) ⟨us, ks.zip ws⟩ = seqItems? (.ref T) >>= k ∧ k (some its.toArray) = pure (ps.zip (selfP ix us ws))) : KBn K fd ps n ks (selfP ix) (selfP ix) := by
  obtain ⟨its, hb⟩ := Fd.kbindsD n ks (fun us _ ws => selfP ix us ws) (List.cons_ne_nil _ _) (fun r1 _ r2 => vals_self ix r1 r2) h
  exact hb
theorem ent_kfn {x : Str} {n : Nat} {ks : List Str} {ix : List Nat} (X : K.In h) (G : h.Ns mainGlobals mg) (st : Stat (L.cc K) Pr w K mg base L.T L.G0) (tb : TabOk (L.cc K) Pr w K mg base k Γ T') (hg : gloB K x = true) (Fd : FunD K name qual params body scope [] [] (gA x K) fd) (t : Txt T' N ps ir params body scope)
    (hb : KBn K fd ps n ks (permL ix) (permL ix)) :
    ∃ u, mg x = some u ∧ PySem.W.keepIn K u = true ∧ KCal (L.cc K) Pr w K mg base (k + 9) u n ks (kOf n ks.length ix (fnP L.ft Γ N.length ps.length ir)) ∧ KCalI (L.cc K) Pr w K mg base (k + 9) u n ks kiNo :=
  ⟨_, glo_mg X G hg, Fd.kp, KCal.mono (kcal_fn (def_ok Fd t.sc st tb t.ck) hb) (by unfold eqDeep; omega), kcali_no⟩
theorem ent_kfni {x : Str} {n : Nat} {ks : List Str} {ix : List Nat} (X : K.In h) (G : h.Ns mainGlobals mg) (st : Stat (L.cc K) Pr w K mg base L.T L.G0) (tb : TabOk (L.cc K) Pr w K mg base k Γ T') (hg : gloB K x = true) (Fd : FunD K name qual params body scope [] [] (gA x K) fd) (t : Txt T' N ps ir params body scope)
    (hb : KBn K fd ps n ks (permL ix) (permL ix)) :
    ∃ u, mg x = some u ∧ PySem.W.keepIn K u = true ∧ KCal (L.cc K) Pr w K mg base (k + 9) u n ks (kOf n ks.length ix (fnP L.ft Γ N.length ps.length ir)) ∧ KCalI (L.cc K) Pr w K mg base (k + 9) u n ks (kiOf n ks.length ps.length ix (runI Γ L.ft N.length ir)) :=
  ⟨_, glo_mg X G hg, Fd.kp, KCal.mono (kcal_fn (def_ok Fd t.sc st tb t.ck) hb) (by unfold eqDeep; omega), KCalI.mono (kcali_fn (def_ok Fd t.sc st tb t.ck) hb) (by unfold eqDeep; omega)⟩
theorem ent_kmk {c n : Nat} {ks : List Str} {ix : List Nat} {dvs : List V} (X : K.In h) (G : h.Ns mainGlobals mg) (hl : LookOk L K) (st : Stat (L.cc K) Pr w K mg base L.T L.G0) (tb : TabOk (L.cc K) Pr w K mg base k Γ T') (hm : c ∈ L.mks) (kn : (L.own.lookup c).isSome = true) (Fd : FunD K name qual params body scope dvs [] (mA (L.cn c) "__init__" K) fd)
    (sc : fnScB N ps scope = true) (ck : chkSs T' ⟨N, scope, fun _ => true⟩ ir body = true) (hb : KBn K fd ps (n + 1) ks (selfP ix) (selfP ix)) :
    ∃ u, mg (L.cn c) = some u ∧ PySem.W.keepIn K u = true ∧ KCal (L.cc K) Pr w K mg base (k + 9) u n ks (kOf n ks.length ix (mkOf L.ft c ps.length [] (runI Γ L.ft N.length ir))) ∧ KCalI (L.cc K) Pr w K mg base (k + 9) u n ks kiNo :=
  ⟨_, glo_mg X G (hl.mks _ hm).1, (mk_of (hl.mks _ hm).2).kp, KCal.mono (kcal_make (C := L.cc K) (mk_of (hl.mks _ hm).2) kn (def_ok Fd sc st tb ck) hb fun _ _ _ => rfl) (by unfold eqDeep; omega), kcali_no⟩
theorem ent_imt {c m : Nat} (ho : LayOk L) (hl : LookOk L K) (st : Stat (L.cc K) Pr w K mg base L.T L.G0) (tb : TabOk (L.cc K) Pr w K mg base k Γ T') (hm : (c, m) ∈ L.mts) (Fd : FunD K name qual params body scope [] [] (mA (L.cn c) (L.NM m) K) fd) (t : Txt T' N ps ir params body scope) :
    ∃ f, Meth K ((L.cc K).CA c) ((L.cc K).NM m) f ∧ (∀ g ∈ (L.cc K).FT c, (L.cc K).NM g ≠ (L.cc K).NM m) ∧ CalI (L.cc K) Pr w K mg base (k + 9) (.ref f) (fnI L.ft Γ N.length ps.length ir) ∧ ∀ p ∈ ([] : List (List Str × KFn)), KCal (L.cc K) Pr w K mg base (k + 9) (.ref f) 1 p.1 p.2 :=
  ⟨_, meth_of (hl.mts _ hm).1, ho.mf _ hm, CalI.mono (cal_ofI (def_ok Fd t.sc st tb t.ck) (binds_plain Fd t.pl (List.Nodup.sublist (List.take_sublist ps.length N) (fnSc_ok t.sc).nd |> fun z => (fnSc_ok t.sc).pre ▸ z))) (by unfold eqDeep; omega), fun p hp => by cases hp⟩
theorem ent_imtk {ks : List Str} {ix : List Nat} {c m : Nat} (ho : LayOk L) (hl : LookOk L K) (st : Stat (L.cc K) Pr w K mg base L.T L.G0) (tb : TabOk (L.cc K) Pr w K mg base k Γ T') (hm : (c, m) ∈ L.mts) (Fd : FunD K name qual params body scope [] [] (mA (L.cn c) (L.NM m) K) fd) (t : Txt T' N ps ir params body scope) (hb : KBn K fd ps 1 ks (permL ix) (permL ix)) :
    ∃ f, Meth K ((L.cc K).CA c) ((L.cc K).NM m) f ∧ (∀ g ∈ (L.cc K).FT c, (L.cc K).NM g ≠ (L.cc K).NM m) ∧ CalI (L.cc K) Pr w K mg base (k + 9) (.ref f) (fnI L.ft Γ N.length ps.length ir) ∧ ∀ p ∈ [(ks, kOf 1 ks.length ix (fnP L.ft Γ N.length ps.length ir))], KCal (L.cc K) Pr w K mg base (k + 9) (.ref f) 1 p.1 p.2 :=
  ⟨_, meth_of (hl.mts _ hm).1, ho.mf _ hm, CalI.mono (cal_ofI (def_ok Fd t.sc st tb t.ck) (binds_plain Fd t.pl (List.Nodup.sublist (List.take_sublist ps.length N) (fnSc_ok t.sc).nd |> fun z => (fnSc_ok t.sc).pre ▸ z))) (by unfold eqDeep; omega), fun p hp => by
    rw [List.mem_singleton.mp hp]
    exact KCal.mono (kcal_fn (def_ok Fd t.sc st tb t.ck) hb) (by unfold eqDeep; omega)⟩
theorem ent_kcm {c m : Nat} {ks : List Str} {ix : List Nat} (hl : LookOk L K) (st : Stat (L.cc K) Pr w K mg base L.T L.G0) (tb : TabOk (L.cc K) Pr w K mg base k Γ T') (hm : (c, m) ∈ L.cms) (Fd : FunD K name qual params body scope [] [] (cmA (L.cn c) (L.NM m) K) fd) (t : Txt T' N ps ir params body scope)
    (hb : KBn K fd ps 1 ks (permL ix) (permL ix)) :
    ∃ mc pp f, ClX.CRead K ((L.cc K).CA c) mc ∧ ClX.CMet K ((L.cc K).CA c) mc ((L.cc K).NM m) pp f ∧ KCalC (L.cc K) Pr w K mg base (k + 9) (.ref f) 1 ks (kiOf 1 ks.length ps.length ix (runI Γ L.ft N.length ir)) := by
  obtain ⟨g, rest, e, hr, hc⟩ := cm_of (hl.cms _ hm)
  have ea : cmA (L.cn c) (L.NM m) K = g := by
    unfold cmA
    rw [e]
  rw [ea] at Fd
  exact ⟨_, _, g, hr, hc, KCalC.mono (kcalc_fn (def_ok Fd t.sc st tb t.ck) hb) (by unfold eqDeep; omega)⟩
/-- the law itself -/
theorem sp_law {C : CC} {g : IFn} {S' : Sto} {H : Hp} {a : Addr} {ns : List Int} (hO : Only H) (hS : SqL C.K H a (ns.map V.int)) (hg : g [.p (.scr ns)] [] = .ok (.p (.bl true)) S') : nArg 1 (spI C g) [.ref a] H (fun v _ => v = .bl true) (fun _ _ _ => False) := by
  have hs : Scr C.K H a (ns.map V.int) := by
    rcases hS with (h | h) | h
    · rcases hO a with z | ⟨o, xs, z⟩
      · rw [z] at h
        cases h
      · rw [z] at h
        cases h
    · exact .inl h
    · exact .inr h
  refine ⟨rfl, fun _ => none, ⟨H, [], []⟩, [.p (.scr ns)], ⟨Same.refl _, rfl, fun n x e => by simp at e, fun n c e => by simp at e, fun n m c c' a e => by simp at e, fun a o e => by cases e⟩, ⟨_, [], rfl, ?_, rfl⟩, ?_⟩
  · simp only [RepD, RepP]
    exact ⟨a, rfl, hs⟩
  · rw [hg]
    intro v s' H' _ _ _ r
    simpa only [RepD, RepP] using r

end
open PySem.Spec PyProof.Rows in
/-- a law's call: the heap behind the top, less the script, is the base -/
theorem call_law {Pr : Program} {w : World} {K : PySem.W.Frag} {mg mb : Str → Option Value} {k : Nat} {fa a : Addr} {fd : FuncData} {x : Str} {sp : Sp} {s1 : Shared} {vs : List Value} {ns : List Int}
    (kx : K.In s1.heap) (gx : s1.heap.Ns mainGlobals mg) (bx : s1.heap.Ns builtinsNs mb) (bb : ∀ x : Str, x ≠ "__name__" → mb x = bootBuiltins x) (nl : s1.heap.NoLimit) (sr : s1.heap.NoSeer) (gn : s1.gens = #[])
    (ha : s1.heap.get? a = some { cls := .type "list", data := .seq vs.toArray }) (hi : IntsAre vs ns) (hl : ns.length ≤ sizeLine) (hr : Room k callerA)
    (F : ∀ base : Heap, K.In base → base.Ns mainGlobals mg → base.NoSeer → base.NoLimit → FnOk Pr w K mg base (L2.CX Pr w) k fa fd [x] sp) (bn : ∀ (s : Shared) (u : Value), BindsTo s fd ⟨[u], []⟩ [(x, u)])
    (hsp : ∀ H : Hp, Only H → SqL K H a (ns.map V.int) → sp [.ref a] H (fun v _ => v = .bl true) fun _ _ _ => False) (hx : ∀ H e s', L2.CX Pr w [] H s1 (fun _ _ _ => False) e s' → False) :
    codeAny (model Pr w) callerA (.call (.ref fa) ⟨[.ref a], []⟩) (fun r s' => r = .ok (.ret (.bool true)) ∧ OldK s1.heap s'.heap ∧ s'.os = s1.os ∧ AllBare s'.gens) s1 := by
  have vals := vals_ints hi
  have key : ∀ H : Hp, Only H → (∀ b, b ≠ a → H b = none) → (∀ o, K.lookup a = some o → H a = none) → SqL K H a (ns.map V.int) → HOk Pr w H s1.heap →
      codeAny (model Pr w) callerA (.call (.ref fa) ⟨[.ref a], []⟩) (fun r s' => r = .ok (.ret (.bool true)) ∧ OldK s1.heap s'.heap ∧ s'.os = s1.os ∧ AllBare s'.gens) s1 := by
    intro H only off own sq hok
    have away : ∀ {b : Addr} {o : Obj}, s1.heap.get? b = some o → o.cls ≠ .type "list" → (hidT s1.heap H).get? b = some o := fun {b o} e n => hidT_get e (off b fun z => by
      subst z
      rw [ha] at e
      cases e
      exact n rfl)
    have dict : ∀ {b : Addr} {m : Str → Option Value}, s1.heap.Ns b m → (hidT s1.heap H).Ns b m := fun {b m} q => by
      obtain ⟨o, es, ep, e, d, r⟩ := q
      refine ⟨o, es, ep, hidT_get e (off b fun z => ?_), d, r⟩
      subst z
      rw [ha] at e
      cases e
      have d' : Data.seq vs.toArray _ = Data.dict es ep := d
      cases d'
    have kin : K.In (hidT s1.heap H) := fun b o e => by
      refine hidT_get (kx b o e) ?_
      by_cases z : b = a
      · subst z
        exact own o e
      · exact off b z
    have lim : (hidT s1.heap H).NoLimit := by
      obtain ⟨mc, q1, q2⟩ := nl
      exact ⟨mc, dict q1, q2⟩
    have see : (hidT s1.heap H).NoSeer := by
      obtain ⟨m1, p1, p2⟩ := sr.statics
      obtain ⟨m2, p3, p4⟩ := sr.mods
      obtain ⟨m3, p5, p6⟩ := sr.imp
      obtain ⟨m4, bm, ob, p7, p8, p9, p10, p11⟩ := sr.main
      exact ⟨⟨m1, dict p1, p2⟩, ⟨m2, dict p3, p4⟩, ⟨m3, dict p5, p6⟩, ⟨m4, bm, ob, dict p7, p8, away p9 (by rw [p10]; simp), p10, p11⟩⟩
    have ent : Env0 Pr w K mg (hidT s1.heap H) callerA [] s1 H := ⟨rfl, ⟨kin, dict gx, ⟨mb, dict bx, bb⟩, lim⟩, fun _ _ => of_hidT, Nat.le_of_eq (hidT_size _ _), trivial, fun b q => (by have q' : b ∈ ([] : List Addr) := q; cases q'), hok, .of_eq gn⟩
    have go := (F _ kin (dict gx) see lim).run callerA [] s1 H ⟨[.ref a], []⟩ [.ref a] [.ref a] _ _ hr ent (bn s1 (.ref a)) (.cons rfl .nil) (hsp H only sq)
    refine codeAny_mono go fun r s' q => ?_
    match r, q with
    | .error e, q => exact (hx H e s' q).elim
    | .ok .next, q => exact q.elim
    | .ok .brk, q => exact q.elim
    | .ok .cont, q => exact q.elim
    | .ok (.ret u), q =>
      obtain ⟨v, H2, hos, bare, un, hok2, rel, e⟩ := q
      have e' : v = .bl true := e
      subst e'
      have eu : u = Value.bool true := rel
      subst eu
      refine ⟨rfl, .of_keep fun b o hb => ?_, hos, bare⟩
      rcases only b with z | ⟨ob, xs, z⟩
      · exact un.keep b o hb z (fun q => by have q' : b ∈ ([] : List Addr) := q; cases q') (by simp)
      · obtain ⟨t1, _⟩ := hok b _ z
        obtain ⟨t2, _⟩ := hok2 b _ (un.frzs b ob _ z)
        rw [hb] at t1
        cases t1
        exact t2
  cases hk : K.lookup a with
  | some o =>
    have e := kx a o hk
    rw [ha] at e
    cases e
    exact key (fun _ => none) (fun _ => .inl rfl) (fun _ _ => rfl) (fun _ _ => rfl) (.inr ⟨_, vs.toArray, _, hk, rfl, rfl, rfl, by rw [List.size_toArray, hi.length]; exact hl, by simpa using vals⟩) fun b u z => nomatch z
  | none =>
    let H0 : Hp := fun b => if b = a then some (.frz { cls := .type "list", data := .seq vs.toArray } (.lst (ns.map V.int))) else none
    have at_ : H0 a = some (.frz { cls := .type "list", data := .seq vs.toArray } (.lst (ns.map V.int))) := if_pos rfl
    have off : ∀ b, b ≠ a → H0 b = none := fun b n => if_neg n
    refine key H0 (fun b => ?_) off (fun o z => by rw [hk] at z; cases z) (.inl (.inr ⟨_, at_⟩)) fun b u z => ?_
    · by_cases q : b = a
      · exact .inr ⟨_, _, by rw [q]; exact at_⟩
      · exact .inl (off b q)
    · by_cases q : b = a
      · subst q
        rw [at_] at z
        cases z
        exact ⟨ha, by rw [List.length_map]; exact hl, vs, _, vals, ha⟩
      · rw [off b q] at z
        cases z
/-- a law's end: what leaves a def depends on the world -/
theorem walk_r {l : PySem.W.OpenLaw} {n k : Nat} {q : Program} {loose : List Str} {XP : (Str → Option Value) → Heap → Prop} {YP : World → Heap → Prop} {d : DefRec} {x : Str}
    (hn : l.most = some n) (hs : n ≤ sizeLine) (hd : d.params.defaults = []) (hr : Room k callerA) (hi : PyProof.Rows.importsNone q = true)
    (F : ∀ (w : World) (mg : Str → Option Value) (fa : Addr) (h : Heap), YP w h → h.Ns mainGlobals mg → h.NoSeer → h.NoLimit → mg d.name = some (.ref fa) →
      ∃ (K : PySem.W.Frag) (fd : FuncData) (sp : Sp), K.In h ∧ (∀ (s : Shared) (u : Value), BindsTo s fd ⟨[u], []⟩ [(x, u)]) ∧ (∀ (H : Hp) (a : Addr) (ns : List Int), ns.length ≤ n → Only H → SqL K H a (ns.map V.int) → sp [.ref a] H (fun v _ => v = .bl true) fun _ _ _ => False) ∧
        ∀ base : Heap, K.In base → base.Ns mainGlobals mg → base.NoSeer → base.NoLimit → FnOk l.prog w K mg base (L2.CX l.prog w) k fa fd [x] sp) :
    PySem.W.WalkO q loose XP YP l.row.toRowW d [] (fun f vs => PySem.call f vs) := by
  refine Att.attach_call hn hd fun w s0 s1 mg mb fa o pm cd doc a vs ns G Y h1 h2 h3 h4 h5 h6 h7 h8 => ?_
  obtain ⟨K, fd, sp, i1, i2, i3, i4⟩ := F w mg fa _ Y G.T.g (G.T.seer hi) G.T.nolimit h4
  exact call_law i1 G.T.g G.T.b G.T.builtins G.T.nolimit (G.T.seer hi) h8 h5 h6 (Nat.le_trans h7 hs) hr i4 i2 (fun H z1 z2 => i3 H a ns h7 z1 z2) fun H e s' ⟨_, _, _, _, _, z⟩ => by
    obtain ⟨_, _, _, _, _, _, _, z⟩ := z
    exact z
end RP
end

section
set_option Elab.async false
set_option linter.all false
set_option maxRecDepth 100000
/-! The run of the top, joined of its parts. -/
namespace RP
open PySem L2 PySem.W PySem.Calls PyProof.Rows
theorem runEq_of {r : OpenRow} {q : Program} {n M : Nat} {ex : Frag → Bool} {fn : List DD} {loose : List PySem.Str} {w : World}
    (a : ∀ os : OsState, (HandSHeadRun.endF (HandSHeadRun.stepQ (HandSHeadRun.denQ HandSHeadRun.tabQ) r.prog w) M r.prog w os).map (fun s => HandSHeadRun.looksF r.prog (boot_heap w.params) s.abs) = some true)
    (b : ∀ os : OsState, (HandSHeadRun.endF (HandSHeadRun.stepQ (HandSHeadRun.denQ HandSHeadRun.tabQ) r.prog w) M r.prog w os).map (fun s => HandSHeadRun.seenQ q loose (importedModules r.prog.main.body) (fun s => xlAt q [] s && recOk r.toRowW.records s) s.abs) = some (openGood q loose))
    (c : ∀ os : OsState, (HandSHeadRun.endF (HandSHeadRun.stepQ (HandSHeadRun.denQ HandSHeadRun.tabQ) r.prog w) M r.prog w os).map (fun s => askR n (HandSHeadRun.getT s) ex) = some true)
    (d : ∀ os : OsState, (HandSHeadRun.endF (HandSHeadRun.stepQ (HandSHeadRun.denQ HandSHeadRun.tabQ) r.prog w) M r.prog w os).map (fun s => askR n (HandSHeadRun.getT s) (okB fn)) = some true)
    (e : ∀ os : OsState, (HandSHeadRun.endF (HandSHeadRun.stepQ (HandSHeadRun.denQ HandSHeadRun.tabQ) r.prog w) M r.prog w os).map (fun s => askR n (HandSHeadRun.getT s) (seenL fn)) = some (fn.map DD.told)) :
    HandSHeadRun.RunEq r q (hookR n ex fn) (fun s => obsR n ex fn (HandSHeadRun.getT s)) M loose w := fun os => run_two (a os) (run_two (b os) (run_two (run_and (c os) (d os)) (e os)))
end RP
end

section
set_option Elab.async false
set_option linter.all false
set_option maxRecDepth 100000
set_option maxHeartbeats 4000000
namespace RP
open PySem L2
def top (i : Nat) : Stmt := PySem.Challenge.pw_rangepools_k03_texts_of_ratios.main.body.getD i (.Pass ⟨0, 0, 0, 0⟩)
def names : List Str := [(Str.ofString "__add__"), (Str.ofString "__sub__"), (Str.ofString "__mul__"), (Str.ofString "__neg__"), (Str.ofString "__eq__"), (Str.ofString "__lt__"), (Str.ofString "__le__"), (Str.ofString "append"), (Str.ofString "clear"), (Str.ofString "bottom"), (Str.ofString "top"), (Str.ofString "rows"), (Str.ofString "kept"), (Str.ofString "all"), (Str.ofString "over"), (Str.ofString "fee"), (Str.ofString "root"), (Str.ofString "profile"), (Str.ofString "stretches"), (Str.ofString "given"), (Str.ofString "rows_kept"), (Str.ofString "holds"), (Str.ofString "told"), (Str.ofString "end"), (Str.ofString "needed"), (Str.ofString "rate"), (Str.ofString "pieces"), (Str.ofString "text"), (Str.ofString "read")]
def L : Lay where
  own := [(0, (Str.ofString "Ratio"))]
  xs := [(100, (Str.ofString "ByZero"), []), (101, (Str.ofString "BadNumber"), [19]), (102, (Str.ofString "BadText"), [])]
  bas := "PoolError"
  nm := names
  flds := [(0, [10, 9])]
  free := [(Str.ofString "abs"), (Str.ofString "all"), (Str.ofString "bool"), (Str.ofString "enumerate"), (Str.ofString "int"), (Str.ofString "isinstance"), (Str.ofString "len"), (Str.ofString "list"), (Str.ofString "max"), (Str.ofString "min"), (Str.ofString "range"), (Str.ofString "repr"), (Str.ofString "str"), (Str.ofString "sum"), (Str.ofString "tuple"), (Str.ofString "zip")]
  gcs := []
  mts := [(0, 27), (0, 3), (0, 4), (0, 0), (0, 1), (0, 2), (0, 5), (0, 6)]
  prs := []
  mks := [0]
  glo := [(Str.ofString "is_integer"), (Str.ofString "divisor_of"), (Str.ofString "_law_cell"), (Str.ofString "_law_take"), (Str.ofString "_law_frac"), (Str.ofString "parts"), (Str.ofString "_law_box"), (Str.ofString "checked"), (Str.ofString "integer_of"), (Str.ofString "_law_whole"), (Str.ofString "_law_due"), (Str.ofString "_law_read"), (Str.ofString "law")]
  cms := [(0, 28)]
abbrev ft : FldT := L.ft
/-! ### the defs -/
def i_is_integer : Ss := (.cons (.ret (.and (.isi (.var 0) .int) (.not (.isi (.var 0) .bool)))) .nil)
def b_divisor_of_0 : Ss := (.cons (.par 0 1 (.var 1) (.bin .Mod (.var 0) (.var 1))) .nil)
def i_divisor_of : Ss := (.cons (.whl (.cmp .NotEq (.var 1) (.int 0)) b_divisor_of_0) (.cons (.ret (.b1 .abs (.var 0))) .nil))
def i_Ratio_text : Ss := (.cons (.ret (.ite (.cmp .Eq (.attr (.var 0) 9) (.int 1)) (.b1 .str (.attr (.var 0) 10)) (.fs3 (.attr (.var 0) 10) (Str.ofString "/") (.attr (.var 0) 9)))) .nil)
def i_l_cell : Ss := (.cons (.ret (.ite (.cmp .Lt (.var 1) (.b1 .len (.var 0))) (.sub (.var 0) (.var 1)) (.int 0))) .nil)
def i_l_take : Ss := (.cons (.ifs (.cmp .GtE (.sub (.var 0) (.int 0)) (.bin .Pow (.int 10) (.int 18))) (.cons (.asg (.name 3) (.bin .Mod (.b1 .int (.sub (.var 0) (.int 0))) (.var 1))) (.cons (.seti (.var 0) (.int 0) (.bin .FloorDiv (.sub (.var 0) (.int 0)) (.var 1))) (.cons (.ret (.var 3)) .nil))) .nil) (.cons (.seti (.var 0) (.int 1) (.bin .Add (.sub (.var 0) (.int 1)) (.int 1))) (.cons (.asg (.name 2) (.bin .Mod (.bin .Pow (.b1 .int (.bin .Add (.bin .Add (.bin .Mult (.bin .Add (.sub (.var 0) (.int 0)) (.int 7)) (.int 69069)) (.bin .Mult (.sub (.var 0) (.int 1)) (.int 40692))) (.sub (.var 0) (.int 2)))) (.int 3)) (.int 2147483647))) (.cons (.asg (.name 2) (.bin .Mod (.bin .Pow (.b1 .int (.bin .Add (.var 2) (.bin .Mult (.sub (.var 0) (.int 1)) (.int 17389)))) (.int 3)) (.int 2147483399))) (.cons (.ret (.bin .Mod (.b1 .int (.bin .FloorDiv (.var 2) (.int 64))) (.var 1))) .nil)))))
def b_l_frac_0 : Ss := (.cons (.par 2 3 (.var 3) (.bin .Mod (.var 2) (.var 3))) .nil)
def i_l_frac : Ss := (.cons (.par 2 3 (.b1 .abs (.var 0)) (.b1 .abs (.var 1))) (.cons (.whl (.cmp .Gt (.var 3) (.int 0)) b_l_frac_0) (.cons (.ifs (.cmp .Lt (.var 1) (.int 0)) (.cons (.asg (.name 2) (.bin .Sub (.int 0) (.var 2))) .nil) .nil) (.cons (.ret (.tup (.cons (.bin .FloorDiv (.var 0) (.var 2)) (.cons (.bin .FloorDiv (.var 1) (.var 2)) .nil)))) .nil))))
def i_parts : Ss := (.cons (.ifs (.call 18 (.cons (.var 0) .nil)) (.cons (.ret (.tup (.cons (.var 0) (.cons (.int 1) .nil)))) .nil) .nil) (.cons (.ret (.ite (.isi (.var 0) (.own 0)) (.tup (.cons (.attr (.var 0) 10) (.cons (.attr (.var 0) 9) .nil))) .non)) .nil))
def i_Ratio_init : Ss := (.cons (.ifs (.cmp .Eq (.var 2) (.int 0)) (.cons (.rais0 100) .nil) .nil) (.cons (.asg (.name 3) (.ite (.cmp .Gt (.var 2) (.int 0)) (.call 16 (.cons (.var 1) (.cons (.var 2) .nil))) (.neg (.call 16 (.cons (.var 1) (.cons (.var 2) .nil)))))) (.cons (.setf (.var 0) 10 (.bin .FloorDiv (.var 1) (.var 3))) (.cons (.setf (.var 0) 9 (.bin .FloorDiv (.var 2) (.var 3))) .nil))))
def i_l_box : Ss := (.cons (.ret (.newl (.cons (.b1 .abs (.b1 .int (.call 45 (.cons (.var 0) (.cons (.var 1) .nil))))) (.cons (.int 0) (.cons (.bin .Add (.bin .Mult (.int 40503) (.var 1)) (.int 911)) .nil))))) .nil)
def i_checked : Ss := (.cons (.asg (.name 1) (.call 17 (.cons (.var 0) .nil))) (.cons (.ifs (.cmp .Is (.var 1) .non) (.cons (.rais1 101 (.var 0)) .nil) .nil) (.cons (.ret (.var 1)) .nil)))
def i_Ratio_neg : Ss := (.cons (.ret (.call 14 (.cons (.neg (.attr (.var 0) 10)) (.cons (.attr (.var 0) 9) .nil)))) .nil)
def i_Ratio_eq : Ss := (.cons (.ret (.cmp .Eq (.call 17 (.cons (.var 1) .nil)) (.tup (.cons (.attr (.var 0) 10) (.cons (.attr (.var 0) 9) .nil))))) .nil)
def i_Ratio_add : Ss := (.cons (.asg (.tup (.cons (.name 2) (.cons (.name 3) .nil))) (.call 15 (.cons (.var 1) .nil))) (.cons (.ret (.call 14 (.cons (.bin .Add (.bin .Mult (.attr (.var 0) 10) (.var 3)) (.bin .Mult (.var 2) (.attr (.var 0) 9))) (.cons (.bin .Mult (.attr (.var 0) 9) (.var 3)) .nil)))) .nil))
def i_Ratio_sub : Ss := (.cons (.asg (.tup (.cons (.name 2) (.cons (.name 3) .nil))) (.call 15 (.cons (.var 1) .nil))) (.cons (.ret (.call 14 (.cons (.bin .Sub (.bin .Mult (.attr (.var 0) 10) (.var 3)) (.bin .Mult (.var 2) (.attr (.var 0) 9))) (.cons (.bin .Mult (.attr (.var 0) 9) (.var 3)) .nil)))) .nil))
def i_Ratio_mul : Ss := (.cons (.asg (.tup (.cons (.name 2) (.cons (.name 3) .nil))) (.call 15 (.cons (.var 1) .nil))) (.cons (.ret (.call 14 (.cons (.bin .Mult (.attr (.var 0) 10) (.var 2)) (.cons (.bin .Mult (.attr (.var 0) 9) (.var 3)) .nil)))) .nil))
def i_Ratio_lt : Ss := (.cons (.asg (.tup (.cons (.name 2) (.cons (.name 3) .nil))) (.call 15 (.cons (.var 1) .nil))) (.cons (.ret (.cmp .Lt (.bin .Mult (.attr (.var 0) 10) (.var 3)) (.bin .Mult (.var 2) (.attr (.var 0) 9)))) .nil))
def i_Ratio_le : Ss := (.cons (.asg (.tup (.cons (.name 2) (.cons (.name 3) .nil))) (.call 15 (.cons (.var 1) .nil))) (.cons (.ret (.cmp .LtE (.bin .Mult (.attr (.var 0) 10) (.var 3)) (.bin .Mult (.var 2) (.attr (.var 0) 9)))) .nil))
def i_integer_of : Ss := (.cons (.asg (.name 1) (.ite (.cmp .Eq (.slc (.var 0) false .non true (.int 1)) (.str (Str.ofString "-"))) (.slc (.var 0) true (.int 1) false .non) (.var 0))) (.cons (.ifs (.or (.not (.chain .LtE .LtE (.int 1) (.b1 .len (.var 1)) (.int 4000))) (.not (.b1 .all (.comp false (.cmp .In (.var 2) (.str (Str.ofString "0123456789"))) (.name 2) (.seq (.var 1)) false .non)))) (.cons (.ret .non) .nil) .nil) (.cons (.ret (.ite (.cmp .Eq (.b1 .str (.b1 .int (.var 0))) (.var 0)) (.b1 .int (.var 0)) .non)) .nil)))
def i_l_whole : Ss := (.cons (.asg (.name 1) (.ite (.cmp .Eq (.slc (.var 0) false .non true (.int 1)) (.str (Str.ofString "-"))) (.slc (.var 0) true (.int 1) false .non) (.var 0))) (.cons (.ifs (.or (.cmp .Eq (.var 1) (.str (Str.ofString ""))) (.cmp .NotEq (.comp false (.var 2) (.name 2) (.seq (.var 1)) true (.cmp .NotIn (.var 2) (.str (Str.ofString "0123456789")))) (.lst .nil))) (.cons (.ret .non) .nil) .nil) (.cons (.ret (.ite (.cmp .Eq (.b1 .str (.b1 .int (.var 0))) (.var 0)) (.b1 .int (.var 0)) .non)) .nil)))
def i_Ratio_read : Ss := (.cons (.asg (.name 2) (.comp false (.call 210 (.cons (.var 4) .nil)) (.name 4) (.seq (.spl (.var 1) (.str (Str.ofString "/")))) false .non)) (.cons (.ifs (.or (.cmp .In .non (.var 2)) (.or (.cmp .Gt (.b1 .len (.var 2)) (.int 2)) (.cmp .In (.int 0) (.slc (.var 2) true (.int 1) false .non)))) (.cons (.rais0 102) .nil) .nil) (.cons (.asg (.name 3) (.ite (.cmp .Eq (.b1 .len (.var 2)) (.int 2)) (.lcall 0 0 14 (Str.ofString "Ratio") (.cons (.sub (.var 2) (.int 0)) (.cons (.sub (.var 2) (.int 1)) .nil))) (.lcall 0 0 14 (Str.ofString "Ratio") (.cons (.sub (.var 2) (.int 0)) .nil)))) (.cons (.ifs (.cmp .NotEq (.meth (.var 3) 27 .nil) (.var 1)) (.cons (.rais0 102) .nil) .nil) (.cons (.ret (.var 3)) .nil)))))
def i_l_due : Ss := (.cons (.asg (.name 1) (.comp false (.call 211 (.cons (.var 2) .nil)) (.name 2) (.seq (.spl (.var 0) (.str (Str.ofString "/")))) false .non)) (.cons (.ifs (.or (.cmp .In .non (.var 1)) (.cmp .Gt (.b1 .len (.var 1)) (.int 2))) (.cons (.ret .non) .nil) .nil) (.cons (.ifs (.cmp .Eq (.b1 .len (.var 1)) (.int 1)) (.cons (.ret (.tup (.cons (.sub (.var 1) (.int 0)) (.cons (.int 1) .nil)))) .nil) .nil) (.cons (.ret (.ite (.and (.cmp .Gt (.sub (.var 1) (.int 1)) (.int 1)) (.cmp .Eq (.call 7 (.cons (.sub (.var 1) (.int 0)) (.cons (.sub (.var 1) (.int 1)) .nil))) (.tup (.cons (.sub (.var 1) (.int 0)) (.cons (.sub (.var 1) (.int 1)) .nil))))) (.tup (.cons (.sub (.var 1) (.int 0)) (.cons (.sub (.var 1) (.int 1)) .nil))) .non)) .nil))))
def i_l_read : Ss := (.cons (.tr (.cons (.asg (.name 1) (.cmeth 0 28 (Str.ofString "Ratio") (.cons (.var 0) .nil))) .nil) (.cons [102] [100, 101] none (.ret .non) .nil)) (.cons (.ret (.tup (.cons (.attr (.var 1) 10) (.cons (.attr (.var 1) 9) .nil)))) .nil))
def b_law_0 : Ss := (.cons (.ifs (.cmp .NotEq (.call 208 (.cons (.var 11) .nil)) (.call 73 (.cons (.var 11) .nil))) (.cons (.ret (.bl false)) .nil) .nil) .nil)
def b_law_1 : Ss := (.cons (.asg (.name 7) (.icall 1 (.cons (.var 2) (.cons (.bin .Add (.b1 .len (.var 5)) (.int 1)) .nil)))) (.cons (.asg (.name 8) (.sub (.lst (.cons (.str (Str.ofString "0")) (.cons (.str (Str.ofString "1")) (.cons (.str (Str.ofString "-")) (.cons (.str (Str.ofString "/")) (.cons (.str (Str.ofString " ")) (.cons (.str (Str.ofString "+")) (.cons (.str (Str.ofString ".")) (.cons (.str (Str.ofString "/1")) (.cons (.str (Str.ofString "/0")) (.cons (.str (Str.ofString "00")) (.cons (.str (Str.ofString "a")) (.cons (.str (Str.ofString "")) .nil))))))))))))) (.icall 1 (.cons (.var 2) (.cons (.int 12) .nil))))) (.cons (.asg (.name 9) (.bin .Add (.bin .Add (.slc (.var 5) false .non true (.var 7)) (.var 8)) (.slc (.var 5) true (.bin .Add (.var 7) (.icall 1 (.cons (.var 2) (.cons (.int 2) .nil)))) false .non))) (.cons (.asg (.name 10) (.bin .Add (.bin .Add (.b1 .str (.bin .Mult (.sub (.var 4) (.int 0)) (.int 2))) (.str (Str.ofString "/"))) (.b1 .str (.bin .Mult (.sub (.var 4) (.int 1)) (.int 2))))) (.cons (.for_ (.name 11) (.seq (.lst (.cons (.var 9) (.cons (.var 10) (.cons (.bin .Add (.bin .Add (.var 5) (.str (Str.ofString "/"))) (.var 8)) (.cons (.bin .Add (.var 8) (.var 5)) .nil)))))) b_law_0) .nil)))))
def b_law_2 : Ss := (.cons (.asg (.name 2) (.icall 13 (.cons (.var 0) (.cons (.var 1) .nil)))) (.cons (.asg (.name 3) (.sub (.lst (.cons (.int 9) (.cons (.int 60) (.cons (.bin .Sub (.bin .Pow (.int 10) (.int 9)) (.int 1)) .nil)))) (.icall 1 (.cons (.var 2) (.cons (.int 3) .nil))))) (.cons (.asg (.name 4) (.call 7 (.cons (.bin .Sub (.icall 1 (.cons (.var 2) (.cons (.bin .Add (.bin .Mult (.int 2) (.var 3)) (.int 1)) .nil))) (.var 3)) (.cons (.sub (.lst (.cons (.int 1) (.cons (.bin .Add (.int 1) (.icall 1 (.cons (.var 2) (.cons (.var 3) .nil)))) .nil))) (.icall 1 (.cons (.var 2) (.cons (.int 2) .nil)))) .nil)))) (.cons (.asg (.name 5) (.ite (.cmp .Eq (.sub (.var 4) (.int 1)) (.int 1)) (.b1 .str (.sub (.var 4) (.int 0))) (.bin .Add (.bin .Add (.b1 .str (.sub (.var 4) (.int 0))) (.str (Str.ofString "/"))) (.b1 .str (.sub (.var 4) (.int 1)))))) (.cons (.ifs (.or (.cmp .NotEq (.meth (.call 14 (.cons (.sub (.var 4) (.int 0)) (.cons (.sub (.var 4) (.int 1)) .nil))) 27 .nil) (.var 5)) (.or (.cmp .NotEq (.call 208 (.cons (.var 5) .nil)) (.var 4)) (.cmp .NotEq (.call 73 (.cons (.var 5) .nil)) (.var 4)))) (.cons (.ret (.bl false)) .nil) .nil) (.cons (.ifs (.not (.cmp .Eq (.kcmeth 209 0 (Str.ofString "Ratio") (.cons (.var 5) .nil)) (.call 14 (.cons (.sub (.var 4) (.int 0)) (.cons (.sub (.var 4) (.int 1)) .nil))))) (.cons (.ret (.bl false)) .nil) .nil) (.cons (.for_ (.name 6) (.rng1 (.int 6)) b_law_1) .nil)))))))
def i_law : Ss := (.cons (.for_ (.name 1) (.rng1 (.b2 .max (.int 1) (.b2 .min (.int 3) (.b1 .len (.var 0))))) b_law_2) (.cons (.ret (.and (.cmp .Is (.call 208 (.cons (.str (Str.ofString "")) .nil)) .non) (.and (.cmp .Is (.call 208 (.cons (.str (Str.ofString "-0")) .nil)) .non) (.cmp .Is (.call 208 (.cons (.str (Str.ofString "0/3")) .nil)) .non)))) .nil))
/-! ### the tables -/
def fs0 : List (Str × Nat × PFn) := []
def is0 : List (Str × Nat × IFn) := []
def ms0 : List MEnt := []
def ps0 : List MEnt := []
def ks0 : List KEnt := []
def js0 : List IEnt := []
def cs0 : List IEnt := []
def ds0 : List CEnt := []
def g0 : Tab := tabOf fs0 is0 ms0 ps0 L.G0 ks0 js0 cs0 ds0
def t0 : Gs := namesOf L.T fs0 is0 ks0 cs0 ds0
def f_is_integer : PFn := fnP ft g0 1 1 i_is_integer
def f_divisor_of : PFn := fnP ft g0 2 2 i_divisor_of
def f_Ratio_text : PFn := fnP ft g0 1 1 i_Ratio_text
def f_l_cell : PFn := fnP ft g0 2 2 i_l_cell
def f_l_take : IFn := fnI ft g0 4 2 i_l_take
def f_l_frac : PFn := fnP ft g0 4 2 i_l_frac
def fs1 : List (Str × Nat × PFn) := [((Str.ofString "is_integer"), 18, f_is_integer), ((Str.ofString "divisor_of"), 16, f_divisor_of), ((Str.ofString "_law_cell"), 45, f_l_cell), ((Str.ofString "_law_frac"), 7, f_l_frac)]
def is1 : List (Str × Nat × IFn) := [((Str.ofString "_law_take"), 1, f_l_take)]
def ms1 : List MEnt := [⟨0, 27, f_Ratio_text⟩]
def ps1 : List MEnt := []
def ks1 : List KEnt := []
def js1 : List IEnt := []
def cs1 : List IEnt := []
def ds1 : List CEnt := []
def g1 : Tab := tabOf fs1 is1 ms1 ps1 L.G0 ks1 js1 cs1 ds1
def t1 : Gs := namesOf L.T fs1 is1 ks1 cs1 ds1
def f_parts : PFn := fnP ft g1 1 1 i_parts
def f_Ratio_init : PFn := eitherP (mkOf ft 0 3 [] (runI g1 ft 4 i_Ratio_init)) (mkOf ft 0 3 [.int 1] (runI g1 ft 4 i_Ratio_init))
def f_l_box : IFn := fnI ft g1 2 2 i_l_box
def fs2 : List (Str × Nat × PFn) := [((Str.ofString "is_integer"), 18, f_is_integer), ((Str.ofString "divisor_of"), 16, f_divisor_of), ((Str.ofString "_law_cell"), 45, f_l_cell), ((Str.ofString "_law_frac"), 7, f_l_frac), ((Str.ofString "parts"), 17, f_parts), ((Str.ofString "Ratio"), 14, f_Ratio_init)]
def is2 : List (Str × Nat × IFn) := [((Str.ofString "_law_take"), 1, f_l_take), ((Str.ofString "_law_box"), 13, f_l_box)]
def ms2 : List MEnt := [⟨0, 27, f_Ratio_text⟩]
def ps2 : List MEnt := []
def ks2 : List KEnt := []
def js2 : List IEnt := []
def cs2 : List IEnt := []
def ds2 : List CEnt := []
def g2 : Tab := tabOf fs2 is2 ms2 ps2 L.G0 ks2 js2 cs2 ds2
def t2 : Gs := namesOf L.T fs2 is2 ks2 cs2 ds2
def f_checked : PFn := fnP ft g2 2 1 i_checked
def f_Ratio_neg : PFn := fnP ft g2 1 1 i_Ratio_neg
def f_Ratio_eq : PFn := fnP ft g2 2 2 i_Ratio_eq
def fs3 : List (Str × Nat × PFn) := [((Str.ofString "is_integer"), 18, f_is_integer), ((Str.ofString "divisor_of"), 16, f_divisor_of), ((Str.ofString "_law_cell"), 45, f_l_cell), ((Str.ofString "_law_frac"), 7, f_l_frac), ((Str.ofString "parts"), 17, f_parts), ((Str.ofString "Ratio"), 14, f_Ratio_init), ((Str.ofString "checked"), 15, f_checked)]
def is3 : List (Str × Nat × IFn) := [((Str.ofString "_law_take"), 1, f_l_take), ((Str.ofString "_law_box"), 13, f_l_box)]
def ms3 : List MEnt := [⟨0, 27, f_Ratio_text⟩, ⟨0, 3, f_Ratio_neg⟩, ⟨0, 4, f_Ratio_eq⟩]
def ps3 : List MEnt := []
def ks3 : List KEnt := []
def js3 : List IEnt := []
def cs3 : List IEnt := []
def ds3 : List CEnt := []
def g3 : Tab := tabOf fs3 is3 ms3 ps3 L.G0 ks3 js3 cs3 ds3
def t3 : Gs := namesOf L.T fs3 is3 ks3 cs3 ds3
def f_Ratio_add : PFn := fnP ft g3 4 2 i_Ratio_add
def f_Ratio_sub : PFn := fnP ft g3 4 2 i_Ratio_sub
def f_Ratio_mul : PFn := fnP ft g3 4 2 i_Ratio_mul
def f_Ratio_lt : PFn := fnP ft g3 4 2 i_Ratio_lt
def f_Ratio_le : PFn := fnP ft g3 4 2 i_Ratio_le
def fs4 : List (Str × Nat × PFn) := [((Str.ofString "is_integer"), 18, f_is_integer), ((Str.ofString "divisor_of"), 16, f_divisor_of), ((Str.ofString "_law_cell"), 45, f_l_cell), ((Str.ofString "_law_frac"), 7, f_l_frac), ((Str.ofString "parts"), 17, f_parts), ((Str.ofString "Ratio"), 14, f_Ratio_init), ((Str.ofString "checked"), 15, f_checked)]
def is4 : List (Str × Nat × IFn) := [((Str.ofString "_law_take"), 1, f_l_take), ((Str.ofString "_law_box"), 13, f_l_box)]
def ms4 : List MEnt := [⟨0, 27, f_Ratio_text⟩, ⟨0, 3, f_Ratio_neg⟩, ⟨0, 4, f_Ratio_eq⟩, ⟨0, 0, f_Ratio_add⟩, ⟨0, 1, f_Ratio_sub⟩, ⟨0, 2, f_Ratio_mul⟩, ⟨0, 5, f_Ratio_lt⟩, ⟨0, 6, f_Ratio_le⟩]
def ps4 : List MEnt := []
def ks4 : List KEnt := []
def js4 : List IEnt := []
def cs4 : List IEnt := []
def ds4 : List CEnt := []
def g4 : Tab := tabOf fs4 is4 ms4 ps4 L.G0 ks4 js4 cs4 ds4
def t4 : Gs := namesOf L.T fs4 is4 ks4 cs4 ds4
def f_integer_of : PFn := fnP ft g4 3 1 i_integer_of
def f_l_whole : PFn := fnP ft g4 3 1 i_l_whole
def fs5 : List (Str × Nat × PFn) := [((Str.ofString "is_integer"), 18, f_is_integer), ((Str.ofString "divisor_of"), 16, f_divisor_of), ((Str.ofString "_law_cell"), 45, f_l_cell), ((Str.ofString "_law_frac"), 7, f_l_frac), ((Str.ofString "parts"), 17, f_parts), ((Str.ofString "Ratio"), 14, f_Ratio_init), ((Str.ofString "checked"), 15, f_checked), ((Str.ofString "integer_of"), 210, f_integer_of), ((Str.ofString "_law_whole"), 211, f_l_whole)]
def is5 : List (Str × Nat × IFn) := [((Str.ofString "_law_take"), 1, f_l_take), ((Str.ofString "_law_box"), 13, f_l_box)]
def ms5 : List MEnt := [⟨0, 27, f_Ratio_text⟩, ⟨0, 3, f_Ratio_neg⟩, ⟨0, 4, f_Ratio_eq⟩, ⟨0, 0, f_Ratio_add⟩, ⟨0, 1, f_Ratio_sub⟩, ⟨0, 2, f_Ratio_mul⟩, ⟨0, 5, f_Ratio_lt⟩, ⟨0, 6, f_Ratio_le⟩]
def ps5 : List MEnt := []
def ks5 : List KEnt := []
def js5 : List IEnt := []
def cs5 : List IEnt := []
def ds5 : List CEnt := []
def g5 : Tab := tabOf fs5 is5 ms5 ps5 L.G0 ks5 js5 cs5 ds5
def t5 : Gs := namesOf L.T fs5 is5 ks5 cs5 ds5
def f_Ratio_read : IFn := fnI ft g5 5 2 i_Ratio_read
def f_l_due : PFn := fnP ft g5 3 1 i_l_due
def fs6 : List (Str × Nat × PFn) := [((Str.ofString "is_integer"), 18, f_is_integer), ((Str.ofString "divisor_of"), 16, f_divisor_of), ((Str.ofString "_law_cell"), 45, f_l_cell), ((Str.ofString "_law_frac"), 7, f_l_frac), ((Str.ofString "parts"), 17, f_parts), ((Str.ofString "Ratio"), 14, f_Ratio_init), ((Str.ofString "checked"), 15, f_checked), ((Str.ofString "integer_of"), 210, f_integer_of), ((Str.ofString "_law_whole"), 211, f_l_whole), ((Str.ofString "_law_due"), 73, f_l_due)]
def is6 : List (Str × Nat × IFn) := [((Str.ofString "_law_take"), 1, f_l_take), ((Str.ofString "_law_box"), 13, f_l_box)]
def ms6 : List MEnt := [⟨0, 27, f_Ratio_text⟩, ⟨0, 3, f_Ratio_neg⟩, ⟨0, 4, f_Ratio_eq⟩, ⟨0, 0, f_Ratio_add⟩, ⟨0, 1, f_Ratio_sub⟩, ⟨0, 2, f_Ratio_mul⟩, ⟨0, 5, f_Ratio_lt⟩, ⟨0, 6, f_Ratio_le⟩]
def ps6 : List MEnt := []
def ks6 : List KEnt := []
def js6 : List IEnt := []
def cs6 : List IEnt := [⟨0, 28, f_Ratio_read, []⟩]
def ds6 : List CEnt := [⟨209, 0, 28, [(Str.ofString "text")], kiOf 1 1 2 [0, 1] (runI g5 ft 5 i_Ratio_read)⟩]
def g6 : Tab := tabOf fs6 is6 ms6 ps6 L.G0 ks6 js6 cs6 ds6
def t6 : Gs := namesOf L.T fs6 is6 ks6 cs6 ds6
def f_l_read : PFn := fnP ft g6 2 1 i_l_read
def fs7 : List (Str × Nat × PFn) := [((Str.ofString "is_integer"), 18, f_is_integer), ((Str.ofString "divisor_of"), 16, f_divisor_of), ((Str.ofString "_law_cell"), 45, f_l_cell), ((Str.ofString "_law_frac"), 7, f_l_frac), ((Str.ofString "parts"), 17, f_parts), ((Str.ofString "Ratio"), 14, f_Ratio_init), ((Str.ofString "checked"), 15, f_checked), ((Str.ofString "integer_of"), 210, f_integer_of), ((Str.ofString "_law_whole"), 211, f_l_whole), ((Str.ofString "_law_due"), 73, f_l_due), ((Str.ofString "_law_read"), 208, f_l_read)]
def is7 : List (Str × Nat × IFn) := [((Str.ofString "_law_take"), 1, f_l_take), ((Str.ofString "_law_box"), 13, f_l_box)]
def ms7 : List MEnt := [⟨0, 27, f_Ratio_text⟩, ⟨0, 3, f_Ratio_neg⟩, ⟨0, 4, f_Ratio_eq⟩, ⟨0, 0, f_Ratio_add⟩, ⟨0, 1, f_Ratio_sub⟩, ⟨0, 2, f_Ratio_mul⟩, ⟨0, 5, f_Ratio_lt⟩, ⟨0, 6, f_Ratio_le⟩]
def ps7 : List MEnt := []
def ks7 : List KEnt := []
def js7 : List IEnt := []
def cs7 : List IEnt := [⟨0, 28, f_Ratio_read, []⟩]
def ds7 : List CEnt := [⟨209, 0, 28, [(Str.ofString "text")], kiOf 1 1 2 [0, 1] (runI g5 ft 5 i_Ratio_read)⟩]
def g7 : Tab := tabOf fs7 is7 ms7 ps7 L.G0 ks7 js7 cs7 ds7
def t7 : Gs := namesOf L.T fs7 is7 ks7 cs7 ds7
def f_law : IFn := fnI ft g7 12 1 i_law
/-- the law as a function of the script -/
def lawR (ns : List Int) : RE D := runI g7 ft 12 i_law [.p (.scr ns)] []
/-! ### look-ups -/
@[simp] theorem ft_0 : L.ft 0 = [10, 9] := rfl
@[simp] theorem lf_1_45 : g1.fns.lookup 45 = some f_l_cell := rfl
@[simp] theorem lf_1_16 : g1.fns.lookup 16 = some f_divisor_of := rfl
@[simp] theorem lf_1_18 : g1.fns.lookup 18 = some f_is_integer := rfl
@[simp] theorem lf_2_14 : g2.fns.lookup 14 = some f_Ratio_init := rfl
@[simp] theorem lf_2_17 : g2.fns.lookup 17 = some f_parts := rfl
@[simp] theorem lf_3_14 : g3.fns.lookup 14 = some f_Ratio_init := rfl
@[simp] theorem lf_3_15 : g3.fns.lookup 15 = some f_checked := rfl
@[simp] theorem lm_4_0_0 : g4.meth 0 0 = some f_Ratio_add := rfl
@[simp] theorem lm_4_0_4 : g4.meth 0 4 = some f_Ratio_eq := rfl
@[simp] theorem lm_4_0_6 : g4.meth 0 6 = some f_Ratio_le := rfl
@[simp] theorem lm_4_0_5 : g4.meth 0 5 = some f_Ratio_lt := rfl
@[simp] theorem lm_4_0_2 : g4.meth 0 2 = some f_Ratio_mul := rfl
@[simp] theorem lm_4_0_3 : g4.meth 0 3 = some f_Ratio_neg := rfl
@[simp] theorem lm_4_0_1 : g4.meth 0 1 = some f_Ratio_sub := rfl
@[simp] theorem lm_5_0_0 : g5.meth 0 0 = some f_Ratio_add := rfl
@[simp] theorem lm_5_0_4 : g5.meth 0 4 = some f_Ratio_eq := rfl
@[simp] theorem lf_5_14 : g5.fns.lookup 14 = some f_Ratio_init := rfl
@[simp] theorem lm_5_0_6 : g5.meth 0 6 = some f_Ratio_le := rfl
@[simp] theorem lm_5_0_5 : g5.meth 0 5 = some f_Ratio_lt := rfl
@[simp] theorem lm_5_0_2 : g5.meth 0 2 = some f_Ratio_mul := rfl
@[simp] theorem lm_5_0_3 : g5.meth 0 3 = some f_Ratio_neg := rfl
@[simp] theorem lm_5_0_1 : g5.meth 0 1 = some f_Ratio_sub := rfl
@[simp] theorem lm_5_0_27 : g5.meth 0 27 = some f_Ratio_text := rfl
@[simp] theorem lf_5_7 : g5.fns.lookup 7 = some f_l_frac := rfl
@[simp] theorem lf_5_211 : g5.fns.lookup 211 = some f_l_whole := rfl
@[simp] theorem lf_5_210 : g5.fns.lookup 210 = some f_integer_of := rfl
@[simp] theorem lm_6_0_0 : g6.meth 0 0 = some f_Ratio_add := rfl
@[simp] theorem lm_6_0_4 : g6.meth 0 4 = some f_Ratio_eq := rfl
@[simp] theorem lm_6_0_6 : g6.meth 0 6 = some f_Ratio_le := rfl
@[simp] theorem lm_6_0_5 : g6.meth 0 5 = some f_Ratio_lt := rfl
@[simp] theorem lm_6_0_2 : g6.meth 0 2 = some f_Ratio_mul := rfl
@[simp] theorem lm_6_0_3 : g6.meth 0 3 = some f_Ratio_neg := rfl
@[simp] theorem lm_6_0_1 : g6.meth 0 1 = some f_Ratio_sub := rfl
@[simp] theorem lx_6_0_28 : g6.cmeth 0 28 = some f_Ratio_read := rfl
@[simp] theorem ly_6_209 : g6.kcms.lookup 209 = some (kiOf 1 1 2 [0, 1] (runI g5 ft 5 i_Ratio_read)) := rfl
@[simp] theorem lm_7_0_0 : g7.meth 0 0 = some f_Ratio_add := rfl
@[simp] theorem lm_7_0_4 : g7.meth 0 4 = some f_Ratio_eq := rfl
@[simp] theorem lf_7_14 : g7.fns.lookup 14 = some f_Ratio_init := rfl
@[simp] theorem lm_7_0_6 : g7.meth 0 6 = some f_Ratio_le := rfl
@[simp] theorem lm_7_0_5 : g7.meth 0 5 = some f_Ratio_lt := rfl
@[simp] theorem lm_7_0_2 : g7.meth 0 2 = some f_Ratio_mul := rfl
@[simp] theorem lm_7_0_3 : g7.meth 0 3 = some f_Ratio_neg := rfl
@[simp] theorem lm_7_0_1 : g7.meth 0 1 = some f_Ratio_sub := rfl
@[simp] theorem lx_7_0_28 : g7.cmeth 0 28 = some f_Ratio_read := rfl
@[simp] theorem ly_7_209 : g7.kcms.lookup 209 = some (kiOf 1 1 2 [0, 1] (runI g5 ft 5 i_Ratio_read)) := rfl
@[simp] theorem lm_7_0_27 : g7.meth 0 27 = some f_Ratio_text := rfl
@[simp] theorem lf_7_13 : g7.ifns.lookup 13 = some f_l_box := rfl
@[simp] theorem lf_7_73 : g7.fns.lookup 73 = some f_l_due := rfl
@[simp] theorem lf_7_7 : g7.fns.lookup 7 = some f_l_frac := rfl
@[simp] theorem lf_7_208 : g7.fns.lookup 208 = some f_l_read := rfl
@[simp] theorem lf_7_1 : g7.ifns.lookup 1 = some f_l_take := rfl
end RP
end

section
set_option Elab.async false
set_option linter.all false
set_option maxRecDepth 100000
set_option maxHeartbeats 4000000
namespace RP
open PySem L2
def n_is_integer : List Str := [(Str.ofString "value")]
def p_is_integer : List Str := [(Str.ofString "value")]
theorem c_is_integer : (fnScB n_is_integer p_is_integer (defScope (top 7)) && chkSs t0 ⟨n_is_integer, defScope (top 7), fun _ => true⟩ i_is_integer (defBody (top 7)) && plainPar (defArgs (top 7)) p_is_integer) = true := by decide +kernel
def n_divisor_of : List Str := [(Str.ofString "one"), (Str.ofString "other")]
def p_divisor_of : List Str := [(Str.ofString "one"), (Str.ofString "other")]
theorem c_divisor_of : (fnScB n_divisor_of p_divisor_of (defScope (top 8)) && chkSs t0 ⟨n_divisor_of, defScope (top 8), fun _ => true⟩ i_divisor_of (defBody (top 8)) && plainPar (defArgs (top 8)) p_divisor_of) = true := by decide +kernel
def n_Ratio_text : List Str := [(Str.ofString "self")]
def p_Ratio_text : List Str := [(Str.ofString "self")]
theorem c_Ratio_text : (fnScB n_Ratio_text p_Ratio_text (defScope (inClass (top 11) 10)) && chkSs t0 ⟨n_Ratio_text, defScope (inClass (top 11) 10), fun _ => true⟩ i_Ratio_text (defBody (inClass (top 11) 10)) && plainPar (defArgs (inClass (top 11) 10)) p_Ratio_text) = true := by decide +kernel
def n_l_cell : List Str := [(Str.ofString "_law_script"), (Str.ofString "_law_k")]
def p_l_cell : List Str := [(Str.ofString "_law_script"), (Str.ofString "_law_k")]
theorem c_l_cell : (fnScB n_l_cell p_l_cell (defScope (top 14)) && chkSs t0 ⟨n_l_cell, defScope (top 14), fun _ => true⟩ i_l_cell (defBody (top 14)) && plainPar (defArgs (top 14)) p_l_cell) = true := by decide +kernel
def n_l_take : List Str := [(Str.ofString "_law_box_here"), (Str.ofString "_law_many"), (Str.ofString "_law_mixed"), (Str.ofString "_law_digit")]
def p_l_take : List Str := [(Str.ofString "_law_box_here"), (Str.ofString "_law_many")]
theorem c_l_take : (fnScB n_l_take p_l_take (defScope (top 16)) && chkSs t0 ⟨n_l_take, defScope (top 16), fun _ => true⟩ i_l_take (defBody (top 16)) && plainPar (defArgs (top 16)) p_l_take) = true := by decide +kernel
def n_l_frac : List Str := [(Str.ofString "_law_up"), (Str.ofString "_law_down"), (Str.ofString "_law_one"), (Str.ofString "_law_other")]
def p_l_frac : List Str := [(Str.ofString "_law_up"), (Str.ofString "_law_down")]
theorem c_l_frac : (fnScB n_l_frac p_l_frac (defScope (top 17)) && chkSs t0 ⟨n_l_frac, defScope (top 17), fun _ => true⟩ i_l_frac (defBody (top 17)) && plainPar (defArgs (top 17)) p_l_frac) = true := by decide +kernel
def n_parts : List Str := [(Str.ofString "given")]
def p_parts : List Str := [(Str.ofString "given")]
theorem c_parts : (fnScB n_parts p_parts (defScope (top 9)) && chkSs t1 ⟨n_parts, defScope (top 9), fun _ => true⟩ i_parts (defBody (top 9)) && plainPar (defArgs (top 9)) p_parts) = true := by decide +kernel
def n_Ratio_init : List Str := [(Str.ofString "self"), (Str.ofString "top"), (Str.ofString "bottom"), (Str.ofString "divisor")]
def p_Ratio_init : List Str := [(Str.ofString "self"), (Str.ofString "top"), (Str.ofString "bottom")]
theorem c_Ratio_init : (fnScB n_Ratio_init p_Ratio_init (defScope (inClass (top 11) 0)) && chkSs t1 ⟨n_Ratio_init, defScope (inClass (top 11) 0), fun _ => true⟩ i_Ratio_init (defBody (inClass (top 11) 0))) = true := by decide +kernel
def n_l_box : List Str := [(Str.ofString "_law_script"), (Str.ofString "_law_k")]
def p_l_box : List Str := [(Str.ofString "_law_script"), (Str.ofString "_law_k")]
theorem c_l_box : (fnScB n_l_box p_l_box (defScope (top 15)) && chkSs t1 ⟨n_l_box, defScope (top 15), fun _ => true⟩ i_l_box (defBody (top 15)) && plainPar (defArgs (top 15)) p_l_box) = true := by decide +kernel
def n_checked : List Str := [(Str.ofString "given"), (Str.ofString "found")]
def p_checked : List Str := [(Str.ofString "given")]
theorem c_checked : (fnScB n_checked p_checked (defScope (top 10)) && chkSs t2 ⟨n_checked, defScope (top 10), fun _ => true⟩ i_checked (defBody (top 10)) && plainPar (defArgs (top 10)) p_checked) = true := by decide +kernel
def n_Ratio_neg : List Str := [(Str.ofString "self")]
def p_Ratio_neg : List Str := [(Str.ofString "self")]
theorem c_Ratio_neg : (fnScB n_Ratio_neg p_Ratio_neg (defScope (inClass (top 11) 5)) && chkSs t2 ⟨n_Ratio_neg, defScope (inClass (top 11) 5), fun _ => true⟩ i_Ratio_neg (defBody (inClass (top 11) 5)) && plainPar (defArgs (inClass (top 11) 5)) p_Ratio_neg) = true := by decide +kernel
def n_Ratio_eq : List Str := [(Str.ofString "self"), (Str.ofString "other")]
def p_Ratio_eq : List Str := [(Str.ofString "self"), (Str.ofString "other")]
theorem c_Ratio_eq : (fnScB n_Ratio_eq p_Ratio_eq (defScope (inClass (top 11) 6)) && chkSs t2 ⟨n_Ratio_eq, defScope (inClass (top 11) 6), fun _ => true⟩ i_Ratio_eq (defBody (inClass (top 11) 6)) && plainPar (defArgs (inClass (top 11) 6)) p_Ratio_eq) = true := by decide +kernel
def n_Ratio_add : List Str := [(Str.ofString "self"), (Str.ofString "other"), (Str.ofString "top"), (Str.ofString "bottom")]
def p_Ratio_add : List Str := [(Str.ofString "self"), (Str.ofString "other")]
theorem c_Ratio_add : (fnScB n_Ratio_add p_Ratio_add (defScope (inClass (top 11) 2)) && chkSs t3 ⟨n_Ratio_add, defScope (inClass (top 11) 2), fun _ => true⟩ i_Ratio_add (defBody (inClass (top 11) 2)) && plainPar (defArgs (inClass (top 11) 2)) p_Ratio_add) = true := by decide +kernel
def n_Ratio_sub : List Str := [(Str.ofString "self"), (Str.ofString "other"), (Str.ofString "top"), (Str.ofString "bottom")]
def p_Ratio_sub : List Str := [(Str.ofString "self"), (Str.ofString "other")]
theorem c_Ratio_sub : (fnScB n_Ratio_sub p_Ratio_sub (defScope (inClass (top 11) 3)) && chkSs t3 ⟨n_Ratio_sub, defScope (inClass (top 11) 3), fun _ => true⟩ i_Ratio_sub (defBody (inClass (top 11) 3)) && plainPar (defArgs (inClass (top 11) 3)) p_Ratio_sub) = true := by decide +kernel
def n_Ratio_mul : List Str := [(Str.ofString "self"), (Str.ofString "other"), (Str.ofString "top"), (Str.ofString "bottom")]
def p_Ratio_mul : List Str := [(Str.ofString "self"), (Str.ofString "other")]
theorem c_Ratio_mul : (fnScB n_Ratio_mul p_Ratio_mul (defScope (inClass (top 11) 4)) && chkSs t3 ⟨n_Ratio_mul, defScope (inClass (top 11) 4), fun _ => true⟩ i_Ratio_mul (defBody (inClass (top 11) 4)) && plainPar (defArgs (inClass (top 11) 4)) p_Ratio_mul) = true := by decide +kernel
def n_Ratio_lt : List Str := [(Str.ofString "self"), (Str.ofString "other"), (Str.ofString "top"), (Str.ofString "bottom")]
def p_Ratio_lt : List Str := [(Str.ofString "self"), (Str.ofString "other")]
theorem c_Ratio_lt : (fnScB n_Ratio_lt p_Ratio_lt (defScope (inClass (top 11) 7)) && chkSs t3 ⟨n_Ratio_lt, defScope (inClass (top 11) 7), fun _ => true⟩ i_Ratio_lt (defBody (inClass (top 11) 7)) && plainPar (defArgs (inClass (top 11) 7)) p_Ratio_lt) = true := by decide +kernel
def n_Ratio_le : List Str := [(Str.ofString "self"), (Str.ofString "other"), (Str.ofString "top"), (Str.ofString "bottom")]
def p_Ratio_le : List Str := [(Str.ofString "self"), (Str.ofString "other")]
theorem c_Ratio_le : (fnScB n_Ratio_le p_Ratio_le (defScope (inClass (top 11) 8)) && chkSs t3 ⟨n_Ratio_le, defScope (inClass (top 11) 8), fun _ => true⟩ i_Ratio_le (defBody (inClass (top 11) 8)) && plainPar (defArgs (inClass (top 11) 8)) p_Ratio_le) = true := by decide +kernel
def n_integer_of : List Str := [(Str.ofString "word"), (Str.ofString "digits"), (Str.ofString "char")]
def p_integer_of : List Str := [(Str.ofString "word")]
theorem c_integer_of : (fnScB n_integer_of p_integer_of (defScope (top 12)) && chkSs t4 ⟨n_integer_of, defScope (top 12), fun _ => true⟩ i_integer_of (defBody (top 12)) && plainPar (defArgs (top 12)) p_integer_of) = true := by decide +kernel
def n_l_whole : List Str := [(Str.ofString "_law_word"), (Str.ofString "_law_digits"), (Str.ofString "_law_char")]
def p_l_whole : List Str := [(Str.ofString "_law_word")]
theorem c_l_whole : (fnScB n_l_whole p_l_whole (defScope (top 22)) && chkSs t4 ⟨n_l_whole, defScope (top 22), fun _ => true⟩ i_l_whole (defBody (top 22)) && plainPar (defArgs (top 22)) p_l_whole) = true := by decide +kernel
def n_Ratio_read : List Str := [(Str.ofString "cls"), (Str.ofString "text"), (Str.ofString "words"), (Str.ofString "ratio"), (Str.ofString "word")]
def p_Ratio_read : List Str := [(Str.ofString "cls"), (Str.ofString "text")]
theorem c_Ratio_read : (fnScB n_Ratio_read p_Ratio_read (defScope (inClass (top 11) 1)) && chkSs t5 ⟨n_Ratio_read, defScope (inClass (top 11) 1), fun _ => true⟩ i_Ratio_read (defBody (inClass (top 11) 1)) && plainPar (defArgs (inClass (top 11) 1)) p_Ratio_read) = true := by decide +kernel
def n_l_due : List Str := [(Str.ofString "_law_phrase"), (Str.ofString "_law_words"), (Str.ofString "_law_word")]
def p_l_due : List Str := [(Str.ofString "_law_phrase")]
theorem c_l_due : (fnScB n_l_due p_l_due (defScope (top 23)) && chkSs t5 ⟨n_l_due, defScope (top 23), fun _ => true⟩ i_l_due (defBody (top 23)) && plainPar (defArgs (top 23)) p_l_due) = true := by decide +kernel
def n_l_read : List Str := [(Str.ofString "_law_phrase"), (Str.ofString "_law_amount")]
def p_l_read : List Str := [(Str.ofString "_law_phrase")]
theorem c_l_read : (fnScB n_l_read p_l_read (defScope (top 24)) && chkSs t6 ⟨n_l_read, defScope (top 24), fun _ => true⟩ i_l_read (defBody (top 24)) && plainPar (defArgs (top 24)) p_l_read) = true := by decide +kernel
def n_law : List Str := [(Str.ofString "_law_script"), (Str.ofString "_law_k"), (Str.ofString "_law_box_here"), (Str.ofString "_law_wide"), (Str.ofString "_law_x"), (Str.ofString "_law_phrase"), (Str.ofString "_law_turn"), (Str.ofString "_law_at"), (Str.ofString "_law_part"), (Str.ofString "_law_near"), (Str.ofString "_law_factor"), (Str.ofString "_law_other")]
def p_law : List Str := [(Str.ofString "_law_script")]
theorem c_law : (fnScB n_law p_law (defScope (top 25)) && chkSs t7 ⟨n_law, defScope (top 25), fun _ => true⟩ i_law (defBody (top 25)) && plainPar (defArgs (top 25)) p_law) = true := by decide +kernel
def d_is_integer : DD := ⟨gA (Str.ofString "is_integer"), (Str.ofString "is_integer"), (Str.ofString "is_integer"), defArgs (top 7), defBody (top 7), defScope (top 7), []⟩
def d_divisor_of : DD := ⟨gA (Str.ofString "divisor_of"), (Str.ofString "divisor_of"), (Str.ofString "divisor_of"), defArgs (top 8), defBody (top 8), defScope (top 8), []⟩
def d_Ratio_text : DD := ⟨mA (Str.ofString "Ratio") (Str.ofString "text"), (Str.ofString "text"), (Str.ofString "Ratio.text"), defArgs (inClass (top 11) 10), defBody (inClass (top 11) 10), defScope (inClass (top 11) 10), []⟩
def d_l_cell : DD := ⟨gA (Str.ofString "_law_cell"), (Str.ofString "_law_cell"), (Str.ofString "_law_cell"), defArgs (top 14), defBody (top 14), defScope (top 14), []⟩
def d_l_take : DD := ⟨gA (Str.ofString "_law_take"), (Str.ofString "_law_take"), (Str.ofString "_law_take"), defArgs (top 16), defBody (top 16), defScope (top 16), []⟩
def d_l_frac : DD := ⟨gA (Str.ofString "_law_frac"), (Str.ofString "_law_frac"), (Str.ofString "_law_frac"), defArgs (top 17), defBody (top 17), defScope (top 17), []⟩
def d_parts : DD := ⟨gA (Str.ofString "parts"), (Str.ofString "parts"), (Str.ofString "parts"), defArgs (top 9), defBody (top 9), defScope (top 9), []⟩
def d_Ratio_init : DD := ⟨mA (Str.ofString "Ratio") (Str.ofString "__init__"), (Str.ofString "__init__"), (Str.ofString "Ratio.__init__"), defArgs (inClass (top 11) 0), defBody (inClass (top 11) 0), defScope (inClass (top 11) 0), [.int 1]⟩
def d_l_box : DD := ⟨gA (Str.ofString "_law_box"), (Str.ofString "_law_box"), (Str.ofString "_law_box"), defArgs (top 15), defBody (top 15), defScope (top 15), []⟩
def d_checked : DD := ⟨gA (Str.ofString "checked"), (Str.ofString "checked"), (Str.ofString "checked"), defArgs (top 10), defBody (top 10), defScope (top 10), []⟩
def d_Ratio_neg : DD := ⟨mA (Str.ofString "Ratio") (Str.ofString "__neg__"), (Str.ofString "__neg__"), (Str.ofString "Ratio.__neg__"), defArgs (inClass (top 11) 5), defBody (inClass (top 11) 5), defScope (inClass (top 11) 5), []⟩
def d_Ratio_eq : DD := ⟨mA (Str.ofString "Ratio") (Str.ofString "__eq__"), (Str.ofString "__eq__"), (Str.ofString "Ratio.__eq__"), defArgs (inClass (top 11) 6), defBody (inClass (top 11) 6), defScope (inClass (top 11) 6), []⟩
def d_Ratio_add : DD := ⟨mA (Str.ofString "Ratio") (Str.ofString "__add__"), (Str.ofString "__add__"), (Str.ofString "Ratio.__add__"), defArgs (inClass (top 11) 2), defBody (inClass (top 11) 2), defScope (inClass (top 11) 2), []⟩
def d_Ratio_sub : DD := ⟨mA (Str.ofString "Ratio") (Str.ofString "__sub__"), (Str.ofString "__sub__"), (Str.ofString "Ratio.__sub__"), defArgs (inClass (top 11) 3), defBody (inClass (top 11) 3), defScope (inClass (top 11) 3), []⟩
def d_Ratio_mul : DD := ⟨mA (Str.ofString "Ratio") (Str.ofString "__mul__"), (Str.ofString "__mul__"), (Str.ofString "Ratio.__mul__"), defArgs (inClass (top 11) 4), defBody (inClass (top 11) 4), defScope (inClass (top 11) 4), []⟩
def d_Ratio_lt : DD := ⟨mA (Str.ofString "Ratio") (Str.ofString "__lt__"), (Str.ofString "__lt__"), (Str.ofString "Ratio.__lt__"), defArgs (inClass (top 11) 7), defBody (inClass (top 11) 7), defScope (inClass (top 11) 7), []⟩
def d_Ratio_le : DD := ⟨mA (Str.ofString "Ratio") (Str.ofString "__le__"), (Str.ofString "__le__"), (Str.ofString "Ratio.__le__"), defArgs (inClass (top 11) 8), defBody (inClass (top 11) 8), defScope (inClass (top 11) 8), []⟩
def d_integer_of : DD := ⟨gA (Str.ofString "integer_of"), (Str.ofString "integer_of"), (Str.ofString "integer_of"), defArgs (top 12), defBody (top 12), defScope (top 12), []⟩
def d_l_whole : DD := ⟨gA (Str.ofString "_law_whole"), (Str.ofString "_law_whole"), (Str.ofString "_law_whole"), defArgs (top 22), defBody (top 22), defScope (top 22), []⟩
def d_Ratio_read : DD := ⟨cmA (Str.ofString "Ratio") (Str.ofString "read"), (Str.ofString "read"), (Str.ofString "Ratio.read"), defArgs (inClass (top 11) 1), defBody (inClass (top 11) 1), defScope (inClass (top 11) 1), []⟩
def d_l_due : DD := ⟨gA (Str.ofString "_law_due"), (Str.ofString "_law_due"), (Str.ofString "_law_due"), defArgs (top 23), defBody (top 23), defScope (top 23), []⟩
def d_l_read : DD := ⟨gA (Str.ofString "_law_read"), (Str.ofString "_law_read"), (Str.ofString "_law_read"), defArgs (top 24), defBody (top 24), defScope (top 24), []⟩
def d_law : DD := ⟨gA (Str.ofString "law"), (Str.ofString "law"), (Str.ofString "law"), defArgs (top 25), defBody (top 25), defScope (top 25), []⟩
def dx_ByZero : DD := ⟨mA (Str.ofString "ByZero") "__init__", "__init__", (Str.ofString "ByZero.__init__"), defArgs (inClass (top 3) 0), defBody (inClass (top 3) 0), defScope (inClass (top 3) 0), []⟩
theorem cx_ByZero : xini "PoolError" dx_ByZero none = true := by decide +kernel
def dx_BadNumber : DD := ⟨mA (Str.ofString "BadNumber") "__init__", "__init__", (Str.ofString "BadNumber.__init__"), defArgs (inClass (top 4) 0), defBody (inClass (top 4) 0), defScope (inClass (top 4) 0), []⟩
theorem cx_BadNumber : xini "PoolError" dx_BadNumber (some (Str.ofString "given")) = true := by decide +kernel
def dx_BadText : DD := ⟨mA (Str.ofString "BadText") "__init__", "__init__", (Str.ofString "BadText.__init__"), defArgs (inClass (top 5) 0), defBody (inClass (top 5) 0), defScope (inClass (top 5) 0), []⟩
theorem cx_BadText : xini "PoolError" dx_BadText none = true := by decide +kernel
def fn : List DD := [d_is_integer, d_divisor_of, d_Ratio_text, d_l_cell, d_l_take, d_l_frac, d_parts, d_Ratio_init, d_l_box, d_checked, d_Ratio_neg, d_Ratio_eq, d_Ratio_add, d_Ratio_sub, d_Ratio_mul, d_Ratio_lt, d_Ratio_le, d_integer_of, d_l_whole, d_Ratio_read, d_l_due, d_l_read, d_law, dx_ByZero, dx_BadNumber, dx_BadText]
def xd : List (Nat × DD) := [(100, dx_ByZero), (101, dx_BadNumber), (102, dx_BadText)]
theorem lay : LayOk L := lay_ok (by decide +kernel)
section
variable {Pr : Program} {w : World} {K : Fr} {mg : Str → Option Value} {base : Heap}
structure Have (Pr : Program) (K : Fr) (h : Heap) (mg : Str → Option Value) : Prop where
  X : K.In h
  G : h.Ns mainGlobals mg
  c : lookR L.look fn K = (true, fn.map DD.told)
  ns : h.NoSeer
  nl : h.NoLimit
  tr : Pr.given.tree = none
theorem st_of (a : Have Pr K base mg) : Stat (L.cc K) Pr w K mg base L.T L.G0 := by
  refine stat_of lay (look_ok (look_ex a.c)) a.X a.G xd (fun e he => ?_) a.ns a.nl a.tr
  have he : e ∈ [(100, (Str.ofString "ByZero"), ([] : List Nat)), (101, (Str.ofString "BadNumber"), ([19] : List Nat)), (102, (Str.ofString "BadText"), ([] : List Nat))] := he
  simp only [List.mem_cons, List.not_mem_nil, or_false] at he
  rcases he with rfl | rfl | rfl
  · obtain ⟨fd, F⟩ := look_fn a.c (d := dx_ByZero) (List.mem_of_getElem? (i := 23) rfl)
    exact ⟨dx_ByZero, fd, rfl, rfl, cx_ByZero, F⟩
  · obtain ⟨fd, F⟩ := look_fn a.c (d := dx_BadNumber) (List.mem_of_getElem? (i := 24) rfl)
    exact ⟨dx_BadNumber, fd, rfl, rfl, cx_BadNumber, F⟩
  · obtain ⟨fd, F⟩ := look_fn a.c (d := dx_BadText) (List.mem_of_getElem? (i := 25) rfl)
    exact ⟨dx_BadText, fd, rfl, rfl, cx_BadText, F⟩
structure Lv0 (Pr : Program) (w : World) (K : Fr) (mg : Str → Option Value) (base : Heap) : Prop where
  f : FnsOk (L.cc K) Pr w K mg base 26 fs0
  i : IfnsOk (L.cc K) Pr w K mg base 26 is0
  m : MtsOk (L.cc K) Pr w K mg base 26 ms0
  p : PrsOk (L.cc K) Pr w K mg base 26 ps0
  k : KfnsOk (L.cc K) Pr w K mg base 26 ks0
  j : ImtsOk (L.cc K) Pr w K mg base 26 js0
  c : CmsOk (L.cc K) Pr w K mg base 26 cs0
  d : KcsOk (L.cc K) Pr w K mg base 26 ds0
theorem lv0 (a : Have Pr K base mg) : Lv0 Pr w K mg base := ⟨trivial, trivial, trivial, trivial, trivial, trivial, trivial, trivial⟩
structure Lv1 (Pr : Program) (w : World) (K : Fr) (mg : Str → Option Value) (base : Heap) : Prop where
  f : FnsOk (L.cc K) Pr w K mg base 35 fs1
  i : IfnsOk (L.cc K) Pr w K mg base 35 is1
  m : MtsOk (L.cc K) Pr w K mg base 35 ms1
  p : PrsOk (L.cc K) Pr w K mg base 35 ps1
  k : KfnsOk (L.cc K) Pr w K mg base 35 ks1
  j : ImtsOk (L.cc K) Pr w K mg base 35 js1
  c : CmsOk (L.cc K) Pr w K mg base 35 cs1
  d : KcsOk (L.cc K) Pr w K mg base 35 ds1
theorem lv1 (a : Have Pr K base mg) : Lv1 Pr w K mg base := by
  have z := lv0 (Pr := Pr) (w := w) (base := base) a
  have s : Stat (L.cc K) Pr w K mg base L.T L.G0 := st_of a
  have b : TabOk (L.cc K) Pr w K mg base 26 g0 t0 := tab_of s z.f z.i z.m z.p (by decide +kernel) (by decide +kernel) (by decide) z.k z.j z.c z.d
  obtain ⟨fd_is_integer, F_is_integer⟩ := look_fn a.c (d := d_is_integer) (List.mem_of_getElem? (i := 0) rfl)
  obtain ⟨fd_divisor_of, F_divisor_of⟩ := look_fn a.c (d := d_divisor_of) (List.mem_of_getElem? (i := 1) rfl)
  obtain ⟨fd_Ratio_text, F_Ratio_text⟩ := look_fn a.c (d := d_Ratio_text) (List.mem_of_getElem? (i := 2) rfl)
  obtain ⟨fd_l_cell, F_l_cell⟩ := look_fn a.c (d := d_l_cell) (List.mem_of_getElem? (i := 3) rfl)
  obtain ⟨fd_l_take, F_l_take⟩ := look_fn a.c (d := d_l_take) (List.mem_of_getElem? (i := 4) rfl)
  obtain ⟨fd_l_frac, F_l_frac⟩ := look_fn a.c (d := d_l_frac) (List.mem_of_getElem? (i := 5) rfl)
  have f1 : FnsOk (L.cc K) Pr w K mg base 35 [((Str.ofString "is_integer"), 18, f_is_integer), ((Str.ofString "divisor_of"), 16, f_divisor_of), ((Str.ofString "_law_cell"), 45, f_l_cell), ((Str.ofString "_law_frac"), 7, f_l_frac)] := ⟨ent_fn a.X a.G s b ((look_ok (look_ex a.c)).glo _ (by decide +kernel)) F_is_integer (txt_of rfl c_is_integer), ⟨ent_fn a.X a.G s b ((look_ok (look_ex a.c)).glo _ (by decide +kernel)) F_divisor_of (txt_of rfl c_divisor_of), ⟨ent_fn a.X a.G s b ((look_ok (look_ex a.c)).glo _ (by decide +kernel)) F_l_cell (txt_of rfl c_l_cell), ⟨ent_fn a.X a.G s b ((look_ok (look_ex a.c)).glo _ (by decide +kernel)) F_l_frac (txt_of rfl c_l_frac), trivial⟩⟩⟩⟩
  have i1 : IfnsOk (L.cc K) Pr w K mg base 35 [((Str.ofString "_law_take"), 1, f_l_take)] := ⟨ent_ifn a.X a.G s b ((look_ok (look_ex a.c)).glo _ (by decide +kernel)) F_l_take (txt_of rfl c_l_take), trivial⟩
  have m1 : MtsOk (L.cc K) Pr w K mg base 35 [⟨0, 27, f_Ratio_text⟩] := ⟨ent_mt lay (look_ok (look_ex a.c)) s b (c := 0) (m := 27) (by decide +kernel) F_Ratio_text (txt_of rfl c_Ratio_text), trivial⟩
  have p1 : PrsOk (L.cc K) Pr w K mg base 35 [] := trivial
  have k1 : KfnsOk (L.cc K) Pr w K mg base 35 [] := trivial
  have j1 : ImtsOk (L.cc K) Pr w K mg base 35 [] := trivial
  have c1 : CmsOk (L.cc K) Pr w K mg base 35 [] := trivial
  have d1 : KcsOk (L.cc K) Pr w K mg base 35 [] := trivial
  exact ⟨(z.f.mono (by decide)).app f1, (z.i.mono (by decide)).app i1, (z.m.mono (by decide)).app m1, (z.p.mono (by decide)).app p1, (z.k.mono (by decide)).app k1, (z.j.mono (by decide)).app j1, (z.c.mono (by decide)).app c1, (z.d.mono (by decide)).app d1⟩
structure Lv2 (Pr : Program) (w : World) (K : Fr) (mg : Str → Option Value) (base : Heap) : Prop where
  f : FnsOk (L.cc K) Pr w K mg base 44 fs2
  i : IfnsOk (L.cc K) Pr w K mg base 44 is2
  m : MtsOk (L.cc K) Pr w K mg base 44 ms2
  p : PrsOk (L.cc K) Pr w K mg base 44 ps2
  k : KfnsOk (L.cc K) Pr w K mg base 44 ks2
  j : ImtsOk (L.cc K) Pr w K mg base 44 js2
  c : CmsOk (L.cc K) Pr w K mg base 44 cs2
  d : KcsOk (L.cc K) Pr w K mg base 44 ds2
theorem lv2 (a : Have Pr K base mg) : Lv2 Pr w K mg base := by
  have z := lv1 (Pr := Pr) (w := w) (base := base) a
  have s : Stat (L.cc K) Pr w K mg base L.T L.G0 := st_of a
  have b : TabOk (L.cc K) Pr w K mg base 35 g1 t1 := tab_of s z.f z.i z.m z.p (by decide +kernel) (by decide +kernel) (by decide) z.k z.j z.c z.d
  obtain ⟨fd_parts, F_parts⟩ := look_fn a.c (d := d_parts) (List.mem_of_getElem? (i := 6) rfl)
  obtain ⟨fd_Ratio_init, F_Ratio_init⟩ := look_fn a.c (d := d_Ratio_init) (List.mem_of_getElem? (i := 7) rfl)
  obtain ⟨fd_l_box, F_l_box⟩ := look_fn a.c (d := d_l_box) (List.mem_of_getElem? (i := 8) rfl)
  have f1 : FnsOk (L.cc K) Pr w K mg base 44 [((Str.ofString "parts"), 17, f_parts), ((Str.ofString "Ratio"), 14, f_Ratio_init)] := ⟨ent_fn a.X a.G s b ((look_ok (look_ex a.c)).glo _ (by decide +kernel)) F_parts (txt_of rfl c_parts), ⟨ent_mk1 (dv := .int 1) (dx := .int 1) a.X a.G (look_ok (look_ex a.c)) s b (c := 0) (by decide +kernel) rfl F_Ratio_init (Bool.and_eq_true_iff.mp c_Ratio_init).1 (Bool.and_eq_true_iff.mp c_Ratio_init).2 (F_Ratio_init.binds1 2 0 (List.cons_ne_nil _ _) rfl (fun _ _ _ _ _ _ _ us its h1 h2 => match us, its, h1, h2 with | [_, _], [_], _, _ => ⟨_, rfl, rfl⟩)) (F_Ratio_init.binds1 3 1 (List.cons_ne_nil _ _) rfl (fun _ _ _ _ _ _ _ us its h1 h2 => match us, its, h1, h2 with | [_, _, _], [_], _, _ => ⟨_, rfl, rfl⟩)) (fun _ => by simp only [RepP]), trivial⟩⟩
  have i1 : IfnsOk (L.cc K) Pr w K mg base 44 [((Str.ofString "_law_box"), 13, f_l_box)] := ⟨ent_ifn a.X a.G s b ((look_ok (look_ex a.c)).glo _ (by decide +kernel)) F_l_box (txt_of rfl c_l_box), trivial⟩
  have m1 : MtsOk (L.cc K) Pr w K mg base 44 [] := trivial
  have p1 : PrsOk (L.cc K) Pr w K mg base 44 [] := trivial
  have k1 : KfnsOk (L.cc K) Pr w K mg base 44 [] := trivial
  have j1 : ImtsOk (L.cc K) Pr w K mg base 44 [] := trivial
  have c1 : CmsOk (L.cc K) Pr w K mg base 44 [] := trivial
  have d1 : KcsOk (L.cc K) Pr w K mg base 44 [] := trivial
  exact ⟨(z.f.mono (by decide)).app f1, (z.i.mono (by decide)).app i1, (z.m.mono (by decide)).app m1, (z.p.mono (by decide)).app p1, (z.k.mono (by decide)).app k1, (z.j.mono (by decide)).app j1, (z.c.mono (by decide)).app c1, (z.d.mono (by decide)).app d1⟩
structure Lv3 (Pr : Program) (w : World) (K : Fr) (mg : Str → Option Value) (base : Heap) : Prop where
  f : FnsOk (L.cc K) Pr w K mg base 53 fs3
  i : IfnsOk (L.cc K) Pr w K mg base 53 is3
  m : MtsOk (L.cc K) Pr w K mg base 53 ms3
  p : PrsOk (L.cc K) Pr w K mg base 53 ps3
  k : KfnsOk (L.cc K) Pr w K mg base 53 ks3
  j : ImtsOk (L.cc K) Pr w K mg base 53 js3
  c : CmsOk (L.cc K) Pr w K mg base 53 cs3
  d : KcsOk (L.cc K) Pr w K mg base 53 ds3
theorem lv3 (a : Have Pr K base mg) : Lv3 Pr w K mg base := by
  have z := lv2 (Pr := Pr) (w := w) (base := base) a
  have s : Stat (L.cc K) Pr w K mg base L.T L.G0 := st_of a
  have b : TabOk (L.cc K) Pr w K mg base 44 g2 t2 := tab_of s z.f z.i z.m z.p (by decide +kernel) (by decide +kernel) (by decide) z.k z.j z.c z.d
  obtain ⟨fd_checked, F_checked⟩ := look_fn a.c (d := d_checked) (List.mem_of_getElem? (i := 9) rfl)
  obtain ⟨fd_Ratio_neg, F_Ratio_neg⟩ := look_fn a.c (d := d_Ratio_neg) (List.mem_of_getElem? (i := 10) rfl)
  obtain ⟨fd_Ratio_eq, F_Ratio_eq⟩ := look_fn a.c (d := d_Ratio_eq) (List.mem_of_getElem? (i := 11) rfl)
  have f1 : FnsOk (L.cc K) Pr w K mg base 53 [((Str.ofString "checked"), 15, f_checked)] := ⟨ent_fn a.X a.G s b ((look_ok (look_ex a.c)).glo _ (by decide +kernel)) F_checked (txt_of rfl c_checked), trivial⟩
  have i1 : IfnsOk (L.cc K) Pr w K mg base 53 [] := trivial
  have m1 : MtsOk (L.cc K) Pr w K mg base 53 [⟨0, 3, f_Ratio_neg⟩, ⟨0, 4, f_Ratio_eq⟩] := ⟨ent_mt lay (look_ok (look_ex a.c)) s b (c := 0) (m := 3) (by decide +kernel) F_Ratio_neg (txt_of rfl c_Ratio_neg), ⟨ent_mt lay (look_ok (look_ex a.c)) s b (c := 0) (m := 4) (by decide +kernel) F_Ratio_eq (txt_of rfl c_Ratio_eq), trivial⟩⟩
  have p1 : PrsOk (L.cc K) Pr w K mg base 53 [] := trivial
  have k1 : KfnsOk (L.cc K) Pr w K mg base 53 [] := trivial
  have j1 : ImtsOk (L.cc K) Pr w K mg base 53 [] := trivial
  have c1 : CmsOk (L.cc K) Pr w K mg base 53 [] := trivial
  have d1 : KcsOk (L.cc K) Pr w K mg base 53 [] := trivial
  exact ⟨(z.f.mono (by decide)).app f1, (z.i.mono (by decide)).app i1, (z.m.mono (by decide)).app m1, (z.p.mono (by decide)).app p1, (z.k.mono (by decide)).app k1, (z.j.mono (by decide)).app j1, (z.c.mono (by decide)).app c1, (z.d.mono (by decide)).app d1⟩
structure Lv4 (Pr : Program) (w : World) (K : Fr) (mg : Str → Option Value) (base : Heap) : Prop where
  f : FnsOk (L.cc K) Pr w K mg base 62 fs4
  i : IfnsOk (L.cc K) Pr w K mg base 62 is4
  m : MtsOk (L.cc K) Pr w K mg base 62 ms4
  p : PrsOk (L.cc K) Pr w K mg base 62 ps4
  k : KfnsOk (L.cc K) Pr w K mg base 62 ks4
  j : ImtsOk (L.cc K) Pr w K mg base 62 js4
  c : CmsOk (L.cc K) Pr w K mg base 62 cs4
  d : KcsOk (L.cc K) Pr w K mg base 62 ds4
theorem lv4 (a : Have Pr K base mg) : Lv4 Pr w K mg base := by
  have z := lv3 (Pr := Pr) (w := w) (base := base) a
  have s : Stat (L.cc K) Pr w K mg base L.T L.G0 := st_of a
  have b : TabOk (L.cc K) Pr w K mg base 53 g3 t3 := tab_of s z.f z.i z.m z.p (by decide +kernel) (by decide +kernel) (by decide) z.k z.j z.c z.d
  obtain ⟨fd_Ratio_add, F_Ratio_add⟩ := look_fn a.c (d := d_Ratio_add) (List.mem_of_getElem? (i := 12) rfl)
  obtain ⟨fd_Ratio_sub, F_Ratio_sub⟩ := look_fn a.c (d := d_Ratio_sub) (List.mem_of_getElem? (i := 13) rfl)
  obtain ⟨fd_Ratio_mul, F_Ratio_mul⟩ := look_fn a.c (d := d_Ratio_mul) (List.mem_of_getElem? (i := 14) rfl)
  obtain ⟨fd_Ratio_lt, F_Ratio_lt⟩ := look_fn a.c (d := d_Ratio_lt) (List.mem_of_getElem? (i := 15) rfl)
  obtain ⟨fd_Ratio_le, F_Ratio_le⟩ := look_fn a.c (d := d_Ratio_le) (List.mem_of_getElem? (i := 16) rfl)
  have f1 : FnsOk (L.cc K) Pr w K mg base 62 [] := trivial
  have i1 : IfnsOk (L.cc K) Pr w K mg base 62 [] := trivial
  have m1 : MtsOk (L.cc K) Pr w K mg base 62 [⟨0, 0, f_Ratio_add⟩, ⟨0, 1, f_Ratio_sub⟩, ⟨0, 2, f_Ratio_mul⟩, ⟨0, 5, f_Ratio_lt⟩, ⟨0, 6, f_Ratio_le⟩] := ⟨ent_mt lay (look_ok (look_ex a.c)) s b (c := 0) (m := 0) (by decide +kernel) F_Ratio_add (txt_of rfl c_Ratio_add), ⟨ent_mt lay (look_ok (look_ex a.c)) s b (c := 0) (m := 1) (by decide +kernel) F_Ratio_sub (txt_of rfl c_Ratio_sub), ⟨ent_mt lay (look_ok (look_ex a.c)) s b (c := 0) (m := 2) (by decide +kernel) F_Ratio_mul (txt_of rfl c_Ratio_mul), ⟨ent_mt lay (look_ok (look_ex a.c)) s b (c := 0) (m := 5) (by decide +kernel) F_Ratio_lt (txt_of rfl c_Ratio_lt), ⟨ent_mt lay (look_ok (look_ex a.c)) s b (c := 0) (m := 6) (by decide +kernel) F_Ratio_le (txt_of rfl c_Ratio_le), trivial⟩⟩⟩⟩⟩
  have p1 : PrsOk (L.cc K) Pr w K mg base 62 [] := trivial
  have k1 : KfnsOk (L.cc K) Pr w K mg base 62 [] := trivial
  have j1 : ImtsOk (L.cc K) Pr w K mg base 62 [] := trivial
  have c1 : CmsOk (L.cc K) Pr w K mg base 62 [] := trivial
  have d1 : KcsOk (L.cc K) Pr w K mg base 62 [] := trivial
  exact ⟨(z.f.mono (by decide)).app f1, (z.i.mono (by decide)).app i1, (z.m.mono (by decide)).app m1, (z.p.mono (by decide)).app p1, (z.k.mono (by decide)).app k1, (z.j.mono (by decide)).app j1, (z.c.mono (by decide)).app c1, (z.d.mono (by decide)).app d1⟩
structure Lv5 (Pr : Program) (w : World) (K : Fr) (mg : Str → Option Value) (base : Heap) : Prop where
  f : FnsOk (L.cc K) Pr w K mg base 71 fs5
  i : IfnsOk (L.cc K) Pr w K mg base 71 is5
  m : MtsOk (L.cc K) Pr w K mg base 71 ms5
  p : PrsOk (L.cc K) Pr w K mg base 71 ps5
  k : KfnsOk (L.cc K) Pr w K mg base 71 ks5
  j : ImtsOk (L.cc K) Pr w K mg base 71 js5
  c : CmsOk (L.cc K) Pr w K mg base 71 cs5
  d : KcsOk (L.cc K) Pr w K mg base 71 ds5
theorem lv5 (a : Have Pr K base mg) : Lv5 Pr w K mg base := by
  have z := lv4 (Pr := Pr) (w := w) (base := base) a
  have s : Stat (L.cc K) Pr w K mg base L.T L.G0 := st_of a
  have b : TabOk (L.cc K) Pr w K mg base 62 g4 t4 := tab_of s z.f z.i z.m z.p (by decide +kernel) (by decide +kernel) (by decide) z.k z.j z.c z.d
  obtain ⟨fd_integer_of, F_integer_of⟩ := look_fn a.c (d := d_integer_of) (List.mem_of_getElem? (i := 17) rfl)
  obtain ⟨fd_l_whole, F_l_whole⟩ := look_fn a.c (d := d_l_whole) (List.mem_of_getElem? (i := 18) rfl)
  have f1 : FnsOk (L.cc K) Pr w K mg base 71 [((Str.ofString "integer_of"), 210, f_integer_of), ((Str.ofString "_law_whole"), 211, f_l_whole)] := ⟨ent_fn a.X a.G s b ((look_ok (look_ex a.c)).glo _ (by decide +kernel)) F_integer_of (txt_of rfl c_integer_of), ⟨ent_fn a.X a.G s b ((look_ok (look_ex a.c)).glo _ (by decide +kernel)) F_l_whole (txt_of rfl c_l_whole), trivial⟩⟩
  have i1 : IfnsOk (L.cc K) Pr w K mg base 71 [] := trivial
  have m1 : MtsOk (L.cc K) Pr w K mg base 71 [] := trivial
  have p1 : PrsOk (L.cc K) Pr w K mg base 71 [] := trivial
  have k1 : KfnsOk (L.cc K) Pr w K mg base 71 [] := trivial
  have j1 : ImtsOk (L.cc K) Pr w K mg base 71 [] := trivial
  have c1 : CmsOk (L.cc K) Pr w K mg base 71 [] := trivial
  have d1 : KcsOk (L.cc K) Pr w K mg base 71 [] := trivial
  exact ⟨(z.f.mono (by decide)).app f1, (z.i.mono (by decide)).app i1, (z.m.mono (by decide)).app m1, (z.p.mono (by decide)).app p1, (z.k.mono (by decide)).app k1, (z.j.mono (by decide)).app j1, (z.c.mono (by decide)).app c1, (z.d.mono (by decide)).app d1⟩
structure Lv6 (Pr : Program) (w : World) (K : Fr) (mg : Str → Option Value) (base : Heap) : Prop where
  f : FnsOk (L.cc K) Pr w K mg base 80 fs6
  i : IfnsOk (L.cc K) Pr w K mg base 80 is6
  m : MtsOk (L.cc K) Pr w K mg base 80 ms6
  p : PrsOk (L.cc K) Pr w K mg base 80 ps6
  k : KfnsOk (L.cc K) Pr w K mg base 80 ks6
  j : ImtsOk (L.cc K) Pr w K mg base 80 js6
  c : CmsOk (L.cc K) Pr w K mg base 80 cs6
  d : KcsOk (L.cc K) Pr w K mg base 80 ds6
theorem lv6 (a : Have Pr K base mg) : Lv6 Pr w K mg base := by
  have z := lv5 (Pr := Pr) (w := w) (base := base) a
  have s : Stat (L.cc K) Pr w K mg base L.T L.G0 := st_of a
  have b : TabOk (L.cc K) Pr w K mg base 71 g5 t5 := tab_of s z.f z.i z.m z.p (by decide +kernel) (by decide +kernel) (by decide) z.k z.j z.c z.d
  obtain ⟨fd_Ratio_read, F_Ratio_read⟩ := look_fn a.c (d := d_Ratio_read) (List.mem_of_getElem? (i := 19) rfl)
  obtain ⟨fd_l_due, F_l_due⟩ := look_fn a.c (d := d_l_due) (List.mem_of_getElem? (i := 20) rfl)
  have f1 : FnsOk (L.cc K) Pr w K mg base 80 [((Str.ofString "_law_due"), 73, f_l_due)] := ⟨ent_fn a.X a.G s b ((look_ok (look_ex a.c)).glo _ (by decide +kernel)) F_l_due (txt_of rfl c_l_due), trivial⟩
  have i1 : IfnsOk (L.cc K) Pr w K mg base 80 [] := trivial
  have m1 : MtsOk (L.cc K) Pr w K mg base 80 [] := trivial
  have p1 : PrsOk (L.cc K) Pr w K mg base 80 [] := trivial
  have k1 : KfnsOk (L.cc K) Pr w K mg base 80 [] := trivial
  have j1 : ImtsOk (L.cc K) Pr w K mg base 80 [] := trivial
  have c1 : CmsOk (L.cc K) Pr w K mg base 80 [⟨0, 28, f_Ratio_read, []⟩] := ⟨ent_cm (look_ok (look_ex a.c)) s b (c := 0) (m := 28) (by decide +kernel) F_Ratio_read (txt_of rfl c_Ratio_read), trivial⟩
  have d1 : KcsOk (L.cc K) Pr w K mg base 80 [⟨209, 0, 28, [(Str.ofString "text")], kiOf 1 1 2 [0, 1] (runI g5 ft 5 i_Ratio_read)⟩] := ⟨ent_kcm (look_ok (look_ex a.c)) s b (c := 0) (m := 28) (by decide +kernel) F_Ratio_read (txt_of rfl c_Ratio_read) (kbn_fn (n := 1) (ks := [(Str.ofString "text")]) F_Ratio_read (fun _ _ _ _ _ _ us ws h1 h2 => match us, ws, h1, h2 with | [_], [_], _, _ => rfl)), trivial⟩
  exact ⟨(z.f.mono (by decide)).app f1, (z.i.mono (by decide)).app i1, (z.m.mono (by decide)).app m1, (z.p.mono (by decide)).app p1, (z.k.mono (by decide)).app k1, (z.j.mono (by decide)).app j1, (z.c.mono (by decide)).app c1, (z.d.mono (by decide)).app d1⟩
structure Lv7 (Pr : Program) (w : World) (K : Fr) (mg : Str → Option Value) (base : Heap) : Prop where
  f : FnsOk (L.cc K) Pr w K mg base 89 fs7
  i : IfnsOk (L.cc K) Pr w K mg base 89 is7
  m : MtsOk (L.cc K) Pr w K mg base 89 ms7
  p : PrsOk (L.cc K) Pr w K mg base 89 ps7
  k : KfnsOk (L.cc K) Pr w K mg base 89 ks7
  j : ImtsOk (L.cc K) Pr w K mg base 89 js7
  c : CmsOk (L.cc K) Pr w K mg base 89 cs7
  d : KcsOk (L.cc K) Pr w K mg base 89 ds7
theorem lv7 (a : Have Pr K base mg) : Lv7 Pr w K mg base := by
  have z := lv6 (Pr := Pr) (w := w) (base := base) a
  have s : Stat (L.cc K) Pr w K mg base L.T L.G0 := st_of a
  have b : TabOk (L.cc K) Pr w K mg base 80 g6 t6 := tab_of s z.f z.i z.m z.p (by decide +kernel) (by decide +kernel) (by decide) z.k z.j z.c z.d
  obtain ⟨fd_l_read, F_l_read⟩ := look_fn a.c (d := d_l_read) (List.mem_of_getElem? (i := 21) rfl)
  have f1 : FnsOk (L.cc K) Pr w K mg base 89 [((Str.ofString "_law_read"), 208, f_l_read)] := ⟨ent_fn a.X a.G s b ((look_ok (look_ex a.c)).glo _ (by decide +kernel)) F_l_read (txt_of rfl c_l_read), trivial⟩
  have i1 : IfnsOk (L.cc K) Pr w K mg base 89 [] := trivial
  have m1 : MtsOk (L.cc K) Pr w K mg base 89 [] := trivial
  have p1 : PrsOk (L.cc K) Pr w K mg base 89 [] := trivial
  have k1 : KfnsOk (L.cc K) Pr w K mg base 89 [] := trivial
  have j1 : ImtsOk (L.cc K) Pr w K mg base 89 [] := trivial
  have c1 : CmsOk (L.cc K) Pr w K mg base 89 [] := trivial
  have d1 : KcsOk (L.cc K) Pr w K mg base 89 [] := trivial
  exact ⟨(z.f.mono (by decide)).app f1, (z.i.mono (by decide)).app i1, (z.m.mono (by decide)).app m1, (z.p.mono (by decide)).app p1, (z.k.mono (by decide)).app k1, (z.j.mono (by decide)).app j1, (z.c.mono (by decide)).app c1, (z.d.mono (by decide)).app d1⟩
theorem facts {fd : FuncData} (a : Have Pr K base mg) (F : FunD K d_law.name d_law.qual d_law.params d_law.body d_law.scope (d_law.dvs K) [] (d_law.ad K) fd) : (∀ (s : Shared) (u : Value), BindsTo s fd ⟨[u], []⟩ [((Str.ofString "_law_script"), u)]) ∧ FnOk Pr w K mg base (L2.CX Pr w) 98 (gA "law" K) fd [(Str.ofString "_law_script")] (nArg 1 (spI (L.cc K) (runI g7 ft 12 i_law))) := by
  have z := lv7 (Pr := Pr) (w := w) (base := base) a
  have s : Stat (L.cc K) Pr w K mg base L.T L.G0 := st_of a
  have b : TabOk (L.cc K) Pr w K mg base 89 g7 t7 := tab_of s z.f z.i z.m z.p (by decide +kernel) (by decide +kernel) (by decide) z.k z.j z.c z.d
  have t : Txt t7 n_law p_law i_law (defArgs (top 25)) (defBody (top 25)) (defScope (top 25)) := txt_of rfl c_law
  refine ⟨fun s u => ?_, (def_ok F t.sc s b t.ck).mono (by decide)⟩
  have z := FunD.bindsA (ps := p_law) F (fun _ _ _ _ _ _ us hl => bind_plain t.pl (by decide +kernel) hl) s [u] rfl
  exact z
end
end RP
end

section
set_option Elab.async false
set_option linter.all false
set_option maxRecDepth 100000
set_option maxHeartbeats 4000000
namespace RP
open PySem L2 PySem.W PySem.Calls PyProof.Rows
/-! ### the head -/
abbrev R : PySem.W.OpenRow := PySem.W.OpenLaw.row PySem.Challenge.rw_rangepools_k03_texts_of_ratios
abbrev hk : PySem.W.Hook := hookR 6 L.look fn
def ob (s : PySem.W.SharedT) : AlR := obsR 6 L.look fn (HandSHeadRun.getT s)
theorem ob_eq (s : PySem.W.SharedT) : ob s = hk.obs s.abs := obsR_eq (HandSHeadRun.getT_eq s)
def loose0 : List PySem.Str := [(Str.ofString "_wall"), (Str.ofString "__name__"), (Str.ofString "PoolError"), (Str.ofString "ByZero"), (Str.ofString "BadNumber"), (Str.ofString "BadText"), (Str.ofString "is_integer"), (Str.ofString "divisor_of"), (Str.ofString "parts"), (Str.ofString "checked"), (Str.ofString "Ratio"), (Str.ofString "integer_of"), (Str.ofString "_law_cell"), (Str.ofString "_law_box"), (Str.ofString "_law_take"), (Str.ofString "_law_frac"), (Str.ofString "_law_plus"), (Str.ofString "_law_times"), (Str.ofString "_law_minus"), (Str.ofString "_law_less"), (Str.ofString "_law_whole"), (Str.ofString "_law_due"), (Str.ofString "_law_read")]
def loose : List PySem.Str := loose0
noncomputable abbrev top_run (w : World) (os : OsState) : Option PySem.W.SharedT := HandSHeadRun.endF (HandSHeadRun.stepQ (HandSHeadRun.denQ HandSHeadRun.tabQ) R.prog w) 60000 R.prog w os
theorem run_a (w : World) (os : OsState) : (top_run w os).map (fun s => HandSHeadRun.looksF R.prog (boot_heap w.params) s.abs) = some true := by kernel_rfl
theorem run_b (w : World) (os : OsState) : (top_run w os).map (fun s => HandSHeadRun.seenQ (PySem.W.view R.prog [25]) loose (importedModules R.prog.main.body) (fun s => PySem.W.xlAt (PySem.W.view R.prog [25]) [] s && PySem.W.recOk R.toRowW.records s) s.abs) = some (PySem.W.openGood (PySem.W.view R.prog [25]) loose) := by kernel_rfl
theorem run_c (w : World) (os : OsState) : (top_run w os).map (fun s => askR 6 (HandSHeadRun.getT s) L.look) = some true := by kernel_rfl
theorem run_d (w : World) (os : OsState) : (top_run w os).map (fun s => askR 6 (HandSHeadRun.getT s) (okB fn)) = some true := by kernel_rfl
theorem run_e (w : World) (os : OsState) : (top_run w os).map (fun s => askR 6 (HandSHeadRun.getT s) (seenL fn)) = some (fn.map DD.told) := by kernel_rfl
theorem run_all (w : World) : HandSHeadRun.RunEq R (PySem.W.view R.prog [25]) hk ob 60000 loose w := runEq_of (run_a w) (run_b w) (run_c w) (run_d w) (run_e w)
/-- the law holds if the evaluator says so -/
theorem holds_of (hm : ∀ ns : List Int, ns.length ≤ 63 → ∃ S, lawR ns = .ok (.p (.bl true)) S) : PySem.Challenge.rw_rangepools_k03_texts_of_ratios.Holds := by
  open PySem PySem.W PySem.Calls PyProof.Rows in
  w_on; o_law
  refine HandSHeadRun.head_any (r := PySem.W.OpenLaw.row PySem.Challenge.rw_rangepools_k03_texts_of_ratios) (q := PySem.W.view (PySem.W.OpenLaw.row PySem.Challenge.rw_rangepools_k03_texts_of_ratios).prog [25]) (H := hk) (ob := ob) (M := 60000) (loose := loose) (d := HandSHeadRun.topDef (PySem.W.OpenLaw.row PySem.Challenge.rw_rangepools_k03_texts_of_ratios).prog 25) (kwd := []) ob_eq
    (by kernel_rfl) (fun s => by kernel_rfl) run_all (by kernel_rfl) (by kernel_rfl) (by kernel_rfl) (by rfl) (by first | assumption | decide +kernel) (by decide +kernel) ⟨rfl, rfl, rfl, rfl, rfl, by decide +kernel⟩ ?hw ?hc
  case hw => w_witness2
  case hc =>
    refine walk_r (l := PySem.Challenge.rw_rangepools_k03_texts_of_ratios) (n := 63) (k := 98) (x := (Str.ofString "_law_script")) rfl (by decide) (by kernel_rfl) ⟨⟨rfl, by decide, by decide⟩, by rfl⟩ (by kernel_rfl) ?F
    intro w mg fa h Y G ns nl hmg0
    obtain ⟨K, KX, c⟩ := Y
    have tr : (PySem.Challenge.pw_rangepools_k03_texts_of_ratios).given.tree = none := by kernel_rfl
    have a : Have PySem.Challenge.pw_rangepools_k03_texts_of_ratios K h mg := ⟨KX, G, c, ns, nl, tr⟩
    have e : (HandSHeadRun.topDef (PySem.W.OpenLaw.row PySem.Challenge.rw_rangepools_k03_texts_of_ratios).prog 25).name = ("law" : PySem.Str) := by kernel_rfl
    rw [e] at hmg0
    have efa := hmg0.symm.trans (glo_mg KX G ((look_ok (look_ex c)).glo "law" (by decide +kernel)))
    cases efa
    obtain ⟨fd, F⟩ := look_fn c (d := d_law) (List.mem_of_getElem? (i := 22) rfl)
    obtain ⟨hb, _⟩ := facts (Pr := PySem.Challenge.pw_rangepools_k03_texts_of_ratios) (w := w) (base := h) a F
    refine ⟨K, fd, nArg 1 (spI (L.cc K) (runI g7 ft 12 i_law)), KX, hb, fun H a ns hl hO hS => ?_, fun base kb gb ns nl => ?_⟩
    · obtain ⟨S, hS2⟩ := hm ns hl
      exact sp_law (C := L.cc K) hO hS hS2
    · exact (facts (Pr := PySem.Challenge.pw_rangepools_k03_texts_of_ratios) (w := w) (base := base) ⟨kb, gb, c, ns, nl, tr⟩ F).2
end RP
end

section
set_option Elab.async false
set_option linter.all false
set_option maxRecDepth 100000
set_option maxHeartbeats 4000000
/-! The evaluator's equations, for simp. -/
namespace RP
open PySem
section
variable (Γ : Tab) (FT : FldT) (δ : DEnv) (S1 : Sto)
@[simp] theorem ev_var (i : Nat) : evE Γ FT (.var i) δ S1 = match δ[i]? with
    | some (some d) => .ok d S1
    | _ => .stuck := rfl
@[simp] theorem ev_gc (k : Nat) : evE Γ FT (.gc k) δ S1 = match Γ.gcs.lookup k with
    | some x => .ok (.p x) S1
    | none => .stuck := rfl
@[simp] theorem ev_non : evE Γ FT .non δ S1 = .ok (.p .non) S1 := rfl
@[simp] theorem ev_bl (b : Bool) : evE Γ FT (.bl b) δ S1 = .ok (.p (.bl b)) S1 := rfl
@[simp] theorem ev_int (i : Int) : evE Γ FT (.int i) δ S1 = .ok (.p (.int i)) S1 := rfl
@[simp] theorem ev_str (i : Str) : evE Γ FT (.str i) δ S1 = .ok (.p (.str i)) S1 := rfl
@[simp] theorem ev_bin (op : Operator) (a b : E) : evE Γ FT (.bin op a b) δ S1 = (evE Γ FT a δ S1).bind fun d1 S1 => (evE Γ FT b δ S1).bind fun d2 S2 => match peek d1 S2, peek d2 S2 with
    | some x, some y => (Γ.bin op x y).lift S2
    | _, _ => .stuck := rfl
@[simp] theorem ev_neg (a : E) : evE Γ FT (.neg a) δ S1 = (evE Γ FT a δ S1).bind fun d S1 => match d with
    | .p x => (Γ.neg x).lift S1
    | _ => .stuck := rfl
@[simp] theorem ev_not (a : E) : evE Γ FT (.not a) δ S1 = (evE Γ FT a δ S1).bind fun d S1 => match d with
    | .p (.bl b) => .ok (.p (.bl (!b))) S1
    | _ => .stuck := rfl
@[simp] theorem ev_cmp (op : CmpOp) (a b : E) : evE Γ FT (.cmp op a b) δ S1 = (evE Γ FT a δ S1).bind fun d1 S1 => (evE Γ FT b δ S1).bind fun d2 S2 => match peek d1 S2, peek d2 S2 with
    | some x, some y => (Γ.cmp op x y).lift S2
    | _, _ => .stuck := rfl
@[simp] theorem ev_and (a b : E) : evE Γ FT (.and a b) δ S1 = (evE Γ FT a δ S1).bind fun d S1 => match d with
    | .p (.bl true) => evE Γ FT b δ S1
    | .p (.bl false) => .ok (.p (.bl false)) S1
    | _ => .stuck := rfl
@[simp] theorem ev_or (a b : E) : evE Γ FT (.or a b) δ S1 = (evE Γ FT a δ S1).bind fun d S1 => match d with
    | .p (.bl true) => .ok (.p (.bl true)) S1
    | .p (.bl false) => evE Γ FT b δ S1
    | _ => .stuck := rfl
@[simp] theorem ev_ite (t a b : E) : evE Γ FT (.ite t a b) δ S1 = (evE Γ FT t δ S1).bind fun d S1 => match d with
    | .p (.bl true) => evE Γ FT a δ S1
    | .p (.bl false) => evE Γ FT b δ S1
    | _ => .stuck := rfl
@[simp] theorem ev_tup (es : Es) : evE Γ FT (.tup es) δ S1 = (evEs Γ FT es δ S1).bind fun xs S1 => if lineOk xs.length then .ok (.p (.tup xs)) S1 else .stuck := rfl
@[simp] theorem ev_lst (es : Es) : evE Γ FT (.lst es) δ S1 = (evEs Γ FT es δ S1).bind fun xs S1 => if lineOk xs.length then .ok (.p (.lst xs)) S1 else .stuck := rfl
@[simp] theorem ev_newl (es : Es) : evE Γ FT (.newl es) δ S1 = (evEs Γ FT es δ S1).bind fun xs S1 => if lineOk xs.length then .ok (.loc S1.length) (S1 ++ [.live (.lst xs)]) else .stuck := rfl
@[simp] theorem ev_dsp (ks : List Str) (vs : List P) : evE Γ FT (.dsp ks vs) δ S1 = if decide (ks.length = vs.length) && (decide (vs.length ≤ 15) && (decide ks.Nodup && vs.all flatP)) then .ok (.p (.dic ks vs)) S1 else .stuck := rfl
@[simp] theorem ev_kmeth (a : E) (m : Nat) (ks : List Str) (es : Es) : evE Γ FT (.kmeth a m ks es) δ S1 = (evE Γ FT a δ S1).bind fun d S1 => methK Γ m ks d (evEs Γ FT es δ) S1 := rfl
@[simp] theorem ev_newn (es : Es) : evE Γ FT (.newn es) δ S1 = (evDs Γ FT es δ S1).bind fun ds S1 => if lineOk ds.length then .ok (.loc S1.length) (S1 ++ [.live (.nst ds)]) else .stuck := rfl
@[simp] theorem ev_spl (a b : E) : evE Γ FT (.spl a b) δ S1 = (evE Γ FT a δ S1).bind fun d1 S1 => match d1 with
    | .p (.str x) => (evE Γ FT b δ S1).bind fun d2 S2 => match d2 with
      | .p (.str y) => splR x y S2
      | _ => .stuck
    | _ => .stuck := rfl
@[simp] theorem ev_fs3 (a : E) (z : Str) (b : E) : evE Γ FT (.fs3 a z b) δ S1 = (evE Γ FT a δ S1).bind fun d1 S1 => match fmtD d1 with
    | some x => (evE Γ FT b δ S1).bind fun d2 S2 => match fmtD d2 with
      | some y => fs3R x z y S2
      | none => .stuck
    | none => .stuck := rfl
@[simp] theorem ev_lcall (i c k : Nat) (y : Str) (es : Es) : evE Γ FT (.lcall i c k y es) δ S1 = match δ[i]? with
    | some (some (.cls c')) => if c' = c then ((evEs Γ FT es δ S1).bind fun xs S1 => match Γ.fns.lookup k with
      | some f => (f xs).lift S1
      | none => .stuck) else .stuck
    | _ => .stuck := rfl
@[simp] theorem ev_cmeth (c m : Nat) (y : Str) (es : Es) : evE Γ FT (.cmeth c m y es) δ S1 = (evEs Γ FT es δ S1).bind fun xs S1 => match Γ.cmeth c m with
    | some f => f (.cls c :: xs.map .p) S1
    | none => .stuck := rfl
@[simp] theorem ev_kcmeth (j c : Nat) (y : Str) (es : Es) : evE Γ FT (.kcmeth j c y es) δ S1 = (evEs Γ FT es δ S1).bind fun xs S1 => match Γ.kcms.lookup j with
    | some f => f (.cls c :: xs.map .p) S1
    | none => .stuck := rfl
@[simp] theorem ev_subn (a i : E) : evE Γ FT (.subn a i) δ S1 = (evE Γ FT a δ S1).bind fun d1 S1 => (evE Γ FT i δ S1).bind fun d2 S2 => subN d1 d2 S2 := rfl
@[simp] theorem ev_sub (a i : E) : evE Γ FT (.sub a i) δ S1 = (evE Γ FT a δ S1).bind fun d1 S1 => (evE Γ FT i δ S1).bind fun d2 S2 => match peek d1 S2, d2 with
    | some x, .p y => (subP x y).lift S2
    | _, _ => .stuck := rfl
@[simp] theorem ev_slc (a lo hi : E) (hl hh : Bool) : evE Γ FT (.slc a hl lo hh hi) δ S1 = (evE Γ FT a δ S1).bind fun d1 S1 => (optI hl (evE Γ FT lo δ) S1).bind fun o1 S2 => (optI hh (evE Γ FT hi δ) S2).bind fun o2 S3 => match peek d1 S3 with
    | some x => (slcP x o1 o2).lift S3
    | none => .stuck := rfl
@[simp] theorem ev_rev (a : E) : evE Γ FT (.rev a) δ S1 = (evE Γ FT a δ S1).bind fun d S1 => revG (peek d S1) S1 := rfl
@[simp] theorem revG_lst (xs : List P) : revG (some (.lst xs)) S1 = .ok (.p (.lst xs.reverse)) S1 := rfl
@[simp] theorem ev_attr (a : E) (f : Nat) : evE Γ FT (.attr a f) δ S1 = (evE Γ FT a δ S1).bind fun d S1 => match d with
    | .p (.ob c xs) => match fldIx f (FT c) xs with
      | some y => .ok (.p y) S1
      | none => match Γ.prop c f with
        | some g => match g [.ob c xs] with
          | .ok y => .ok (.p y) S1
          | _ => .stuck
        | none => .stuck
    | .loc n => match S1[n]? with
      | some (.live (.obj _ fs)) => match fs.lookup f with
        | some d => .ok d S1
        | none => .stuck
      | _ => .stuck
    | _ => .stuck := rfl
@[simp] theorem ev_call (k : Nat) (es : Es) : evE Γ FT (.call k es) δ S1 = (evEs Γ FT es δ S1).bind fun xs S1 => match Γ.fns.lookup k with
    | some f => (f xs).lift S1
    | none => .stuck := rfl
@[simp] theorem ev_icall (k : Nat) (es : Es) : evE Γ FT (.icall k es) δ S1 = (evDs Γ FT es δ S1).bind fun ds S1 => match Γ.ifns.lookup k with
    | some f => f ds S1
    | none => .stuck := rfl
@[simp] theorem ev_meth (a : E) (m : Nat) (es : Es) : evE Γ FT (.meth a m es) δ S1 = (evE Γ FT a δ S1).bind fun d S1 => methG Γ m d (evEs Γ FT es δ) S1 := rfl
@[simp] theorem ev_app (a e : E) : evE Γ FT (.app a e) δ S1 = (evE Γ FT a δ S1).bind fun d S1 => match peek d S1 with
    | some (.lst _) => (evE Γ FT e δ S1).bind fun d2 S2 => (purify d2 S2).bind fun x S3 => appG d x S3
    | _ => .stuck := rfl
@[simp] theorem ev_b1 (b : B1) (a : E) : evE Γ FT (.b1 b a) δ S1 = (evE Γ FT a δ S1).bind fun d S1 => match peek d S1 with
    | some x => (b1P b x).lift S1
    | none => .stuck := rfl
@[simp] theorem ev_b2 (b : B2) (a c : E) : evE Γ FT (.b2 b a c) δ S1 = (evE Γ FT a δ S1).bind fun d1 S1 => (evE Γ FT c δ S1).bind fun d2 S2 => match d1, d2 with
    | .p x, .p y => (b2P b x y).lift S2
    | _, _ => .stuck := rfl
@[simp] theorem ev_isi (a : E) (t : Ty) : evE Γ FT (.isi a t) δ S1 = (evE Γ FT a δ S1).bind fun d S1 => match d with
    | .p x => match isiP t x with
      | some b => .ok (.p (.bl b)) S1
      | none => .stuck
    | _ => .stuck := rfl
@[simp] theorem ev_comp2 (elt : E) (tg tg1 : Tg) (it it1 : It) (hc : Bool) (c : E) : evE Γ FT (.comp2 elt tg it tg1 it1 hc c) δ S1 = (evIt Γ FT it δ S1).bind fun xs S1 => if lineOk xs.length then (comp2L (bindT tg) (evIt Γ FT it1) (bindT tg1) (optT hc (evE Γ FT c)) (evE Γ FT elt) (tgIx tg1) (wipeD δ (tgIx tg ++ tgIx tg1)) 0 xs S1).bind fun ys S2 => .ok (.p (.lst ys)) S2 else .stuck := rfl
@[simp] theorem ev_comp (lv : Bool) (elt : E) (tg : Tg) (it : It) (hc : Bool) (c : E) : evE Γ FT (.comp lv elt tg it hc c) δ S1 = (evIt Γ FT it δ S1).bind fun xs S1 => if lineOk xs.length then (compL (bindT tg) (optT hc (evE Γ FT c)) (evE Γ FT elt) (wipeD δ (tgIx tg)) xs S1).bind (compR lv) else .stuck := rfl
@[simp] theorem ev_fcall (k : Nat) (es : Es) : evE Γ FT (.fcall k es) δ S1 = (evEs Γ FT es δ S1).bind fun xs S1 => match Γ.ifns.lookup k with
    | some f => freshG (f (xs.map D.p) []) S1
    | none => .stuck := rfl
@[simp] theorem ev_bcall (k : Nat) (es : Es) : evE Γ FT (.bcall k es) δ S1 = (evDs Γ FT es δ S1).bind fun ds S1 => match peeks ds S1 with
    | some xs => match Γ.fns.lookup k with
      | some f => lentR ds (f xs) S1
      | none => .stuck
    | none => .stuck := rfl
@[simp] theorem ev_compb (lv : Bool) (elt : E) (tg : Tg) (i : Nat) (hc : Bool) (c : E) : evE Γ FT (.compb lv elt tg i hc c) δ S1 = (borV i δ S1).bind fun nx S1 => if lineOk nx.2.length then (compB (borG nx.1 nx.2) (bindT tg) (optT hc (evE Γ FT c)) (evE Γ FT elt) (wipeD δ (tgIx tg)) nx.2 S1).bind (compR lv) else .stuck := rfl
@[simp] theorem ev_clr (a : E) : evE Γ FT (.clr a) δ S1 = (evE Γ FT a δ S1).bind fun d S1 => clrG d S1 := rfl
@[simp] theorem ev_cpl (a : E) : evE Γ FT (.cpl a) δ S1 = (evE Γ FT a δ S1).bind fun d S1 => cplG (peek d S1) S1 := rfl
@[simp] theorem ev_fmeth (a : E) (m : Nat) (es : Es) : evE Γ FT (.fmeth a m es) δ S1 = (evE Γ FT a δ S1).bind fun d S1 => methF Γ m d (evEs Γ FT es δ) S1 := rfl
@[simp] theorem ev_kcall (k : Nat) (es ks : Es) : evE Γ FT (.kcall k es ks) δ S1 = (evEs Γ FT es δ S1).bind fun xs S1 => (evEs Γ FT ks δ S1).bind fun ys S2 => match Γ.kfns.lookup k with
    | some f => (f xs ys).lift S2
    | none => .stuck := rfl
@[simp] theorem ev_fkcall (k : Nat) (es ks : Es) : evE Γ FT (.fkcall k es ks) δ S1 = (evEs Γ FT es δ S1).bind fun xs S1 => (evEs Γ FT ks δ S1).bind fun ys S2 => match Γ.kifns.lookup k with
    | some nf => if xs.length = nf.1 then freshG (nf.2 ((xs ++ ys).map D.p) []) S2 else .stuck
    | none => .stuck := rfl
@[simp] theorem evs_nil : evEs Γ FT .nil δ S1 = .ok [] S1 := rfl
@[simp] theorem evs_cons (e : E) (es : Es) : evEs Γ FT (.cons e es) δ S1 = (evE Γ FT e δ S1).bind fun d S1 => (purify d S1).bind fun x S2 => (evEs Γ FT es δ S2).bind fun xs S3 => .ok (x :: xs) S3 := rfl
@[simp] theorem evs_star (e : E) (es : Es) : evEs Γ FT (.star e es) δ S1 = (evE Γ FT e δ S1).bind fun d S1 => match peek d S1 with
    | some (.lst ys) => (evEs Γ FT es δ S1).bind fun xs S2 => .ok (ys ++ xs) S2
    | some (.tup ys) => (evEs Γ FT es δ S1).bind fun xs S2 => .ok (ys ++ xs) S2
    | _ => .stuck := rfl
@[simp] theorem evd_nil : evDs Γ FT .nil δ S1 = .ok [] S1 := rfl
@[simp] theorem evd_cons (e : E) (es : Es) : evDs Γ FT (.cons e es) δ S1 = (evE Γ FT e δ S1).bind fun d S1 => (evDs Γ FT es δ S1).bind fun ds S2 => .ok (d :: ds) S2 := rfl
@[simp] theorem evi_seq (e : E) : evIt Γ FT (.seq e) δ S1 = (evE Γ FT e δ S1).bind fun d S1 => (purify d S1).bind fun x S2 => match x with
    | .lst xs => .ok xs S2
    | .tup xs => .ok xs S2
    | .str z => .ok (signsP z) S2
    | _ => .stuck := rfl
@[simp] theorem evi_enum (e : E) : evIt Γ FT (.enum e) δ S1 = (evE Γ FT e δ S1).bind fun d S1 => (purify d S1).bind fun x S2 => match x with
    | .lst xs => .ok (enumP 0 xs) S2
    | .tup xs => .ok (enumP 0 xs) S2
    | _ => .stuck := rfl
@[simp] theorem evi_rng1 (e : E) : evIt Γ FT (.rng1 e) δ S1 = (evE Γ FT e δ S1).bind fun d S1 => match d with
    | .p (.int j) => if rngOk j then .ok (rangeP 0 j.toNat) S1 else .stuck
    | _ => .stuck := rfl
@[simp] theorem evi_zip (a b : E) : evIt Γ FT (.zip a b) δ S1 = (evE Γ FT a δ S1).bind fun d S1 => (purify d S1).bind fun x S2 => (evE Γ FT b δ S2).bind fun d2 S3 => (purify d2 S3).bind fun y S4 => match seqOf x, seqOf y with
    | some xs, some ys => .ok (zipP xs ys) S4
    | _, _ => .stuck := rfl
@[simp] theorem ex_asg (i : Nat) (e : E) : exS Γ FT (.asg (.name i) e) δ S1 = (evE Γ FT e δ S1).st δ fun d S1 => .next (setSlot δ i d) S1 := rfl
@[simp] theorem ex_asgt (ts : Tgs) (e : E) : exS Γ FT (.asg (.tup ts) e) δ S1 = (evE Γ FT e δ S1).st δ fun d S1 => match peek d S1 with
      | some (.tup xs) => match bindTs ts xs δ with
        | some δ' => .next δ' S1
        | none => .stuck
      | some (.lst xs) => match d with
        | .p _ => match bindTs ts xs δ with
          | some δ' => .next δ' S1
          | none => .stuck
        | _ => .stuck
      | _ => .stuck := rfl
@[simp] theorem ex_par (i j : Nat) (a b : E) : exS Γ FT (.par i j a b) δ S1 = (evE Γ FT a δ S1).st δ fun d1 S1 => (evE Γ FT b δ S1).st δ fun d2 S2 => .next (setSlot (setSlot δ i d1) j d2) S2 := rfl
@[simp] theorem ex_setf (o : E) (f : Nat) (e : E) : exS Γ FT (.setf o f e) δ S1 = (evE Γ FT e δ S1).st δ fun d S1 => (evE Γ FT o δ S1).st δ fun d2 S2 => match d2 with
    | .loc n => match S2[n]? with
      | some (.live (.obj c fs)) => if decide (fs.length < 100) && (FT c).contains f then .next δ (S2.set n (.live (.obj c (setFld f d fs)))) else .stuck
      | _ => .stuck
    | _ => .stuck := rfl
@[simp] theorem ex_seti (o i e : E) : exS Γ FT (.seti o i e) δ S1 = (evE Γ FT e δ S1).st δ fun d S1 => (purify d S1).st δ fun y S2 => (evE Γ FT o δ S2).st δ fun d2 S3 => (evE Γ FT i δ S3).st δ fun d3 S4 => match d2, d3 with
    | .loc n, .p (.int k) => match S4[n]? with
      | some (.live (.lst xs)) => match setIx xs k y with
        | some ys => .next δ (S4.set n (.live (.lst ys)))
        | none => .stuck
      | some (.live (.nst ds)) => match setIx ds k (.p y) with
        | some ys => .next δ (S4.set n (.live (.nst ys)))
        | none => .stuck
      | _ => .stuck
    | _, _ => .stuck := rfl
@[simp] theorem ex_expr (e : E) : exS Γ FT (.expr e) δ S1 = (evE Γ FT e δ S1).st δ fun _ S1 => .next δ S1 := rfl
@[simp] theorem ex_ret (e : E) : exS Γ FT (.ret e) δ S1 = (evE Γ FT e δ S1).st δ fun d S1 => .ret d S1 := rfl
@[simp] theorem ex_ifs (c : E) (a b : Ss) : exS Γ FT (.ifs c a b) δ S1 = (evE Γ FT c δ S1).st δ fun d S1 => match d with
    | .p (.bl true) => exSs Γ FT a δ S1
    | .p (.bl false) => exSs Γ FT b δ S1
    | _ => .stuck := rfl
theorem ex_whl (c : E) (b : Ss) : exS Γ FT (.whl c b) δ S1 = whileL (evE Γ FT c) (exSs Γ FT b) fuel δ S1 := rfl
@[simp] theorem ex_for (t : Tg) (it : It) (b : Ss) : exS Γ FT (.for_ t it b) δ S1 = (evIt Γ FT it δ S1).st δ fun xs S1 => forL (bindT t) (exSs Γ FT b) xs δ S1 := rfl
@[simp] theorem ex_brk : exS Γ FT .brk δ S1 = .brk δ S1 := rfl
@[simp] theorem ex_cnt : exS Γ FT .cnt δ S1 = .cnt δ S1 := rfl
@[simp] theorem ex_pass : exS Γ FT .pass δ S1 = .next δ S1 := rfl
@[simp] theorem ex_rais0 (c : Nat) : exS Γ FT (.rais0 c) δ S1 = .exc c none δ S1 := rfl
@[simp] theorem ex_rais1 (c : Nat) (e : E) : exS Γ FT (.rais1 c e) δ S1 = (evE Γ FT e δ S1).st δ fun d S1 => (purify d S1).st δ fun x S2 => .exc c (some x) δ S2 := rfl
@[simp] theorem ex_tr (b : Ss) (hs : Hs) : exS Γ FT (.tr b hs) δ S1 = match exSs Γ FT b δ S1 with
    | .exc c x δ' S' => exHs hs c x δ' S'
    | r => r := rfl
@[simp] theorem exs_nil : exSs Γ FT .nil δ S1 = .next δ S1 := rfl
@[simp] theorem exs_cons (s : S) (r : Ss) : exSs Γ FT (.cons s r) δ S1 = (exS Γ FT s δ S1).bind (exSs Γ FT r) := rfl
end
@[simp] theorem st_ok {α : Type} (a : α) (S1 : Sto) (δ : DEnv) (f : α → Sto → RS) : (RE.ok a S1).st δ f = f a S1 := rfl
@[simp] theorem st_exc {α : Type} (c : Nat) (x : Option P) (S1 : Sto) (δ : DEnv) (f : α → Sto → RS) : (RE.exc c x S1 : RE α).st δ f = .exc c x δ S1 := rfl
@[simp] theorem bd_next (δ : DEnv) (S1 : Sto) (f : DEnv → Sto → RS) : (RS.next δ S1).bind f = f δ S1 := rfl
@[simp] theorem bd_ret (d : D) (S1 : Sto) (f : DEnv → Sto → RS) : (RS.ret d S1).bind f = .ret d S1 := rfl
@[simp] theorem bd_brk (δ : DEnv) (S1 : Sto) (f : DEnv → Sto → RS) : (RS.brk δ S1).bind f = .brk δ S1 := rfl
@[simp] theorem bd_cnt (δ : DEnv) (S1 : Sto) (f : DEnv → Sto → RS) : (RS.cnt δ S1).bind f = .cnt δ S1 := rfl
@[simp] theorem bd_exc (c : Nat) (x : Option P) (δ : DEnv) (S1 : Sto) (f : DEnv → Sto → RS) : (RS.exc c x δ S1).bind f = .exc c x δ S1 := rfl
@[simp] theorem le_next (δ : DEnv) (S1 : Sto) (on : DEnv → Sto → RS) : loopEnd (.next δ S1) on = on δ S1 := rfl
@[simp] theorem le_cnt (δ : DEnv) (S1 : Sto) (on : DEnv → Sto → RS) : loopEnd (.cnt δ S1) on = on δ S1 := rfl
@[simp] theorem le_brk (δ : DEnv) (S1 : Sto) (on : DEnv → Sto → RS) : loopEnd (.brk δ S1) on = .next δ S1 := rfl
@[simp] theorem le_ret (d : D) (S1 : Sto) (on : DEnv → Sto → RS) : loopEnd (.ret d S1) on = .ret d S1 := rfl
@[simp] theorem le_exc (c : Nat) (x : Option P) (δ : DEnv) (S1 : Sto) (on : DEnv → Sto → RS) : loopEnd (.exc c x δ S1) on = .exc c x δ S1 := rfl
@[simp] theorem for_nil (b : P → DEnv → Option DEnv) (f : DEnv → Sto → RS) (δ : DEnv) (S1 : Sto) : forL b f [] δ S1 = .next δ S1 := rfl
theorem for_cons (b : P → DEnv → Option DEnv) (f : DEnv → Sto → RS) (x : P) (xs : List P) (δ : DEnv) (S1 : Sto) : forL b f (x :: xs) δ S1 = match b x δ with
    | none => .stuck
    | some δ' => loopEnd (f δ' S1) (forL b f xs) := rfl
@[simp] theorem bt_name (i : Nat) (x : P) (δ : DEnv) : bindT (.name i) x δ = some (setSlot δ i (.p x)) := by simp only [bindT]
@[simp] theorem bt_tup (ts : Tgs) (xs : List P) (δ : DEnv) : bindT (.tup ts) (.tup xs) δ = bindTs ts xs δ := by simp only [bindT]
@[simp] theorem bts_nil (δ : DEnv) : bindTs .nil [] δ = some δ := by simp only [bindTs]
@[simp] theorem bts_cons (t : Tg) (ts : Tgs) (x : P) (xs : List P) (δ : DEnv) : bindTs (.cons t ts) (x :: xs) δ = (bindT t x δ).bind (bindTs ts xs) := by simp only [bindTs]
@[simp] theorem slot_eq (δ : DEnv) (i : Nat) (d : D) : setSlot δ i d = δ.set i (some d) := rfl
@[simp] theorem optI_f (f : Sto → RE D) (S1 : Sto) : optI false f S1 = .ok none S1 := rfl
@[simp] theorem optI_t (f : Sto → RE D) (S1 : Sto) : optI true f S1 = (f S1).bind fun d S1 => match d with
    | .p (.int i) => .ok (some i) S1
    | _ => .stuck := rfl
@[simp] theorem optT_f (f : DEnv → Sto → RE D) : optT false f = fun _ S1 => .ok (.p (.bl true)) S1 := rfl
@[simp] theorem optT_t (f : DEnv → Sto → RE D) : optT true f = f := rfl
@[simp] theorem compR_f (ys : List P) (S1 : Sto) : compR false ys S1 = .ok (.p (.lst ys)) S1 := rfl
@[simp] theorem compR_t (ys : List P) (S1 : Sto) : compR true ys S1 = .ok (.loc S1.length) (S1 ++ [.live (.lst ys)]) := rfl
@[simp] theorem line_lit (n : Nat) (h : n ≤ 100000) : lineOk n = true := decide_eq_true h
/-! ### data -/
section
variable (Γ : Tab)
@[simp] theorem bin_add (i j : Int) : Γ.bin .Add (.int i) (.int j) = .ok (.int (i + j)) := rfl
@[simp] theorem bin_sub (i j : Int) : Γ.bin .Sub (.int i) (.int j) = .ok (.int (i - j)) := rfl
theorem bin_mul (i j : Int) (h : mulOk i j = true) : Γ.bin .Mult (.int i) (.int j) = .ok (.int (i * j)) := by simp only [Tab.bin, h, if_true]
theorem bin_div (i j : Int) (h : divOk j = true) : Γ.bin .FloorDiv (.int i) (.int j) = .ok (.int (i.fdiv j)) := by simp only [Tab.bin, h, if_true]
theorem bin_mod (i j : Int) (h : j ≠ 0) : Γ.bin .Mod (.int i) (.int j) = .ok (.int (i.fmod j)) := by
  have : (j == 0) = false := by simpa using h
  simp only [Tab.bin, this]
  rfl
theorem bin_pow (i j : Int) (h : powOk i j = true) : Γ.bin .Pow (.int i) (.int j) = .ok (.int (i ^ j.toNat)) := by simp only [Tab.bin, h, if_true]
@[simp] theorem neg_int (i : Int) : Γ.neg (.int i) = .ok (.int (-i)) := rfl
@[simp] theorem cmp_lt (i j : Int) : Γ.cmp .Lt (.int i) (.int j) = .ok (.bl (decide (i < j))) := rfl
@[simp] theorem cmp_le (i j : Int) : Γ.cmp .LtE (.int i) (.int j) = .ok (.bl (decide (i ≤ j))) := rfl
@[simp] theorem cmp_gt (i j : Int) : Γ.cmp .Gt (.int i) (.int j) = .ok (.bl (decide (j < i))) := rfl
@[simp] theorem cmp_ge (i j : Int) : Γ.cmp .GtE (.int i) (.int j) = .ok (.bl (decide (j ≤ i))) := rfl
@[simp] theorem cmp_is (x : P) : Γ.cmp .Is x .non = .ok (.bl (isNon x)) := rfl
@[simp] theorem cmp_isn (x : P) : Γ.cmp .IsNot x .non = .ok (.bl (!isNon x)) := rfl
@[simp] theorem cmp_eq (x y : P) : Γ.cmp .Eq x y = Γ.eq x y := rfl
@[simp] theorem cmp_ne (x y : P) : Γ.cmp .NotEq x y = notR (Γ.eq x y) := rfl
@[simp] theorem eq_int (i j : Int) : Γ.eq (.int i) (.int j) = .ok (.bl (decide (i = j))) := by
  unfold Tab.eq eqDeep
  simp only [eqN, eq0]
  rfl
@[simp] theorem eq_str (i j : Str) : Γ.eq (.str i) (.str j) = .ok (.bl (decide (i = j))) := by
  unfold Tab.eq eqDeep
  simp only [eqN, eq0]
  congr 2
@[simp] theorem notR_bl (b : Bool) : notR (.ok (.bl b)) = .ok (.bl (!b)) := rfl
@[simp] theorem isi_int_int (i : Int) : isiP .int (.int i) = some true := rfl
@[simp] theorem isi_int_bl (i : Bool) : isiP .int (.bl i) = some true := rfl
@[simp] theorem isi_int_non  : isiP .int (.non) = some false := rfl
@[simp] theorem isi_int_str (i : Str) : isiP .int (.str i) = some false := rfl
@[simp] theorem isi_int_tup (i : List P) : isiP .int (.tup i) = some false := rfl
@[simp] theorem isi_int_lst (i : List P) : isiP .int (.lst i) = some false := rfl
@[simp] theorem isi_int_ob (c : Nat) (i : List P) : isiP .int (.ob c i) = some false := rfl
@[simp] theorem isi_bool_int (i : Int) : isiP .bool (.int i) = some false := rfl
@[simp] theorem isi_bool_bl (i : Bool) : isiP .bool (.bl i) = some true := rfl
@[simp] theorem isi_bool_non  : isiP .bool (.non) = some false := rfl
@[simp] theorem isi_bool_str (i : Str) : isiP .bool (.str i) = some false := rfl
@[simp] theorem isi_bool_tup (i : List P) : isiP .bool (.tup i) = some false := rfl
@[simp] theorem isi_bool_lst (i : List P) : isiP .bool (.lst i) = some false := rfl
@[simp] theorem isi_bool_ob (c : Nat) (i : List P) : isiP .bool (.ob c i) = some false := rfl
@[simp] theorem isi_str_int (i : Int) : isiP .str (.int i) = some false := rfl
@[simp] theorem isi_str_bl (i : Bool) : isiP .str (.bl i) = some false := rfl
@[simp] theorem isi_str_non  : isiP .str (.non) = some false := rfl
@[simp] theorem isi_str_str (i : Str) : isiP .str (.str i) = some true := rfl
@[simp] theorem isi_str_tup (i : List P) : isiP .str (.tup i) = some false := rfl
@[simp] theorem isi_str_lst (i : List P) : isiP .str (.lst i) = some false := rfl
@[simp] theorem isi_str_ob (c : Nat) (i : List P) : isiP .str (.ob c i) = some false := rfl
@[simp] theorem isi_tup_int (i : Int) : isiP .tup (.int i) = some false := rfl
@[simp] theorem isi_tup_bl (i : Bool) : isiP .tup (.bl i) = some false := rfl
@[simp] theorem isi_tup_non  : isiP .tup (.non) = some false := rfl
@[simp] theorem isi_tup_str (i : Str) : isiP .tup (.str i) = some false := rfl
@[simp] theorem isi_tup_tup (i : List P) : isiP .tup (.tup i) = some true := rfl
@[simp] theorem isi_tup_lst (i : List P) : isiP .tup (.lst i) = some false := rfl
@[simp] theorem isi_tup_ob (c : Nat) (i : List P) : isiP .tup (.ob c i) = some false := rfl
@[simp] theorem isi_lst_int (i : Int) : isiP .lst (.int i) = some false := rfl
@[simp] theorem isi_lst_bl (i : Bool) : isiP .lst (.bl i) = some false := rfl
@[simp] theorem isi_lst_non  : isiP .lst (.non) = some false := rfl
@[simp] theorem isi_lst_str (i : Str) : isiP .lst (.str i) = some false := rfl
@[simp] theorem isi_lst_tup (i : List P) : isiP .lst (.tup i) = some false := rfl
@[simp] theorem isi_lst_lst (i : List P) : isiP .lst (.lst i) = some true := rfl
@[simp] theorem isi_lst_ob (c : Nat) (i : List P) : isiP .lst (.ob c i) = some false := rfl
@[simp] theorem isi_own_int (d : Nat) (i : Int) : isiP (.own d) (.int i) = some false := rfl
@[simp] theorem isi_own_bl (d : Nat) (i : Bool) : isiP (.own d) (.bl i) = some false := rfl
@[simp] theorem isi_own_non (d : Nat)  : isiP (.own d) (.non) = some false := rfl
@[simp] theorem isi_own_str (d : Nat) (i : Str) : isiP (.own d) (.str i) = some false := rfl
@[simp] theorem isi_own_tup (d : Nat) (i : List P) : isiP (.own d) (.tup i) = some false := rfl
@[simp] theorem isi_own_lst (d : Nat) (i : List P) : isiP (.own d) (.lst i) = some false := rfl
@[simp] theorem isi_own_ob (d c : Nat) (i : List P) : isiP (.own d) (.ob c i) = some (decide (d = c)) := by
  show some (Ty.own d == Ty.own c) = _
  congr 1
  by_cases h : d = c
  · subst h
    simp
  · have : ¬ (Ty.own d = Ty.own c) := fun z => h (by cases z; rfl)
    simp [h, this]
@[simp] theorem isNon_non : isNon .non = true := rfl
@[simp] theorem isNon_tup (xs : List P) : isNon (.tup xs) = false := rfl
@[simp] theorem isNon_ob (c : Nat) (xs : List P) : isNon (.ob c xs) = false := rfl
@[simp] theorem isNon_lst (xs : List P) : isNon (.lst xs) = false := rfl
@[simp] theorem isNon_int (i : Int) : isNon (.int i) = false := rfl
@[simp] theorem b1_abs (i : Int) : b1P .abs (.int i) = .ok (.int (if i < 0 then -i else i)) := rfl
@[simp] theorem b1_int (i : Int) : b1P .int (.int i) = .ok (.int i) := rfl
@[simp] theorem b1_len (xs : List P) : b1P .len (.lst xs) = .ok (.int xs.length) := rfl
@[simp] theorem b1_lens (xs : List Int) : b1P .len (.scr xs) = .ok (.int xs.length) := rfl
@[simp] theorem sub_t0 (x : P) (xs : List P) : subP (.tup (x :: xs)) (.int 0) = .ok x := rfl
@[simp] theorem sub_t1 (x y : P) (xs : List P) : subP (.tup (x :: y :: xs)) (.int 1) = .ok y := rfl
@[simp] theorem sub_t2 (x y z : P) (xs : List P) : subP (.tup (x :: y :: z :: xs)) (.int 2) = .ok z := rfl
@[simp] theorem sub_l0 (x : P) (xs : List P) : subP (.lst (x :: xs)) (.int 0) = .ok x := rfl
@[simp] theorem sub_l1 (x y : P) (xs : List P) : subP (.lst (x :: y :: xs)) (.int 1) = .ok y := rfl
@[simp] theorem sub_l2 (x y z : P) (xs : List P) : subP (.lst (x :: y :: z :: xs)) (.int 2) = .ok z := rfl
@[simp] theorem sub_l3 (x y z u : P) (xs : List P) : subP (.lst (x :: y :: z :: u :: xs)) (.int 3) = .ok u := rfl
end
/-- a def with so many values, told -/
theorem fnP_eq (FT : FldT) (Γ : Tab) (n np : Nat) (ir : Ss) (xs : List P) (h : xs.length = np) : fnP FT Γ n np ir xs = match exSs Γ FT ir (xs.map (fun x => some (.p x)) ++ List.replicate (n - np) none) [] with
    | .next _ _ => .ok .non
    | .ret d S1 => (match purify d S1 with
      | .ok x _ => .ok x
      | _ => .stuck)
    | .exc c x _ _ => .exc c x
    | _ => .stuck := by
  unfold fnP pureOf runI
  rw [if_pos h, List.map_map, List.length_map, h]
  simp only [Function.comp_def]
  generalize exSs Γ FT ir (xs.map (fun x => some (.p x)) ++ List.replicate (n - np) none) [] = r
  cases r <;> rfl
end RP
end

section
set_option Elab.async false
set_option linter.all false
set_option maxRecDepth 100000
set_option maxHeartbeats 4000000
/-! Ratios: what the defs reckon. -/
namespace RP
open PySem
/-- a Ratio -/
def rt (q : Rat) : P := .ob 0 [.int q.num, .int (q.den : Int)]
/-- a pair of ints in lowest terms -/
def tq (q : Rat) : P := .tup [.int q.num, .int (q.den : Int)]
theorem is_integer_int (i : Int) : f_is_integer [.int i] = .ok (.bl true) := by
  simp [f_is_integer, fnP_eq, i_is_integer]
theorem is_integer_rt (q : Rat) : f_is_integer [rt q] = .ok (.bl false) := by
  simp [f_is_integer, fnP_eq, i_is_integer, rt]
theorem parts_int (i : Int) : f_parts [.int i] = .ok (.tup [.int i, .int 1]) := by
  simp [f_parts, fnP_eq, i_parts, is_integer_int]
theorem parts_rt (q : Rat) : f_parts [rt q] = .ok (tq q) := by
  simp [f_parts, fnP_eq, i_parts, is_integer_rt]
  simp [rt, tq, fldIx]
theorem checked_rt (q : Rat) : f_checked [rt q] = .ok (tq q) := by
  simp [f_checked, fnP_eq, i_checked, parts_rt]
  simp [tq]
theorem checked_int (i : Int) : f_checked [.int i] = .ok (.tup [.int i, .int 1]) := by
  simp [f_checked, fnP_eq, i_checked, parts_int]
/-! ### the greatest common divisor -/
theorem fmod_small (a : Int) {b : Int} (h : b ≠ 0) : (a.fmod b).natAbs < b.natAbs := by
  rcases Int.lt_or_gt_of_ne h with hb | hb
  · have h1 : (-a).fmod (-b) < -b := Int.fmod_lt_of_pos _ (by omega)
    have h2 : 0 ≤ (-a).fmod (-b) := Int.fmod_nonneg_of_pos _ (by omega)
    have e : (-a).fmod (-b) = -(a.fmod b) := Int.neg_fmod_neg ..
    omega
  · have h1 : a.fmod b < b := Int.fmod_lt_of_pos _ hb
    have h2 : 0 ≤ a.fmod b := Int.fmod_nonneg_of_pos _ hb
    omega
theorem gcd_fmod (a b : Int) : Int.gcd b (a.fmod b) = Int.gcd a b := by
  rw [Int.fmod_def, Int.gcd_sub_mul_left_right, Int.gcd_comm]
theorem fuel_big {k : Nat} (h : k < 900000000) : 2 * k + 3 ≤ fuel := by
  unfold fuel
  have h1 : (2 : Nat) ^ 32 ≤ 2 ^ 1000000 := Nat.pow_le_pow_right (by decide) (by decide)
  have h2 : (2 : Nat) ^ 32 = 4294967296 := rfl
  omega
/-- two turns at least halve -/
theorem mod_half {b r : Nat} (h0 : 0 < r) (h : r ≤ b) : 2 * (b % r) < b := by
  have h1 := Nat.mod_lt b h0
  have h2 := Nat.div_add_mod b r
  have h3 : 1 ≤ b / r := Nat.div_pos h h0
  have h4 := Nat.mul_le_mul_left r h3
  omega
theorem emod_abs {b r : Int} (h1 : 0 < b) (h2 : 0 < r) : (b % r).natAbs = b.natAbs % r.natAbs := by
  obtain ⟨n, rfl⟩ := Int.eq_ofNat_of_zero_le (Int.le_of_lt h1)
  obtain ⟨m, rfl⟩ := Int.eq_ofNat_of_zero_le (Int.le_of_lt h2)
  show ((n : Int) % (m : Int)).natAbs = n % m
  have e : ((n : Int) % (m : Int)) = ((n % m : Nat) : Int) := rfl
  rw [e]
  rfl
theorem fmod_abs {b r : Int} (h : (0 < b ∧ 0 < r) ∨ (b < 0 ∧ r < 0)) : (b.fmod r).natAbs = b.natAbs % r.natAbs := by
  rcases h with ⟨h1, h2⟩ | ⟨h1, h2⟩
  · rw [Int.fmod_eq_emod_of_nonneg _ (by omega), emod_abs h1 h2]
  · have e : (-b).fmod (-r) = -(b.fmod r) := Int.neg_fmod_neg ..
    rw [Int.fmod_eq_emod_of_nonneg _ (by omega)] at e
    have k := emod_abs (b := -b) (r := -r) (by omega) (by omega)
    rw [e, Int.natAbs_neg, Int.natAbs_neg, Int.natAbs_neg] at k
    exact k
theorem fmod_sign {a b : Int} (h : b ≠ 0) : (0 < b → 0 ≤ a.fmod b) ∧ (b < 0 → a.fmod b ≤ 0) := by
  refine ⟨fun p => Int.fmod_nonneg_of_pos _ p, fun p => ?_⟩
  have h2 : 0 ≤ (-a).fmod (-b) := Int.fmod_nonneg_of_pos _ (by omega)
  have e : (-a).fmod (-b) = -(a.fmod b) := Int.neg_fmod_neg ..
  omega
theorem while_succ (test : DEnv → Sto → RE D) (body : DEnv → Sto → RS) (n : Nat) (δ : DEnv) (S1 : Sto) : whileL test body (n + 1) δ S1 = (test δ S1).st δ fun d S2 => match d with
    | .p (.bl true) => loopEnd (body δ S2) (whileL test body n)
    | .p (.bl false) => .next δ S2
    | _ => .stuck := rfl
theorem gcd_end (Γ : Tab) (FT : FldT) (n : Nat) (a : Int) : whileL (evE Γ FT (.cmp .NotEq (.var 1) (.int 0))) (exSs Γ FT (.cons (.par 0 1 (.var 1) (.bin .Mod (.var 0) (.var 1))) .nil)) (n + 1) [some (.p (.int a)), some (.p (.int 0))] [] = .next [some (.p (.int a)), some (.p (.int 0))] [] := by
  rw [while_succ]
  simp
theorem gcd_turn (Γ : Tab) (FT : FldT) (n : Nat) (a b : Int) (hb : b ≠ 0) : whileL (evE Γ FT (.cmp .NotEq (.var 1) (.int 0))) (exSs Γ FT (.cons (.par 0 1 (.var 1) (.bin .Mod (.var 0) (.var 1))) .nil)) (n + 1) [some (.p (.int a)), some (.p (.int b))] [] = whileL (evE Γ FT (.cmp .NotEq (.var 1) (.int 0))) (exSs Γ FT (.cons (.par 0 1 (.var 1) (.bin .Mod (.var 0) (.var 1))) .nil)) n [some (.p (.int b)), some (.p (.int (a.fmod b)))] [] := by
  rw [while_succ]
  simp [hb, bin_mod _ _ _ hb]
theorem gcd_loop (Γ : Tab) (FT : FldT) : ∀ (k n : Nat) (a b : Int), b.natAbs < 2 ^ k → 2 * k + 1 ≤ n → ∃ r : Int, r.natAbs = Int.gcd a b ∧
    whileL (evE Γ FT (.cmp .NotEq (.var 1) (.int 0))) (exSs Γ FT (.cons (.par 0 1 (.var 1) (.bin .Mod (.var 0) (.var 1))) .nil)) n [some (.p (.int a)), some (.p (.int b))] [] = .next [some (.p (.int r)), some (.p (.int 0))] []
  | 0, n, a, b, h, hn => by
    obtain ⟨m, rfl⟩ : ∃ m, n = m + 1 := ⟨n - 1, by omega⟩
    have hb : b = 0 := by
      have : (2 : Nat) ^ 0 = 1 := rfl
      omega
    subst hb
    exact ⟨a, by simp, gcd_end Γ FT m a⟩
  | k + 1, n, a, b, h, hn => by
    obtain ⟨m, rfl⟩ : ∃ m, n = m + 3 := ⟨n - 3, by omega⟩
    by_cases hb : b = 0
    · subst hb
      exact ⟨a, by simp, gcd_end Γ FT _ a⟩
    · rw [gcd_turn Γ FT _ a b hb]
      by_cases hr : a.fmod b = 0
      · rw [hr]
        refine ⟨b, ?_, gcd_end Γ FT _ b⟩
        have := gcd_fmod a b
        rw [hr] at this
        simpa using this
      · rw [gcd_turn Γ FT _ b _ hr]
        have sm := fmod_small a hb
        have sg := fmod_sign (a := a) hb
        have hs : (0 < b ∧ 0 < a.fmod b) ∨ (b < 0 ∧ a.fmod b < 0) := by
          rcases Int.lt_or_gt_of_ne hb with z | z
          · exact .inr ⟨z, by have := sg.2 z; omega⟩
          · exact .inl ⟨z, by have := sg.1 z; omega⟩
        have e := fmod_abs hs
        have hf := mod_half (b := b.natAbs) (r := (a.fmod b).natAbs) (by omega) (by omega)
        have hp : 2 ^ (k + 1) = 2 * 2 ^ k := by rw [Nat.pow_succ, Nat.mul_comm]
        obtain ⟨r, h1, h2⟩ := gcd_loop Γ FT k (m + 1) (a.fmod b) (b.fmod (a.fmod b)) (by rw [e]; omega) (by omega)
        exact ⟨r, by rw [h1, gcd_fmod, gcd_fmod], h2⟩
theorem divisor_eq (a b : Int) (h : b.natAbs.log2 < 800000000) : f_divisor_of [.int a, .int b] = .ok (.int (Int.gcd a b)) := by
  have hf := fuel_big (k := b.natAbs.log2 + 1) (by omega)
  obtain ⟨r, h1, h2⟩ := gcd_loop g0 ft (b.natAbs.log2 + 1) fuel a b Nat.lt_log2_self (by omega)
  simp [f_divisor_of, fnP_eq, i_divisor_of, b_divisor_of_0, ex_whl, h2]
  omega
/-! ### Ratio(a, b) -/
theorem fdiv_gcd (a b : Int) (hb : b ≠ 0) (g : Int) (hg : g = if 0 < b then (Int.gcd a b : Int) else -(Int.gcd a b : Int)) : g ≠ 0 ∧ a.fdiv g = (Rat.divInt a b).num ∧ b.fdiv g = ((Rat.divInt a b).den : Int) := by
  have gp : 0 < Int.gcd a b := Int.gcd_pos_of_ne_zero_right _ hb
  have gp' : (0 : Int) < (Int.gcd a b : Int) := by omega
  rw [Rat.num_divInt, Rat.den_divInt, if_neg hb, Int.gcd_comm b a]
  by_cases h : 0 < b
  · rw [if_pos h] at hg
    subst hg
    refine ⟨by omega, ?_, ?_⟩
    · rw [Int.fdiv_eq_ediv_of_nonneg _ (by omega), Int.sign_eq_one_of_pos h, Int.one_mul]
    · rw [Int.fdiv_eq_ediv_of_nonneg _ (by omega), Int.natCast_ediv, Int.natAbs_of_nonneg (by omega)]
  · rw [if_neg h] at hg
    subst hg
    refine ⟨by omega, ?_, ?_⟩
    · rw [show a = -(-a) by omega, Int.neg_fdiv_neg, Int.fdiv_eq_ediv_of_nonneg _ (by omega), Int.sign_eq_neg_one_of_neg (by omega), Int.neg_neg]
      congr 1
      omega
    · rw [show b.fdiv (-(Int.gcd a b : Int)) = (-(-b)).fdiv (-(Int.gcd a b : Int)) by rw [Int.neg_neg], Int.neg_fdiv_neg, Int.fdiv_eq_ediv_of_nonneg _ (by omega), Int.natCast_ediv]
      congr 1
      omega
theorem gcd_le (a b : Int) (hb : b ≠ 0) : Int.gcd a b ≤ b.natAbs := Nat.le_of_dvd (by omega) (Int.gcd_dvd_natAbs_right ..)
theorem log2_mono {a b : Nat} (h : a ≤ b) : a.log2 ≤ b.log2 := by
  rcases Nat.eq_zero_or_pos a with z | z
  · rw [z]
    simp
  · rw [Nat.le_log2 (by omega)]
    exact Nat.le_trans (Nat.log2_self_le (by omega)) h
theorem ratio_new (a b : Int) (hb : b ≠ 0) (h : b.natAbs.log2 < 90000000) : f_Ratio_init [.int a, .int b] = .ok (rt (Rat.divInt a b)) := by
  have hd := divisor_eq a b (by omega)
  have gl := log2_mono (gcd_le a b hb)
  have dv : ∀ g : Int, g ≠ 0 → g.natAbs = Int.gcd a b → divOk g = true := fun g h1 h2 => by
    unfold divOk
    exact decide_eq_true h1
  by_cases hp : 0 < b
  · obtain ⟨h0, h1, h2⟩ := fdiv_gcd a b hb (Int.gcd a b : Int) (by rw [if_pos hp])
    have hk := dv _ h0 (by omega)
    simp [f_Ratio_init, eitherP, mkOf, runI, i_Ratio_init, hb, hp, hd, bin_div _ _ _ hk, h1, h2, setFld, frzF, rt]
  · obtain ⟨h0, h1, h2⟩ := fdiv_gcd a b hb (-(Int.gcd a b : Int)) (by rw [if_neg hp])
    have hk := dv _ h0 (by omega)
    simp [f_Ratio_init, eitherP, mkOf, runI, i_Ratio_init, hb, hp, hd, bin_div _ _ _ hk, h1, h2, setFld, frzF, rt]
theorem ratio_zero (a : Int) : f_Ratio_init [.int a, .int 0] = .exc 100 none := by
  simp [f_Ratio_init, eitherP, mkOf, runI, i_Ratio_init]
end RP
end

section
set_option Elab.async false
set_option linter.all false
set_option maxRecDepth 100000
set_option maxHeartbeats 4000000
set_option exponentiation.threshold 20000
/-! The operations of Ratios. -/
namespace RP
open PySem
/-- top and bottom have at most n bits -/
structure Hb (n : Nat) (q : Rat) : Prop where
  num : q.num.natAbs < 2 ^ n
  den : q.den < 2 ^ n
theorem Hb.mono {n m : Nat} {q : Rat} (h : Hb n q) (k : n ≤ m) : Hb m q :=
  ⟨Nat.lt_of_lt_of_le h.num (Nat.pow_le_pow_right (by decide) k), Nat.lt_of_lt_of_le h.den (Nat.pow_le_pow_right (by decide) k)⟩
/-- a value that is a number -/
def IsN (x : P) (q : Rat) : Prop := x = rt q ∨ ∃ i : Int, x = .int i ∧ q = (i : Rat)
theorem isn_rt (q : Rat) : IsN (rt q) q := .inl rfl
theorem isn_int (i : Int) : IsN (.int i) (i : Rat) := .inr ⟨i, rfl, rfl⟩
theorem tq_int (i : Int) : tq (i : Rat) = .tup [.int i, .int 1] := by
  simp [tq]
theorem parts_n {x : P} {q : Rat} (h : IsN x q) : f_parts [x] = .ok (tq q) := by
  rcases h with rfl | ⟨i, rfl, rfl⟩
  · exact parts_rt q
  · rw [parts_int, tq_int]
theorem checked_n {x : P} {q : Rat} (h : IsN x q) : f_checked [x] = .ok (tq q) := by
  rcases h with rfl | ⟨i, rfl, rfl⟩
  · exact checked_rt q
  · rw [checked_int, tq_int]
theorem log2_lt_of {n k : Nat} (h : n < 2 ^ k) (hk : 0 < k) : n.log2 < k := by
  rcases Nat.eq_zero_or_pos n with z | z
  · rw [z]
    simpa using hk
  · exact (Nat.log2_lt (by omega)).mpr h
theorem log_lt {x n k : Nat} (h : x < 2 ^ n) (hk : n < k) : x.log2 < k := by
  rcases Nat.eq_zero_or_pos x with z | z
  · rw [z]
    simp
    omega
  · exact Nat.lt_trans ((Nat.log2_lt (by omega)).mpr h) hk
theorem mul_ok {i j : Int} {n m : Nat} (h1 : i.natAbs < 2 ^ n) (h2 : j.natAbs < 2 ^ m) (h : n + m ≤ 90000000) : mulOk i j = true := by
  have a := log_lt (k := n + 1) h1 (by omega)
  have b := log_lt (k := m + 1) h2 (by omega)
  unfold mulOk
  exact decide_eq_true (by omega)
theorem den_nat (q : Rat) {n : Nat} (h : q.den < 2 ^ n) : ((q.den : Int)).natAbs < 2 ^ n := by simpa using h
theorem mul_log {i j : Int} {n m : Nat} (h1 : i.natAbs < 2 ^ n) (h2 : j.natAbs < 2 ^ m) (h : n + m ≤ 80000000) : (i * j).natAbs.log2 < 90000000 := by
  refine log_lt (n := n + m) ?_ (by omega)
  rw [Int.natAbs_mul, Nat.pow_add]
  exact Nat.mul_lt_mul'' h1 h2
theorem den_mul_ne (a b : Rat) : (a.den : Int) * (b.den : Int) ≠ 0 := by
  have h1 := a.den_nz
  have h2 := b.den_nz
  intro z
  rcases Int.mul_eq_zero.mp z with z | z <;> omega
section
variable {a b : Rat} {n m : Nat} {y : P}
theorem ratio_add (hy : IsN y b) (ha : Hb n a) (hb : Hb m b) (h : n + m ≤ 80000000) : f_Ratio_add [rt a, y] = .ok (rt (a + b)) := by
  have m1 := mul_ok ha.num (den_nat b hb.den) (by omega)
  have m2 := mul_ok hb.num (den_nat a ha.den) (by omega)
  have m3 := mul_ok (den_nat a ha.den) (den_nat b hb.den) (by omega)
  have nw := ratio_new (a.num * b.den + b.num * a.den) (a.den * b.den) (den_mul_ne a b) (mul_log (den_nat a ha.den) (den_nat b hb.den) h)
  have e : Rat.divInt (a.num * b.den + b.num * a.den) (a.den * b.den) = a + b := by
    rw [Rat.add_def', ← Rat.divInt_ofNat]
    rfl
  rw [e] at nw
  simp [f_Ratio_add, fnP_eq, i_Ratio_add, checked_n hy]
  simp [tq, rt, fldIx, bin_mul _ _ _ m1, bin_mul _ _ _ m2, bin_mul _ _ _ m3, nw]
theorem ratio_sub (hy : IsN y b) (ha : Hb n a) (hb : Hb m b) (h : n + m ≤ 80000000) : f_Ratio_sub [rt a, y] = .ok (rt (a - b)) := by
  have m1 := mul_ok ha.num (den_nat b hb.den) (by omega)
  have m2 := mul_ok hb.num (den_nat a ha.den) (by omega)
  have m3 := mul_ok (den_nat a ha.den) (den_nat b hb.den) (by omega)
  have nw := ratio_new (a.num * b.den - b.num * a.den) (a.den * b.den) (den_mul_ne a b) (mul_log (den_nat a ha.den) (den_nat b hb.den) h)
  have e : Rat.divInt (a.num * b.den - b.num * a.den) (a.den * b.den) = a - b := by
    rw [Rat.sub_def', ← Rat.divInt_ofNat]
    rfl
  rw [e] at nw
  simp [f_Ratio_sub, fnP_eq, i_Ratio_sub, checked_n hy]
  simp [tq, rt, fldIx, bin_mul _ _ _ m1, bin_mul _ _ _ m2, bin_mul _ _ _ m3, nw]
theorem ratio_mul (hy : IsN y b) (ha : Hb n a) (hb : Hb m b) (h : n + m ≤ 80000000) : f_Ratio_mul [rt a, y] = .ok (rt (a * b)) := by
  have m1 := mul_ok ha.num hb.num (by omega)
  have m3 := mul_ok (den_nat a ha.den) (den_nat b hb.den) (by omega)
  have nw := ratio_new (a.num * b.num) (a.den * b.den) (den_mul_ne a b) (mul_log (den_nat a ha.den) (den_nat b hb.den) h)
  have e : Rat.divInt (a.num * b.num) (a.den * b.den) = a * b := by
    rw [Rat.mul_def', ← Rat.divInt_ofNat]
    rfl
  rw [e] at nw
  simp [f_Ratio_mul, fnP_eq, i_Ratio_mul, checked_n hy]
  simp [tq, rt, fldIx, bin_mul _ _ _ m1, bin_mul _ _ _ m3, nw]
theorem ratio_neg (ha : Hb n a) (h : n ≤ 80000000) : f_Ratio_neg [rt a] = .ok (rt (-a)) := by
  have nw := ratio_new (-a.num) a.den (by have := a.den_nz; omega) (log_lt (den_nat a ha.den) (by omega))
  have e : Rat.divInt (-a.num) a.den = -a := by
    rw [← Rat.neg_divInt, Rat.num_divInt_den]
  rw [e] at nw
  simp [f_Ratio_neg, fnP_eq, i_Ratio_neg]
  simp [rt, fldIx, nw]
theorem ratio_lt (hy : IsN y b) (ha : Hb n a) (hb : Hb m b) (h : n + m ≤ 80000000) : f_Ratio_lt [rt a, y] = .ok (.bl (decide (a < b))) := by
  have m1 := mul_ok ha.num (den_nat b hb.den) (by omega)
  have m2 := mul_ok hb.num (den_nat a ha.den) (by omega)
  simp [f_Ratio_lt, fnP_eq, i_Ratio_lt, checked_n hy]
  simp [tq, rt, fldIx, bin_mul _ _ _ m1, bin_mul _ _ _ m2, Rat.lt_iff]
theorem ratio_le (hy : IsN y b) (ha : Hb n a) (hb : Hb m b) (h : n + m ≤ 80000000) : f_Ratio_le [rt a, y] = .ok (.bl (decide (a ≤ b))) := by
  have m1 := mul_ok ha.num (den_nat b hb.den) (by omega)
  have m2 := mul_ok hb.num (den_nat a ha.den) (by omega)
  simp [f_Ratio_le, fnP_eq, i_Ratio_le, checked_n hy]
  simp [tq, rt, fldIx, bin_mul _ _ _ m1, bin_mul _ _ _ m2, Rat.le_iff]
theorem eq_two (Γ : Tab) (i j k l : Int) : Γ.eq (.tup [.int i, .int j]) (.tup [.int k, .int l]) = .ok (.bl (decide (i = k ∧ j = l))) := by
  unfold Tab.eq eqDeep
  simp only [eqN, eqL, eq0, List.length_cons, List.length_nil, BEq.rfl, if_true]
  by_cases h1 : i = k
  · subst h1
    by_cases h2 : j = l
    · subst h2
      simp
    · have : (j == l) = false := by simpa using h2
      simp [this, h2]
  · have : (i == k) = false := by simpa using h1
    simp [this, h1]
theorem rat_eq (a b : Rat) : (a.num = b.num ∧ (a.den : Int) = (b.den : Int)) ↔ a = b :=
  ⟨fun h => Rat.ext h.1 (by have := h.2; omega), fun h => by rw [h]; exact ⟨rfl, rfl⟩⟩
theorem ratio_eq (hy : IsN y b) : f_Ratio_eq [rt a, y] = .ok (.bl (decide (a = b))) := by
  simp [f_Ratio_eq, fnP_eq, i_Ratio_eq, parts_n hy]
  simp [tq, rt, fldIx, eq_two]
  rw [Bool.eq_iff_iff]
  simp only [Bool.and_eq_true, decide_eq_true_eq]
  rw [← rat_eq a b]
  constructor <;> intro h <;> exact ⟨h.1.symm, by omega⟩
/-! ### by a table -/
/-- the table has the methods of Ratios -/
structure RatG (Γ : Tab) : Prop where
  add : Γ.meth 0 mAdd = some f_Ratio_add
  sub : Γ.meth 0 mSub = some f_Ratio_sub
  mul : Γ.meth 0 mMul = some f_Ratio_mul
  neg : Γ.meth 0 mNeg = some f_Ratio_neg
  eq : Γ.meth 0 mEq = some f_Ratio_eq
  lt : Γ.meth 0 mLt = some f_Ratio_lt
  le : Γ.meth 0 mLe = some f_Ratio_le
variable {Γ : Tab} (G : RatG Γ)
theorem bin_n (f : PFn) (op : Operator) (mm : Nat) (ho : opM op = some mm) (hm : Γ.meth 0 mm = some f) (hy : IsN y b) : Γ.bin op (rt a) y = f [rt a, y] := by
  rcases hy with rfl | ⟨i, rfl, rfl⟩
  · simp [Tab.bin, rt, ho, hm]
  · simp [Tab.bin, rt, ho, hm]
include G
theorem g_add (hy : IsN y b) (ha : Hb n a) (hb : Hb m b) (h : n + m ≤ 80000000) : Γ.bin .Add (rt a) y = .ok (rt (a + b)) := (bin_n _ _ _ rfl G.add hy).trans (ratio_add hy ha hb h)
theorem g_sub (hy : IsN y b) (ha : Hb n a) (hb : Hb m b) (h : n + m ≤ 80000000) : Γ.bin .Sub (rt a) y = .ok (rt (a - b)) := (bin_n _ _ _ rfl G.sub hy).trans (ratio_sub hy ha hb h)
theorem g_mul (hy : IsN y b) (ha : Hb n a) (hb : Hb m b) (h : n + m ≤ 80000000) : Γ.bin .Mult (rt a) y = .ok (rt (a * b)) := (bin_n _ _ _ rfl G.mul hy).trans (ratio_mul hy ha hb h)
theorem g_neg (ha : Hb n a) (h : n ≤ 80000000) : Γ.neg (rt a) = .ok (rt (-a)) := by
  have e : Γ.neg (rt a) = f_Ratio_neg [rt a] := by simp [Tab.neg, rt, G.neg]
  rw [e, ratio_neg ha h]
theorem g_lt (hy : IsN y b) (ha : Hb n a) (hb : Hb m b) (h : n + m ≤ 80000000) : Γ.cmp .Lt (rt a) y = .ok (.bl (decide (a < b))) := by
  have e : Γ.cmp .Lt (rt a) y = f_Ratio_lt [rt a, y] := by
    rcases hy with rfl | ⟨i, rfl, rfl⟩
    · simp [Tab.cmp, rt, G.lt]
    · simp [Tab.cmp, rt, G.lt]
  rw [e, ratio_lt hy ha hb h]
theorem g_le (hy : IsN y b) (ha : Hb n a) (hb : Hb m b) (h : n + m ≤ 80000000) : Γ.cmp .LtE (rt a) y = .ok (.bl (decide (a ≤ b))) := by
  have e : Γ.cmp .LtE (rt a) y = f_Ratio_le [rt a, y] := by
    rcases hy with rfl | ⟨i, rfl, rfl⟩
    · simp [Tab.cmp, rt, G.le]
    · simp [Tab.cmp, rt, G.le]
  rw [e, ratio_le hy ha hb h]
theorem g_feq (hy : IsN y b) : Γ.feq 0 (rt a) y = some (decide (a = b)) := by
  unfold Tab.feq
  simp only [G.eq, ratio_eq hy]
  by_cases h : a = b
  · simp [h]
  · have : sameP (rt a) y = false := by
      cases q : sameP (rt a) y with
      | false => rfl
      | true =>
        have e := same_eq _ _ q
        rcases hy with rfl | ⟨i, rfl, _⟩
        · simp only [rt, P.ob.injEq, List.cons.injEq, P.int.injEq, and_true, true_and] at e
          exact absurd ((rat_eq a b).mp e) h
        · simp [rt] at e
    simp [this]
theorem g_eq (hy : IsN y b) : Γ.eq (rt a) y = .ok (.bl (decide (a = b))) := by
  have e := g_feq (Γ := Γ) (a := a) G hy
  unfold Tab.eq eqDeep
  unfold rt at e ⊢
  simp only [eqN, e]
end
theorem hb_of {n : Nat} {q : Rat} (h : q.num.natAbs < 2 ^ n ∧ q.den < 2 ^ n) : Hb n q := ⟨h.1, h.2⟩
theorem hb_divInt {i j : Int} {n : Nat} (hj : j ≠ 0) (h1 : i.natAbs < 2 ^ n) (h2 : j.natAbs < 2 ^ n) : Hb n (Rat.divInt i j) := by
  have g0 : 0 < Int.gcd j i := Int.gcd_pos_of_ne_zero_left _ hj
  constructor
  · rw [Rat.num_divInt]
    refine Nat.lt_of_le_of_lt ?_ h1
    rw [Int.natAbs_ediv_of_dvd (by rw [Int.gcd_comm]; exact Int.dvd_mul_of_dvd_right (Int.gcd_dvd_left ..)), Int.natAbs_mul, Int.natAbs_sign_of_ne_zero hj, Nat.one_mul]
    exact Nat.div_le_self ..
  · rw [Rat.den_divInt, if_neg hj]
    exact Nat.lt_of_le_of_lt (Nat.div_le_self ..) h2
theorem two_pow_mul {i j : Int} {n m : Nat} (h1 : i.natAbs < 2 ^ n) (h2 : j.natAbs < 2 ^ m) : (i * j).natAbs < 2 ^ (n + m) := by
  rw [Int.natAbs_mul, Nat.pow_add]
  exact Nat.mul_lt_mul'' h1 h2
theorem hb_add {a b : Rat} {n m : Nat} (ha : Hb n a) (hb : Hb m b) : Hb (n + m + 1) (a + b) := by
  have e : Rat.divInt (a.num * b.den + b.num * a.den) (a.den * b.den) = a + b := by
    rw [Rat.add_def', ← Rat.divInt_ofNat]
    rfl
  rw [← e]
  have h1 := two_pow_mul ha.num (den_nat b hb.den)
  have h2 := two_pow_mul hb.num (den_nat a ha.den)
  have h3 := two_pow_mul (den_nat a ha.den) (den_nat b hb.den)
  rw [Nat.add_comm m n] at h2
  have h4 : 2 ^ (n + m + 1) = 2 ^ (n + m) * 2 := Nat.pow_succ ..
  exact hb_divInt (den_mul_ne a b) (by omega) (by omega)
theorem hb_neg {a : Rat} {n : Nat} (ha : Hb n a) : Hb n (-a) := ⟨by rw [Rat.neg_num, Int.natAbs_neg]; exact ha.num, ha.den⟩
theorem hb_sub {a b : Rat} {n m : Nat} (ha : Hb n a) (hb : Hb m b) : Hb (n + m + 1) (a - b) := by
  rw [Rat.sub_eq_add_neg]
  exact hb_add ha (hb_neg hb)
theorem hb_mul {a b : Rat} {n m : Nat} (ha : Hb n a) (hb : Hb m b) : Hb (n + m) (a * b) := by
  have e : Rat.divInt (a.num * b.num) (a.den * b.den) = a * b := by
    rw [Rat.mul_def', ← Rat.divInt_ofNat]
    rfl
  rw [← e]
  exact hb_divInt (den_mul_ne a b) (two_pow_mul ha.num hb.num) (two_pow_mul (den_nat a ha.den) (den_nat b hb.den))
theorem hb_inv {a : Rat} {n : Nat} (hn : 0 < n) (ha : Hb n a) : Hb n a⁻¹ := by
  constructor
  · rw [Rat.num_inv, Int.natAbs_mul]
    have : a.num.sign.natAbs ≤ 1 := by
      rw [Int.natAbs_sign]
      split <;> omega
    refine Nat.lt_of_le_of_lt (Nat.mul_le_mul_right _ this) ?_
    rw [Nat.one_mul]
    exact den_nat a ha.den
  · rw [Rat.den_inv]
    split
    · exact Nat.one_lt_two_pow (by omega)
    · exact ha.num
theorem hb_div {a b : Rat} {n m : Nat} (hm : 0 < m) (ha : Hb n a) (hb : Hb m b) : Hb (n + m) (a / b) := by
  rw [Rat.div_def]
  exact hb_mul ha (hb_inv hm hb)
theorem hb_int {i : Int} {n : Nat} (hn : 0 < n) (h : i.natAbs < 2 ^ n) : Hb n (i : Rat) := ⟨by simpa using h, by simpa using Nat.one_lt_two_pow (by omega)⟩
end RP
end

section
set_option Elab.async false
set_option linter.all false
set_option maxRecDepth 100000
set_option maxHeartbeats 4000000
set_option exponentiation.threshold 20000
/-! The law's own fractions. -/
namespace RP
open PySem
theorem frac_end (Γ : Tab) (FT : FldT) (x y : Option D) (n a : Nat) : whileL (evE Γ FT (.cmp .Gt (.var 3) (.int 0))) (exSs Γ FT (.cons (.par 2 3 (.var 3) (.bin .Mod (.var 2) (.var 3))) .nil)) (n + 1) [x, y, some (.p (.int a)), some (.p (.int (0 : Nat)))] [] = .next [x, y, some (.p (.int a)), some (.p (.int 0))] [] := by
  rw [while_succ]
  simp
theorem frac_turn (Γ : Tab) (FT : FldT) (x y : Option D) (n a b : Nat) (hb : b ≠ 0) : whileL (evE Γ FT (.cmp .Gt (.var 3) (.int 0))) (exSs Γ FT (.cons (.par 2 3 (.var 3) (.bin .Mod (.var 2) (.var 3))) .nil)) (n + 1) [x, y, some (.p (.int a)), some (.p (.int b))] [] = whileL (evE Γ FT (.cmp .Gt (.var 3) (.int 0))) (exSs Γ FT (.cons (.par 2 3 (.var 3) (.bin .Mod (.var 2) (.var 3))) .nil)) n [x, y, some (.p (.int b)), some (.p (.int ((a % b : Nat) : Int)))] [] := by
  have hz : (b : Int) ≠ 0 := by omega
  have e : (a : Int).fmod (b : Int) = ((a % b : Nat) : Int) := by
    rw [Int.fmod_eq_emod_of_nonneg _ (by omega)]
    rfl
  have pos : 0 < b := by omega
  rw [while_succ]
  simp [pos, bin_mod _ _ _ hz, e]
theorem frac_loop (Γ : Tab) (FT : FldT) (x y : Option D) : ∀ (k n a b : Nat), b < 2 ^ k → 2 * k + 1 ≤ n →
    whileL (evE Γ FT (.cmp .Gt (.var 3) (.int 0))) (exSs Γ FT (.cons (.par 2 3 (.var 3) (.bin .Mod (.var 2) (.var 3))) .nil)) n [x, y, some (.p (.int a)), some (.p (.int b))] [] = .next [x, y, some (.p (.int (Nat.gcd a b : Nat))), some (.p (.int 0))] []
  | 0, n, a, b, h, hn => by
    obtain ⟨m, rfl⟩ : ∃ m, n = m + 1 := ⟨n - 1, by omega⟩
    have hb : b = 0 := by
      have : (2 : Nat) ^ 0 = 1 := rfl
      omega
    subst hb
    rw [frac_end]
    simp
  | k + 1, n, a, b, h, hn => by
    obtain ⟨m, rfl⟩ : ∃ m, n = m + 3 := ⟨n - 3, by omega⟩
    by_cases hb : b = 0
    · subst hb
      rw [frac_end]
      simp
    · have g1 : ∀ a b : Nat, Nat.gcd b (a % b) = Nat.gcd a b := fun a b => by rw [Nat.gcd_comm a b, Nat.gcd_rec b a, Nat.gcd_comm]
      rw [frac_turn Γ FT x y _ a b hb]
      by_cases hr : a % b = 0
      · have := g1 a b
        rw [hr, Nat.gcd_zero_right] at this
        rw [hr, frac_end, ← this]
      · rw [frac_turn Γ FT x y _ b _ hr]
        have sm := Nat.mod_lt a (show b > 0 by omega)
        have hf := mod_half (b := b) (r := a % b) (by omega) (by omega)
        have hp : 2 ^ (k + 1) = 2 * 2 ^ k := by rw [Nat.pow_succ, Nat.mul_comm]
        have ih := frac_loop Γ FT x y k (m + 1) (a % b) (b % (a % b)) (by omega) (by omega)
        rw [g1, g1] at ih
        exact ih
theorem frac_eq (a b : Int) (hb : b ≠ 0) (h : b.natAbs.log2 < 90000000) : f_l_frac [.int a, .int b] = .ok (tq (Rat.divInt a b)) := by
  have gl := log2_mono (gcd_le a b hb)
  have dv : ∀ g : Int, g ≠ 0 → g.natAbs = Int.gcd a b → divOk g = true := fun g h1 h2 => by
    unfold divOk
    exact decide_eq_true h1
  have ab : ∀ i : Int, (if i < 0 then -i else i) = (i.natAbs : Int) := fun i => by split <;> omega
  have lp := frac_loop g0 ft (some (.p (.int a))) (some (.p (.int b))) (b.natAbs.log2 + 1) fuel a.natAbs b.natAbs Nat.lt_log2_self (by have := fuel_big (k := b.natAbs.log2 + 1) (by omega); omega)
  have eg : Nat.gcd a.natAbs b.natAbs = Int.gcd a b := rfl
  rw [eg] at lp
  by_cases hp : 0 < b
  · obtain ⟨h0, h1, h2⟩ := fdiv_gcd a b hb (Int.gcd a b : Int) (by rw [if_pos hp])
    have hk := dv _ h0 (by omega)
    have hn : ¬ b < 0 := by omega
    rw [show ((b.natAbs : Nat) : Int) = b by omega] at lp
    simp [f_l_frac, fnP_eq, i_l_frac, b_l_frac_0, ex_whl, ab, lp, hn, bin_div _ _ _ hk, h1, h2, tq]
  · obtain ⟨h0, h1, h2⟩ := fdiv_gcd a b hb (-(Int.gcd a b : Int)) (by rw [if_neg hp])
    have hk := dv _ h0 (by omega)
    have hn : b < 0 := by omega
    rw [show ((b.natAbs : Nat) : Int) = -b by omega] at lp
    have e0 : (0 : Int) - (Int.gcd a b : Int) = -(Int.gcd a b : Int) := by omega
    simp [f_l_frac, fnP_eq, i_l_frac, b_l_frac_0, ex_whl, ab, lp, hn, bin_div _ _ _ hk, h1, h2, tq]
section
variable {a b : Rat} {n m : Nat}
theorem eq_tq (Γ : Tab) (a b : Rat) : Γ.eq (tq a) (tq b) = .ok (.bl (decide (a = b))) := by
  unfold tq
  rw [eq_two]
  congr 2
  rw [Bool.eq_iff_iff]
  simp only [decide_eq_true_eq]
  exact rat_eq a b
theorem mk_rat (q : Rat) : Rat.divInt q.num (q.den : Int) = q := Rat.num_divInt_den q
end
end RP
end

section
set_option Elab.async false
set_option linter.all false
set_option maxRecDepth 100000
set_option maxHeartbeats 4000000
set_option exponentiation.threshold 20000
/-! Draws. -/
namespace RP
open PySem
/-- a box of draws -/
def bx (a b c : Int) : Slot := .live (.lst [.int a, .int b, .int c])
structure BxOk (n : Nat) (a b c : Int) : Prop where
  a0 : 0 ≤ a
  b0 : 0 ≤ b
  b1 : b ≤ n
  c0 : 0 ≤ c
  c1 : c ≤ 100000000
theorem small_log {i : Int} {k : Nat} (h : i.natAbs < 2 ^ k) (hk : 0 < k) : i.natAbs.log2 < k := log2_lt_of h hk
theorem pow_ten (Γ : Tab) : Γ.bin .Pow (.int 10) (.int 18) = .ok (.int 1000000000000000000) := by
  rw [bin_pow _ _ _ (by decide)]
  rfl
theorem pow3 (Γ : Tab) (x : Int) (h : x.natAbs < 2 ^ 200) : Γ.bin .Pow (.int x) (.int 3) = .ok (.int (x ^ 3)) := by
  rw [bin_pow]
  · rfl
  · unfold powOk
    simp only [Bool.and_eq_true, decide_eq_true_eq]
    exact ⟨⟨by decide, by decide⟩, Nat.lt_trans (small_log h (by decide)) (by decide)⟩
theorem mul_small (Γ : Tab) (x y : Int) (hx : x.natAbs < 2 ^ 200) (hy : y.natAbs < 2 ^ 200) : Γ.bin .Mult (.int x) (.int y) = .ok (.int (x * y)) := bin_mul _ _ _ (mul_ok hx hy (by decide))
theorem div_small (Γ : Tab) (x y : Int) (h0 : 0 < y) (hy : y.natAbs < 2 ^ 200) : Γ.bin .FloorDiv (.int x) (.int y) = .ok (.int (x.fdiv y)) := bin_div _ _ _ (by
  unfold divOk
  exact decide_eq_true (by omega))
theorem take_ok {n : Nat} {a b c many : Int} (R : Sto) (B : BxOk n a b c) (hn : n ≤ 1000000) (hm : 0 < many) (hm2 : many.natAbs < 2 ^ 200) :
    ∃ v a' b', f_l_take [.loc 0, .p (.int many)] (bx a b c :: R) = .ok (.p (.int v)) (bx a' b' c :: R) ∧ 0 ≤ v ∧ v < many ∧ BxOk (n + 1) a' b' c := by
  obtain ⟨a0, b0, b1, c0, c1⟩ := B
  have mz : many ≠ 0 := by omega
  have dm : ∀ x, g0.bin .FloorDiv (.int x) (.int many) = .ok (.int (x.fdiv many)) := fun x => div_small _ _ _ hm hm2
  have mm : ∀ x, g0.bin .Mod (.int x) (.int many) = .ok (.int (x.fmod many)) := fun x => bin_mod _ _ _ mz
  by_cases h : 1000000000000000000 ≤ a
  · refine ⟨a.fmod many, a.fdiv many, b, ?_, Int.fmod_nonneg_of_pos _ hm, Int.fmod_lt_of_pos _ hm, ?_, b0, by omega, c0, c1⟩
    · simp [f_l_take, fnI, runI, i_l_take, bx, pow_ten, h, mm, dm, setIx, List.set]
    · rw [Int.fdiv_eq_ediv_of_nonneg _ (by omega)]
      exact Int.ediv_nonneg a0 (by omega)
  · have hx1 : (a + 7).natAbs < 2 ^ 200 := by
      have : (2 : Nat) ^ 200 = 1606938044258990275541962092341162602522202993782792835301376 := by decide
      omega
    have hx2 : (b + 1).natAbs < 2 ^ 200 := by
      have : (2 : Nat) ^ 200 = 1606938044258990275541962092341162602522202993782792835301376 := by decide
      omega
    have k1 := mul_small g0 (a + 7) 69069 hx1 (by decide)
    have k2 := mul_small g0 (b + 1) 40692 hx2 (by decide)
    have k3 := mul_small g0 (b + 1) 17389 hx2 (by decide)
    have k4 := pow3 g0 ((a + 7) * 69069 + (b + 1) * 40692 + c) (by
      have : (2 : Nat) ^ 200 = 1606938044258990275541962092341162602522202993782792835301376 := by decide
      omega)
    generalize hX : ((a + 7) * 69069 + (b + 1) * 40692 + c) ^ 3 = X at k4
    have k5 : g0.bin .Mod (.int X) (.int 2147483647) = .ok (.int (X.fmod 2147483647)) := bin_mod _ _ _ (by decide)
    have l1 : X.fmod 2147483647 < 2147483647 := Int.fmod_lt_of_pos _ (by decide)
    have l2 : 0 ≤ X.fmod 2147483647 := Int.fmod_nonneg_of_pos _ (by decide)
    generalize X.fmod 2147483647 = Y at k5 l1 l2
    have k6 := pow3 g0 (Y + (b + 1) * 17389) (by
      have : (2 : Nat) ^ 200 = 1606938044258990275541962092341162602522202993782792835301376 := by decide
      omega)
    generalize (Y + (b + 1) * 17389) ^ 3 = Z at k6
    have k7 : g0.bin .Mod (.int Z) (.int 2147483399) = .ok (.int (Z.fmod 2147483399)) := bin_mod _ _ _ (by decide)
    have k8 := div_small g0 (Z.fmod 2147483399) 64 (by decide) (by decide)
    refine ⟨((Z.fmod 2147483399).fdiv 64).fmod many, a, b + 1, ?_, Int.fmod_nonneg_of_pos _ hm, Int.fmod_lt_of_pos _ hm, a0, by omega, by omega, c0, c1⟩
    simp [f_l_take, fnI, runI, i_l_take, bx, pow_ten, h, mm, k1, k2, k3, k4, k5, k6, k7, k8, setIx, List.set]
end RP
end

section
set_option Elab.async false
set_option linter.all false
set_option maxRecDepth 100000
set_option maxHeartbeats 4000000
set_option exponentiation.threshold 20000
/-! Places, fees, amounts, books. -/
namespace RP
open PySem
theorem cell_ok (ns : List Int) (k : Nat) : ∃ i, f_l_cell [.scr ns, .int k] = .ok (.int i) := by
  by_cases h : k < ns.length
  · refine ⟨ns[k], ?_⟩
    have e : ns[k]? = some ns[k] := List.getElem?_eq_getElem h
    simp [f_l_cell, fnP_eq, i_l_cell, h, subP, e]
  · refine ⟨0, ?_⟩
    simp [f_l_cell, fnP_eq, i_l_cell, h]
theorem box_ok (ns : List Int) (S1 : Sto) : ∃ a : Int, f_l_box [.p (.scr ns), .p (.int 0)] S1 = .ok (.loc S1.length) (S1 ++ [bx a 0 911]) ∧ BxOk 0 a 0 911 := by
  obtain ⟨i, hi⟩ := cell_ok ns 0
  have hi : f_l_cell [.scr ns, .int 0] = .ok (.int i) := hi
  refine ⟨if i < 0 then -i else i, ?_, by split <;> omega, by decide, by decide, by decide, by decide⟩
  have m0 := mul_small g1 40503 0 (by decide) (by decide)
  simp [f_l_box, fnI, runI, i_l_box, hi, m0, bx]
theorem tq_lit (i : Int) (d : Nat) (h0 : d ≠ 0) (hc : i.natAbs.Coprime d) : P.tup [.int i, .int d] = tq ⟨i, d, h0, hc⟩ := rfl
/-- a drawn number -/
structure Drawn (n : Nat) (q : Rat) : Prop where
  pos : 0 < q
  hb : Hb n q
theorem drawn_lit (n : Nat) (i : Int) (d : Nat) (h0 : d ≠ 0) (hc : i.natAbs.Coprime d) (hi : 0 < i) (h1 : i.natAbs < 2 ^ n) (h2 : d < 2 ^ n) : Drawn n ⟨i, d, h0, hc⟩ :=
  ⟨by rw [Rat.lt_iff]; simpa using hi, h1, h2⟩
/-- a fee: at least 0, less than 1 -/
structure FeeOk (q : Rat) : Prop where
  lo : 0 ≤ q
  hi : q < 1
  hb : Hb 7 q
theorem fee_lit (i : Int) (d : Nat) (h0 : d ≠ 0) (hc : i.natAbs.Coprime d) (hi : 0 ≤ i) (hd : i < d) (h1 : i.natAbs < 2 ^ 7) (h2 : d < 2 ^ 7) : FeeOk ⟨i, d, h0, hc⟩ :=
  ⟨by rw [Rat.le_iff]; simpa using hi, by rw [Rat.lt_iff]; simpa using hd, h1, h2⟩
/-- a fraction of small ints above 0 -/
theorem frac_drawn {n : Nat} {i j : Int} (hn : n ≤ 80000000) (hi : 0 < i) (hj : 0 < j) (h1 : i.natAbs < 2 ^ n) (h2 : j.natAbs < 2 ^ n) : f_l_frac [.int i, .int j] = .ok (tq (Rat.divInt i j)) ∧ Drawn n (Rat.divInt i j) := by
  have hz : j ≠ 0 := by omega
  have lj : j.natAbs.log2 < 90000000 := log_lt h2 (by omega)
  refine ⟨frac_eq i j hz lj, ?_, hb_divInt hz h1 h2⟩
  have h3 : 0 ≤ Rat.divInt i j := Rat.divInt_nonneg (by omega) (by omega)
  have h4 : Rat.divInt i j ≠ 0 := by
    intro z
    have e := Rat.num_divInt i j
    rw [z] at e
    have g0 : 0 < Int.gcd j i := Int.gcd_pos_of_ne_zero_left _ hz
    rw [Int.sign_eq_one_of_pos hj, Int.one_mul] at e
    have d : (Int.gcd j i : Int) ∣ i := Int.gcd_dvd_right ..
    have := Int.ediv_mul_cancel d
    rw [← e] at this
    simp at this
    omega
  exact Rat.lt_of_le_of_ne h3 (fun z => h4 z.symm)
end RP
end

section
set_option Elab.async false
set_option linter.all false
set_option maxRecDepth 100000
set_option maxHeartbeats 4000000
set_option exponentiation.threshold 20000
/-! Books. -/
namespace RP
open PySem
/-- a loop by its invariant: k turns are made -/
theorem for_ind {b : P → DEnv → Option DEnv} {f : DEnv → Sto → RS} (I : Nat → DEnv → Sto → Prop) : ∀ (xs : List P) (k : Nat) (δ : DEnv) (S1 : Sto), I k δ S1 →
    (∀ x j δ S1, x ∈ xs → j < k + xs.length → I j δ S1 → ∃ δ1 δ2 S2, b x δ = some δ1 ∧ (f δ1 S1 = .next δ2 S2 ∨ f δ1 S1 = .cnt δ2 S2) ∧ I (j + 1) δ2 S2) →
    ∃ δ' S', forL b f xs δ S1 = .next δ' S' ∧ I (k + xs.length) δ' S'
  | [], k, δ, S1, h, _ => ⟨δ, S1, rfl, h⟩
  | x :: xs, k, δ, S1, h, st => by
    obtain ⟨δ1, δ2, S2, h1, h2, h3⟩ := st x k δ S1 List.mem_cons_self (by simp) h
    obtain ⟨δ', S', h4, h5⟩ := for_ind I xs (k + 1) δ2 S2 h3 fun y j δ S1 hy hj => st y j δ S1 (List.mem_cons_of_mem _ hy) (by simp only [List.length_cons] at hj ⊢; omega)
    refine ⟨δ', S', ?_, by simp only [List.length_cons] at h5 ⊢; rw [show k + (xs.length + 1) = k + 1 + xs.length by omega]; exact h5⟩
    rw [for_cons]
    rcases h2 with h2 | h2 <;> simp only [h1, h2, le_next, le_cnt] <;> exact h4
/-- a book of positions: low, high, size -/
abbrev Bk := List (Rat × Rat × Rat)
def rowP (r : Rat × Rat × Rat) : P := .tup [tq r.1, tq r.2.1, tq r.2.2]
structure RowOk (r : Rat × Rat × Rat) : Prop where
  lo : 0 < r.1
  hi : r.1 < r.2.1
  sz : 0 < r.2.2
  hlo : Hb 4 r.1
  hhi : Hb 4 r.2.1
  hsz : Hb 4 r.2.2
theorem rt_pos {i : Int} {m : Nat} (h1 : 0 ≤ i) (h2 : i < m) : (i.natAbs) < m := by omega
end RP
end

section
set_option Elab.async false
set_option linter.all false
set_option maxRecDepth 100000
set_option maxHeartbeats 4000000
set_option exponentiation.threshold 20000
/-! Draws from a box at any place. -/
namespace RP
open PySem
@[simp] theorem st_get (pre : Sto) (x : Slot) (R : Sto) : (pre ++ x :: R)[pre.length]? = some x := by
  rw [List.getElem?_append_right (Nat.le_refl _), Nat.sub_self]
  rfl
@[simp] theorem st_set (pre : Sto) (x y : Slot) (R : Sto) : (pre ++ x :: R).set pre.length y = pre ++ y :: R := by
  rw [List.set_append_right _ _ (Nat.le_refl _), Nat.sub_self]
  rfl
@[simp] theorem st_get1 (pre : Sto) (x y : Slot) (R R' : Sto) : (pre ++ x :: (R ++ y :: R'))[pre.length + (R.length + 1)]? = some y := by
  have e : pre ++ x :: (R ++ y :: R') = (pre ++ x :: R) ++ y :: R' := by simp
  have l : pre.length + (R.length + 1) = (pre ++ x :: R).length := by simp
  rw [e, l, st_get]
@[simp] theorem st_set1 (pre : Sto) (x y z : Slot) (R R' : Sto) : (pre ++ x :: (R ++ y :: R')).set (pre.length + (R.length + 1)) z = pre ++ x :: (R ++ z :: R') := by
  have e : ∀ y, pre ++ x :: (R ++ y :: R') = (pre ++ x :: R) ++ y :: R' := fun y => by simp
  have l : pre.length + (R.length + 1) = (pre ++ x :: R).length := by simp
  rw [e, e, l, st_set]
theorem take_g {n : Nat} {a b c many : Int} (pre R : Sto) (B : BxOk n a b c) (hn : n ≤ 1000000) (hm : 0 < many) (hm2 : many.natAbs < 2 ^ 200) :
    ∃ v a' b', f_l_take [.loc pre.length, .p (.int many)] (pre ++ bx a b c :: R) = .ok (.p (.int v)) (pre ++ bx a' b' c :: R) ∧ 0 ≤ v ∧ v < many ∧ BxOk (n + 1) a' b' c := by
  obtain ⟨a0, b0, b1, c0, c1⟩ := B
  have mz : many ≠ 0 := by omega
  have dm : ∀ x, g0.bin .FloorDiv (.int x) (.int many) = .ok (.int (x.fdiv many)) := fun x => div_small _ _ _ hm hm2
  have mm : ∀ x, g0.bin .Mod (.int x) (.int many) = .ok (.int (x.fmod many)) := fun x => bin_mod _ _ _ mz
  by_cases h : 1000000000000000000 ≤ a
  · refine ⟨a.fmod many, a.fdiv many, b, ?_, Int.fmod_nonneg_of_pos _ hm, Int.fmod_lt_of_pos _ hm, ?_, b0, by omega, c0, c1⟩
    · simp [f_l_take, fnI, runI, i_l_take, bx, pow_ten, h, mm, dm, setIx, List.set]
    · rw [Int.fdiv_eq_ediv_of_nonneg _ (by omega)]
      exact Int.ediv_nonneg a0 (by omega)
  · have hx1 : (a + 7).natAbs < 2 ^ 200 := by
      have : (2 : Nat) ^ 200 = 1606938044258990275541962092341162602522202993782792835301376 := by decide
      omega
    have hx2 : (b + 1).natAbs < 2 ^ 200 := by
      have : (2 : Nat) ^ 200 = 1606938044258990275541962092341162602522202993782792835301376 := by decide
      omega
    have k1 := mul_small g0 (a + 7) 69069 hx1 (by decide)
    have k2 := mul_small g0 (b + 1) 40692 hx2 (by decide)
    have k3 := mul_small g0 (b + 1) 17389 hx2 (by decide)
    have k4 := pow3 g0 ((a + 7) * 69069 + (b + 1) * 40692 + c) (by
      have : (2 : Nat) ^ 200 = 1606938044258990275541962092341162602522202993782792835301376 := by decide
      omega)
    generalize hX : ((a + 7) * 69069 + (b + 1) * 40692 + c) ^ 3 = X at k4
    have k5 : g0.bin .Mod (.int X) (.int 2147483647) = .ok (.int (X.fmod 2147483647)) := bin_mod _ _ _ (by decide)
    have l1 : X.fmod 2147483647 < 2147483647 := Int.fmod_lt_of_pos _ (by decide)
    have l2 : 0 ≤ X.fmod 2147483647 := Int.fmod_nonneg_of_pos _ (by decide)
    generalize X.fmod 2147483647 = Y at k5 l1 l2
    have k6 := pow3 g0 (Y + (b + 1) * 17389) (by
      have : (2 : Nat) ^ 200 = 1606938044258990275541962092341162602522202993782792835301376 := by decide
      omega)
    generalize (Y + (b + 1) * 17389) ^ 3 = Z at k6
    have k7 : g0.bin .Mod (.int Z) (.int 2147483399) = .ok (.int (Z.fmod 2147483399)) := bin_mod _ _ _ (by decide)
    have k8 := div_small g0 (Z.fmod 2147483399) 64 (by decide) (by decide)
    refine ⟨((Z.fmod 2147483399).fdiv 64).fmod many, a, b + 1, ?_, Int.fmod_nonneg_of_pos _ hm, Int.fmod_lt_of_pos _ hm, a0, by omega, by omega, c0, c1⟩
    simp [f_l_take, fnI, runI, i_l_take, bx, pow_ten, h, mm, k1, k2, k3, k4, k5, k6, k7, k8, setIx, List.set]
structure Row4 (r : Rat × Rat × Rat) : Prop where
  ok : RowOk r
  h1 : Hb 4 r.1
  h2 : Hb 4 r.2.1
  h3 : Hb 4 r.2.2
theorem box_g (ns : List Int) (k : Nat) (hk : k ≤ 100) (S1 : Sto) : ∃ a c : Int, f_l_box [.p (.scr ns), .p (.int k)] S1 = .ok (.loc S1.length) (S1 ++ [bx a 0 c]) ∧ BxOk 0 a 0 c := by
  obtain ⟨i, hi⟩ := cell_ok ns k
  refine ⟨if i < 0 then -i else i, 40503 * k + 911, ?_, by split <;> omega, by decide, by decide, by omega, by omega⟩
  have m0 := mul_small g1 40503 k (by decide) (by have : (2 : Nat) ^ 200 = 1606938044258990275541962092341162602522202993782792835301376 := by decide
                                                  omega)
  simp [f_l_box, fnI, runI, i_l_box, hi, m0, bx]
end RP
end

section
set_option Elab.async false
set_option linter.all false
set_option maxRecDepth 100000
set_option maxHeartbeats 4000000
set_option exponentiation.threshold 20000
/-! Whole numbers read of a word. -/
namespace RP
open PySem
theorem ratio_int (a : Int) : f_Ratio_init [.int a] = .ok (rt (a : Rat)) := by
  have h := ratio_new a 1 (by decide) (by decide)
  have e : Rat.divInt a 1 = (a : Rat) := by
    rw [Rat.divInt_eq_div]
    show (a : Rat) / 1 = a
    grind
  rw [e] at h
  have two : ∀ (r : RP) (x : P), eitherP (fun _ => r) (fun _ => .stuck) [] = .ok x → r = .ok x := fun r x hh => by
    unfold eitherP at hh
    cases r with
    | stuck => cases hh
    | ok y => exact hh
    | exc c y => exact hh
  have h2 : mkOf ft 0 3 [] (runI g1 ft 4 i_Ratio_init) [.int a, .int 1] = .ok (rt (a : Rat)) := by
    refine two _ _ ?_
    have z : mkOf ft 0 3 [.int 1] (runI g1 ft 4 i_Ratio_init) [.int a, .int 1] = .stuck := by simp [mkOf]
    unfold f_Ratio_init eitherP at h
    rw [z] at h
    exact h
  have h3 : mkOf ft 0 3 [.int 1] (runI g1 ft 4 i_Ratio_init) [.int a] = .ok (rt (a : Rat)) := by
    rw [← h2]
    simp [mkOf]
  have z : mkOf ft 0 3 [] (runI g1 ft 4 i_Ratio_init) [.int a] = .stuck := by simp [mkOf]
  unfold f_Ratio_init eitherP
  rw [z, h3]
theorem compL_map {α : Type} {b : P → DEnv → Option DEnv} {t e : DEnv → Sto → RE D} {δ : DEnv} {S1 : Sto} (φ : α → P) (p : α → Bool) (g : α → P) : ∀ l : List α, (∀ a ∈ l, ∃ δ', b (φ a) δ = some δ' ∧ t δ' S1 = .ok (.p (.bl (p a))) S1 ∧ (p a = true → e δ' S1 = .ok (.p (g a)) S1)) → compL b t e δ (l.map φ) S1 = .ok ((l.filter p).map g) S1
  | [], _ => rfl
  | a :: l, h => by
    obtain ⟨δ', h1, h2, h3⟩ := h a List.mem_cons_self
    have ih := compL_map φ p g l fun a ha => h a (List.mem_cons_of_mem _ ha)
    rw [List.map_cons]
    unfold compL
    cases hp : p a with
    | true =>
      rw [hp] at h2
      simp [h1, h2, h3 hp, hp, ih]
    | false =>
      rw [hp] at h2
      simp [h1, h2, hp, ih]
theorem isIn_map {α : Type} [DecidableEq α] {f : P → P → Option Bool} (φ : α → P) (hf : ∀ a b, f (φ a) (φ b) = some (decide (a = b))) (x : α) : ∀ l : List α, isInL f (φ x) (l.map φ) = some (decide (x ∈ l))
  | [] => rfl
  | a :: l => by
    rw [List.map_cons]
    unfold isInL
    rw [hf]
    by_cases h : a = x
    · simp [h]
    · have h' : ¬ x = a := fun z => h z.symm
      simp [h, h', isIn_map φ hf x l]
theorem call_eq {Γ : Tab} {FT : FldT} {k : Nat} {es : Es} {δ : DEnv} {S0 S1 : Sto} {f : PFn} {xs : List P} {r : P} (h1 : evEs Γ FT es δ S0 = .ok xs S1) (h2 : Γ.fns.lookup k = some f) (h3 : f xs = .ok r) : evE Γ FT (.call k es) δ S0 = .ok (.p r) S1 := by
  rw [ev_call, h1]
  simp only [RE.bind]
  rw [h2]
  simp only [h3, RP.lift]
theorem fn_ret {FT : FldT} {Γ : Tab} {n np : Nat} {ir : Ss} {xs : List P} {d : D} {S1 S2 : Sto} {x : P} (h : xs.length = np) (e : exSs Γ FT ir (xs.map (fun x => some (.p x)) ++ List.replicate (n - np) none) [] = .ret d S1) (p : purify d S1 = .ok x S2) : fnP FT Γ n np ir xs = .ok x := by
  rw [fnP_eq FT Γ n np ir xs h, e]
  simp only [p]
def nthQ : Ss → Nat → S
  | .nil, _ => .pass
  | .cons s _, 0 => s
  | .cons _ r, n + 1 => nthQ r n
theorem for_ofQ {Γ : Tab} {FT : FldT} {it : It} {t : Tg} {b : Ss} {δ : DEnv} {S1 S2 : Sto} {xs : List P} (h : evIt Γ FT it δ S1 = .ok xs S2) : exS Γ FT (.for_ t it b) δ S1 = forL (bindT t) (exSs Γ FT b) xs δ S2 := by
  show (evIt Γ FT it δ S1).st δ (fun xs S1 => forL (bindT t) (exSs Γ FT b) xs δ S1) = _
  rw [h]
  rfl
theorem sub_e {Γ : Tab} {FT : FldT} {a b : E} {δ : DEnv} {S0 S2 S3 : Sto} {x y r : P} (h : evE Γ FT a δ S0 = .ok (.p x) S2) (k : evE Γ FT b δ S2 = .ok (.p y) S3) (c : subP x y = .ok r) : evE Γ FT (.sub a b) δ S0 = .ok (.p r) S3 := by
  rw [ev_sub, h]
  simp only [RE.bind]
  rw [k]
  simp only [RE.bind, peek, c, RP.lift]
theorem cmpE_eq {Γ : Tab} {FT : FldT} {op : CmpOp} {a b : E} {δ : DEnv} {S0 S2 S3 : Sto} {x y r : P} (h : evE Γ FT a δ S0 = .ok (.p x) S2) (k : evE Γ FT b δ S2 = .ok (.p y) S3) (c : Γ.cmp op x y = .ok r) : evE Γ FT (.cmp op a b) δ S0 = .ok (.p r) S3 := by
  rw [ev_cmp, h]
  simp only [RE.bind]
  rw [k]
  simp only [RE.bind, peek, c, RP.lift]
theorem es_two {Γ : Tab} {FT : FldT} {a b : E} {δ : DEnv} {S0 S2 S3 : Sto} {x y : P} (h : evE Γ FT a δ S0 = .ok (.p x) S2) (k : evE Γ FT b δ S2 = .ok (.p y) S3) : evEs Γ FT (.cons a (.cons b .nil)) δ S0 = .ok [x, y] S3 := by
  simp [h, k]
theorem es_one {Γ : Tab} {FT : FldT} {a : E} {δ : DEnv} {S0 S2 : Sto} {x : P} (h : evE Γ FT a δ S0 = .ok (.p x) S2) : evEs Γ FT (.cons a .nil) δ S0 = .ok [x] S2 := by
  simp [h]
theorem ifs_false {Γ : Tab} {FT : FldT} {c : E} {a : Ss} {δ : DEnv} {S0 S2 : Sto} (h : evE Γ FT c δ S0 = .ok (.p (.bl false)) S2) : exS Γ FT (.ifs c a .nil) δ S0 = .next δ S2 := by
  rw [ex_ifs, h]
  rfl
theorem comp_run {Γ : Tab} {FT : FldT} {elt c : E} {i : Nat} {it : It} {δ : DEnv} {S0 S1 : Sto} {α : Type} (φ g : α → P) (l : List α) (hi : evIt Γ FT it δ S0 = .ok (l.map φ) S1) (hl : l.length ≤ 100) (h : ∀ a ∈ l, evE Γ FT elt (setSlot (wipeD δ [i]) i (.p (φ a))) S1 = .ok (.p (g a)) S1) : evE Γ FT (.comp false elt (.name i) it false c) δ S0 = .ok (.p (.lst (l.map g))) S1 := by
  have k0 : lineOk (l.map φ).length = true := line_lit _ (by rw [List.length_map]; omega)
  have cm := compL_map (b := bindT (.name i)) (t := optT false (evE Γ FT c)) (e := evE Γ FT elt) (δ := wipeD δ [i]) (S1 := S1) φ (fun _ => true) g l fun a ha => ⟨_, rfl, rfl, fun _ => h a ha⟩
  have ff : (l.filter fun _ => true) = l := by simp
  rw [ff] at cm
  rw [ev_comp, hi]
  simp only [ok_bindQ, k0, if_true]
  have cm' : compL (bindT (.name i)) (optT false (evE Γ FT c)) (evE Γ FT elt) (wipeD δ (tgIx (.name i))) (l.map φ) S1 = .ok (l.map g) S1 := cm
  rw [cm']
  rfl
theorem ifs_trueX {Γ : Tab} {FT : FldT} {c : E} {a b : Ss} {δ : DEnv} {S0 S2 : Sto} (h : evE Γ FT c δ S0 = .ok (.p (.bl true)) S2) : exS Γ FT (.ifs c a b) δ S0 = exSs Γ FT a δ S2 := by
  rw [ex_ifs, h]
  rfl
theorem or_tX {Γ : Tab} {FT : FldT} {a b : E} {δ : DEnv} {S0 S2 : Sto} (h : evE Γ FT a δ S0 = .ok (.p (.bl true)) S2) : evE Γ FT (.or a b) δ S0 = .ok (.p (.bl true)) S2 := by
  rw [ev_or, h]
  rfl
theorem or_fX {Γ : Tab} {FT : FldT} {a b : E} {δ : DEnv} {S0 S2 : Sto} {r : RE D} (h : evE Γ FT a δ S0 = .ok (.p (.bl false)) S2) (k : evE Γ FT b δ S2 = r) : evE Γ FT (.or a b) δ S0 = r := by
  rw [ev_or, h]
  exact k
theorem and_tX {Γ : Tab} {FT : FldT} {a b : E} {δ : DEnv} {S0 S2 : Sto} {r : RE D} (h : evE Γ FT a δ S0 = .ok (.p (.bl true)) S2) (k : evE Γ FT b δ S2 = r) : evE Γ FT (.and a b) δ S0 = r := by
  rw [ev_and, h]
  exact k
theorem and_fX {Γ : Tab} {FT : FldT} {a b : E} {δ : DEnv} {S0 S2 : Sto} (h : evE Γ FT a δ S0 = .ok (.p (.bl false)) S2) : evE Γ FT (.and a b) δ S0 = .ok (.p (.bl false)) S2 := by
  rw [ev_and, h]
  rfl
theorem not_e {Γ : Tab} {FT : FldT} {a : E} {δ : DEnv} {S0 S2 : Sto} {b : Bool} (h : evE Γ FT a δ S0 = .ok (.p (.bl b)) S2) : evE Γ FT (.not a) δ S0 = .ok (.p (.bl (!b))) S2 := by
  rw [ev_not, h]
  rfl
/-! ### digits -/
def digL : List Nat := (Str.ofString "0123456789").cps.toList
theorem dig_mem {c : Nat} : c ∈ digL ↔ 48 ≤ c ∧ c ≤ 57 := by
  have e : digL = [48, 49, 50, 51, 52, 53, 54, 55, 56, 57] := by decide
  rw [e]
  simp only [List.mem_cons, List.not_mem_nil, or_false]
  omega
def bodyL (cs : List Nat) : List Nat := if cs.take 1 = [45] then cs.drop 1 else cs
def numB (cs : List Nat) : Bool := decide (bodyL cs ≠ []) && (bodyL cs).all fun c => decide (c ∈ digL)
theorem val_lt : ∀ (ds : List Nat) (n : Nat), (∀ c ∈ ds, 48 ≤ c ∧ c ≤ 57) → ds.foldl (fun acc c => acc * 10 + (c - 48)) n + 1 ≤ (n + 1) * 10 ^ ds.length
  | [], n, _ => by simp
  | c :: ds, n, h => by
    obtain ⟨h1, h2⟩ := h c List.mem_cons_self
    have le := val_lt ds (n * 10 + (c - 48)) fun d hd => h d (List.mem_cons_of_mem _ hd)
    rw [List.foldl_cons]
    refine Nat.le_trans le ?_
    rw [List.length_cons, Nat.pow_succ, Nat.mul_comm (10 ^ ds.length) 10, ← Nat.mul_assoc]
    exact Nat.mul_le_mul_right _ (by omega)
theorem val_b {ds : List Nat} (h : ∀ c ∈ ds, 48 ≤ c ∧ c ≤ 57) (hl : ds.length ≤ 100) : PySem.NumText.digitsVal ds < 2 ^ 400 := by
  have l0 : PySem.NumText.digitsVal ds + 1 ≤ (0 + 1) * 10 ^ ds.length := val_lt ds 0 h
  have l1 : PySem.NumText.digitsVal ds < 10 ^ 100 := Nat.lt_of_lt_of_le (by omega) (Nat.pow_le_pow_right (by decide) hl)
  exact Nat.lt_trans l1 (by decide)
theorem log_400 {n : Nat} (h : n < 2 ^ 400) : n.log2 < 1920 := by
  by_cases z : n = 0
  · rw [z]; decide
  · exact (Nat.log2_lt z).mpr (Nat.lt_trans h (by decide))
theorem int_ok {w : Str} (h : numB w.cps.toList = true) (hl : w.length ≤ 100) : ∃ n, PySem.intText? w = some n ∧ n.natAbs < 2 ^ 400 := by
  have hlen : w.cps.toList.length = w.length := Array.length_toList
  unfold numB at h
  simp only [Bool.and_eq_true, decide_eq_true_eq, List.all_eq_true] at h
  obtain ⟨ne, dg⟩ := h
  have dg' : ∀ c ∈ bodyL w.cps.toList, 48 ≤ c ∧ c ≤ 57 := fun c hc => dig_mem.mp (dg c hc)
  unfold bodyL at ne dg'
  by_cases q : w.cps.toList.take 1 = [45]
  · rw [if_pos q] at ne dg'
    have e : w.cps.toList = 45 :: w.cps.toList.drop 1 := by
      have := (List.take_append_drop 1 w.cps.toList).symm
      rw [q] at this
      exact this
    refine ⟨_, PySem.intText_neg e dg' ne (by omega), ?_⟩
    have := val_b dg' (by rw [List.length_drop]; omega)
    rw [Int.natAbs_neg, Int.natAbs_natCast]
    exact this
  · rw [if_neg q] at ne dg'
    refine ⟨_, PySem.intText_digits dg' ne (by omega), ?_⟩
    have := val_b dg' (by omega)
    rw [Int.natAbs_natCast]
    exact this
/-- the whole number that a word tells -/
def wholeW (w : Str) : Option Int := if numB w.cps.toList then (match PySem.intText? w with
  | some n => if Str.ofString (toString n) = w then some n else none
  | none => none) else none
def optW : Option Int → P
  | some n => .int n
  | none => .non
theorem whole_spec {w : Str} {n : Int} (h : wholeW w = some n) : Str.ofString (toString n) = w := by
  unfold wholeW at h
  split at h
  · split at h
    · split at h
      · rename_i e
        cases h
        exact e
      · cases h
    · cases h
  · cases h
theorem whole_lt {w : Str} {n : Int} (h : wholeW w = some n) (hl : w.length ≤ 100) : n.natAbs < 2 ^ 400 := by
  unfold wholeW at h
  split at h
  · rename_i hn
    obtain ⟨m, e, lt⟩ := int_ok hn hl
    rw [e] at h
    dsimp only at h
    split at h
    · cases h
      exact lt
    · cases h
  · cases h
end RP
end

section
set_option Elab.async false
set_option linter.all false
set_option maxRecDepth 100000
set_option maxHeartbeats 4000000
/-! integer_of, and the law's own. -/
namespace RP
open PySem
def mkS (l : List Nat) : Str := ⟨l.toArray⟩
theorem mkS_list (l : List Nat) : (mkS l).cps.toList = l := by simp [mkS]
theorem mkS_len (l : List Nat) : (mkS l).length = l.length := by
  show l.toArray.size = _
  simp
theorem mkS_of (w : Str) : mkS w.cps.toList = w := by
  show (⟨w.cps.toList.toArray⟩ : Str) = w
  simp
theorem slc_t1 (w : Str) (h : w.length ≤ 100) : slcP (.str w) none (some 1) = .ok (.str (mkS (w.cps.toList.take 1))) := by
  have k : lineOk w.length = true := line_lit _ (by omega)
  have e : cutP w.cps.toList none (some 1) = w.cps.toList.take 1 := by
    cases w.cps.toList <;> simp [cutP, cutO, cutAt]
  show (if lineOk w.length then RP.ok (.str ⟨(cutP w.cps.toList none (some 1)).toArray⟩) else .stuck) = _
  rw [if_pos k, e]
  rfl
theorem slc_d1 (w : Str) (h : w.length ≤ 100) : slcP (.str w) (some 1) none = .ok (.str (mkS (w.cps.toList.drop 1))) := by
  have k : lineOk w.length = true := line_lit _ (by omega)
  have e : cutP w.cps.toList (some 1) none = w.cps.toList.drop 1 := by
    cases w.cps.toList with
    | nil => simp [cutP, cutO, cutAt]
    | cons c r =>
      have : cutP (c :: r) (some 1) none = r := by
        simp [cutP, cutO, cutAt]
      exact this
  show (if lineOk w.length then RP.ok (.str ⟨(cutP w.cps.toList (some 1) none).toArray⟩) else .stuck) = _
  rw [if_pos k, e]
  rfl
theorem is_minus (l : List Nat) : decide (mkS l = Str.ofString "-") = decide (l = [45]) := by
  have e : Str.ofString "-" = mkS [45] := rfl
  rw [e]
  by_cases h : l = [45]
  · rw [h]
    simp
  · have : ¬ mkS l = mkS [45] := fun z => h (by rw [← mkS_list l, z, mkS_list])
    rw [decide_eq_false h, decide_eq_false this]
section
variable {Γ : Tab} {w : Str} (h : w.length ≤ 100) {v1 v2 : Option D} {S : Sto}
include h
theorem wd_0 : exS Γ ft (.asg (.name 1) (.ite (.cmp .Eq (.slc (.var 0) false .non true (.int 1)) (.str (Str.ofString "-"))) (.slc (.var 0) true (.int 1) false .non) (.var 0))) [some (.p (.str w)), v1, v2] S = .next [some (.p (.str w)), some (.p (.str (mkS (bodyL w.cps.toList)))), v2] S := by
  have t1 := slc_t1 w h
  have d1 := slc_d1 w h
  have m := is_minus (w.cps.toList.take 1)
  by_cases q : w.cps.toList.take 1 = [45]
  · have b : bodyL w.cps.toList = w.cps.toList.drop 1 := by unfold bodyL; rw [if_pos q]
    rw [decide_eq_true q] at m
    have m' := of_decide_eq_true m
    rw [b]
    simp [t1, d1, m']
  · have b : bodyL w.cps.toList = w.cps.toList := by unfold bodyL; rw [if_neg q]
    rw [decide_eq_false q] at m
    have m' := of_decide_eq_false m
    rw [b, mkS_of]
    simp [t1, m']
theorem body_len : (bodyL w.cps.toList).length ≤ 100 := by
  have hlen : w.cps.toList.length = w.length := Array.length_toList
  unfold bodyL
  split
  · rw [List.length_drop]; omega
  · omega
/-- the number itself, where the word has the form -/
theorem wd_r (hn : numB w.cps.toList = true) {x : Option D} : exS Γ ft (.ret (.ite (.cmp .Eq (.b1 .str (.b1 .int (.var 0))) (.var 0)) (.b1 .int (.var 0)) .non)) [some (.p (.str w)), x, v2] S = .ret (.p (optW (wholeW w))) S := by
  obtain ⟨n, e, lt⟩ := int_ok hn h
  have lg := log_400 lt
  have i1 : b1P .int (.str w) = .ok (.int n) := by
    show (if decide (w.length ≤ 640) then (match PySem.intText? w with
      | some n => RP.ok (.int n)
      | none => .stuck) else .stuck) = _
    rw [if_pos (decide_eq_true (by omega)), e]
  have i2 : b1P .str (.int n) = .ok (.str (Str.ofString (toString n))) := by
    show (if decide (n.natAbs.log2 < 1920) then RP.ok (.str (Str.ofString (toString n))) else .stuck) = _
    rw [if_pos (decide_eq_true lg)]
  have wh : wholeW w = if Str.ofString (toString n) = w then some n else none := by
    unfold wholeW
    rw [if_pos hn, e]
  have a1 : evE Γ ft (.b1 .int (.var 0)) [some (.p (.str w)), x, v2] S = .ok (.p (.int n)) S := by
    show (b1P .int (.str w)).lift S = _
    rw [i1]
    rfl
  have a2 : evE Γ ft (.b1 .str (.b1 .int (.var 0))) [some (.p (.str w)), x, v2] S = .ok (.p (.str (Str.ofString (toString n)))) S := by
    rw [ev_b1, a1]
    show (b1P .str (.int n)).lift S = _
    rw [i2]
    rfl
  have a3 : evE Γ ft (.cmp .Eq (.b1 .str (.b1 .int (.var 0))) (.var 0)) [some (.p (.str w)), x, v2] S = .ok (.p (.bl (decide (Str.ofString (toString n) = w)))) S := cmpE_eq a2 (b := .var 0) (y := .str w) (S3 := S) rfl (by rw [cmp_eq, eq_str])
  by_cases q : Str.ofString (toString n) = w
  · rw [decide_eq_true q] at a3
    rw [wh, if_pos q, ex_ret, ev_ite, a3]
    simp only [RE.bind]
    rw [a1]
    rfl
  · rw [decide_eq_false q] at a3
    rw [wh, if_neg q, ex_ret, ev_ite, a3]
    rfl
omit h in
theorem wh_no (hn : numB w.cps.toList = false) : wholeW w = none := by
  unfold wholeW
  rw [hn]
  rfl
end
theorem in_dig (Γ : Tab) (c : Nat) : Γ.cmp .In (.str ⟨#[c]⟩) (.str (Str.ofString "0123456789")) = .ok (.bl (decide (c ∈ digL))) := rfl
theorem bols_map (f : Nat → Bool) : ∀ l : List Nat, bolsOf (l.map fun c => P.bl (f c)) = some (l.map f)
  | [] => rfl
  | c :: l => by
    have := bols_map f l
    simp only [List.map_cons, bolsOf, this, Option.map_some]
theorem integer_of_n {w : Str} (h : w.length ≤ 100) : f_integer_of [.str w] = .ok (optW (wholeW w)) := by
  have bl := body_len h
  have s0 := wd_0 (Γ := g4) h (v1 := none) (v2 := none) (S := [])
  have cm : evE g4 ft (.comp false (.cmp .In (.var 2) (.str (Str.ofString "0123456789"))) (.name 2) (.seq (.var 1)) false .non) [some (.p (.str w)), some (.p (.str (mkS (bodyL w.cps.toList)))), none] [] = .ok (.p (.lst ((bodyL w.cps.toList).map fun c => .bl (decide (c ∈ digL))))) [] := by
    refine comp_run (fun c => .str ⟨#[c]⟩) (fun c => .bl (decide (c ∈ digL))) (bodyL w.cps.toList) ?_ bl fun c hc => ?_
    · show RE.ok (signsP (mkS (bodyL w.cps.toList))) [] = _
      unfold signsP
      rw [mkS_list]
    · exact cmpE_eq (S2 := []) (S3 := []) (x := .str ⟨#[c]⟩) (y := .str (Str.ofString "0123456789")) rfl rfl (in_dig g4 c)
  have al : b1P .all (.lst ((bodyL w.cps.toList).map fun c => .bl (decide (c ∈ digL)))) = .ok (.bl ((bodyL w.cps.toList).all fun c => decide (c ∈ digL))) := by
    show (match bolsOf ((bodyL w.cps.toList).map fun c => P.bl (decide (c ∈ digL))) with
      | some bs => RP.ok (.bl (bs.all id))
      | none => .stuck) = _
    rw [bols_map]
    simp [List.all_map]
  have ln : b1P .len (.str (mkS (bodyL w.cps.toList))) = .ok (.int (((bodyL w.cps.toList).length : Nat) : Int)) := by
    have k : lineOk (mkS (bodyL w.cps.toList)).length = true := line_lit _ (by rw [mkS_len]; omega)
    show (if lineOk (mkS (bodyL w.cps.toList)).length then RP.ok (.int ((mkS (bodyL w.cps.toList)).length : Int)) else .stuck) = _
    rw [if_pos k, mkS_len]
  have cut : i_integer_of = .cons (.asg (.name 1) (.ite (.cmp .Eq (.slc (.var 0) false .non true (.int 1)) (.str (Str.ofString "-"))) (.slc (.var 0) true (.int 1) false .non) (.var 0))) (.cons (.ifs (.or (.not (.chain .LtE .LtE (.int 1) (.b1 .len (.var 1)) (.int 4000))) (.not (.b1 .all (.comp false (.cmp .In (.var 2) (.str (Str.ofString "0123456789"))) (.name 2) (.seq (.var 1)) false .non)))) (.cons (.ret .non) .nil) .nil) (.cons (.ret (.ite (.cmp .Eq (.b1 .str (.b1 .int (.var 0))) (.var 0)) (.b1 .int (.var 0)) .non)) .nil)) := rfl
  have ch : evE g4 ft (.chain .LtE .LtE (.int 1) (.b1 .len (.var 1)) (.int 4000)) [some (.p (.str w)), some (.p (.str (mkS (bodyL w.cps.toList)))), none] [] = .ok (.p (.bl (decide (bodyL w.cps.toList ≠ [])))) [] := by
    have e : decide (bodyL w.cps.toList ≠ []) = decide (1 ≤ (bodyL w.cps.toList).length) := by
      cases bodyL w.cps.toList <;> simp
    rw [e]
    have el : evE g4 ft (.b1 .len (.var 1)) [some (.p (.str w)), some (.p (.str (mkS (bodyL w.cps.toList)))), none] [] = .ok (.p (.int (((bodyL w.cps.toList).length : Nat) : Int))) [] := by
      show (b1P .len (.str (mkS (bodyL w.cps.toList)))).lift [] = _
      rw [ln]
      rfl
    have e0 : evE g4 ft (.chain .LtE .LtE (.int 1) (.b1 .len (.var 1)) (.int 4000)) [some (.p (.str w)), some (.p (.str (mkS (bodyL w.cps.toList)))), none] [] = (evE g4 ft (.b1 .len (.var 1)) [some (.p (.str w)), some (.p (.str (mkS (bodyL w.cps.toList)))), none] []).bind fun d2 S2 => chainD (evE g4 ft (.int 4000) [some (.p (.str w)), some (.p (.str (mkS (bodyL w.cps.toList)))), none]) .LtE .LtE (.p (.int 1)) d2 S2 := rfl
    rw [e0, el]
    generalize (bodyL w.cps.toList).length = m at *
    have q2 : ((m : Nat) : Int) ≤ 4000 := by omega
    by_cases q : 1 ≤ m
    · have q' : (1 : Int) ≤ ((m : Nat) : Int) := by omega
      simp [RE.bind, chainD, icmp, q, q', q2]
    · have q' : ¬ (1 : Int) ≤ ((m : Nat) : Int) := by omega
      simp [RE.bind, chainD, icmp, q, q']
  have ca : evE g4 ft (.b1 .all (.comp false (.cmp .In (.var 2) (.str (Str.ofString "0123456789"))) (.name 2) (.seq (.var 1)) false .non)) [some (.p (.str w)), some (.p (.str (mkS (bodyL w.cps.toList)))), none] [] = .ok (.p (.bl ((bodyL w.cps.toList).all fun c => decide (c ∈ digL)))) [] := by
    rw [ev_b1, cm]
    simp only [RE.bind, peek, al, RP.lift]
  have nb : numB w.cps.toList = (decide (bodyL w.cps.toList ≠ []) && (bodyL w.cps.toList).all fun c => decide (c ∈ digL)) := rfl
  refine fn_ret (d := .p (optW (wholeW w))) (S1 := []) rfl ?_ rfl
  show exSs g4 ft i_integer_of [some (.p (.str w)), none, none] [] = _
  rw [cut, exs_cons, s0, bd_next, exs_cons]
  by_cases q1 : bodyL w.cps.toList ≠ []
  · rw [decide_eq_true q1] at ch nb
    cases q2 : (bodyL w.cps.toList).all fun c => decide (c ∈ digL) with
    | true =>
      rw [q2] at ca nb
      rw [ifs_false (or_fX (not_e ch) (not_e ca)), bd_next, exs_cons, wd_r h nb]
      rfl
    | false =>
      rw [q2] at ca nb
      rw [ifs_trueX (or_fX (not_e ch) (not_e ca)), wh_no nb]
      rfl
  · rw [decide_eq_false q1] at ch nb
    rw [ifs_trueX (or_tX (not_e ch)), wh_no nb]
    rfl
theorem l_whole_n {w : Str} (h : w.length ≤ 100) : f_l_whole [.str w] = .ok (optW (wholeW w)) := by
  have bl := body_len h
  have s0 := wd_0 (Γ := g4) h (v1 := none) (v2 := none) (S := [])
  generalize hB : bodyL w.cps.toList = B at *
  have k0 : lineOk (B.map fun c => P.str ⟨#[c]⟩).length = true := line_lit _ (by rw [List.length_map]; omega)
  have nin : ∀ c : Nat, g4.cmp .NotIn (.str ⟨#[c]⟩) (.str (Str.ofString "0123456789")) = .ok (.bl (!decide (c ∈ digL))) := fun c => rfl
  have cm : evE g4 ft (.comp false (.var 2) (.name 2) (.seq (.var 1)) true (.cmp .NotIn (.var 2) (.str (Str.ofString "0123456789")))) [some (.p (.str w)), some (.p (.str (mkS B))), none] [] = .ok (.p (.lst ((B.filter fun c => !decide (c ∈ digL)).map fun c => .str ⟨#[c]⟩))) [] := by
    have c := compL_map (b := bindT (.name 2)) (t := optT true (evE g4 ft (.cmp .NotIn (.var 2) (.str (Str.ofString "0123456789"))))) (e := evE g4 ft (.var 2)) (δ := wipeD [some (.p (.str w)), some (.p (.str (mkS B))), none] [2]) (S1 := []) (fun c => .str ⟨#[c]⟩) (fun c => !decide (c ∈ digL)) (fun c => .str ⟨#[c]⟩) B fun c hc => ⟨[some (.p (.str w)), some (.p (.str (mkS B))), some (.p (.str ⟨#[c]⟩))], rfl, (cmpE_eq (S2 := []) (S3 := []) (x := .str ⟨#[c]⟩) (y := .str (Str.ofString "0123456789")) rfl rfl (nin c) : evE g4 ft (.cmp .NotIn (.var 2) (.str (Str.ofString "0123456789"))) [some (.p (.str w)), some (.p (.str (mkS B))), some (.p (.str ⟨#[c]⟩))] [] = _), fun _ => rfl⟩
    have it : evIt g4 ft (.seq (.var 1)) [some (.p (.str w)), some (.p (.str (mkS B))), none] [] = .ok (B.map fun c => .str ⟨#[c]⟩) [] := by
      show RE.ok (signsP (mkS B)) [] = _
      unfold signsP
      rw [mkS_list]
    rw [ev_comp, it]
    simp only [RE.bind, k0, if_true]
    have c' : compL (bindT (.name 2)) (optT true (evE g4 ft (.cmp .NotIn (.var 2) (.str (Str.ofString "0123456789"))))) (evE g4 ft (.var 2)) (wipeD [some (.p (.str w)), some (.p (.str (mkS B))), none] (tgIx (.name 2))) (B.map fun c => .str ⟨#[c]⟩) [] = .ok ((B.filter fun c => !decide (c ∈ digL)).map fun c => .str ⟨#[c]⟩) [] := c
    rw [c']
    rfl
  have ne : g4.cmp .NotEq (.lst ((B.filter fun c => !decide (c ∈ digL)).map fun c => .str ⟨#[c]⟩)) (.lst []) = .ok (.bl (!(B.all fun c => decide (c ∈ digL)))) := by
    have e : (B.all fun c => decide (c ∈ digL)) = decide ((B.filter fun c => !decide (c ∈ digL)) = []) := by
      clear hB s0 bl k0 cm nin
      by_cases q : ∀ c ∈ B, c ∈ digL
      · have h1 : (B.all fun c => decide (c ∈ digL)) = true := by
          rw [List.all_eq_true]
          exact fun c hc => decide_eq_true (q c hc)
        have h2 : (B.filter fun c => !decide (c ∈ digL)) = [] := by
          rw [List.filter_eq_nil_iff]
          exact fun c hc => by simp [q c hc]
        rw [h1, h2]
        rfl
      · have h1 : (B.all fun c => decide (c ∈ digL)) = false := by
          rw [List.all_eq_false]
          obtain ⟨c, hc⟩ := Classical.not_forall.mp q
          obtain ⟨hc1, hd⟩ := Classical.not_imp.mp hc
          exact ⟨c, hc1, by simp [hd]⟩
        have h2 : ¬ (B.filter fun c => !decide (c ∈ digL)) = [] := by
          rw [List.filter_eq_nil_iff]
          intro z
          exact q fun c hc => by
            have := z c hc
            simpa using this
        rw [h1, decide_eq_false h2]
    rw [e]
    cases (B.filter fun c => !decide (c ∈ digL)) with
    | nil => rfl
    | cons c r => rfl
  have em : g4.cmp .Eq (.str (mkS B)) (.str (Str.ofString "")) = .ok (.bl (decide (B = []))) := by
    rw [cmp_eq, eq_str]
    have e0 : Str.ofString "" = mkS [] := rfl
    rw [e0]
    by_cases q : B = []
    · rw [q]
      simp
    · have : ¬ mkS B = mkS [] := fun z => q (by rw [← mkS_list B, z, mkS_list])
      rw [decide_eq_false q, decide_eq_false this]
  have nb : numB w.cps.toList = (decide (B ≠ []) && B.all fun c => decide (c ∈ digL)) := by
    unfold numB
    rw [hB]
  have cut : i_l_whole = .cons (.asg (.name 1) (.ite (.cmp .Eq (.slc (.var 0) false .non true (.int 1)) (.str (Str.ofString "-"))) (.slc (.var 0) true (.int 1) false .non) (.var 0))) (.cons (.ifs (.or (.cmp .Eq (.var 1) (.str (Str.ofString ""))) (.cmp .NotEq (.comp false (.var 2) (.name 2) (.seq (.var 1)) true (.cmp .NotIn (.var 2) (.str (Str.ofString "0123456789")))) (.lst .nil))) (.cons (.ret .non) .nil) .nil) (.cons (.ret (.ite (.cmp .Eq (.b1 .str (.b1 .int (.var 0))) (.var 0)) (.b1 .int (.var 0)) .non)) .nil)) := rfl
  have c1 : evE g4 ft (.cmp .Eq (.var 1) (.str (Str.ofString ""))) [some (.p (.str w)), some (.p (.str (mkS B))), none] [] = .ok (.p (.bl (decide (B = [])))) [] := cmpE_eq (S2 := []) (S3 := []) (x := .str (mkS B)) (y := .str (Str.ofString "")) rfl rfl em
  have c2 := cmpE_eq cm (b := .lst .nil) (y := .lst []) (S3 := []) rfl ne
  refine fn_ret (d := .p (optW (wholeW w))) (S1 := []) rfl ?_ rfl
  show exSs g4 ft i_l_whole [some (.p (.str w)), none, none] [] = _
  rw [cut, exs_cons, s0, bd_next, exs_cons]
  by_cases q1 : B = []
  · rw [decide_eq_true q1] at c1
    have nb' : numB w.cps.toList = false := by rw [nb]; simp [q1]
    rw [ifs_trueX (or_tX c1), wh_no nb']
    rfl
  · rw [decide_eq_false q1] at c1
    cases q2 : B.all fun c => decide (c ∈ digL) with
    | true =>
      rw [q2] at c2
      have nb' : numB w.cps.toList = true := by rw [nb, q2]; simp [q1]
      rw [ifs_false (or_fX c1 c2), bd_next, exs_cons, wd_r h nb']
      rfl
    | false =>
      rw [q2] at c2
      have nb' : numB w.cps.toList = false := by rw [nb, q2]; simp
      rw [ifs_trueX (or_fX c1 c2), wh_no nb']
      rfl
end RP
end

section
set_option Elab.async false
set_option linter.all false
set_option maxRecDepth 100000
set_option maxHeartbeats 4000000
/-! A text of a fraction, and what is read of a text. -/
namespace RP
open PySem
def txtI (n : Int) : Str := Str.ofString (toString n)
def slash : Str := Str.ofString "/"
theorem txt_no (n : Int) : 47 ∉ (txtI n).cps.toList := PyProof.Rows.int_text_free' 47 ⟨by decide, by decide⟩ n
theorem txt_nat (m : Nat) : PySem.NumText.digitsVal (txtI (m : Int)).cps.toList = m := by
  unfold txtI
  rw [PySem.W.KIN.signs_num, PySem.W.KIN.val_back]
theorem txt_neg (m : Nat) : (txtI (Int.negSucc m)).cps.toList = 45 :: (txtI ((m + 1 : Nat) : Int)).cps.toList := by
  unfold txtI
  rw [PySem.W.KIN.signs_num, PyProof.Rows.signs_ofString]
  show ("-" ++ Nat.repr (m + 1)).toList.map Char.toNat = _
  rw [String.toList_append, List.map_append, Nat.toList_repr]
  rfl
theorem txt_not45 (m : Nat) : 45 ∉ (txtI (m : Int)).cps.toList := by
  unfold txtI
  rw [PySem.W.KIN.signs_num]
  intro h
  obtain ⟨ch, hch, e⟩ := List.mem_map.mp h
  have r := PyProof.Rows.digit_range (Nat.isDigit_of_mem_toDigits (by decide) (by decide) hch)
  omega
theorem txt_inj {a b : Int} (h : txtI a = txtI b) : a = b := by
  have hl : (txtI a).cps.toList = (txtI b).cps.toList := by rw [h]
  cases a with
  | ofNat n =>
    cases b with
    | ofNat m =>
      have e1 := txt_nat n
      have e2 := txt_nat m
      have hl : (txtI (n : Int)).cps.toList = (txtI (m : Int)).cps.toList := hl
      rw [hl, e2] at e1
      rw [e1]
    | negSucc m =>
      exfalso
      have hl : (txtI (n : Int)).cps.toList = (txtI (Int.negSucc m)).cps.toList := hl
      rw [txt_neg] at hl
      exact txt_not45 n (by rw [hl]; exact List.mem_cons_self)
  | negSucc n =>
    cases b with
    | ofNat m =>
      exfalso
      have hl : (txtI (Int.negSucc n)).cps.toList = (txtI (m : Int)).cps.toList := hl
      rw [txt_neg] at hl
      exact txt_not45 m (by rw [← hl]; exact List.mem_cons_self)
    | negSucc m =>
      have hl : (txtI (Int.negSucc n)).cps.toList = (txtI (Int.negSucc m)).cps.toList := hl
      rw [txt_neg, txt_neg] at hl
      have h2 := (List.cons.inj hl).2
      have e1 := txt_nat (n + 1)
      have e2 := txt_nat (m + 1)
      rw [h2, e2] at e1
      have : n = m := by omega
      rw [this]
/-- the text of a fraction -/
def textQ (q : Rat) : Str := if q.den = 1 then txtI q.num else txtI q.num ++ slash ++ txtI (q.den : Int)
theorem cut_one : ∀ {a b c d : List Nat}, 47 ∉ a → 47 ∉ c → a ++ 47 :: b = c ++ 47 :: d → a = c ∧ b = d
  | [], b, [], d, _, _, h => ⟨rfl, (List.cons.inj h).2⟩
  | [], b, c :: r, d, _, hc, h => by
    have := (List.cons.inj h).1
    exact absurd (by rw [this]; exact List.mem_cons_self) hc
  | a :: r, b, [], d, ha, _, h => by
    have := (List.cons.inj h).1
    exact absurd (by rw [← this]; exact List.mem_cons_self) ha
  | a :: r, b, c :: t, d, ha, hc, h => by
    obtain ⟨e1, e2⟩ := List.cons.inj h
    obtain ⟨k1, k2⟩ := cut_one (fun z => ha (List.mem_cons_of_mem _ z)) (fun z => hc (List.mem_cons_of_mem _ z)) e2
    exact ⟨by rw [e1, k1], k2⟩
theorem sl_list (x y : Str) : (x ++ slash ++ y).cps.toList = x.cps.toList ++ 47 :: y.cps.toList := by
  rw [Str.cps_append, Str.cps_append, Array.toList_append, Array.toList_append]
  have : slash.cps.toList = [47] := by decide
  rw [this]
  simp
theorem str_ext {x y : Str} (h : x.cps.toList = y.cps.toList) : x = y := by rw [← mkS_of x, ← mkS_of y, h]
theorem text_pair {q : Rat} {n m : Int} (h : textQ q = txtI n ++ slash ++ txtI m) : q.num = n ∧ (q.den : Int) = m ∧ q.den ≠ 1 := by
  unfold textQ at h
  split at h
  · exfalso
    have hl : (txtI q.num).cps.toList = (txtI n).cps.toList ++ 47 :: (txtI m).cps.toList := by rw [h, sl_list]
    exact txt_no q.num (by rw [hl]; simp)
  · rename_i hd
    have hl : (txtI q.num ++ slash ++ txtI (q.den : Int)).cps.toList = (txtI n).cps.toList ++ 47 :: (txtI m).cps.toList := by rw [h, sl_list]
    rw [sl_list] at hl
    obtain ⟨k1, k2⟩ := cut_one (txt_no _) (txt_no _) hl
    exact ⟨txt_inj (str_ext k1), txt_inj (str_ext k2), hd⟩
/-! ### parts of a text -/
def partsS (s : Str) : List Str := PySem.Txt.split s slash
theorem parts_glue (s : Str) : Builtin.Str.glued slash (partsS s) = s := by
  unfold partsS PySem.Txt.split
  split
  · rfl
  · split
    · rfl
    · exact StrLaws.glued_between_self s slash _
theorem parts_ne (s : Str) : partsS s ≠ [] := by
  unfold partsS PySem.Txt.split
  split
  · simp
  · split
    · simp
    · intro z
      have := length_partsBetween s (Builtin.Str.occurrences s slash 0 s.length (s.length + 1)) slash.length
      rw [z] at this
      simp at this
theorem parts_count (s : Str) : (partsS s).length ≤ s.length + 2 := by
  unfold partsS PySem.Txt.split
  split
  · simp
  · split
    · simp
    · rw [length_partsBetween]
      have := StrLaws.occ_length_le s slash 0 s.length (s.length + 1)
      omega
theorem mem_sum : ∀ {l : List Nat} {x : Nat}, x ∈ l → x ≤ l.sum
  | y :: l, x, h => by
    rw [List.sum_cons]
    rcases List.mem_cons.mp h with z | z
    · omega
    · have := mem_sum z
      omega
theorem parts_len {s p : Str} (h : p ∈ partsS s) : p.length ≤ s.length := by
  have e := size_glued slash (partsS s)
  rw [parts_glue] at e
  have := mem_sum (List.mem_map.mpr ⟨p, h, rfl⟩ : p.length ∈ (partsS s).map (·.length))
  omega
def wordsW (s : Str) : List (Option Int) := (partsS s).map wholeW
/-- what Ratio.read reads -/
def readQ (s : Str) : Option Rat := match wordsW s with
  | [some n] => if textQ (n : Rat) = s then some (n : Rat) else none
  | [some n, some m] => if m = 0 then none else if textQ (Rat.divInt n m) = s then some (Rat.divInt n m) else none
  | _ => none
def dueP (s : Str) : P := match wordsW s with
  | [some n] => .tup [.int n, .int 1]
  | [some n, some m] => if 1 < m ∧ (Rat.divInt n m).num = n ∧ ((Rat.divInt n m).den : Int) = m then .tup [.int n, .int m] else .non
  | _ => .non
def readP (s : Str) : P := match readQ s with
  | some q => tq q
  | none => .non
theorem due_read (s : Str) : dueP s = readP s := by
  unfold dueP readP readQ
  have gl := parts_glue s
  cases hW : partsS s with
  | nil => exact absurd hW (parts_ne s)
  | cons a r =>
    rw [hW] at gl
    cases r with
    | nil =>
      have ea : a = s := gl
      cases ha : wholeW a with
      | none =>
        have : wordsW s = [none] := by unfold wordsW; rw [hW, List.map_cons, ha]; rfl
        rw [this]
      | some n =>
        have w : wordsW s = [some n] := by unfold wordsW; rw [hW, List.map_cons, ha]; rfl
        have sp := whole_spec ha
        have t : textQ (n : Rat) = s := by
          unfold textQ
          rw [if_pos (by simp), Rat.num_intCast, ← ea]
          exact sp
        rw [w]
        simp only [t, if_true]
        rw [tq_int]
    | cons b r =>
      cases r with
      | cons c r =>
        have w : wordsW s = wholeW a :: wholeW b :: wholeW c :: r.map wholeW := by unfold wordsW; rw [hW]; rfl
        rw [w]
        cases wholeW a <;> cases wholeW b <;> rfl
      | nil =>
        have es : a ++ slash ++ b = s := gl
        have w : wordsW s = [wholeW a, wholeW b] := by unfold wordsW; rw [hW]; rfl
        rw [w]
        cases ha : wholeW a with
        | none => rfl
        | some n =>
          cases hb : wholeW b with
          | none => rfl
          | some m =>
            have e1 : txtI n = a := whole_spec ha
            have e2 : txtI m = b := whole_spec hb
            rw [← e1, ← e2] at es
            dsimp only
            by_cases m0 : m = 0
            · rw [if_pos m0, if_neg (by omega)]
            · rw [if_neg m0]
              by_cases t : textQ (Rat.divInt n m) = s
              · rw [if_pos t]
                obtain ⟨k1, k2, k3⟩ := text_pair (t.trans es.symm)
                have pos := (Rat.divInt n m).den_pos
                rw [if_pos ⟨by omega, k1, k2⟩]
                dsimp only
                unfold tq
                rw [k1, k2]
              · rw [if_neg t]
                rw [if_neg]
                rintro ⟨h1, h2, h3⟩
                apply t
                rw [← es]
                unfold textQ
                rw [if_neg (by omega), h2, h3]
end RP
end

section
set_option Elab.async false
set_option linter.all false
set_option maxRecDepth 100000
set_option maxHeartbeats 4000000
/-! Ratio.text, Ratio.read, and the law's own reading. -/
namespace RP
open PySem
structure Sm (q : Rat) : Prop where
  n : q.num.natAbs < 2 ^ 400
  d : q.den < 2 ^ 400
theorem Sm.hb {q : Rat} (s : Sm q) : Hb 400 q := ⟨s.n, s.d⟩
theorem app_len (a b : Str) : (a ++ b).length = a.length + b.length := Str.length_append a b
theorem text_n {q : Rat} (s : Sm q) : f_Ratio_text [rt q] = .ok (.str (textQ q)) := by
  have l1 : q.num.natAbs.log2 < 1920 := log_400 s.n
  have l2 : ((q.den : Int)).natAbs.log2 < 1920 := by rw [Int.natAbs_natCast]; exact log_400 s.d
  have b1 : b1P .str (.int q.num) = .ok (.str (txtI q.num)) := by
    show (if decide (q.num.natAbs.log2 < 1920) then RP.ok (.str (Str.ofString (toString q.num))) else .stuck) = _
    rw [if_pos (decide_eq_true l1)]
    rfl
  have f1 : fmtD (.p (.int q.num)) = some (txtI q.num) := by
    show (if decide (q.num.natAbs.log2 < 1920) then some (Str.ofString (toString q.num)) else none) = _
    rw [if_pos (decide_eq_true l1)]
    rfl
  have f2 : fmtD (.p (.int (q.den : Int))) = some (txtI (q.den : Int)) := by
    show (if decide (((q.den : Int)).natAbs.log2 < 1920) then some (Str.ofString (toString (q.den : Int))) else none) = _
    rw [if_pos (decide_eq_true l2)]
    rfl
  have n1 : (txtI q.num).length ≤ 1921 := int_textX l1
  have n2 : (txtI (q.den : Int)).length ≤ 1921 := int_textX l2
  have n3 : slash.length = 1 := rfl
  have f3 : ∀ S, fs3R (txtI q.num) slash (txtI (q.den : Int)) S = .ok (.p (.str (txtI q.num ++ slash ++ txtI (q.den : Int)))) S := fun S => by
    unfold fs3R
    rw [if_pos]
    simp only [Bool.and_eq_true, decide_eq_true_eq, app_len]
    omega
  have sl : Str.ofString "/" = slash := rfl
  have a9 : ∀ S, evE g0 ft (.attr (.var 0) 9) [some (.p (rt q))] S = .ok (.p (.int (q.den : Int))) S := fun S => rfl
  have a10 : ∀ S, evE g0 ft (.attr (.var 0) 10) [some (.p (rt q))] S = .ok (.p (.int q.num)) S := fun S => rfl
  have e1 : evE g0 ft (.b1 .str (.attr (.var 0) 10)) [some (.p (rt q))] [] = .ok (.p (.str (txtI q.num))) [] := by
    rw [ev_b1, a10]
    simp only [RE.bind, peek, b1, RP.lift]
  have e2 : evE g0 ft (.fs3 (.attr (.var 0) 10) (Str.ofString "/") (.attr (.var 0) 9)) [some (.p (rt q))] [] = .ok (.p (.str (txtI q.num ++ slash ++ txtI (q.den : Int)))) [] := by
    rw [ev_fs3, a10]
    simp only [RE.bind, f1]
    rw [a9]
    simp only [RE.bind, f2, sl, f3]
  have c : evE g0 ft (.cmp .Eq (.attr (.var 0) 9) (.int 1)) [some (.p (rt q))] [] = .ok (.p (.bl (decide ((q.den : Int) = 1)))) [] := cmpE_eq (a9 []) (b := .int 1) (y := .int 1) (S3 := []) rfl (by rw [cmp_eq, eq_int])
  have cut : i_Ratio_text = .cons (.ret (.ite (.cmp .Eq (.attr (.var 0) 9) (.int 1)) (.b1 .str (.attr (.var 0) 10)) (.fs3 (.attr (.var 0) 10) (Str.ofString "/") (.attr (.var 0) 9)))) .nil := rfl
  refine fn_ret (d := .p (.str (textQ q))) (S1 := []) rfl ?_ rfl
  show exSs g0 ft i_Ratio_text [some (.p (rt q))] [] = _
  unfold textQ
  rw [cut, exs_cons, ex_ret, ev_ite]
  by_cases h : q.den = 1
  · rw [decide_eq_true (show (q.den : Int) = 1 by omega)] at c
    rw [c, if_pos h]
    simp only [RE.bind]
    rw [e1]
    rfl
  · rw [decide_eq_false (show ¬ (q.den : Int) = 1 by omega)] at c
    rw [c, if_neg h]
    simp only [RE.bind]
    rw [e2]
    rfl
theorem eqN_optW (feq : Nat → P → P → Option Bool) (n : Nat) (a b : Option Int) : eqN feq (n + 1) (optW a) (optW b) = some (decide (a = b)) := by
  cases a <;> cases b <;> simp [eqN, eq0, optW]
  rename_i x y
  by_cases h : x = y
  · simp [h]
  · have : (x == y) = false := by simpa using h
    simp [h, this]
theorem in_opt (Γ : Tab) (x : Option Int) (l : List (Option Int)) : Γ.cmp .In (optW x) (.lst (l.map optW)) = .ok (.bl (decide (x ∈ l))) := by
  show Γ.isIn (optW x) (.lst (l.map optW)) = _
  unfold Tab.isIn eqDeep
  simp only [isIn_map optW (fun a b => eqN_optW Γ.feq 5 a b)]
  congr
theorem words_run {f : PFn} {Γ : Tab} {k i j : Nat} {s : Str} (hl : s.length ≤ 80) (hk : Γ.fns.lookup k = some f) (hf : ∀ w : Str, w.length ≤ 100 → f [.str w] = .ok (optW (wholeW w))) {δ : DEnv} {S : Sto} (hj : evE Γ ft (.var j) δ S = .ok (.p (.str s)) S) (hi : ∀ x, evE Γ ft (.var i) (setSlot (wipeD δ [i]) i (.p x)) S = .ok (.p x) S) :
    evE Γ ft (.comp false (.call k (.cons (.var i) .nil)) (.name i) (.seq (.spl (.var j) (.str (Str.ofString "/")))) false .non) δ S = .ok (.p (.lst ((wordsW s).map optW))) S := by
  have pc := parts_count s
  have sp : evE Γ ft (.spl (.var j) (.str (Str.ofString "/"))) δ S = .ok (.p (.lst ((partsS s).map P.str))) S := by
    rw [ev_spl, hj]
    simp only [RE.bind]
    show splR s slash S = _
    unfold splR
    rw [if_pos]
    · rfl
    · simp only [Bool.and_eq_true, decide_eq_true_eq]
      exact ⟨by decide, by omega⟩
  have it : evIt Γ ft (.seq (.spl (.var j) (.str (Str.ofString "/")))) δ S = .ok ((partsS s).map P.str) S := by
    rw [evi_seq, sp]
    rfl
  have c := comp_run (Γ := Γ) (FT := ft) (i := i) (c := .non) P.str (fun w => optW (wholeW w)) (partsS s) it (by omega) fun w hw => call_eq (es_one (hi (.str w))) hk (hf w (by have := parts_len hw; omega))
  rw [c]
  unfold wordsW
  rw [List.map_map]
  rfl
theorem wd_small {s : Str} (hl : s.length ≤ 80) {n : Int} (h : some n ∈ wordsW s) : n.natAbs < 2 ^ 400 := by
  obtain ⟨w, hw, e⟩ := List.mem_map.mp h
  exact whole_lt e (by have := parts_len hw; omega)
theorem sm_int {n : Int} (h : n.natAbs < 2 ^ 400) : Sm (n : Rat) := ⟨by rw [Rat.num_intCast]; exact h, by rw [Rat.den_intCast]; decide⟩
theorem sm_div {n m : Int} (m0 : m ≠ 0) (h : n.natAbs < 2 ^ 400) (k : m.natAbs < 2 ^ 400) : Sm (Rat.divInt n m) := by
  have := hb_divInt (n := 400) m0 h k
  exact ⟨this.num, this.den⟩
section
variable {s : Str} (hl : s.length ≤ 80) {S : Sto}
include hl
/-- what Ratio.read does -/
theorem read_run : exSs g5 ft i_Ratio_read [some (.cls 0), some (.p (.str s)), none, none, none] S = (match readQ s with
    | some q => .ret (.p (rt q)) S
    | none => .exc 102 none (match wordsW s with
      | [some n] => [some (.cls 0), some (.p (.str s)), some (.p (.lst ((wordsW s).map optW))), some (.p (rt (n : Rat))), none]
      | [some n, some m] => if m = 0 then [some (.cls 0), some (.p (.str s)), some (.p (.lst ((wordsW s).map optW))), none, none] else [some (.cls 0), some (.p (.str s)), some (.p (.lst ((wordsW s).map optW))), some (.p (rt (Rat.divInt n m))), none]
      | _ => [some (.cls 0), some (.p (.str s)), some (.p (.lst ((wordsW s).map optW))), none, none]) S) := by
  have cut : i_Ratio_read = .cons (nthQ i_Ratio_read 0) (.cons (nthQ i_Ratio_read 1) (.cons (nthQ i_Ratio_read 2) (.cons (nthQ i_Ratio_read 3) (.cons (.ret (.var 3)) .nil)))) := rfl
  have wl : (wordsW s).length ≤ 82 := by
    unfold wordsW
    rw [List.length_map]
    have := parts_count s
    omega
  have wne : wordsW s ≠ [] := by
    unfold wordsW
    intro z
    exact parts_ne s (List.map_eq_nil_iff.mp z)
  have sm := fun n => wd_small (n := n) hl
  have s0 : exS g5 ft (nthQ i_Ratio_read 0) [some (.cls 0), some (.p (.str s)), none, none, none] S = .next [some (.cls 0), some (.p (.str s)), some (.p (.lst ((wordsW s).map optW))), none, none] S := by
    have c0 : nthQ i_Ratio_read 0 = .asg (.name 2) (.comp false (.call 210 (.cons (.var 4) .nil)) (.name 4) (.seq (.spl (.var 1) (.str (Str.ofString "/")))) false .non) := rfl
    rw [c0, ex_asg, words_run (s := s) hl lf_5_210 (fun w h => integer_of_n h) rfl (fun x => rfl)]
    rfl
  unfold readQ
  generalize wordsW s = W at *
  have c1 : nthQ i_Ratio_read 1 = .ifs (.or (.cmp .In .non (.var 2)) (.or (.cmp .Gt (.b1 .len (.var 2)) (.int 2)) (.cmp .In (.int 0) (.slc (.var 2) true (.int 1) false .non)))) (.cons (.rais0 102) .nil) .nil := rfl
  have c2 : nthQ i_Ratio_read 2 = .asg (.name 3) (.ite (.cmp .Eq (.b1 .len (.var 2)) (.int 2)) (.lcall 0 0 14 (Str.ofString "Ratio") (.cons (.sub (.var 2) (.int 0)) (.cons (.sub (.var 2) (.int 1)) .nil))) (.lcall 0 0 14 (Str.ofString "Ratio") (.cons (.sub (.var 2) (.int 0)) .nil))) := rfl
  have c3 : nthQ i_Ratio_read 3 = .ifs (.cmp .NotEq (.meth (.var 3) 27 .nil) (.var 1)) (.cons (.rais0 102) .nil) .nil := rfl
  have i1 : evE g5 ft (.cmp .In .non (.var 2)) [some (.cls 0), some (.p (.str s)), some (.p (.lst (W.map optW))), none, none] S = .ok (.p (.bl (decide (none ∈ W)))) S := cmpE_eq (S2 := S) (S3 := S) (x := .non) (y := .lst (W.map optW)) rfl rfl (in_opt g5 none W)
  have i2 : evE g5 ft (.cmp .Gt (.b1 .len (.var 2)) (.int 2)) [some (.cls 0), some (.p (.str s)), some (.p (.lst (W.map optW))), none, none] S = .ok (.p (.bl (decide (2 < W.length)))) S := by
    have e : evE g5 ft (.b1 .len (.var 2)) [some (.cls 0), some (.p (.str s)), some (.p (.lst (W.map optW))), none, none] S = .ok (.p (.int (((W.map optW).length : Nat) : Int))) S := rfl
    rw [List.length_map] at e
    have k := cmpE_eq e (b := .int 2) (y := .int 2) (S3 := S) rfl (op := .Gt) (r := .bl (decide ((2 : Int) < ((W.length : Nat) : Int)))) rfl
    rw [k]
    have : decide ((2 : Int) < ((W.length : Nat) : Int)) = decide (2 < W.length) := by
      by_cases q : 2 < W.length
      · rw [decide_eq_true q, decide_eq_true (by omega)]
      · rw [decide_eq_false q, decide_eq_false (by omega)]
    rw [this]
  have i3 : evE g5 ft (.cmp .In (.int 0) (.slc (.var 2) true (.int 1) false .non)) [some (.cls 0), some (.p (.str s)), some (.p (.lst (W.map optW))), none, none] S = .ok (.p (.bl (decide (some 0 ∈ W.drop 1)))) S := by
    have e : evE g5 ft (.slc (.var 2) true (.int 1) false .non) [some (.cls 0), some (.p (.str s)), some (.p (.lst (W.map optW))), none, none] S = .ok (.p (.lst ((W.drop 1).map optW))) S := by
      have d : cutP (W.map optW) (some 1) none = (W.drop 1).map optW := by
        cases W with
        | nil => simp [cutP, cutO, cutAt]
        | cons x r =>
          simp [cutP, cutO, cutAt]
          exact List.take_of_length_le (by rw [List.length_map]; exact Nat.le_refl _)
      show RE.ok (D.p (.lst (cutP (W.map optW) (some 1) none))) S = _
      rw [d]
    exact cmpE_eq (S2 := S) (x := .int 0) (a := .int 0) rfl e (in_opt g5 (some 0) (W.drop 1))
  have rs : ∀ δ : DEnv, exSs g5 ft (.cons (.rais0 102) .nil) δ S = .exc 102 none δ S := fun δ => rfl
  have bad : (none ∈ W ∨ 2 < W.length ∨ some 0 ∈ W.drop 1) → exS g5 ft (nthQ i_Ratio_read 1) [some (.cls 0), some (.p (.str s)), some (.p (.lst (W.map optW))), none, none] S = .exc 102 none [some (.cls 0), some (.p (.str s)), some (.p (.lst (W.map optW))), none, none] S := fun h => by
    rw [c1]
    by_cases q1 : none ∈ W
    · rw [decide_eq_true q1] at i1
      rw [ifs_trueX (or_tX i1), rs]
    · rw [decide_eq_false q1] at i1
      by_cases q2 : 2 < W.length
      · rw [decide_eq_true q2] at i2
        rw [ifs_trueX (or_fX i1 (or_tX i2)), rs]
      · rw [decide_eq_false q2] at i2
        have q3 : some 0 ∈ W.drop 1 := by
          rcases h with h | h | h
          · exact absurd h q1
          · exact absurd h q2
          · exact h
        rw [decide_eq_true q3] at i3
        rw [ifs_trueX (or_fX i1 (or_fX i2 i3)), rs]
  have good : none ∉ W → ¬ 2 < W.length → some 0 ∉ W.drop 1 → exS g5 ft (nthQ i_Ratio_read 1) [some (.cls 0), some (.p (.str s)), some (.p (.lst (W.map optW))), none, none] S = .next [some (.cls 0), some (.p (.str s)), some (.p (.lst (W.map optW))), none, none] S := fun q1 q2 q3 => by
    rw [decide_eq_false q1] at i1
    rw [decide_eq_false q2] at i2
    rw [decide_eq_false q3] at i3
    rw [c1, ifs_false (or_fX i1 (or_fX i2 i3))]
  have fin : ∀ q : Rat, Sm q → exSs g5 ft (.cons (nthQ i_Ratio_read 3) (.cons (.ret (.var 3)) .nil)) [some (.cls 0), some (.p (.str s)), some (.p (.lst (W.map optW))), some (.p (rt q)), none] S = if textQ q = s then .ret (.p (rt q)) S else .exc 102 none [some (.cls 0), some (.p (.str s)), some (.p (.lst (W.map optW))), some (.p (rt q)), none] S := fun q hq => by
    have t := text_n hq
    have m : evE g5 ft (.meth (.var 3) 27 .nil) [some (.cls 0), some (.p (.str s)), some (.p (.lst (W.map optW))), some (.p (rt q)), none] S = .ok (.p (.str (textQ q))) S := by
      have e : evE g5 ft (.meth (.var 3) 27 .nil) [some (.cls 0), some (.p (.str s)), some (.p (.lst (W.map optW))), some (.p (rt q)), none] S = (f_Ratio_text [rt q]).lift S := rfl
      rw [e, t]
      rfl
    have ne : g5.cmp .NotEq (.str (textQ q)) (.str s) = .ok (.bl (!decide (textQ q = s))) := by rw [cmp_ne, eq_str, notR_bl]
    have c := cmpE_eq m (b := .var 1) (y := .str s) (S3 := S) rfl ne
    rw [exs_cons, c3]
    by_cases z : textQ q = s
    · rw [decide_eq_true z] at c
      rw [ifs_false c, bd_next, if_pos z]
      rfl
    · rw [decide_eq_false z] at c
      rw [ifs_trueX c, rs, if_neg z]
      rfl
  rw [cut, exs_cons, s0, bd_next, exs_cons]
  match W, wne with
  | [none], _ => rw [bad (.inl (by simp)), bd_exc]
  | [some n], _ =>
    have sn := sm n (by simp)
    have s2 : exS g5 ft (nthQ i_Ratio_read 2) [some (.cls 0), some (.p (.str s)), some (.p (.lst ([some n].map optW))), none, none] S = .next [some (.cls 0), some (.p (.str s)), some (.p (.lst ([some n].map optW))), some (.p (rt (n : Rat))), none] S := by
      have k := ratio_int n
      have e : evE g5 ft (.lcall 0 0 14 (Str.ofString "Ratio") (.cons (.sub (.var 2) (.int 0)) .nil)) [some (.cls 0), some (.p (.str s)), some (.p (.lst ([some n].map optW))), none, none] S = (f_Ratio_init [.int n]).lift S := rfl
      have c : evE g5 ft (.cmp .Eq (.b1 .len (.var 2)) (.int 2)) [some (.cls 0), some (.p (.str s)), some (.p (.lst ([some n].map optW))), none, none] S = .ok (.p (.bl false)) S := cmpE_eq (S2 := S) (S3 := S) (x := .int 1) (y := .int 2) rfl rfl (by rw [cmp_eq, eq_int, decide_eq_false (by decide)])
      rw [c2, ex_asg, ev_ite, c]
      simp only [RE.bind]
      rw [e, k]
      rfl
    rw [good (by simp) (by simp) (by simp), bd_next, exs_cons, s2, bd_next, fin _ (sm_int sn)]
    by_cases z : textQ (n : Rat) = s
    · simp only [if_pos z]
    · simp only [if_neg z]
  | [none, b], _ =>
    rw [bad (.inl (by simp)), bd_exc]
  | [some n, none], _ => rw [bad (.inl (by simp)), bd_exc]
  | [some n, some m], _ =>
    have sn := sm n (by simp)
    have sk := sm m (by simp)
    by_cases m0 : m = 0
    · rw [bad (.inr (.inr (by simp [m0]))), bd_exc]
      simp only [if_pos m0]
    · have s2 : exS g5 ft (nthQ i_Ratio_read 2) [some (.cls 0), some (.p (.str s)), some (.p (.lst ([some n, some m].map optW))), none, none] S = .next [some (.cls 0), some (.p (.str s)), some (.p (.lst ([some n, some m].map optW))), some (.p (rt (Rat.divInt n m))), none] S := by
        have k := ratio_new n m m0 (Nat.lt_trans (log_400 sk) (by decide))
        have e : evE g5 ft (.lcall 0 0 14 (Str.ofString "Ratio") (.cons (.sub (.var 2) (.int 0)) (.cons (.sub (.var 2) (.int 1)) .nil))) [some (.cls 0), some (.p (.str s)), some (.p (.lst ([some n, some m].map optW))), none, none] S = (f_Ratio_init [.int n, .int m]).lift S := rfl
        have c : evE g5 ft (.cmp .Eq (.b1 .len (.var 2)) (.int 2)) [some (.cls 0), some (.p (.str s)), some (.p (.lst ([some n, some m].map optW))), none, none] S = .ok (.p (.bl true)) S := cmpE_eq (S2 := S) (S3 := S) (x := .int 2) (y := .int 2) rfl rfl (by rw [cmp_eq, eq_int, decide_eq_true rfl])
        rw [c2, ex_asg, ev_ite, c]
        simp only [RE.bind]
        rw [e, k]
        rfl
      have z0 : some 0 ∉ [some n, some m].drop 1 := by
        intro z
        have : some 0 = some m := List.mem_singleton.mp z
        exact m0 (Option.some.inj this).symm
      rw [good (by simp) (by simp) z0, bd_next, exs_cons, s2, bd_next, fin _ (sm_div m0 sn sk)]
      simp only [if_neg m0]
      by_cases z : textQ (Rat.divInt n m) = s
      · simp only [if_pos z]
      · simp only [if_neg z]
  | a :: b :: c :: r, _ =>
    rw [bad (.inr (.inl (by simp))), bd_exc]
    cases a <;> cases b <;> rfl
end
end RP
end

section
set_option Elab.async false
set_option linter.all false
set_option maxRecDepth 100000
set_option maxHeartbeats 4000000
/-! What the law reads, and what it is due. -/
namespace RP
open PySem
section
variable {s : Str} (hl : s.length ≤ 80) {S : Sto}
include hl
theorem read_n : f_Ratio_read [.cls 0, .p (.str s)] S = (match readQ s with
    | some q => .ok (.p (rt q)) S
    | none => .exc 102 none S) := by
  have r := read_run hl (S := S)
  have e : f_Ratio_read [.cls 0, .p (.str s)] S = runI g5 ft 5 i_Ratio_read [.cls 0, .p (.str s)] S := rfl
  rw [e]
  unfold runI
  have r' : exSs g5 ft i_Ratio_read ([D.cls 0, D.p (.str s)].map some ++ List.replicate (5 - [D.cls 0, D.p (.str s)].length) none) S = _ := r
  rw [r']
  cases readQ s <;> rfl
theorem read_k : kiOf 1 1 2 [0, 1] (runI g5 ft 5 i_Ratio_read) [.cls 0, .p (.str s)] S = (match readQ s with
    | some q => .ok (.p (rt q)) S
    | none => .exc 102 none S) := by
  have e : kiOf 1 1 2 [0, 1] (runI g5 ft 5 i_Ratio_read) [.cls 0, .p (.str s)] S = f_Ratio_read [.cls 0, .p (.str s)] S := rfl
  rw [e]
  exact read_n hl
theorem l_read_n : f_l_read [.str s] = .ok (readP s) := by
  have r := read_n hl (S := [])
  have cut : i_l_read = .cons (.tr (.cons (.asg (.name 1) (.cmeth 0 28 (Str.ofString "Ratio") (.cons (.var 0) .nil))) .nil) (.cons [102] [100, 101] none (.ret .non) .nil)) (.cons (.ret (.tup (.cons (.attr (.var 1) 10) (.cons (.attr (.var 1) 9) .nil)))) .nil) := rfl
  have k2 : lineOk 2 = true := line_lit _ (by decide)
  have c : evE g6 ft (.cmeth 0 28 (Str.ofString "Ratio") (.cons (.var 0) .nil)) [some (.p (.str s)), none] [] = f_Ratio_read [.cls 0, .p (.str s)] [] := by
    rw [ev_cmeth, es_one (x := .str s) (S2 := []) rfl]
    simp only [RE.bind, lx_6_0_28]
    rfl
  rw [r] at c
  unfold readP
  cases hq : readQ s with
  | some q =>
    rw [hq] at c
    refine fn_ret (d := .p (tq q)) (S1 := []) rfl ?_ rfl
    show exSs g6 ft i_l_read [some (.p (.str s)), none] [] = _
    rw [cut, exs_cons, ex_tr, exs_cons, ex_asg, c]
    rfl
  | none =>
    rw [hq] at c
    refine fn_ret (d := .p .non) (S1 := []) rfl ?_ rfl
    show exSs g6 ft i_l_read [some (.p (.str s)), none] [] = _
    rw [cut, exs_cons, ex_tr, exs_cons, ex_asg, c]
    rfl
theorem l_due_n : f_l_due [.str s] = .ok (dueP s) := by
  have cut : i_l_due = .cons (nthQ i_l_due 0) (.cons (nthQ i_l_due 1) (.cons (nthQ i_l_due 2) (.cons (nthQ i_l_due 3) .nil))) := rfl
  have wne : wordsW s ≠ [] := by
    unfold wordsW
    intro z
    exact parts_ne s (List.map_eq_nil_iff.mp z)
  have sm := fun n => wd_small (n := n) hl
  have s0 : exS g5 ft (nthQ i_l_due 0) [some (.p (.str s)), none, none] [] = .next [some (.p (.str s)), some (.p (.lst ((wordsW s).map optW))), none] [] := by
    have c0 : nthQ i_l_due 0 = .asg (.name 1) (.comp false (.call 211 (.cons (.var 2) .nil)) (.name 2) (.seq (.spl (.var 0) (.str (Str.ofString "/")))) false .non) := rfl
    rw [c0, ex_asg, words_run (s := s) hl lf_5_211 (fun w h => l_whole_n h) rfl (fun x => rfl)]
    rfl
  unfold dueP
  generalize wordsW s = W at *
  have c1 : nthQ i_l_due 1 = .ifs (.or (.cmp .In .non (.var 1)) (.cmp .Gt (.b1 .len (.var 1)) (.int 2))) (.cons (.ret .non) .nil) .nil := rfl
  have c2 : nthQ i_l_due 2 = .ifs (.cmp .Eq (.b1 .len (.var 1)) (.int 1)) (.cons (.ret (.tup (.cons (.sub (.var 1) (.int 0)) (.cons (.int 1) .nil)))) .nil) .nil := rfl
  have c3 : nthQ i_l_due 3 = .ret (.ite (.and (.cmp .Gt (.sub (.var 1) (.int 1)) (.int 1)) (.cmp .Eq (.call 7 (.cons (.sub (.var 1) (.int 0)) (.cons (.sub (.var 1) (.int 1)) .nil))) (.tup (.cons (.sub (.var 1) (.int 0)) (.cons (.sub (.var 1) (.int 1)) .nil))))) (.tup (.cons (.sub (.var 1) (.int 0)) (.cons (.sub (.var 1) (.int 1)) .nil))) .non) := rfl
  have i1 : evE g5 ft (.cmp .In .non (.var 1)) [some (.p (.str s)), some (.p (.lst (W.map optW))), none] [] = .ok (.p (.bl (decide (none ∈ W)))) [] := cmpE_eq (S2 := []) (S3 := []) (x := .non) (y := .lst (W.map optW)) rfl rfl (in_opt g5 none W)
  have el : evE g5 ft (.b1 .len (.var 1)) [some (.p (.str s)), some (.p (.lst (W.map optW))), none] [] = .ok (.p (.int ((W.length : Nat) : Int))) [] := by
    have e : evE g5 ft (.b1 .len (.var 1)) [some (.p (.str s)), some (.p (.lst (W.map optW))), none] [] = .ok (.p (.int (((W.map optW).length : Nat) : Int))) [] := rfl
    rw [List.length_map] at e
    exact e
  have i2 : evE g5 ft (.cmp .Gt (.b1 .len (.var 1)) (.int 2)) [some (.p (.str s)), some (.p (.lst (W.map optW))), none] [] = .ok (.p (.bl (decide (2 < W.length)))) [] := by
    have k := cmpE_eq el (b := .int 2) (y := .int 2) (S3 := []) rfl (op := .Gt) (r := .bl (decide ((2 : Int) < ((W.length : Nat) : Int)))) rfl
    rw [k]
    have : decide ((2 : Int) < ((W.length : Nat) : Int)) = decide (2 < W.length) := by
      by_cases q : 2 < W.length
      · rw [decide_eq_true q, decide_eq_true (by omega)]
      · rw [decide_eq_false q, decide_eq_false (by omega)]
    rw [this]
  have bad : (none ∈ W ∨ 2 < W.length) → exS g5 ft (nthQ i_l_due 1) [some (.p (.str s)), some (.p (.lst (W.map optW))), none] [] = .ret (.p .non) [] := fun h => by
    rw [c1]
    by_cases q1 : none ∈ W
    · rw [decide_eq_true q1] at i1
      rw [ifs_trueX (or_tX i1)]
      rfl
    · rw [decide_eq_false q1] at i1
      have q2 := h.resolve_left q1
      rw [decide_eq_true q2] at i2
      rw [ifs_trueX (or_fX i1 i2)]
      rfl
  have good : none ∉ W → ¬ 2 < W.length → exS g5 ft (nthQ i_l_due 1) [some (.p (.str s)), some (.p (.lst (W.map optW))), none] [] = .next [some (.p (.str s)), some (.p (.lst (W.map optW))), none] [] := fun q1 q2 => by
    rw [decide_eq_false q1] at i1
    rw [decide_eq_false q2] at i2
    rw [c1, ifs_false (or_fX i1 i2)]
  have go : ∀ d : P, exSs g5 ft i_l_due [some (.p (.str s)), none, none] [] = .ret (.p d) [] → f_l_due [.str s] = .ok d := fun d h => fn_ret (d := .p d) (S1 := []) rfl h rfl
  match W, wne with
  | [none], _ =>
    refine go .non ?_
    rw [cut, exs_cons, s0, bd_next, exs_cons, bad (.inl (by simp))]
    rfl
  | [some n], _ =>
    refine go (.tup [.int n, .int 1]) ?_
    have c : evE g5 ft (.cmp .Eq (.b1 .len (.var 1)) (.int 1)) [some (.p (.str s)), some (.p (.lst ([some n].map optW))), none] [] = .ok (.p (.bl true)) [] := cmpE_eq (S2 := []) (S3 := []) (x := .int 1) (y := .int 1) rfl rfl (by rw [cmp_eq, eq_int, decide_eq_true rfl])
    rw [cut, exs_cons, s0, bd_next, exs_cons, good (by simp) (by simp), bd_next, exs_cons, c2, ifs_trueX c]
    rfl
  | [none, b], _ =>
    have := go .non (by
      rw [cut, exs_cons, s0, bd_next, exs_cons, bad (.inl (by simp))]
      rfl)
    rw [this]
  | [some n, none], _ =>
    refine go .non ?_
    rw [cut, exs_cons, s0, bd_next, exs_cons, bad (.inl (by simp))]
    rfl
  | [some n, some m], _ =>
    have c : evE g5 ft (.cmp .Eq (.b1 .len (.var 1)) (.int 1)) [some (.p (.str s)), some (.p (.lst ([some n, some m].map optW))), none] [] = .ok (.p (.bl false)) [] := cmpE_eq (S2 := []) (S3 := []) (x := .int 2) (y := .int 1) rfl rfl (by rw [cmp_eq, eq_int, decide_eq_false (by decide)])
    have a1 : evE g5 ft (.cmp .Gt (.sub (.var 1) (.int 1)) (.int 1)) [some (.p (.str s)), some (.p (.lst ([some n, some m].map optW))), none] [] = .ok (.p (.bl (decide (1 < m)))) [] := cmpE_eq (S2 := []) (S3 := []) (x := .int m) (y := .int 1) rfl rfl rfl
    have e3 : ∀ d : P, exS g5 ft (nthQ i_l_due 3) [some (.p (.str s)), some (.p (.lst ([some n, some m].map optW))), none] [] = .ret (.p d) [] → f_l_due [.str s] = .ok d := fun d h => go d (by
      rw [cut, exs_cons, s0, bd_next, exs_cons, good (by simp) (by simp), bd_next, exs_cons, c2, ifs_false c, bd_next, exs_cons, h]
      rfl)
    by_cases m1 : 1 < m
    · rw [decide_eq_true m1] at a1
      have sk := sm m (by simp)
      have fr := frac_eq n m (by omega) (Nat.lt_trans (log_400 sk) (by decide))
      have a2 : evE g5 ft (.call 7 (.cons (.sub (.var 1) (.int 0)) (.cons (.sub (.var 1) (.int 1)) .nil))) [some (.p (.str s)), some (.p (.lst ([some n, some m].map optW))), none] [] = .ok (.p (tq (Rat.divInt n m))) [] := call_eq (es_two (x := .int n) (y := .int m) (S2 := []) (S3 := []) rfl rfl) lf_5_7 fr
      have a3 : g5.cmp .Eq (tq (Rat.divInt n m)) (.tup [.int n, .int m]) = .ok (.bl (decide ((Rat.divInt n m).num = n ∧ ((Rat.divInt n m).den : Int) = m))) := by
        rw [cmp_eq]
        unfold Tab.eq eqDeep tq
        generalize (Rat.divInt n m).num = x
        generalize ((Rat.divInt n m).den : Int) = y
        by_cases h1 : x = n
        · by_cases h2 : y = m
          · simp [eqN, eqL, eq0, h1, h2]
          · have : (y == m) = false := by simpa using h2
            simp [eqN, eqL, eq0, h1, h2, this]
        · have : (x == n) = false := by simpa using h1
          simp [eqN, eqL, eq0, h1, this]
      have a4 := cmpE_eq a2 (b := .tup (.cons (.sub (.var 1) (.int 0)) (.cons (.sub (.var 1) (.int 1)) .nil))) (y := .tup [.int n, .int m]) (S3 := []) rfl a3
      by_cases z : (Rat.divInt n m).num = n ∧ ((Rat.divInt n m).den : Int) = m
      · rw [decide_eq_true z] at a4
        simp only [if_pos (show 1 < m ∧ (Rat.divInt n m).num = n ∧ ((Rat.divInt n m).den : Int) = m from ⟨m1, z⟩)]
        refine e3 _ ?_
        rw [c3, ex_ret, ev_ite, and_tX a1 a4]
        rfl
      · rw [decide_eq_false z] at a4
        simp only [if_neg (show ¬ (1 < m ∧ (Rat.divInt n m).num = n ∧ ((Rat.divInt n m).den : Int) = m) from fun h => z h.2)]
        refine e3 _ ?_
        rw [c3, ex_ret, ev_ite, and_tX a1 a4]
        rfl
    · rw [decide_eq_false m1] at a1
      simp only [if_neg (show ¬ (1 < m ∧ (Rat.divInt n m).num = n ∧ ((Rat.divInt n m).den : Int) = m) from fun h => m1 h.1)]
      refine e3 _ ?_
      rw [c3, ex_ret, ev_ite, and_fX a1]
      rfl
  | a :: b :: c :: r, _ =>
    have := go .non (by
      rw [cut, exs_cons, s0, bd_next, exs_cons, bad (.inr (by simp))]
      rfl)
    rw [this]
    cases a <;> cases b <;> rfl
/-- the program's reading is the law's -/
theorem same_read : f_l_due [.str s] = .ok (readP s) := by rw [l_due_n hl, due_read]
end
end RP
end

section
set_option Elab.async false
set_option linter.all false
set_option maxRecDepth 100000
set_option maxHeartbeats 4000000
set_option exponentiation.threshold 20000
/-! A fraction's own text is read. -/
namespace RP
open PySem
theorem split_some {s : Str} (h : 47 ∈ s.cps.toList) : 2 ≤ (partsS s).length := by
  have hlen : s.cps.toList.length = s.length := Array.length_toList
  have pos := List.length_pos_of_mem h
  have sl : slash = ⟨#[47]⟩ := rfl
  have ne : (Builtin.Str.occurrences s slash 0 s.length (s.length + 1)) ≠ [] := by
    intro z
    rw [StrLaws.occ_eq] at z
    rcases StrLaws.occ_first s slash s.length (s.length + 1) (by omega) (List.range' 0 (s.length + 1 - 0)) 0 (fun _ _ => Nat.zero_le _) with ⟨_, k⟩ | ⟨_, a, _, _, k, _⟩
    · obtain ⟨i, hi⟩ := List.mem_iff_getElem?.mp h
      obtain ⟨lt, _⟩ := List.getElem?_eq_some_iff.mp hi
      refine k i ?_ ?_
      · simp [List.mem_range']
        omega
      · rw [sl]
        exact (StrLaws.subAt_one s 47 i).mpr hi
    · have : (forIn (List.range' 0 (s.length + 1 - 0)) ((#[] : Array Nat), 0) (StrLaws.occBody s slash s.length (s.length + 1))).run.fst = #[] := by
        simpa using z
      rw [this] at k
      cases k
  have k1 : ∀ t : Str, 1 ≤ Builtin.Str.strKind t := fun t => by
    unfold Builtin.Str.strKind
    split
    · omega
    · split <;> omega
  have k2 : Builtin.Str.strKind slash = 1 := by decide +kernel
  have c1 : (decide (s.length < slash.length) || decide (Builtin.Str.strKind s < Builtin.Str.strKind slash)) = false := by
    have := k1 s
    have l1 : slash.length = 1 := rfl
    rw [k2, l1, decide_eq_false (by omega), decide_eq_false (by omega)]
    rfl
  have c2 : (Builtin.Str.occurrences s slash 0 s.length (s.length + 1)).isEmpty = false := by
    cases q : Builtin.Str.occurrences s slash 0 s.length (s.length + 1) with
    | nil => exact absurd q ne
    | cons => rfl
  unfold partsS PySem.Txt.split
  rw [if_neg (by rw [c1]; simp), if_neg (by rw [c2]; simp), length_partsBetween]
  have := List.length_pos_iff.mpr ne
  omega
theorem fold_count : ∀ (rest : List Str) (acc : Array Nat), acc.toList.count 47 + rest.length ≤ ((rest.foldl (fun acc p => acc ++ slash.cps ++ p.cps) acc).toList.count 47)
  | [], acc => by simp
  | p :: r, acc => by
    have ih := fold_count r (acc ++ slash.cps ++ p.cps)
    have e : (acc ++ slash.cps ++ p.cps).toList.count 47 = acc.toList.count 47 + 1 + p.cps.toList.count 47 := by
      rw [Array.toList_append, Array.toList_append, List.count_append, List.count_append]
      rfl
    rw [List.foldl_cons, List.length_cons]
    omega
theorem parts_few (s : Str) : (partsS s).length ≤ s.cps.toList.count 47 + 1 := by
  have g := parts_glue s
  cases h : partsS s with
  | nil => simp
  | cons a r =>
    rw [h] at g
    have e : (r.foldl (fun acc p => acc ++ slash.cps ++ p.cps) a.cps).toList = s.cps.toList := by
      have : (Builtin.Str.glued slash (a :: r)).cps = s.cps := by rw [g]
      rw [← this]
      rfl
    have := fold_count r a.cps
    rw [e] at this
    rw [List.length_cons]
    omega
theorem parts_one {s : Str} (h : 47 ∉ s.cps.toList) : partsS s = [s] := by
  have f := parts_few s
  rw [List.count_eq_zero.mpr h] at f
  have g := parts_glue s
  cases hp : partsS s with
  | nil => exact absurd hp (parts_ne s)
  | cons a r =>
    rw [hp] at f g
    cases r with
    | nil =>
      have : a = s := g
      rw [this]
    | cons b r => simp at f
theorem parts_two {x y : Str} (hx : 47 ∉ x.cps.toList) (hy : 47 ∉ y.cps.toList) : partsS (x ++ slash ++ y) = [x, y] := by
  have sl := sl_list x y
  have cnt : (x ++ slash ++ y).cps.toList.count 47 = 1 := by
    rw [sl, List.count_append, List.count_cons_self, List.count_eq_zero.mpr hx, List.count_eq_zero.mpr hy]
  have f := parts_few (x ++ slash ++ y)
  have t := split_some (s := x ++ slash ++ y) (by rw [sl]; simp)
  have g := parts_glue (x ++ slash ++ y)
  rw [cnt] at f
  cases hp : partsS (x ++ slash ++ y) with
  | nil => exact absurd hp (parts_ne _)
  | cons a r =>
    rw [hp] at f t g
    cases r with
    | nil => simp at t
    | cons b r =>
      cases r with
      | cons c r => simp at f
      | nil =>
        have e : a ++ slash ++ b = x ++ slash ++ y := g
        have el : (a ++ slash ++ b).cps.toList = (x ++ slash ++ y).cps.toList := by rw [e]
        have c2 : (a ++ slash ++ b).cps.toList.count 47 = 1 := by rw [el, cnt]
        rw [sl_list, List.count_append, List.count_cons_self] at c2
        have ha : 47 ∉ a.cps.toList := List.count_eq_zero.mp (by omega)
        rw [sl_list, sl] at el
        obtain ⟨k1, k2⟩ := cut_one ha hx el
        rw [str_ext k1, str_ext k2]
/-! ### a whole number's own text -/
theorem txt_digits (m : Nat) : ∀ c ∈ (txtI (m : Int)).cps.toList, 48 ≤ c ∧ c ≤ 57 := by
  intro c hc
  unfold txtI at hc
  rw [PySem.W.KIN.signs_num] at hc
  obtain ⟨ch, hch, e⟩ := List.mem_map.mp hc
  rw [← e]
  exact PyProof.Rows.digit_range (Nat.isDigit_of_mem_toDigits (by decide) (by decide) hch)
theorem txt_ne (m : Nat) : (txtI (m : Int)).cps.toList ≠ [] := by
  unfold txtI
  rw [PySem.W.KIN.signs_num]
  intro e
  have h := PySem.toDigits_len_ge 10 m
  rw [List.map_eq_nil_iff.mp e] at h
  exact absurd h (by decide)
theorem txt_len {n : Int} {k : Nat} (hk : 0 < k) (h : n.natAbs < 10 ^ k) : (txtI n).length ≤ k + 1 := by
  unfold txtI
  rw [PySem.ofString_length]
  exact PySem.int_text_length_le10 hk h
theorem whole_txt {n : Int} (h : n.natAbs < 10 ^ 50) : wholeW (txtI n) = some n := by
  have ln := txt_len (by decide) h
  cases n with
  | ofNat m =>
    have ln : (txtI (m : Int)).length ≤ 51 := ln
    show wholeW (txtI (m : Int)) = some (m : Int)
    unfold wholeW
    have dg := txt_digits m
    have ne := txt_ne m
    have b : bodyL (txtI (m : Int)).cps.toList = (txtI (m : Int)).cps.toList := by
      unfold bodyL
      rw [if_neg]
      intro z
      exact txt_not45 m (List.mem_of_mem_take (by rw [z]; exact List.mem_cons_self))
    have nb : numB (txtI (m : Int)).cps.toList = true := by
      unfold numB
      rw [b, Bool.and_eq_true, decide_eq_true_eq, List.all_eq_true]
      exact ⟨ne, fun c hc => decide_eq_true (dig_mem.mpr (dg c hc))⟩
    have it := PySem.intText_digits dg ne (by omega)
    rw [txt_nat] at it
    rw [if_pos nb, it]
    exact if_pos rfl
  | negSucc m =>
    unfold wholeW
    have e := txt_neg m
    have dg := txt_digits (m + 1)
    have ne := txt_ne (m + 1)
    have b : bodyL (txtI (Int.negSucc m)).cps.toList = (txtI ((m + 1 : Nat) : Int)).cps.toList := by
      unfold bodyL
      rw [e, if_pos (by simp)]
      rfl
    have nb : numB (txtI (Int.negSucc m)).cps.toList = true := by
      unfold numB
      rw [b, Bool.and_eq_true, decide_eq_true_eq, List.all_eq_true]
      exact ⟨ne, fun c hc => decide_eq_true (dig_mem.mpr (dg c hc))⟩
    have it := PySem.intText_neg e dg ne (by omega)
    rw [txt_nat] at it
    rw [if_pos nb, it]
    have : -((m + 1 : Nat) : Int) = Int.negSucc m := rfl
    rw [this]
    exact if_pos rfl
theorem read_own {q : Rat} (h1 : q.num.natAbs < 10 ^ 50) (h2 : q.den < 10 ^ 50) : readQ (textQ q) = some q := by
  have w1 := whole_txt h1
  by_cases hd : q.den = 1
  · have t : textQ q = txtI q.num := by unfold textQ; rw [if_pos hd]
    have w : wordsW (textQ q) = [some q.num] := by
      unfold wordsW
      rw [t, parts_one (txt_no _), List.map_cons, w1]
      rfl
    have e : (q.num : Rat) = q := by
      refine Rat.ext ?_ ?_
      · rw [Rat.num_intCast]
      · rw [Rat.den_intCast, hd]
    unfold readQ
    rw [w]
    simp only [e, if_true]
  · have t : textQ q = txtI q.num ++ slash ++ txtI (q.den : Int) := by unfold textQ; rw [if_neg hd]
    have w2 := whole_txt (n := (q.den : Int)) (by rw [Int.natAbs_natCast]; exact h2)
    have w : wordsW (textQ q) = [some q.num, some (q.den : Int)] := by
      unfold wordsW
      rw [t, parts_two (txt_no _) (txt_no _), List.map_cons, List.map_cons, w1, w2]
      rfl
    have e : Rat.divInt q.num (q.den : Int) = q := Rat.num_divInt_den q
    have d0 : ¬ (q.den : Int) = 0 := by have := q.den_nz; omega
    unfold readQ
    rw [w]
    simp only [e, if_neg d0, if_true]
end RP
end

section
set_option Elab.async false
set_option linter.all false
set_option maxRecDepth 100000
set_option maxHeartbeats 4000000
set_option exponentiation.threshold 20000
/-! The law on texts of fractions is true. -/
namespace RP
open PySem
theorem ne_read (t : Str) : g7.cmp .NotEq (readP t) (readP t) = .ok (.bl false) := by
  unfold readP
  cases readQ t with
  | none => rfl
  | some q => simp [Tab.cmp, notR, eq_tq]
theorem k0_run {t : Str} (hl : t.length ≤ 80) {v0 v1 v2 v3 v4 v5 v6 v7 v8 v9 v10 : Option D} {S : Sto} : exSs g7 ft b_law_0 [v0, v1, v2, v3, v4, v5, v6, v7, v8, v9, v10, some (.p (.str t))] S = .next [v0, v1, v2, v3, v4, v5, v6, v7, v8, v9, v10, some (.p (.str t))] S := by
  have cut : b_law_0 = .cons (.ifs (.cmp .NotEq (.call 208 (.cons (.var 11) .nil)) (.call 73 (.cons (.var 11) .nil))) (.cons (.ret (.bl false)) .nil) .nil) .nil := rfl
  rw [cut, exs_cons, ifs_false (cmpE_eq (S2 := S) (S3 := S) (x := readP t) (y := readP t) (call_eq (es_one (x := .str t) rfl) lf_7_208 (l_read_n hl)) (call_eq (es_one (x := .str t) rfl) lf_7_73 (same_read hl)) (ne_read t)), bd_next]
  rfl
theorem slc_any (w : Str) (h : w.length ≤ 100) (lo hi : Option Int) : ∃ z, slcP (.str w) lo hi = .ok (.str z) ∧ z.length ≤ w.length := by
  have k : lineOk w.length = true := line_lit _ (by omega)
  refine ⟨mkS (cutP w.cps.toList lo hi), ?_, ?_⟩
  · show (if lineOk w.length then RP.ok (.str ⟨(cutP w.cps.toList lo hi).toArray⟩) else .stuck) = _
    rw [if_pos k]
    rfl
  · rw [mkS_len]
    have : w.cps.toList.length = w.length := Array.length_toList
    unfold cutP
    rw [List.length_take, List.length_drop]
    omega
theorem add_str (Γ : Tab) (x y : Str) (h : x.length + y.length ≤ 1000) : Γ.bin .Add (.str x) (.str y) = .ok (.str (x ++ y)) := by
  have k : lineOk (x.length + y.length) = true := line_lit _ (by omega)
  show (if lineOk (x.length + y.length) then RP.ok (.str (x ++ y)) else .stuck) = _
  rw [if_pos k]
theorem part_at {v : Int} (v0 : 0 ≤ v) (v1 : v < 12) : ∃ p : Str, subP (.lst [.str (Str.ofString "0"), .str (Str.ofString "1"), .str (Str.ofString "-"), .str (Str.ofString "/"), .str (Str.ofString " "), .str (Str.ofString "+"), .str (Str.ofString "."), .str (Str.ofString "/1"), .str (Str.ofString "/0"), .str (Str.ofString "00"), .str (Str.ofString "a"), .str (Str.ofString "")]) (.int v) = .ok (.str p) ∧ p.length ≤ 2 := by
  have vs : v = 0 ∨ v = 1 ∨ v = 2 ∨ v = 3 ∨ v = 4 ∨ v = 5 ∨ v = 6 ∨ v = 7 ∨ v = 8 ∨ v = 9 ∨ v = 10 ∨ v = 11 := by omega
  rcases vs with rfl | rfl | rfl | rfl | rfl | rfl | rfl | rfl | rfl | rfl | rfl | rfl <;> exact ⟨_, rfl, by decide⟩
theorem str_int (n : Int) (h : n.natAbs < 2 ^ 400) : b1P .str (.int n) = .ok (.str (txtI n)) := by
  show (if decide (n.natAbs.log2 < 1920) then RP.ok (.str (Str.ofString (toString n))) else .stuck) = _
  rw [if_pos (decide_eq_true (log_400 h))]
  rfl
section
variable {v0 v1 v3 : Option D} {q : Rat} (h1 : q.num.natAbs < 10 ^ 9) (h2 : q.den < 10 ^ 9)
include h1 h2
theorem txt_short : (textQ q).length ≤ 21 := by
  have a := txt_len (k := 9) (by decide) h1
  have b := txt_len (n := (q.den : Int)) (k := 9) (by decide) (by rw [Int.natAbs_natCast]; exact h2)
  unfold textQ
  split
  · omega
  · rw [app_len, app_len]
    have : slash.length = 1 := rfl
    omega
theorem k1_run (pre : Sto) {n : Nat} {a b c : Int} (B : BxOk n a b c) (hn : n ≤ 900000) (v6 v7 v8 v9 v10 v11 : Option D) :
    ∃ (a' b' : Int) (w7 w8 w9 w10 w11 : Option D), exSs g7 ft b_law_1 [v0, v1, some (.loc pre.length), v3, some (.p (tq q)), some (.p (.str (textQ q))), v6, v7, v8, v9, v10, v11] (pre ++ [bx a b c]) = .next [v0, v1, some (.loc pre.length), v3, some (.p (tq q)), some (.p (.str (textQ q))), v6, w7, w8, w9, w10, w11] (pre ++ [bx a' b' c]) ∧ BxOk (n + 3) a' b' c := by
  have ts := txt_short h1 h2
  generalize hph : textQ q = ph at *
  have kl : lineOk ph.length = true := line_lit _ (by omega)
  have big : (2 : Nat) ^ 200 = 1606938044258990275541962092341162602522202993782792835301376 := by decide
  have hu : ((ph.length : Int) + 1).natAbs < 2 ^ 200 := by rw [big]; omega
  obtain ⟨u, a1, b1, e1, u0, u1, B1⟩ := take_g (many := (ph.length : Int) + 1) pre [] B (by omega) (by omega) hu
  obtain ⟨v, a2, b2, e2, w0, w1, B2⟩ := take_g (many := 12) pre [] B1 (by omega) (by decide) (by decide)
  obtain ⟨t, a3, b3, e3, t0, t1, B3⟩ := take_g (many := 2) pre [] B2 (by omega) (by decide) (by decide)
  obtain ⟨p, ep, lp⟩ := part_at w0 w1
  obtain ⟨x, ex, lx⟩ := slc_any ph (by omega) none (some u)
  obtain ⟨y, ey, ly⟩ := slc_any ph (by omega) (some (u + t)) none
  have d9 : (10 : Nat) ^ 9 < 2 ^ 200 := by decide
  have m1 := mul_small g7 q.num 2 (by omega) (by decide)
  have m2 := mul_small g7 (q.den : Int) 2 (by rw [Int.natAbs_natCast]; omega) (by decide)
  have p10 : (10 : Nat) ^ 9 = 1000000000 := by decide
  have n1 : (q.num * 2).natAbs < 10 ^ 10 := by
    have : (10 : Nat) ^ 10 = 10000000000 := by decide
    omega
  have n2 : ((q.den : Int) * 2).natAbs < 10 ^ 10 := by
    have : (10 : Nat) ^ 10 = 10000000000 := by decide
    omega
  have d10 : (10 : Nat) ^ 10 < 2 ^ 400 := by decide
  have s1 := str_int (q.num * 2) (Nat.lt_trans n1 d10)
  have s2 := str_int ((q.den : Int) * 2) (Nat.lt_trans n2 d10)
  have l1 := txt_len (k := 10) (by decide) n1
  have l2 := txt_len (k := 10) (by decide) n2
  have sl : slash.length = 1 := rfl
  have c1 := add_str g7 x p (by omega)
  have c2 := add_str g7 (x ++ p) y (by rw [app_len]; omega)
  have c3 := add_str g7 (txtI (q.num * 2)) slash (by omega)
  have c4 := add_str g7 (txtI (q.num * 2) ++ slash) (txtI ((q.den : Int) * 2)) (by rw [app_len]; omega)
  have c5 := add_str g7 ph slash (by omega)
  have c6 := add_str g7 (ph ++ slash) p (by rw [app_len]; omega)
  have c7 := add_str g7 p ph (by omega)
  have u4 : subP (tq q) (.int 0) = .ok (.int q.num) := rfl
  have u5 : subP (tq q) (.int 1) = .ok (.int (q.den : Int)) := rfl
  have sls : Str.ofString "/" = slash := rfl
  have k12 : lineOk 12 = true := line_lit _ (by decide)
  have k4 : lineOk 4 = true := line_lit _ (by decide)
  have cut : b_law_1 = .cons (nthQ b_law_1 0) (.cons (nthQ b_law_1 1) (.cons (nthQ b_law_1 2) (.cons (nthQ b_law_1 3) (.cons (nthQ b_law_1 4) .nil)))) := rfl
  have ln : b1P .len (.str ph) = .ok (.int (ph.length : Int)) := by
    show (if lineOk ph.length then RP.ok (.int (ph.length : Int)) else .stuck) = _
    rw [if_pos kl]
  generalize tq q = Z at *
  have r0 : exS g7 ft (nthQ b_law_1 0) [v0, v1, some (.loc pre.length), v3, some (.p Z), some (.p (.str ph)), v6, v7, v8, v9, v10, v11] (pre ++ [bx a b c]) = .next [v0, v1, some (.loc pre.length), v3, some (.p Z), some (.p (.str ph)), v6, some (.p (.int u)), v8, v9, v10, v11] (pre ++ [bx a1 b1 c]) := by
    simp [nthQ, b_law_1, ln, e1]
  have r1 : exS g7 ft (nthQ b_law_1 1) [v0, v1, some (.loc pre.length), v3, some (.p Z), some (.p (.str ph)), v6, some (.p (.int u)), v8, v9, v10, v11] (pre ++ [bx a1 b1 c]) = .next [v0, v1, some (.loc pre.length), v3, some (.p Z), some (.p (.str ph)), v6, some (.p (.int u)), some (.p (.str p)), v9, v10, v11] (pre ++ [bx a2 b2 c]) := by
    simp [nthQ, b_law_1, k12, e2, ep]
  have r2 : exS g7 ft (nthQ b_law_1 2) [v0, v1, some (.loc pre.length), v3, some (.p Z), some (.p (.str ph)), v6, some (.p (.int u)), some (.p (.str p)), v9, v10, v11] (pre ++ [bx a2 b2 c]) = .next [v0, v1, some (.loc pre.length), v3, some (.p Z), some (.p (.str ph)), v6, some (.p (.int u)), some (.p (.str p)), some (.p (.str (x ++ p ++ y))), v10, v11] (pre ++ [bx a3 b3 c]) := by
    simp [nthQ, b_law_1, e3, ex, ey, c1, c2]
  have r3 : exS g7 ft (nthQ b_law_1 3) [v0, v1, some (.loc pre.length), v3, some (.p Z), some (.p (.str ph)), v6, some (.p (.int u)), some (.p (.str p)), some (.p (.str (x ++ p ++ y))), v10, v11] (pre ++ [bx a3 b3 c]) = .next [v0, v1, some (.loc pre.length), v3, some (.p Z), some (.p (.str ph)), v6, some (.p (.int u)), some (.p (.str p)), some (.p (.str (x ++ p ++ y))), some (.p (.str (txtI (q.num * 2) ++ slash ++ txtI ((q.den : Int) * 2)))), v11] (pre ++ [bx a3 b3 c]) := by
    simp [nthQ, b_law_1, u4, u5, m1, m2, s1, s2, sls, c3, c4]
  have it : evIt g7 ft (.seq (.lst (.cons (.var 9) (.cons (.var 10) (.cons (.bin .Add (.bin .Add (.var 5) (.str (Str.ofString "/"))) (.var 8)) (.cons (.bin .Add (.var 8) (.var 5)) .nil)))))) [v0, v1, some (.loc pre.length), v3, some (.p Z), some (.p (.str ph)), v6, some (.p (.int u)), some (.p (.str p)), some (.p (.str (x ++ p ++ y))), some (.p (.str (txtI (q.num * 2) ++ slash ++ txtI ((q.den : Int) * 2)))), v11] (pre ++ [bx a3 b3 c]) = .ok [.str (x ++ p ++ y), .str (txtI (q.num * 2) ++ slash ++ txtI ((q.den : Int) * 2)), .str (ph ++ slash ++ p), .str (p ++ ph)] (pre ++ [bx a3 b3 c]) := by
    rw [evi_seq]
    simp [sls, c5, c6, c7, k4]
  have r4 : exS g7 ft (nthQ b_law_1 4) [v0, v1, some (.loc pre.length), v3, some (.p Z), some (.p (.str ph)), v6, some (.p (.int u)), some (.p (.str p)), some (.p (.str (x ++ p ++ y))), some (.p (.str (txtI (q.num * 2) ++ slash ++ txtI ((q.den : Int) * 2)))), v11] (pre ++ [bx a3 b3 c]) = .next [v0, v1, some (.loc pre.length), v3, some (.p Z), some (.p (.str ph)), v6, some (.p (.int u)), some (.p (.str p)), some (.p (.str (x ++ p ++ y))), some (.p (.str (txtI (q.num * 2) ++ slash ++ txtI ((q.den : Int) * 2)))), some (.p (.str (p ++ ph)))] (pre ++ [bx a3 b3 c]) := by
    have ct : nthQ b_law_1 4 = .for_ (.name 11) (.seq (.lst (.cons (.var 9) (.cons (.var 10) (.cons (.bin .Add (.bin .Add (.var 5) (.str (Str.ofString "/"))) (.var 8)) (.cons (.bin .Add (.var 8) (.var 5)) .nil)))))) b_law_0 := rfl
    have fo : exS g7 ft (nthQ b_law_1 4) [v0, v1, some (.loc pre.length), v3, some (.p Z), some (.p (.str ph)), v6, some (.p (.int u)), some (.p (.str p)), some (.p (.str (x ++ p ++ y))), some (.p (.str (txtI (q.num * 2) ++ slash ++ txtI ((q.den : Int) * 2)))), v11] (pre ++ [bx a3 b3 c]) = forL (bindT (.name 11)) (exSs g7 ft b_law_0) [.str (x ++ p ++ y), .str (txtI (q.num * 2) ++ slash ++ txtI ((q.den : Int) * 2)), .str (ph ++ slash ++ p), .str (p ++ ph)] [v0, v1, some (.loc pre.length), v3, some (.p Z), some (.p (.str ph)), v6, some (.p (.int u)), some (.p (.str p)), some (.p (.str (x ++ p ++ y))), some (.p (.str (txtI (q.num * 2) ++ slash ++ txtI ((q.den : Int) * 2)))), v11] (pre ++ [bx a3 b3 c]) := by
      rw [ct, for_ofQ it]
    rw [fo]
    have z1 : (x ++ p ++ y).length ≤ 80 := by rw [app_len, app_len]; omega
    have z2 : (txtI (q.num * 2) ++ slash ++ txtI ((q.den : Int) * 2)).length ≤ 80 := by rw [app_len, app_len]; omega
    have z3 : (ph ++ slash ++ p).length ≤ 80 := by rw [app_len, app_len]; omega
    have z4 : (p ++ ph).length ≤ 80 := by rw [app_len]; omega
    generalize x ++ p ++ y = s1' at *
    generalize txtI (q.num * 2) ++ slash ++ txtI ((q.den : Int) * 2) = s2' at *
    generalize ph ++ slash ++ p = s3' at *
    generalize p ++ ph = s4' at *
    have bd : ∀ (z : Str) (o : Option D), bindT (.name 11) (.str z) [v0, v1, some (.loc pre.length), v3, some (.p Z), some (.p (.str ph)), v6, some (.p (.int u)), some (.p (.str p)), some (.p (.str s1')), some (.p (.str s2')), o] = some [v0, v1, some (.loc pre.length), v3, some (.p Z), some (.p (.str ph)), v6, some (.p (.int u)), some (.p (.str p)), some (.p (.str s1')), some (.p (.str s2')), some (.p (.str z))] := fun z o => rfl
    rw [for_cons]
    simp only [bd]
    rw [k0_run z1]
    simp only [le_next]
    rw [for_cons]
    simp only [bd]
    rw [k0_run z2]
    simp only [le_next]
    rw [for_cons]
    simp only [bd]
    rw [k0_run z3]
    simp only [le_next]
    rw [for_cons]
    simp only [bd]
    rw [k0_run z4]
    rfl
  refine ⟨a3, b3, some (.p (.int u)), some (.p (.str p)), some (.p (.str (x ++ p ++ y))), some (.p (.str (txtI (q.num * 2) ++ slash ++ txtI ((q.den : Int) * 2)))), some (.p (.str (p ++ ph))), ?_, B3⟩
  rw [cut, exs_cons, r0, bd_next, exs_cons, r1, bd_next, exs_cons, r2, bd_next, exs_cons, r3, bd_next, exs_cons, r4, bd_next]
  rfl
end
end RP
end

section
set_option Elab.async false
set_option linter.all false
set_option maxRecDepth 100000
set_option maxHeartbeats 4000000
set_option exponentiation.threshold 20000
/-! The law's rounds. -/
namespace RP
open PySem
theorem wide_at {v : Int} (v0 : 0 ≤ v) (v1 : v < 3) : ∃ W : Int, subP (.lst [.int 9, .int 60, .int 999999999]) (.int v) = .ok (.int W) ∧ 9 ≤ W ∧ W ≤ 999999999 := by
  have vs : v = 0 ∨ v = 1 ∨ v = 2 := by omega
  rcases vs with rfl | rfl | rfl <;> exact ⟨_, rfl, by decide, by decide⟩
theorem two_at {v : Int} (d : Int) (v0 : 0 ≤ v) (v1 : v < 2) : ∃ W : Int, subP (.lst [.int 1, .int d]) (.int v) = .ok (.int W) ∧ (W = 1 ∨ W = d) := by
  have vs : v = 0 ∨ v = 1 := by omega
  rcases vs with rfl | rfl
  · exact ⟨_, rfl, .inl rfl⟩
  · exact ⟨_, rfl, .inr rfl⟩
theorem six_run {v0 v1 v3 : Option D} {q : Rat} (h1 : q.num.natAbs < 10 ^ 9) (h2 : q.den < 10 ^ 9) (pre : Sto) : ∀ (l : List Nat) {n : Nat} {a b c : Int} (_ : BxOk n a b c) (_ : n + 3 * l.length ≤ 900000) (v6 v7 v8 v9 v10 v11 : Option D),
    ∃ (a' b' : Int) (w6 w7 w8 w9 w10 w11 : Option D), forL (bindT (.name 6)) (exSs g7 ft b_law_1) (l.map fun (i : Nat) => P.int (i : Int)) [v0, v1, some (.loc pre.length), v3, some (.p (tq q)), some (.p (.str (textQ q))), v6, v7, v8, v9, v10, v11] (pre ++ [bx a b c]) = .next [v0, v1, some (.loc pre.length), v3, some (.p (tq q)), some (.p (.str (textQ q))), w6, w7, w8, w9, w10, w11] (pre ++ [bx a' b' c])
  | [], n, a, b, c, B, hn, v6, v7, v8, v9, v10, v11 => ⟨a, b, v6, v7, v8, v9, v10, v11, rfl⟩
  | i :: l, n, a, b, c, B, hn, v6, v7, v8, v9, v10, v11 => by
    have hn' : n + 3 * (l.length + 1) ≤ 900000 := hn
    obtain ⟨a1, b1, x7, x8, x9, x10, x11, e, B1⟩ := k1_run (v0 := v0) (v1 := v1) (v3 := v3) h1 h2 pre B (by omega) (some (.p (.int (i : Int)))) v7 v8 v9 v10 v11
    obtain ⟨a2, b2, w6, w7, w8, w9, w10, w11, e2⟩ := six_run h1 h2 pre l B1 (by omega) (some (.p (.int (i : Int)))) x7 x8 x9 x10 x11
    refine ⟨a2, b2, w6, w7, w8, w9, w10, w11, ?_⟩
    have bd : bindT (.name 6) (.int (i : Int)) [v0, v1, some (.loc pre.length), v3, some (.p (tq q)), some (.p (.str (textQ q))), v6, v7, v8, v9, v10, v11] = some [v0, v1, some (.loc pre.length), v3, some (.p (tq q)), some (.p (.str (textQ q))), some (.p (.int (i : Int))), v7, v8, v9, v10, v11] := rfl
    rw [List.map_cons, for_cons]
    simp only [bd]
    rw [e]
    simp only [le_next]
    exact e2
theorem frac_small {n d W : Int} (hW : W ≤ 999999999) (hn : n.natAbs ≤ W.natAbs) (d1 : 1 ≤ d) (d2 : d ≤ W) : (Rat.divInt n d).num.natAbs < 10 ^ 9 ∧ (Rat.divInt n d).den < 10 ^ 9 := by
  have p9 : (10 : Nat) ^ 9 = 1000000000 := by decide
  have hj : d ≠ 0 := by omega
  constructor
  · rw [Rat.num_divInt]
    refine Nat.lt_of_le_of_lt (m := n.natAbs) ?_ (by omega)
    rw [Int.natAbs_ediv_of_dvd (by rw [Int.gcd_comm]; exact Int.dvd_mul_of_dvd_right (Int.gcd_dvd_left ..)), Int.natAbs_mul, Int.natAbs_sign_of_ne_zero hj, Nat.one_mul]
    exact Nat.div_le_self ..
  · rw [Rat.den_divInt, if_neg hj]
    exact Nat.lt_of_le_of_lt (Nat.div_le_self ..) (m := d.natAbs) (by omega)
theorem c_read {q : Rat} (h1 : q.num.natAbs < 10 ^ 9) (h2 : q.den < 10 ^ 9) : readQ (textQ q) = some q := by
  have z : (10 : Nat) ^ 9 < 10 ^ 50 := by decide
  exact read_own (Nat.lt_trans h1 z) (Nat.lt_trans h2 z)
def tl3 : Ss := match b_law_2 with
  | .cons _ (.cons _ (.cons _ r)) => r
  | _ => .nil
theorem draws (ns : List Int) (k : Nat) (hk : k ≤ 100) (S : Sto) (v2 v3 v4 v5 v6 v7 v8 v9 v10 v11 : Option D) : ∃ (a b c W : Int) (q : Rat) (n : Nat), n ≤ 10 ∧ BxOk n a b c ∧ q.num.natAbs < 10 ^ 9 ∧ q.den < 10 ^ 9 ∧
    exSs g7 ft b_law_2 [some (.p (.scr ns)), some (.p (.int (k : Int))), v2, v3, v4, v5, v6, v7, v8, v9, v10, v11] S = exSs g7 ft tl3 [some (.p (.scr ns)), some (.p (.int (k : Int))), some (.loc S.length), some (.p (.int W)), some (.p (tq q)), v5, v6, v7, v8, v9, v10, v11] (S ++ [bx a b c]) := by
  obtain ⟨a0, c, eb, B0⟩ := box_g ns k hk S
  obtain ⟨i, a1, b1, e1, i0, i1, B1⟩ := take_g (many := 3) S [] B0 (by omega) (by decide) (by decide)
  obtain ⟨W, eW, W0, W1⟩ := wide_at i0 i1
  have big : (2 : Nat) ^ 200 = 1606938044258990275541962092341162602522202993782792835301376 := by decide
  obtain ⟨u, a2, b2, e2, u0, u1, B2⟩ := take_g (many := 2 * W + 1) S [] B1 (by omega) (by omega) (by rw [big]; omega)
  obtain ⟨t, a3, b3, e3, t0, t1, B3⟩ := take_g (many := W) S [] B2 (by omega) (by omega) (by rw [big]; omega)
  obtain ⟨j, a4, b4, e4, j0, j1, B4⟩ := take_g (many := 2) S [] B3 (by omega) (by decide) (by decide)
  obtain ⟨d, ed, hd⟩ := two_at (1 + t) j0 j1
  have d1 : 1 ≤ d := by omega
  have d2 : d ≤ W := by omega
  obtain ⟨q1, q2⟩ := frac_small (n := u - W) W1 (by omega) d1 d2
  have big40 : (2 : Nat) ^ 40 = 1099511627776 := by decide
  have ef := frac_eq (u - W) d (by omega) (log_lt (n := 40) (by rw [big40]; omega) (by decide))
  have m0 := mul_small g7 2 W (by decide) (by rw [big]; omega)
  have pw : g7.bin .Pow (.int 10) (.int 9) = .ok (.int 1000000000) := by
    rw [bin_pow _ _ _ (by decide)]
    rfl
  have k3 : lineOk 3 = true := line_lit _ (by decide)
  have k2 : lineOk 2 = true := line_lit _ (by decide)
  refine ⟨a4, b4, c, W, Rat.divInt (u - W) d, 0 + 1 + 1 + 1 + 1, by decide, B4, q1, q2, ?_⟩
  generalize Rat.divInt (u - W) d = q at *
  have cut : b_law_2 = .cons (nthQ b_law_2 0) (.cons (nthQ b_law_2 1) (.cons (nthQ b_law_2 2) tl3)) := rfl
  have r0 : exS g7 ft (nthQ b_law_2 0) [some (.p (.scr ns)), some (.p (.int (k : Int))), v2, v3, v4, v5, v6, v7, v8, v9, v10, v11] S = .next [some (.p (.scr ns)), some (.p (.int (k : Int))), some (.loc S.length), v3, v4, v5, v6, v7, v8, v9, v10, v11] (S ++ [bx a0 0 c]) := by
    simp [nthQ, b_law_2, eb]
  have r1 : exS g7 ft (nthQ b_law_2 1) [some (.p (.scr ns)), some (.p (.int (k : Int))), some (.loc S.length), v3, v4, v5, v6, v7, v8, v9, v10, v11] (S ++ [bx a0 0 c]) = .next [some (.p (.scr ns)), some (.p (.int (k : Int))), some (.loc S.length), some (.p (.int W)), v4, v5, v6, v7, v8, v9, v10, v11] (S ++ [bx a1 b1 c]) := by
    simp [nthQ, b_law_2, pw, k3, e1, eW]
  have r2 : exS g7 ft (nthQ b_law_2 2) [some (.p (.scr ns)), some (.p (.int (k : Int))), some (.loc S.length), some (.p (.int W)), v4, v5, v6, v7, v8, v9, v10, v11] (S ++ [bx a1 b1 c]) = .next [some (.p (.scr ns)), some (.p (.int (k : Int))), some (.loc S.length), some (.p (.int W)), some (.p (tq q)), v5, v6, v7, v8, v9, v10, v11] (S ++ [bx a4 b4 c]) := by
    simp [nthQ, b_law_2, m0, k2, e2, e3, e4, ed, ef]
  rw [cut, exs_cons, r0, bd_next, exs_cons, r1, bd_next, exs_cons, r2, bd_next]
theorem rg7 : RatG g7 := ⟨rfl, rfl, rfl, rfl, rfl, rfl, rfl⟩
theorem rounds (ns : List Int) (k : Nat) (S : Sto) {a b c W : Int} {q : Rat} {n : Nat} (hn : n ≤ 10) (B : BxOk n a b c) (h1 : q.num.natAbs < 10 ^ 9) (h2 : q.den < 10 ^ 9) (v5 v6 v7 v8 v9 v10 v11 : Option D) : ∃ (a' b' : Int) (w6 w7 w8 w9 w10 w11 : Option D),
    exSs g7 ft tl3 [some (.p (.scr ns)), some (.p (.int (k : Int))), some (.loc S.length), some (.p (.int W)), some (.p (tq q)), v5, v6, v7, v8, v9, v10, v11] (S ++ [bx a b c]) = .next [some (.p (.scr ns)), some (.p (.int (k : Int))), some (.loc S.length), some (.p (.int W)), some (.p (tq q)), some (.p (.str (textQ q))), w6, w7, w8, w9, w10, w11] (S ++ [bx a' b' c]) := by
  have ts := txt_short h1 h2
  have tl : (textQ q).length ≤ 80 := by omega
  have big : (10 : Nat) ^ 9 < 2 ^ 400 := by decide
  have sm : Sm q := ⟨Nat.lt_trans h1 big, Nat.lt_trans h2 big⟩
  have dn := q.den_nz
  have p9 : (10 : Nat) ^ 9 = 1000000000 := by decide
  have big40 : (2 : Nat) ^ 40 = 1099511627776 := by decide
  have nw := ratio_new q.num (q.den : Int) (by omega) (log_lt (n := 40) (by rw [Int.natAbs_natCast, big40]; omega) (by decide))
  rw [mk_rat] at nw
  have tx := text_n sm
  have rp : readP (textQ q) = tq q := by
    unfold readP
    rw [c_read h1 h2]
  have lr := l_read_n tl
  have ld := same_read tl
  rw [rp] at lr ld
  have rk : ∀ S' : Sto, kiOf 1 1 2 [0, 1] (runI g5 ft 5 i_Ratio_read) [.cls 0, .p (.str (textQ q))] S' = .ok (.p (rt q)) S' := fun S' => by
    have := read_k tl (S := S')
    rw [c_read h1 h2] at this
    exact this
  have hm : ∀ (δ : DEnv) (S' : Sto), methG g7 27 (.p (rt q)) (evEs g7 ft .nil δ) S' = .ok (.p (.str (textQ q))) S' := fun δ S' => by
    have tx' := tx
    unfold rt at tx' ⊢
    simp [methG, tx']
  have u4 : subP (tq q) (.int 0) = .ok (.int q.num) := rfl
  have u5 : subP (tq q) (.int 1) = .ok (.int (q.den : Int)) := rfl
  have s1 := str_int q.num (Nat.lt_trans h1 big)
  have s2 := str_int (q.den : Int) (by rw [Int.natAbs_natCast]; exact Nat.lt_trans h2 big)
  have sls : Str.ofString "/" = slash := rfl
  have sl : slash.length = 1 := rfl
  have l1 := txt_len (k := 9) (by decide) h1
  have l2 := txt_len (n := (q.den : Int)) (k := 9) (by decide) (by rw [Int.natAbs_natCast]; exact h2)
  have c3 := add_str g7 (txtI q.num) slash (by omega)
  have c4 := add_str g7 (txtI q.num ++ slash) (txtI (q.den : Int)) (by rw [app_len]; omega)
  have e1 : g7.eq (tq q) (tq q) = .ok (.bl true) := by rw [eq_tq]; simp
  have e2 : g7.eq (rt q) (rt q) = .ok (.bl true) := by rw [g_eq rg7 (isn_rt q)]; simp
  have r3 : exS g7 ft (nthQ tl3 0) [some (.p (.scr ns)), some (.p (.int (k : Int))), some (.loc S.length), some (.p (.int W)), some (.p (tq q)), v5, v6, v7, v8, v9, v10, v11] (S ++ [bx a b c]) = .next [some (.p (.scr ns)), some (.p (.int (k : Int))), some (.loc S.length), some (.p (.int W)), some (.p (tq q)), some (.p (.str (textQ q))), v6, v7, v8, v9, v10, v11] (S ++ [bx a b c]) := by
    by_cases hd : q.den = 1
    · have t : textQ q = txtI q.num := by unfold textQ; rw [if_pos hd]
      have dd : decide ((q.den : Int) = 1) = true := decide_eq_true (by omega)
      rw [t]
      simp [nthQ, tl3, b_law_2, u4, u5, s1, dd, hd]
    · have t : textQ q = txtI q.num ++ slash ++ txtI (q.den : Int) := by unfold textQ; rw [if_neg hd]
      have dd : decide ((q.den : Int) = 1) = false := decide_eq_false (by omega)
      rw [t]
      simp [nthQ, tl3, b_law_2, u4, u5, s1, s2, sls, c3, c4, dd, hd]
  obtain ⟨a', b', w6, w7, w8, w9, w10, w11, e6⟩ := six_run (v0 := some (.p (.scr ns))) (v1 := some (.p (.int (k : Int)))) (v3 := some (.p (.int W))) h1 h2 S [0, 1, 2, 3, 4, 5] B (by show n + 18 ≤ 900000; omega) v6 v7 v8 v9 v10 v11
  refine ⟨a', b', w6, w7, w8, w9, w10, w11, ?_⟩
  have cut : tl3 = .cons (nthQ tl3 0) (.cons (nthQ tl3 1) (.cons (nthQ tl3 2) (.cons (nthQ tl3 3) .nil))) := rfl
  have r4 : exS g7 ft (nthQ tl3 1) [some (.p (.scr ns)), some (.p (.int (k : Int))), some (.loc S.length), some (.p (.int W)), some (.p (tq q)), some (.p (.str (textQ q))), v6, v7, v8, v9, v10, v11] (S ++ [bx a b c]) = .next [some (.p (.scr ns)), some (.p (.int (k : Int))), some (.loc S.length), some (.p (.int W)), some (.p (tq q)), some (.p (.str (textQ q))), v6, v7, v8, v9, v10, v11] (S ++ [bx a b c]) := by
    simp [nthQ, tl3, b_law_2, u4, u5, nw, tx, lr, ld, e1, notR, hm, Tab.cmp]
  have r5 : exS g7 ft (nthQ tl3 2) [some (.p (.scr ns)), some (.p (.int (k : Int))), some (.loc S.length), some (.p (.int W)), some (.p (tq q)), some (.p (.str (textQ q))), v6, v7, v8, v9, v10, v11] (S ++ [bx a b c]) = .next [some (.p (.scr ns)), some (.p (.int (k : Int))), some (.loc S.length), some (.p (.int W)), some (.p (tq q)), some (.p (.str (textQ q))), v6, v7, v8, v9, v10, v11] (S ++ [bx a b c]) := by
    simp [nthQ, tl3, b_law_2, u4, u5, nw, rk, e2, Tab.cmp]
  have it : evIt g7 ft (.rng1 (.int 6)) [some (.p (.scr ns)), some (.p (.int (k : Int))), some (.loc S.length), some (.p (.int W)), some (.p (tq q)), some (.p (.str (textQ q))), v6, v7, v8, v9, v10, v11] (S ++ [bx a b c]) = .ok ([0, 1, 2, 3, 4, 5].map fun (i : Nat) => P.int (i : Int)) (S ++ [bx a b c]) := rfl
  have r6 : exS g7 ft (nthQ tl3 3) [some (.p (.scr ns)), some (.p (.int (k : Int))), some (.loc S.length), some (.p (.int W)), some (.p (tq q)), some (.p (.str (textQ q))), v6, v7, v8, v9, v10, v11] (S ++ [bx a b c]) = .next [some (.p (.scr ns)), some (.p (.int (k : Int))), some (.loc S.length), some (.p (.int W)), some (.p (tq q)), some (.p (.str (textQ q))), w6, w7, w8, w9, w10, w11] (S ++ [bx a' b' c]) := by
    have ct : nthQ tl3 3 = .for_ (.name 6) (.rng1 (.int 6)) b_law_1 := rfl
    rw [ct, for_ofQ it]
    exact e6
  rw [cut, exs_cons, r3, bd_next, exs_cons, r4, bd_next, exs_cons, r5, bd_next, exs_cons, r6, bd_next]
  rfl
theorem round_ok (ns : List Int) (k : Nat) (hk : k ≤ 100) (S : Sto) (v2 v3 v4 v5 v6 v7 v8 v9 v10 v11 : Option D) : ∃ w2 w3 w4 w5 w6 w7 w8 w9 w10 w11 S1, exSs g7 ft b_law_2 [some (.p (.scr ns)), some (.p (.int (k : Int))), v2, v3, v4, v5, v6, v7, v8, v9, v10, v11] S = .next [some (.p (.scr ns)), some (.p (.int (k : Int))), w2, w3, w4, w5, w6, w7, w8, w9, w10, w11] S1 := by
  obtain ⟨a, b, c, W, q, n, hn, B, h1, h2, e⟩ := draws ns k hk S v2 v3 v4 v5 v6 v7 v8 v9 v10 v11
  obtain ⟨a', b', w6, w7, w8, w9, w10, w11, e2⟩ := rounds ns k S (W := W) hn B h1 h2 v5 v6 v7 v8 v9 v10 v11
  exact ⟨_, _, _, _, _, _, _, _, _, _, _, e.trans e2⟩
end RP
end

section
set_option Elab.async false
set_option linter.all false
set_option maxRecDepth 100000
set_option maxHeartbeats 4000000
/-! The law on the texts of fractions is true. -/
namespace RP
open PySem
theorem q_a : readQ (Str.ofString "") = none := by decide +kernel
theorem q_b : readQ (Str.ofString "-0") = none := by decide +kernel
theorem q_c : readQ (Str.ofString "0/3") = none := by decide +kernel
theorem p_a : f_l_read [.str (Str.ofString "")] = .ok .non := by
  rw [l_read_n (by decide)]
  unfold readP
  rw [q_a]
theorem p_b : f_l_read [.str (Str.ofString "-0")] = .ok .non := by
  rw [l_read_n (by decide)]
  unfold readP
  rw [q_b]
theorem p_c : f_l_read [.str (Str.ofString "0/3")] = .ok .non := by
  rw [l_read_n (by decide)]
  unfold readP
  rw [q_c]
theorem law_true (ns : List Int) : ∃ S, lawR ns = .ok (.p (.bl true)) S := by
  have n3 : max 1 (min 3 (ns.length : Int)) = 1 ∨ max 1 (min 3 (ns.length : Int)) = 2 ∨ max 1 (min 3 (ns.length : Int)) = 3 := by omega
  have it : ∀ (v : List (Option D)), evIt g7 ft (.rng1 (.b2 .max (.int 1) (.b2 .min (.int 3) (.b1 .len (.var 0))))) (some (.p (.scr ns)) :: v) [] = .ok (rangeP 0 (max 1 (min 3 (ns.length : Int))).toNat) [] := fun v => by
    have rk : rngOk (max 1 (min 3 (ns.length : Int))) = true := by rcases n3 with z | z | z <;> rw [z] <;> decide
    have b1 : b2P .min (.int 3) (.int ns.length) = .ok (.int (min 3 ns.length)) := by
      show RP.ok (.int (if (ns.length : Int) < 3 then (ns.length : Int) else 3)) = _
      congr 2
      split <;> omega
    have b2 : b2P .max (.int 1) (.int (min 3 (ns.length : Int))) = .ok (.int (max 1 (min 3 (ns.length : Int)))) := by
      show RP.ok (.int (if min 3 (ns.length : Int) > 1 then min 3 (ns.length : Int) else 1)) = _
      congr 2
      split <;> omega
    simp [b1, b2, rk]
  have it' := it [none, none, none, none, none, none, none, none, none, none, none]
  obtain ⟨w2, w3, w4, w5, w6, w7, w8, w9, w10, w11, S1, h1⟩ := round_ok ns 0 (by decide) [] none none none none none none none none none none
  have h1 : exSs g7 ft b_law_2 [some (.p (.scr ns)), some (.p (.int 0)), none, none, none, none, none, none, none, none, none, none] [] = _ := h1
  obtain ⟨x2, x3, x4, x5, x6, x7, x8, x9, x10, x11, S2, h2⟩ := round_ok ns 1 (by decide) S1 w2 w3 w4 w5 w6 w7 w8 w9 w10 w11
  have h2 : exSs g7 ft b_law_2 [some (.p (.scr ns)), some (.p (.int 1)), w2, w3, w4, w5, w6, w7, w8, w9, w10, w11] S1 = _ := h2
  obtain ⟨y2, y3, y4, y5, y6, y7, y8, y9, y10, y11, S3, h3⟩ := round_ok ns 2 (by decide) S2 x2 x3 x4 x5 x6 x7 x8 x9 x10 x11
  have h3 : exSs g7 ft b_law_2 [some (.p (.scr ns)), some (.p (.int 2)), x2, x3, x4, x5, x6, x7, x8, x9, x10, x11] S2 = _ := h3
  rcases n3 with z | z | z
  · rw [z] at it'
    refine ⟨S1, ?_⟩
    simp [lawR, runI, i_law, it', rangeP, for_cons, h1, p_a, p_b, p_c, isNon, -evi_rng1]
  · rw [z] at it'
    refine ⟨S2, ?_⟩
    simp [lawR, runI, i_law, it', rangeP, for_cons, h1, h2, p_a, p_b, p_c, isNon, -evi_rng1]
  · rw [z] at it'
    refine ⟨S3, ?_⟩
    simp [lawR, runI, i_law, it', rangeP, for_cons, h1, h2, h3, p_a, p_b, p_c, isNon, -evi_rng1]
end RP
end

theorem PySem.Challenge.cw_rangepools_k03_texts_of_ratios_holds : PySem.Challenge.rw_rangepools_k03_texts_of_ratios.Holds := by
  exact RP.holds_of fun ns _ => RP.law_true ns
